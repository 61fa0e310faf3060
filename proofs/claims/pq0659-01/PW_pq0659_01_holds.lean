import PyProof.Rows.All
import KE.IntBitsLaws
import KE.KBytesCut
import KE.KLam
import KE.KIntText
import KE.KRevSl
import KE.KItem
import KE.KDictSum
import KE.KxDecode
import KE.KIsBytes
import OpenK.ZBase
import KE.BytesMulAny
import PySem.Challenge.RW_pq0659_01
set_option Elab.async false
set_option linter.all false
set_option compiler.extract_closed false
set_option bootstrap.genMatcherCode false
set_option genSizeOf false
set_option genInjectivity false
set_option tactic.hygienic false
set_option maxRecDepth 1000000
set_option maxHeartbeats 0
set_option autoImplicit false

namespace Mine.Internal
open PySem PySem.W PyProof.Rows PySem.SeqAt
noncomputable section
variable{a b:Prop}
section
universe u
theorem aL{n m:Nat}(h:n.beq m=true):n=m:=Nat.eq_of_beq_eq_true h
theorem bF{n m:Nat}(h:n.ble m=true):n≤m:=Nat.le_of_ble_eq_true h
theorem bO{α:Type}{l:List α}{i:Nat}{a:α}(h:l[i]?=some a):a∈l:=List.mem_of_getElem? h
theorem bh{α:Type u}{a b:α}(h:some a=some b):a=b:=Option.some.inj h
theorem bS{α:Type}{p:α→Bool}{l:List α}(h:l.all p=true):∀x∈l,p x=true:=List.all_eq_true.mp h
theorem cq{α:Type}(y:α){a:α}{l:List α}(h:a∈l):a∈y::l:=List.mem_cons_of_mem y h
theorem bW{α:Type}{a:α}{l:List α}:a∈a::l:=List.mem_cons_self
theorem cO{α:Type}{a b:α}{l:List α}(h:a∈b::l):a=b∨a∈l:=List.mem_cons.mp h
variable{α:Sort u}{β γ δ ε:Type}{P:Prop}
theorem dC{a:α→Prop}(h:∃x0,a x0)(k:∀x0,a x0→P):P:=h.elim k
theorem F1{a:α→β→Prop}(h:∃x0 x1,a x0 x1)(k:∀x0 x1,a x0 x1→P):P:=h.elim fun x h=>dC h (k x)
theorem N6{a:α→β→γ→Prop}(h:∃x0 x1 x2,a x0 x1 x2)(k:∀x0 x1 x2,a x0 x1 x2→P):P:=h.elim fun x h=>F1 h (k x)
theorem KJ{a:α→β→γ→δ→Prop}(h:∃x0 x1 x2 x3,a x0 x1 x2 x3)(k:∀x0 x1 x2 x3,a x0 x1 x2 x3→P):P:=h.elim fun x h=>N6 h (k x)
theorem AQ{a:α→β→γ→δ→ε→Prop}(h:∃x0 x1 x2 x3 x4,a x0 x1 x2 x3 x4)(k:∀x0 x1 x2 x3 x4,a x0 x1 x2 x3 x4→P):P:=h.elim fun x h=>KJ h (k x)
theorem aw(h:a∧b)(k:a→b→P):P:=k h.1 h.2
theorem aC{a b:α→Prop}(h:∃x0,a x0∧b x0)(k:∀x0,a x0→b x0→P):P:=h.elim fun x h=>aw h (k x)
theorem eJ{a b:α→β→Prop}(h:∃x0 x1,a x0 x1∧b x0 x1)(k:∀x0 x1,a x0 x1→b x0 x1→P):P:=h.elim fun x h=>aC h (k x)
theorem mR{a b:α→β→γ→Prop}(h:∃x0 x1 x2,a x0 x1 x2∧b x0 x1 x2)(k:∀x0 x1 x2,a x0 x1 x2→b x0 x1 x2→P):P:=h.elim fun x h=>eJ h (k x)
theorem IA{a b:α→β→γ→δ→Prop}(h:∃x0 x1 x2 x3,a x0 x1 x2 x3∧b x0 x1 x2 x3)(k:∀x0 x1 x2 x3,a x0 x1 x2 x3→b x0 x1 x2 x3→P):P:=h.elim fun x h=>mR h (k x)
theorem RM{a b:α→β→γ→δ→ε→Prop}(h:∃x0 x1 x2 x3 x4,a x0 x1 x2 x3 x4∧b x0 x1 x2 x3 x4)(k:∀x0 x1 x2 x3 x4,a x0 x1 x2 x3 x4→b x0 x1 x2 x3 x4→P):P:=h.elim fun x h=>IA h (k x)
theorem dJ{c:Prop}(h:a∧b∧c)(k:a→b→c→P):P:=aw h.2 (k h.1)
theorem lI{a b c:α→Prop}(h:∃x0,a x0∧b x0∧c x0)(k:∀x0,a x0→b x0→c x0→P):P:=h.elim fun x h=>dJ h (k x)
theorem jZ{a b c:α→β→Prop}(h:∃x0 x1,a x0 x1∧b x0 x1∧c x0 x1)(k:∀x0 x1,a x0 x1→b x0 x1→c x0 x1→P):P:=h.elim fun x h=>lI h (k x)
theorem F0{a b c:α→β→γ→Prop}(h:∃x0 x1 x2,a x0 x1 x2∧b x0 x1 x2∧c x0 x1 x2)(k:∀x0 x1 x2,a x0 x1 x2→b x0 x1 x2→c x0 x1 x2→P):P:=h.elim fun x h=>jZ h (k x)
theorem RO{a b c:α→β→γ→δ→Prop}(h:∃x0 x1 x2 x3,a x0 x1 x2 x3∧b x0 x1 x2 x3∧c x0 x1 x2 x3)(k:∀x0 x1 x2 x3,a x0 x1 x2 x3→b x0 x1 x2 x3→c x0 x1 x2 x3→P):P:=h.elim fun x h=>F0 h (k x)
theorem Wc{a b c:α→β→γ→δ→ε→Prop}(h:∃x0 x1 x2 x3 x4,a x0 x1 x2 x3 x4∧b x0 x1 x2 x3 x4∧c x0 x1 x2 x3 x4)(k:∀x0 x1 x2 x3 x4,a x0 x1 x2 x3 x4→b x0 x1 x2 x3 x4→c x0 x1 x2 x3 x4→P):P:=h.elim fun x h=>RO h (k x)
theorem lJ{c d:Prop}(h:a∧b∧c∧d)(k:a→b→c→d→P):P:=dJ h.2 (k h.1)
theorem AR{a b c d:α→Prop}(h:∃x0,a x0∧b x0∧c x0∧d x0)(k:∀x0,a x0→b x0→c x0→d x0→P):P:=h.elim fun x h=>lJ h (k x)
theorem KL{a b c d:α→β→Prop}(h:∃x0 x1,a x0 x1∧b x0 x1∧c x0 x1∧d x0 x1)(k:∀x0 x1,a x0 x1→b x0 x1→c x0 x1→d x0 x1→P):P:=h.elim fun x h=>AR h (k x)
theorem oW{a b c d:α→β→γ→Prop}(h:∃x0 x1 x2,a x0 x1 x2∧b x0 x1 x2∧c x0 x1 x2∧d x0 x1 x2)(k:∀x0 x1 x2,a x0 x1 x2→b x0 x1 x2→c x0 x1 x2→d x0 x1 x2→P):P:=h.elim fun x h=>KL h (k x)
theorem vc{a b c d:α→β→γ→δ→Prop}(h:∃x0 x1 x2 x3,a x0 x1 x2 x3∧b x0 x1 x2 x3∧c x0 x1 x2 x3∧d x0 x1 x2 x3)(k:∀x0 x1 x2 x3,a x0 x1 x2 x3→b x0 x1 x2 x3→c x0 x1 x2 x3→d x0 x1 x2 x3→P):P:=h.elim fun x h=>oW h (k x)
theorem Wb{a b c d:α→β→γ→δ→ε→Prop}(h:∃x0 x1 x2 x3 x4,a x0 x1 x2 x3 x4∧b x0 x1 x2 x3 x4∧c x0 x1 x2 x3 x4∧d x0 x1 x2 x3 x4)(k:∀x0 x1 x2 x3 x4,a x0 x1 x2 x3 x4→b x0 x1 x2 x3 x4→c x0 x1 x2 x3 x4→d x0 x1 x2 x3 x4→P):P:=h.elim fun x h=>vc h (k x)
theorem KN{c d e:Prop}(h:a∧b∧c∧d∧e)(k:a→b→c→d→e→P):P:=lJ h.2 (k h.1)
theorem QI{a b c d e:α→Prop}(h:∃x0,a x0∧b x0∧c x0∧d x0∧e x0)(k:∀x0,a x0→b x0→c x0→d x0→e x0→P):P:=h.elim fun x h=>KN h (k x)
theorem Un{a b c d e:α→β→Prop}(h:∃x0 x1,a x0 x1∧b x0 x1∧c x0 x1∧d x0 x1∧e x0 x1)(k:∀x0 x1,a x0 x1→b x0 x1→c x0 x1→d x0 x1→e x0 x1→P):P:=h.elim fun x h=>QI h (k x)
theorem QH{a b c d e:α→β→γ→Prop}(h:∃x0 x1 x2,a x0 x1 x2∧b x0 x1 x2∧c x0 x1 x2∧d x0 x1 x2∧e x0 x1 x2)(k:∀x0 x1 x2,a x0 x1 x2→b x0 x1 x2→c x0 x1 x2→d x0 x1 x2→e x0 x1 x2→P):P:=h.elim fun x h=>Un h (k x)
theorem N4{a b c d e:α→β→γ→δ→Prop}(h:∃x0 x1 x2 x3,a x0 x1 x2 x3∧b x0 x1 x2 x3∧c x0 x1 x2 x3∧d x0 x1 x2 x3∧e x0 x1 x2 x3)(k:∀x0 x1 x2 x3,a x0 x1 x2 x3→b x0 x1 x2 x3→c x0 x1 x2 x3→d x0 x1 x2 x3→e x0 x1 x2 x3→P):P:=h.elim fun x h=>QH h (k x)
theorem Um{a b c d e:α→β→γ→δ→ε→Prop}(h:∃x0 x1 x2 x3 x4,a x0 x1 x2 x3 x4∧b x0 x1 x2 x3 x4∧c x0 x1 x2 x3 x4∧d x0 x1 x2 x3 x4∧e x0 x1 x2 x3 x4)(k:∀x0 x1 x2 x3 x4,a x0 x1 x2 x3 x4→b x0 x1 x2 x3 x4→c x0 x1 x2 x3 x4→d x0 x1 x2 x3 x4→e x0 x1 x2 x3 x4→P):P:=h.elim fun x h=>N4 h (k x)
theorem RQ{c d e f:Prop}(h:a∧b∧c∧d∧e∧f)(k:a→b→c→d→e→f→P):P:=KN h.2 (k h.1)
theorem Uo{a b c d e f:α→Prop}(h:∃x0,a x0∧b x0∧c x0∧d x0∧e x0∧f x0)(k:∀x0,a x0→b x0→c x0→d x0→e x0→f x0→P):P:=h.elim fun x h=>RQ h (k x)
theorem RP{a b c d e f:α→β→Prop}(h:∃x0 x1,a x0 x1∧b x0 x1∧c x0 x1∧d x0 x1∧e x0 x1∧f x0 x1)(k:∀x0 x1,a x0 x1→b x0 x1→c x0 x1→d x0 x1→e x0 x1→f x0 x1→P):P:=h.elim fun x h=>Uo h (k x)
theorem N5{a b c d e f:α→β→γ→Prop}(h:∃x0 x1 x2,a x0 x1 x2∧b x0 x1 x2∧c x0 x1 x2∧d x0 x1 x2∧e x0 x1 x2∧f x0 x1 x2)(k:∀x0 x1 x2,a x0 x1 x2→b x0 x1 x2→c x0 x1 x2→d x0 x1 x2→e x0 x1 x2→f x0 x1 x2→P):P:=h.elim fun x h=>RP h (k x)
theorem We{a b c d e f:α→β→γ→δ→Prop}(h:∃x0 x1 x2 x3,a x0 x1 x2 x3∧b x0 x1 x2 x3∧c x0 x1 x2 x3∧d x0 x1 x2 x3∧e x0 x1 x2 x3∧f x0 x1 x2 x3)(k:∀x0 x1 x2 x3,a x0 x1 x2 x3→b x0 x1 x2 x3→c x0 x1 x2 x3→d x0 x1 x2 x3→e x0 x1 x2 x3→f x0 x1 x2 x3→P):P:=h.elim fun x h=>N5 h (k x)
theorem Ul{a b c d e f:α→β→γ→δ→ε→Prop}(h:∃x0 x1 x2 x3 x4,a x0 x1 x2 x3 x4∧b x0 x1 x2 x3 x4∧c x0 x1 x2 x3 x4∧d x0 x1 x2 x3 x4∧e x0 x1 x2 x3 x4∧f x0 x1 x2 x3 x4)(k:∀x0 x1 x2 x3 x4,a x0 x1 x2 x3 x4→b x0 x1 x2 x3 x4→c x0 x1 x2 x3 x4→d x0 x1 x2 x3 x4→e x0 x1 x2 x3 x4→f x0 x1 x2 x3 x4→P):P:=h.elim fun x h=>We h (k x)
theorem Uq{c d e f g:Prop}(h:a∧b∧c∧d∧e∧f∧g)(k:a→b→c→d→e→f→g→P):P:=RQ h.2 (k h.1)
theorem Wl{a b c d e f g:α→Prop}(h:∃x0,a x0∧b x0∧c x0∧d x0∧e x0∧f x0∧g x0)(k:∀x0,a x0→b x0→c x0→d x0→e x0→f x0→g x0→P):P:=h.elim fun x h=>Uq h (k x)
theorem Wj{a b c d e f g:α→β→Prop}(h:∃x0 x1,a x0 x1∧b x0 x1∧c x0 x1∧d x0 x1∧e x0 x1∧f x0 x1∧g x0 x1)(k:∀x0 x1,a x0 x1→b x0 x1→c x0 x1→d x0 x1→e x0 x1→f x0 x1→g x0 x1→P):P:=h.elim fun x h=>Wl h (k x)
theorem Wg{a b c d e f g:α→β→γ→Prop}(h:∃x0 x1 x2,a x0 x1 x2∧b x0 x1 x2∧c x0 x1 x2∧d x0 x1 x2∧e x0 x1 x2∧f x0 x1 x2∧g x0 x1 x2)(k:∀x0 x1 x2,a x0 x1 x2→b x0 x1 x2→c x0 x1 x2→d x0 x1 x2→e x0 x1 x2→f x0 x1 x2→g x0 x1 x2→P):P:=h.elim fun x h=>Wj h (k x)
theorem RN{a b c d e f g:α→β→γ→δ→Prop}(h:∃x0 x1 x2 x3,a x0 x1 x2 x3∧b x0 x1 x2 x3∧c x0 x1 x2 x3∧d x0 x1 x2 x3∧e x0 x1 x2 x3∧f x0 x1 x2 x3∧g x0 x1 x2 x3)(k:∀x0 x1 x2 x3,a x0 x1 x2 x3→b x0 x1 x2 x3→c x0 x1 x2 x3→d x0 x1 x2 x3→e x0 x1 x2 x3→f x0 x1 x2 x3→g x0 x1 x2 x3→P):P:=h.elim fun x h=>Wg h (k x)
theorem Up{c d e f g i:Prop}(h:a∧b∧c∧d∧e∧f∧g∧i)(k:a→b→c→d→e→f→g→i→P):P:=Uq h.2 (k h.1)
theorem Wk{a b c d e f g i:α→Prop}(h:∃x0,a x0∧b x0∧c x0∧d x0∧e x0∧f x0∧g x0∧i x0)(k:∀x0,a x0→b x0→c x0→d x0→e x0→f x0→g x0→i x0→P):P:=h.elim fun x h=>Up h (k x)
theorem Wh{a b c d e f g i:α→β→Prop}(h:∃x0 x1,a x0 x1∧b x0 x1∧c x0 x1∧d x0 x1∧e x0 x1∧f x0 x1∧g x0 x1∧i x0 x1)(k:∀x0 x1,a x0 x1→b x0 x1→c x0 x1→d x0 x1→e x0 x1→f x0 x1→g x0 x1→i x0 x1→P):P:=h.elim fun x h=>Wk h (k x)
theorem Wf{a b c d e f g i:α→β→γ→Prop}(h:∃x0 x1 x2,a x0 x1 x2∧b x0 x1 x2∧c x0 x1 x2∧d x0 x1 x2∧e x0 x1 x2∧f x0 x1 x2∧g x0 x1 x2∧i x0 x1 x2)(k:∀x0 x1 x2,a x0 x1 x2→b x0 x1 x2→c x0 x1 x2→d x0 x1 x2→e x0 x1 x2→f x0 x1 x2→g x0 x1 x2→i x0 x1 x2→P):P:=h.elim fun x h=>Wh h (k x)
end
end
end Mine.Internal
namespace Mine.Internal
open PySem PyProof.Rows
open PySem.Sem (wp)
noncomputable section
variable{Q:Unit→Shared→Prop}{R:Result→Shared→Prop}
noncomputable def iD(id:String):Bool:=!(Builtin.Bytes.decodersThatHold.contains id)&&!(guardIds.contains id)
def j0:Code→Bool
 |.builtin id _=>iD id
 |_=>true
def Xy(l:List (Code×Pos)):Prop:=∀x∈l,j0 x.1=true
def Cl(Γ:Ctx):Prop:=j0 Γ.code=true∧Xy Γ.below
theorem Cl.goto{Γ:Ctx}(h:Cl Γ){c:Code}(hc:j0 c=true):Cl (Γ.goto c):=⟨hc,h.2⟩
theorem Cl.enter{Γ:Ctx}(h:Cl Γ){c:Code}(hc:j0 c=true)(hd:Option Value)(p:Pos):Cl (Γ.enter c hd p):=
 ⟨hc,fun x hx=>by
  rcases cO hx with rfl|hx
  ·exact h.1
  ·exact h.2 x hx⟩
def ab{α:Type}(M:Model)(A:Around)(t:Sem α)(Q:α→Shared→Prop)(E:Value→Shared→Prop)(s:Shared):Prop:=
 ∀Γ p,Γ.In A→Cl Γ→wp M Γ t (fun a Y s'=>Q a s') (fun e Y s'=>E e s') p s
def ba(M:Model)(A:Around)(c:Code)(R:Result→Shared→Prop)(s:Shared):Prop:=
 j0 c=true∧∀Γ p,Γ.code=c→Γ.Below A→Cl Γ→wpCode M Γ R p s
section
variable{α β:Type}{M:Model}{A:Around}{E:Value→Shared→Prop}{s:Shared}
theorem lf{t:Sem α}{Q:α→Shared→Prop}(h:PySem.wpAny M A t Q E s):ab M A t Q E s:=fun Γ p iz Y=>h Γ p iz
theorem Wz{c:Code}(h:PySem.codeAny M A c R s)(hn:j0 c=true:=by rfl):ba M A c R s:=⟨hn,fun Γ p hc iz Y=>h Γ p hc iz⟩
theorem aG{t:Sem α}{Q Q':α→Shared→Prop}{E':Value→Shared→Prop}(h:ab M A t Q E s)
  (hQ:∀a s,Q a s→Q' a s)(hE:∀e s,E e s→E' e s):ab M A t Q' E' s:=
 fun Γ p iz hc=>Sem.wp_mono M Γ t (fun a Y s=>hQ a s) (fun e Y s=>hE e s) p s (h Γ p iz hc)
theorem af{a:α}{Q:α→Shared→Prop}(h:Q a s):ab M A (pure a) Q E s:=fun Y Y Y Y=>h
theorem dj{tag:String}(h:Q () s):ab M A (rule tag) Q E s:=fun Y Y Y Y=>h
theorem au{pos:Pos}(h:Q () s):ab M A (standAt pos) Q E s:=fun Y Y Y Y=>h
theorem gN(h:Q () s):ab M A point Q E s:=fun Y Y Y Y=>h
theorem aa{m:Sem α}{f:α→Sem β}{Q:β→Shared→Prop}(h:ab M A m (fun a s'=>ab M A (f a) Q E s') E s):
  ab M A (m>>=f) Q E s:=fun Γ p iz hc=>by
 rw [Sem.wp_bind'];exact Sem.wp_mono M Γ m (fun a p' s' k=>k Γ p' iz hc) (fun Y Y Y k=>k) p s (h Γ p iz hc)
theorem dq{m:Sem α}{k:Value→Sem Unit}{Q:α→Shared→Prop}
  (h:ab M A m Q (fun e s'=>ab M A (k e) (fun Y gJ=>E e gJ) E s') s):ab M A (m.onRaise k) Q E s:=fun Γ p iz hc=>by
 rw [Sem.wp_onRaise];exact Sem.wp_mono M Γ m (fun Y Y Y k=>k) (fun e p' s' k=>k Γ p' iz hc) p s (h Γ p iz hc)
theorem jX{m:Sem α}{Q:Except Value α→Shared→Prop}(h:ab M A m (fun a=>Q (.ok a)) (fun e=>Q (.error e)) s):
  ab M A m.attempt Q E s:=fun Γ p iz hc=>by rw [Sem.wp_attempt];exact h Γ p iz hc
theorem aj{vs:List Value}{m:Sem α}{Q:α→Shared→Prop}(h:ab M A m Q E s):ab M A (holding vs m) Q E s:=
 fun Γ p iz hc=>by rw [Sem.wp_holding];exact h Γ p iz hc
theorem pM{c:Prop} [Decidable c]{a b:Sem α}{Q:α→Shared→Prop}(h:if c then ab M A a Q E s else ab M A b Q E s):
  ab M A (if c then a else b) Q E s:=by split<;>simp_all
theorem fV{c:Code}{R':Result→Shared→Prop}(h:ba M A c R s)(hR:∀r s,R r s→R' r s):ba M A c R' s:=
 ⟨h.1,fun Γ p hc iz hk=>wpCode_mono hR (h.2 Γ p hc iz hk)⟩
theorem pL{c:Code}{h:Option Value}{Q:Flow→Shared→Prop}
  (hc:ba M (A.mark h) c (fun r s'=>match r with|.ok f=>Q f s'|.error e=>E e s') s)(hnb:h≠some byPass:=by intro x;cases x):
  ab M A (run c h) Q E s:=
 fun Γ p iz hk=>by rw [Sem.wp_run];exact hc.2 _ p rfl (iz.enter c h p hnb) (hk.enter hc.1 h p)
theorem m6{c:Code}{Q:Value→Shared→Prop}
  (hc:ba M A c (fun r s'=>match r with|.ok (.ret v)=>Q v s'|.ok _=>False|.error e=>E e s') s):
  ab M A (runValue c) Q E s:=fun Γ p iz hk=>by
 rw [Sem.wp_runValue];exact hc.2 _ p rfl (iz.enter c none p (by intro x;injection x)) (hk.enter hc.1 none p)
theorem dA{f:Value}{pos:List Value}{kw:List (Str×Value)}{Q:Value→Shared→Prop}
  (hc:ba M A (.call f ⟨pos,kw⟩) (fun r s'=>match r with|.ok (.ret v)=>Q v s'|.ok _=>False|.error e=>E e s') s):
  ab M A (call f pos kw) Q E s:=m6 hc
theorem bk{c:Code}
  (h:ab M (A.under c) (M.den c) (fun fin s'=>match fin with|.done f=>R (.ok f) s'|.again c'=>c'.quiet=true∧ba M A c' R s')
   (fun e s'=>R (.error e) s') s)(hn:j0 c=true:=by rfl):ba M A c R s:=⟨hn,fun Γ p hc iz hk=>by
 rw [wpCode_iff_wp,hc];refine Sem.wp_mono M Γ _ (fun fin p' s' h'=>?_) (fun Y Y Y h'=>h') p s (h Γ p (hc▸iz.in) hk)
 cases fin with
 |done f=>exact h'
 |again c'=>exact⟨h'.1,h'.2.2 (Γ.goto c') p' rfl (iz.goto c') (hk.goto h'.2.1)⟩⟩
theorem kI{c:Code}(hq:c.quiet=true)(I:Nat→Shared→Prop)
  (turn:∀n s,I n s→ab M (A.under c) (M.den c)
   (fun fin s'=>match fin with|.done f=>R (.ok f) s'|.again c'=>c'=c∧∃m,m<n∧I m s') (fun e s'=>R (.error e) s') s)
  (n:Nat)(h:I n s)(hn:j0 c=true:=by rfl):ba M A c R s:=by
 induction n using Nat.strongRecOn generalizing s with
 |ind n ih=>
  refine bk (aG (turn n s h) (fun fin s' hf=>?_) fun Y Y h'=>h') hn
  cases fin with
  |done f=>exact hf
  |again c'=>obtain⟨rfl,m,hm,hI⟩:=hf;exact⟨hq,ih m hm hI⟩
theorem pb{c:Code}(hq:c.quiet=true)(I:Nat→Shared→Prop)
  (turn:∀n s,I n s→ab M (A.under c) (M.den c)
   (fun fin s'=>match fin with
    |.done f=>R (.ok f) s'
    |.again c'=>(c'=c∧∃m,m<n∧I m s')∨(c'.quiet=true∧ba M A c' R s')) (fun e s'=>R (.error e) s') s)
  (n:Nat)(h:I n s)(hn:j0 c=true:=by rfl):ba M A c R s:=by
 induction n using Nat.strongRecOn generalizing s with
 |ind n ih=>
  refine bk (aG (turn n s h) (fun fin s' hf=>?_) fun Y Y h'=>h') hn
  cases fin with
  |done f=>exact hf
  |again c'=>
   rcases hf with⟨rfl,m,hm,hI⟩|hf
   ·exact⟨hq,ih m hm hI⟩
   ·exact hf
def cameBackBy(M:Model)(A:Around)(env:Env)(E:Value→Shared→Prop):Value→Shared→Prop:=
 fun x s'=>ab M A (do
  if(←field x 1)==.none then unsupported "frame.own-activation:exception-without-traceback"
  setFlight x env.frame) (fun Y gJ=>E x gJ) E s'
def notedBy(M:Model)(A:Around)(env:Env)(E:Value→Shared→Prop):Value→Shared→Prop:=
 fun x s'=>ab M A (noteFrame x env) (fun Y gJ=>E x gJ) E s'
theorem kF{c:Code}{env:Env}{h:Option Value}{Q:Flow→Shared→Prop}
  (hc:ba M (A.mark h) c (fun r s'=>match r with|.ok f=>Q f s'|.error e=>cameBackBy M A env E e s') s)(hnb:h≠some byPass:=by intro x;cases x):
  ab M A (runOwn c env h) Q E s:=by
 unfold runOwn;exact dq (pL hc hnb)
theorem gO{env:Env}{m:Sem α}{Q:α→Shared→Prop}(h:ab M A m Q (notedBy M A env E) s):ab M A (m.onRaise fun x=>do noteFrame x env;theTreesLotGoes x) Q E s:=
 dq (aG h (fun Y Y q=>q) fun Y Y hx=>aa (aG hx (fun Y Y e=>lf (wpAny_theTreesLotGoes e)) fun Y Y e=>e))
theorem o9{env:Env}{m:Sem α}{pos:Pos}{Q:α→Shared→Prop}(h:ab M A m Q (notedBy M A env E) s):
  ab M A (m.onRaise fun x=>do noteFrame x env;standAt pos) Q E s:=
 dq (aG h (fun Y Y q=>q) fun Y Y hx=>aa (aG hx (fun Y Y e=>au e) fun Y Y e=>e))
end
end
end Mine.Internal
namespace Mine.Internal
open PySem PySem.W PyProof.Rows
open PySem.Sem (wp)
noncomputable section
variable{Q:Value→Shared→Prop}{pos:Pos}
section
variable{α:Type}{M:Model}{A:Around}{E:Value→Shared→Prop}{s:Shared}{env:PySem.Env}
theorem sq{β:Type}{m:Sem α}{f:α→Sem β}{Q:β→Shared→Prop}{P:α→Shared→Prop}(h:ab M A m P E s)(k:∀a s',P a s'→ab M A (f a) Q E s'):
  ab M A (m>>=f) Q E s:=aa (aG h k fun Y Y x=>x)
theorem vh{vs:List Value}{m:Sem α}{Q:α→Shared→Prop}(h:ab M A m Q E s):ab M A (m.keep vs) Q E s:=
 fun Γ p iz hc=>by rw [Sem.wp_keep];exact h Γ p iz hc
theorem cB{vs:List Value}{m:Sem Value}(h:ab M A m Q E s):ab M A (operate vs m) Q E s:=
 fun Γ p iz hc=>by rw [Sem.wp_operate];exact h Γ p iz hc
theorem fh{vs keep:List Value}{Q:Unit→Shared→Prop}(h:Q () s):ab M A (release vs keep) Q E s:=fun Γ p Y Y=>by
 rw [Sem.wp_release];exact h
theorem gm{x:Str}{v:Value}{Q:Unit→Shared→Prop}(h:ab M A (storeName env x v) Q E s):ab M A (bindName env x v) Q E s:=
 fun Γ p iz hc=>by rw [Sem.wp_bindName];exact h Γ p iz hc
theorem aV{t:Sem α}{a:α}{Q:α→Shared→Prop}(h:t=pure a)(hQ:Q a s):ab M A t Q E s:=h▸af hQ
theorem aZ{c:Prop} [Decidable c]{a b:Sem α}{Q:α→Shared→Prop}(hc:decide c=false)(h:ab M A b Q E s):
  ab M A (if c then a else b) Q E s:=by rw [if_neg (of_decide_eq_false hc)];exact h
theorem jb{c:Prop} [Decidable c]{a b:Sem α}{Q:α→Shared→Prop}(hc:decide c=true)(h:ab M A a Q E s):
  ab M A (if c then a else b) Q E s:=by rw [if_pos (of_decide_eq_true hc)];exact h
set_option tactic.hygienic true in
theorem fG{c:Prop} [Decidable c]{a b:Sem α}{Q:α→Shared→Prop}(ha:c→ab M A a Q E s)(hb:¬c→ab M A b Q E s):
  ab M A (if c then a else b) Q E s:=by
 split
 ·next h=>exact ha h
 ·next h=>exact hb h
theorem m7{x:Str}(h:ab M A (loadName env x) Q E s)(hd:(x==("__debug__":Str))=false:=by decide):
  ab M A (eval (.Name x pos) env) Q E s:=by
 rw [eval_Name env x pos hd];exact aa (au h)
theorem tT{x:Str}(hk:env.scope.kind=.function)(hx:env.kindOf x=some .globalImplicit):loadName env x=loadGlobal env x:=by
 unfold loadName Env.blockKind;rw [hk,hx]
 rfl
theorem fu{x:Str}(hk:env.scope.kind=.function)(hx:env.kindOf x=some .globalImplicit)
  (h:ab M A (loadGlobal env x) Q E s)(hd:(x==("__debug__":Str))=false:=by decide):ab M A (eval (.Name x pos) env) Q E s:=by
 refine m7 ?_ hd
 exact(tT hk hx).symm▸h
theorem sC{l op r pos}
  (h:ab M A (eval l env) (fun a ag=>ab M A (eval r env) (fun b aK=>ab M A (binaryOp op a b) Q E aK) E ag) E s):
  ab M A (eval (.BinOp l op r pos) env) Q E s:=by
 rw [eval_BinOp];exact sq h fun a ag k=>sq (aj k) fun b aK k=>aa (au (cB k))
theorem pa{op:UnaryOp}{x:Expr}(h:ab M A (eval x env) (fun v ag=>ab M A (unaryOp op v) Q E ag) E s):
  ab M A (eval (.UnaryOp op x pos) env) Q E s:=by
 rw [arm_eval_UnaryOp];exact sq h fun v ag k=>aa (au (aj k))
theorem m9{l op r pos}
  (h:ab M A (eval l env) (fun a ag=>ab M A (eval r env) (fun b aK=>ab M A (compareOp op a b) Q E aK) E ag) E s)
  (hm:behindInMarks op r=false:=by with_unfolding_all rfl):
  ab M A (eval (.Compare l [op] [r] pos) env) Q E s:=by
 rw [eval_Compare1,markedBehindIn_of_false hm];exact sq h fun a ag k=>sq (aj k) fun b aK k=>aa (au (cB k))
theorem iT{l op r pos whole}{Q:Bool→Shared→Prop}
  (h:ab M A (eval l env) (fun a ag=>ab M A (eval r env) (fun b aK=>ab M A (compareOp op a b)
   (fun c bM=>ab M A (truthy c) Q E bM) E aK) E ag) E s)
  (hm:behindInMarks op r=false:=by with_unfolding_all rfl):ab M A (isTrue (.Compare l [op] [r] pos) env whole) Q E s:=by
 rw [isTrue_Compare1,markedBehindIn_of_false hm];exact sq h fun a ag k=>sq (aj k) fun b aK k=>aa (au (sq (cB k) fun c bM k=>aj k))
theorem nj{op e pos}(h:ab M A (eval e env) Q E s):ab M A (eval (.BoolOp op [e] pos) env) Q E s:=h
theorem vn{wC ku rest pos}
  (h:ab M A (eval wC env) (fun v ag=>ab M A (truthy v) (fun c aK=>if c then ab M A (eval (.BoolOp .And (ku::rest) pos) env) Q E aK else Q v aK) E ag) E s):
  ab M A (eval (.BoolOp .And (wC::ku::rest) pos) env) Q E s:=by
 show ab M A (eval wC env>>=fun v=>standAt pos>>=fun Y=>holding [v] (truthy v)>>=fun c=>_) Q E s
 refine sq h fun v ag k=>aa (au (sq (aj k) fun c aK k=>?_))
 cases c<;>first|exact k|exact af k
theorem y7{wC ku rest pos}
  (h:ab M A (eval wC env) (fun v ag=>ab M A (truthy v) (fun c aK=>if c then Q v aK else ab M A (eval (.BoolOp .Or (ku::rest) pos) env) Q E aK) E ag) E s):
  ab M A (eval (.BoolOp .Or (wC::ku::rest) pos) env) Q E s:=by
 show ab M A (eval wC env>>=fun v=>standAt pos>>=fun Y=>holding [v] (truthy v)>>=fun c=>_) Q E s
 refine sq h fun v ag k=>aa (au (sq (aj k) fun c aK k=>?_))
 cases c<;>first|exact k|exact af k
theorem sA{test body orelse:Expr}
  (h:ab M A (isTrue test env (eval test env)) (fun b ag=>if b then ab M A (eval body env) Q E ag else ab M A (eval orelse env) Q E ag) E s):
  ab M A (eval (.IfExp test body orelse pos) env) Q E s:=by
 rw [arm_eval_IfExp];exact sq h fun b ag k=>by cases b<;>exact k
theorem isTrue_not{x pos whole}{Q:Bool→Shared→Prop}(h:ab M A (isTrue x env (eval x env)) (fun c s'=>Q (!c) s') E s):
  ab M A (isTrue (.UnaryOp .Not x pos) env whole) Q E s:=by
 show ab M A (isTrue x env (eval x env)>>=fun c=>pure (!c)) Q E s
 exact sq h fun c s' k=>af k
theorem isTrue_and{x rest pos whole}{Q:Bool→Shared→Prop}
  (h:ab M A (isTrue x env (eval x env)) (fun c s'=>if c then ab M A (isTrue (.BoolOp .And rest pos) env whole) Q E s' else Q false s') E s):
  ab M A (isTrue (.BoolOp .And (x::rest) pos) env whole) Q E s:=by
 show ab M A (isTrue x env (eval x env)>>=fun c=>_) Q E s
 exact sq h fun c s' k=>by cases c<;>first|exact k|exact af k
theorem isTrue_or{x rest pos whole}{Q:Bool→Shared→Prop}
  (h:ab M A (isTrue x env (eval x env)) (fun c s'=>if c then Q true s' else ab M A (isTrue (.BoolOp .Or rest pos) env whole) Q E s') E s):
  ab M A (isTrue (.BoolOp .Or (x::rest) pos) env whole) Q E s:=by
 show ab M A (isTrue x env (eval x env)>>=fun c=>_) Q E s
 exact sq h fun c s' k=>by cases c<;>first|exact k|exact af k
theorem isTrue_chain{l tA tx ops pj vE rs pos whole}{Q:Bool→Shared→Prop}
  (h:ab M A (eval l env) (fun a ag=>ab M A (testChain pos a (tA::tx::ops) (eval pj env::eval vE env::evalEach rs env)) Q E ag) E s)
  (hm:lastMarks (tA::tx::ops) (pj::vE::rs)=false:=by with_unfolding_all rfl):
  ab M A (isTrue (.Compare l (tA::tx::ops) (pj::vE::rs) pos) env whole) Q E s:=by
 show ab M A (eval l env>>=fun a=>testChain pos a (tA::tx::ops) (markedEach (tA::tx::ops) (pj::vE::rs) (evalEach (pj::vE::rs) env))) Q E s
 rw [markedEach_of_false _ _ _ hm];exact aa h
theorem yY{a:Value}{op:CmpOp}{r:Sem Value}{Q:Bool→Shared→Prop}
  (h:ab M A r (fun b ag=>ab M A (compareOp op a b) (fun c aK=>ab M A (truthy c) Q E aK) E ag) E s):ab M A (testChain pos a [op] [r]) Q E s:=by
 show ab M A (holding [a] r>>=fun b=>standAt pos>>=fun Y=>operate [a,b] (compareOp op a b)>>=fun c=>holding [c] (truthy c)) Q E s
 exact sq (aj h) fun b ag k=>aa (au (sq (cB k) fun c aK k=>aj k))
theorem yX{a:Value}{op jS:CmpOp}{ops:List CmpOp}{r r':Sem Value}{rs:List (Sem Value)}{Q:Bool→Shared→Prop}
  (h:ab M A r (fun b ag=>ab M A (compareOp op a b) (fun c aK=>ab M A (truthy c)
   (fun t bM=>if t then ab M A (testChain pos b (jS::ops) (r'::rs)) Q E bM else Q false bM) E aK) E ag) E s):
  ab M A (testChain pos a (op::jS::ops) (r::r'::rs)) Q E s:=by
 show ab M A (holding [a] r>>=fun b=>standAt pos>>=fun Y=>holding [a,b] (compareOp op a b)>>=fun c=>release [a,b] [c]>>=fun Y=>holding [c,b] (truthy c)>>=fun t=>_) Q E s
 refine sq (aj h) fun b ag k=>aa (au (sq (aj k) fun c aK k=>aa (fh (sq (aj k) fun t bM k=>?_))))
 cases t<;>first|exact k|exact af k
theorem hK{e:Expr}{rest:List Expr}{Q:List Value→Shared→Prop}
  (h:ab M A (eval e env) (fun v ag=>ab M A (spliced (backTo pos (starEach rest env))) (fun vs aK=>Q (v::vs) aK) E ag) E s)
  (he:starEach (e::rest) env=(false,eval e env)::starEach rest env:=by rfl):ab M A (spliced (backTo pos (starEach (e::rest) env))) Q E s:=by
 rw [he];show ab M A (eval e env>>=fun v=>(pure [v]:Sem (List Value))>>=fun here=>holding here (spliced (backTo pos (starEach rest env)))>>=fun vs=>pure (here++vs)) Q E s
 exact sq h fun v ag k=>aa (af (sq (aj k) fun vs aK k=>af k))
theorem vi{elts:List Expr}
  (h:ab M A (spliced (backTo pos (starEach elts env)))
   (fun vs ag=>vs.length≤sizeLine∧Q (.ref ag.heap.objs.size) {ag with heap:=ag.heap.push {cls:=.type "list",data:=.seq vs.toArray}}) E s):ab M A (eval (.List elts pos) env) Q E s:=by
 rw [arm_eval_List];exact aa (au (sq h fun vs ag k=>lf (wpAny_newObj_type k.2 (by show vs.toArray.size≤sizeLine;rw [List.size_toArray];exact k.1))))
theorem sy{elts:List Expr}{k:Nat}
  (h:ab M A (spliced (backTo pos (starEach elts env)))
   (fun vs ag=>vs.length≤sizeLine∧Q (.ref ag.heap.objs.size) {ag with heap:=ag.heap.push {cls:=.type "tuple",data:=.seq vs.toArray}}) E s):ab M A (eval (.Tuple elts k pos) env) Q E s:=by
 rw [arm_eval_Tuple];exact aa (au (sq h fun vs ag k=>lf (wpAny_newObj_type k.2 (by show vs.toArray.size≤sizeLine;rw [List.size_toArray];exact k.1))))
theorem evalArgs_plain{f:Value}{x:Sem Value}{rest:List (Bool×Sem Value)}{Q:Args→Shared→Prop}
  (h:ab M A (spliced ((false,x)::rest)) (fun vs s'=>Q ⟨vs,[]⟩ s') E s):ab M A (evalArgs f true ((false,x)::rest) []) Q E s:=by
 unfold evalArgs;show ab M A (spliced ((false,x)::rest)>>=fun vs=>_) Q E s
 exact sq h fun vs s' k=>aj (aa (af (aa (af (af k)))))
theorem dM{e:Expr}(h:ab M A (eval e env) Q E s):ab M A (evalPart (some e) env) Q E s:=h
theorem jc{lower upper step:Option Expr}{p:Pos}
  (h:ab M A (evalPart lower env) (fun l ag=>ab M A (evalPart upper env) (fun u aK=>ab M A (evalPart step env) (fun st bM=>
   Q (.ref bM.heap.objs.size) {bM with heap:=bM.heap.push {cls:=.type "slice",data:=.fields #[l,u,st]}}) E aK) E ag) E s):
  ab M A (eval (.Slice lower upper step p) env) Q E s:=by
 rw [arm_eval_Slice];exact sq h fun l ag k=>sq (aj k) fun u aK k=>sq (aj k) fun st bM k=>lf (wpAny_newObj_type k)
theorem ka{value slice pos}
  (h:ab M A (eval value env) (fun o ag=>ab M A (eval slice env) (fun i aK=>ab M A (subscriptTail value slice o i) Q E aK) E ag) E s):
  ab M A (eval (.Subscript value slice pos) env) Q E s:=by
 rw [eval_Subscript];exact sq h fun o ag k=>sq (aj k) fun i aK k=>aa (au k)
theorem evalPairs_cons{k v:Sem Value}{rest:List (Sem Value×Sem Value)}{Q:List (Value×Value)→Shared→Prop}
  (h:ab M A k (fun kv ag=>ab M A v (fun vv aK=>ab M A (evalPairs rest) (fun vs bM=>Q ((kv,vv)::vs) bM) E aK) E ag) E s):
  ab M A (evalPairs ((k,v)::rest)) Q E s:=by
 rw [evalPairs];exact sq h fun kv ag k=>sq (aj k) fun vv aK k=>sq (aj k) fun vs bM k=>af k
theorem A1{params:Arguments}{body:Expr}{scope:Scope}(pq:defaultsOf params env=([],[]))
  (h:ab M A (makeFunction "<lambda>" (env.qual++"<lambda>") params (.expr body) scope env [] [] [] pos pos.line) Q E s):
  ab M A (eval (.Lambda params body scope pos) env) Q E s:=by
 rw [arm_eval_Lambda,pq];exact aa (af (aa (aj (af h))))
theorem bA{self:Value}{T:String}{name:Str}{id:String}{args:List Value}{kw:List (Str×Value)}
  {Q:Option Value→Shared→Prop}(hT:s.TypeIs self T)(h:Slot T name id)
  (hc:ab M A (call (.builtin id) (self::args) kw) (fun v=>Q (some v)) E s):ab M A (callSpecial? self name args kw) Q E s:=by
 unfold callSpecial?;refine aa (lf (wpAny_specialOf hT h.lookup ?_));simp only[h.bind];exact aj (aa (af (sq hc fun v s' k=>af k)))
theorem lK{st rest}{Q:Flow→Shared→Prop}
  (h:ab M A (exec st env) (fun f s'=>match f with|.next=>ab M A (execs rest env) Q E s'|f=>Q f s') E s):
  ab M A (execs (st::rest) env) Q E s:=by
 rw [execs_cons];exact sq h fun f s' k=>by cases f<;>first|exact k|exact af k
theorem AZ{test body orelse pos}{Q:Flow→Shared→Prop}
  (h:ab M A (isTrue test env (eval test env))
   (fun b aK=>if b then ab M A (execs body env) Q E aK else ab M A (execs orelse env) Q E aK) E s):
  ab M A (exec (.If test body orelse pos) env) Q E s:=by
 rw [exec_If];exact aa (au (sq h fun b aK k=>by cases b<;>exact k))
theorem kG{e pos}{Q:Flow→Shared→Prop}(h:ab M A (eval e env) (fun v=>Q (.ret v)) E s):
  ab M A (exec (.Return (some e) pos) env) Q E s:=by
 rw [exec_Return_some];exact aa (au (sq h fun v ag k=>af k))
theorem su{test body orelse pos}{Q:Flow→Shared→Prop}
  (h:ba M A (.whileLoop test body orelse env) (fun r s'=>match r with|.ok f=>Q f s'|.error e=>cameBackBy M A env E e s') s):
  ab M A (exec (.While test body orelse pos) env) Q E s:=by
 rw [exec_While];exact aa (au (kF h))
theorem gP{x pos' value pos}{Q:Flow→Shared→Prop}
  (h:ab M A (eval value env) (fun v ag=>ab M A (storeName env x v) (fun Y=>Q .next) E ag) E s)
  (hs:swapsWith value (some (.Name x pos')) pos.line env=pure false:=by rfl):
  ab M A (exec (.Assign [.Name x pos'] value pos) env) Q E s:=by
 rw [exec_Assign_Name env x pos' value pos hs];exact aa (au (sq h fun v ag k=>aa (au (sq (gm k) fun Y aK k=>af k))))
theorem lO{o i pos v}{Q:Unit→Shared→Prop}(h:ab M A (eval o env) (fun ov aK=>ab M A (eval i env) (fun iv bM=>ab M A (setItem ov iv v) Q E bM) E aK) E s):ab M A (assign (.Subscript o i pos) env v) Q E s:=by
 show ab M A (holding [v] (eval o env)>>=_) Q E s;exact sq (aj h) fun ov aK k=>sq (aj k) fun iv bM k=>aa (au (sq (aj k) fun Y kQ k=>fh k))
theorem eM{o i pos' value pos}{Q:Flow→Shared→Prop}
  (h:ab M A (eval value env) (fun v ag=>ab M A (eval o env) (fun ov aK=>ab M A (eval i env) (fun iv bM=>
   ab M A (setItem ov iv v) (fun Y=>Q .next) E bM) E aK) E ag) E s)
  (hs:swapsWith value (some (.Subscript o i pos')) pos.line env=pure false:=by rfl):
  ab M A (exec (.Assign [.Subscript o i pos'] value pos) env) Q E s:=fun Γ p iz hc=>by
 rw [exec_Assign_Subscript o i pos' value pos hs];exact aa (au (sq h fun v ag k=>sq (lO k) fun Y aK k=>af k)) Γ p iz hc
theorem plainObj_wpAny_Assign_Attribute{o attr pos' value pos}{Q:Flow→Shared→Prop}
  (h:ab M A (eval value env) (fun v ag=>ab M A (eval o env) (fun ov aK=>ab M A (setAttr ov attr v) (fun Y=>Q .next) E aK) E ag) E s)
  (hs:swapsWith value (some (.Attribute o attr pos')) pos.line env=pure false:=by rfl):
  ab M A (exec (.Assign [.Attribute o attr pos'] value pos) env) Q E s:=fun Γ p iz hc=>by
 rw [plainObj_exec_Assign_Attribute o attr pos' value pos hs];refine aa (au (sq h fun v ag k=>aa ?_)) Γ p iz hc
 show ab M A (holding [v] (eval o env)>>=_) _ E ag;exact sq (aj k) fun ov aK k=>aa (au (sq (aj k) fun Y bM k=>fh (af k)))
theorem dw{x pos v}{Q:Unit→Shared→Prop}(h:ab M A (storeName env x v) Q E s):
  ab M A (assign (.Name x pos) env v) Q E s:=by
 rw [PySem.assign_Name];exact aa (au (gm h))
theorem assignInOrder_cons{t:Value→Sem Unit}{ts:List (Value→Sem Unit)}{x:Value}{xs:List Value}{Q:Unit→Shared→Prop}
  (h:ab M A (t x) (fun Y ag=>ab M A (assignInOrder ts xs) Q E ag) E s):ab M A (assignInOrder (t::ts) (x::xs)) Q E s:=by
 show ab M A (holding xs (t x)>>=fun Y=>assignInOrder ts xs) Q E s
 exact aa (aj h)
theorem ja{body orelse:Sem Flow}{h₀:ExceptHandler}{hs:List ExceptHandler}{Q:Flow→Shared→Prop}
  (h:ab M A body (fun f ag=>match f with|.next=>ab M A orelse Q E ag|f=>Q f ag)
   (fun e ag=>ab M A (noteFrame e env) (fun Y aK=>ab M A (setFlight e none) (fun Y bM=>ab M A (handleBy e env (h₀::hs)) Q E bM) E aK) E ag) s):
  ab M A (tryStmt false body (h₀::hs) orelse [] env) Q E s:=by
 show ab M A (body.attempt>>=_) Q E s;refine aa (jX (aG h (fun f ag k=>?_) fun e ag k=>?_))
 ·cases f<;>first|exact k|exact af k
 ·exact sq k fun Y Y k=>aa k
end
section
variable{prog:Program}{w:World}{A:Around}{E:Value→Shared→Prop}{R:Result→Shared→Prop}{s:Shared}{env:PySem.Env}
theorem lL{body orelse:List Stmt}{h₀:ExceptHandler}{hs:List ExceptHandler}{Q:Flow→Shared→Prop}
  (h:ab (model prog w) A (execs body env) (fun f ag=>match f with|.next=>ab (model prog w) A (execs orelse env) Q E ag|f=>Q f ag)
   (fun e ag=>ab (model prog w) A (noteFrame e env) (fun Y aK=>ab (model prog w) A (setFlight e none) (fun Y bM=>ab (model prog w) A (handleBy e env (h₀::hs)) Q E bM) E aK) E ag) s):
  ab (model prog w) A (exec (.Try body (h₀::hs) orelse [] pos) env) Q E s:=by
 rw [arm_exec_Try];exact aa (au (ja h))
theorem m8{e pos}{Q:Flow→Shared→Prop}(h:ab (model prog w) A (eval e env) (fun Y=>Q .next) E s)
  (hi:interactive env=false:=by rfl)(hs:swapsWith e none pos.line env=pure false:=by rfl):
  ab (model prog w) A (exec (.Expr e pos) env) Q E s:=by
 rw [exec_Expr env e pos hi hs];exact aa (au (sq h fun v s' k=>lf (wpAny_dropValue k)))
theorem pd{stmts:List Stmt}
  (h:ab (model prog w) A (execs stmts env) (fun f s'=>R (.ok f) s') (notedBy (model prog w) A env fun e s'=>R (.error e) s') s):ba (model prog w) A (.block stmts env) R s:=by
 refine bk ?_
 show ab _ _ ((execs stmts env).onRaise (fun x=>do noteFrame x env;theTreesLotGoes x)>>=fun f=>pure (Fin.done f)) _ _ s
 exact sq (gO h) fun f s' k=>af k
theorem kH{test body orelse}(I:Nat→Shared→Prop)
  (turn:∀n s,I n s→
   ab (model prog w) A (isTrue test env (eval test env)) (fun b aK=>
    if b then ab (model prog w) A (execs body env) (fun f bM=>match f with
      |.next|.cont=>∃m,m<n∧I m bM
      |.brk=>R (.ok .next) bM
      |.ret v=>R (.ok (.ret v)) bM) (notedBy (model prog w) A env fun e s'=>R (.error e) s') aK
    else ab (model prog w) A (execs orelse env) (fun f bM=>R (.ok f) bM) (notedBy (model prog w) A env fun e s'=>R (.error e) s') aK)
    (notedBy (model prog w) A env fun e s'=>R (.error e) s') s)
  (n:Nat)(h:I n s):ba (model prog w) A (.whileLoop test body orelse env) R s:=by
 refine kI rfl I (fun n s hI=>?_) n h
 show ab _ A ((whileTurn test body orelse env).onRaise (fun x=>do noteFrame x env;theTreesLotGoes x)) _ _ s
 refine gO ?_
 simp only[whileTurn]
 refine sq (turn n s hI) fun b aK k=>?_
 cases b with
 |false=>
  simp only[Bool.false_eq_true,if_false]at k⊢
  exact sq k fun f bM k=>af k
 |true=>
  simp only[if_true]at k⊢
  refine sq k fun f bM k=>?_
  cases f<;>first|exact af ⟨rfl,k⟩|exact af k
theorem jR{target it body orelse}(I:Nat→Shared→Prop)
  (turn:∀n s,I n s→ab (model prog w) A (pyNext it) (fun r ag=>match r with
   |none=>ab (model prog w) A (execs orelse env) (fun f bM=>R (.ok f) bM) (notedBy (model prog w) A env fun e s'=>R (.error e) s') ag
   |some v=>ab (model prog w) A (letOwnedTupleGo target it v) (fun Y sO=>
     ab (model prog w) A (assign target env v) (fun Y aK=>ab (model prog w) A (execs body env) (fun f bM=>match f with
      |.next|.cont=>∃m,m<n∧I m bM
      |.brk=>R (.ok .next) bM
      |.ret v=>R (.ok (.ret v)) bM) (notedBy (model prog w) A env fun e s'=>R (.error e) s') aK) (notedBy (model prog w) A env fun e s'=>R (.error e) s') sO) (notedBy (model prog w) A env fun e s'=>R (.error e) s') ag) (notedBy (model prog w) A env fun e s'=>R (.error e) s') s)
  (n:Nat)(h:I n s):ba (model prog w) A (.forLoop target it body orelse env) R s:=by
 refine pb rfl I (fun n s hI=>?_) n h
 show ab _ A ((forTurn target it body orelse env).onRaise (fun x=>do noteFrame x env;theTreesLotGoes x)) _ _ s
 refine gO ?_
 simp only[forTurn]
 refine aa (au (aa (dq (aG (turn n s hI) (fun r ag k=>?_) fun Y Y k=>au k))))
 cases r with
 |none=>exact af (.inr ⟨rfl,pd k⟩)
 |some v=>
  refine sq k fun Y sO k=>sq k fun Y aK k=>sq k fun f bM k=>?_
  cases f<;>first|exact af (.inl ⟨rfl,k⟩)|exact af k
theorem qR{body}
  (h:ab (model prog w) (A.deeper env) (execs body env) (fun f s'=>R (.ok (.ret (match f with|.ret v=>v|_=>.none))) s')
   (fun e s'=>ab (model prog w) (A.deeper env) (leaving env e) (fun Y gJ=>R (.error e) gJ) (fun e' gJ=>R (.error e') gJ) s') s):
  ba (model prog w) A (.func body env) R s:=by
 refine bk ?_
 show ab _ (A.deeper env) (point>>=fun Y=>(execs body env).onRaise (leaving env)>>=fun f=>_) _ _ s
 refine aa (gN (aa (dq (aG h (fun f s' k=>?_) fun Y Y k=>k))))
 cases f<;>exact af k
theorem qP{e:Expr}
  (h:ab (model prog w) (A.deeper env) (eval e env) (fun v s'=>R (.ok (.ret v)) s')
   (fun e' s'=>ab (model prog w) (A.deeper env) (leaving env e') (fun Y gJ=>R (.error e') gJ) (fun Tq gJ=>R (.error Tq) gJ) s') s):
  ba (model prog w) A (.expr e env) R s:=by
 refine bk ?_
 show ab _ (A.deeper env) (point>>=fun Y=>(eval e env).onRaise (leaving env)>>=fun v=>ret v) _ _ s
 exact aa (gN (aa (dq (aG h (fun v s' k=>af k) fun Y Y k=>k))))
theorem uN{a:Addr}{args:Args}{o:Obj}{fd:FuncData}(hroom:A.depth<recursionLimit)
  (ho:s.heap.get? a=some o)(Dl:o.data=.func fd)(hco:fd.scope.isCoroutine=false)(hgen:fd.scope.isGenerator=false)(hcd:s.heap.CodeRec fd.code fd.qualname)
  (h:ab (model prog w) A.in1 (bindArgs fd args) (fun binds ag=>
   ab (model prog w) A.in1 (newFunctionEnv fd.scope fd.globals fd.closure binds (fd.qualname++".<locals>.") (some a) fd.code none fd.builtins)
    (fun env aK=>aK.heap.NoLimit∧ba (model prog w) A (match fd.body with|.stmts b=>.func b env|.expr b=>.expr b env) R aK) (fun e s'=>R (.error e) s') ag) (fun e s'=>R (.error e) s') s):
  ba (model prog w) A (.call (.ref a) args) R s:=by
 refine bk ?_
 show ab _ A.in1 (load a>>=_) _ _ s;refine aa (lf (wpAny_load ho ?_));rw [Dl];show ab _ A.in1 (callFunction a fd args) _ _ s;unfold callFunction;rw [hco,hgen];refine vc hcd fun c oc vs tq hc hoc hdc hq=>?_
 rw [hc]at h⊢;refine aa (m:=field (.ref c) 1) (lf (wpAny_field hoc hdc hq ?_))
 refine aa (af ?_)
 exact sq h fun binds ag k=>sq k fun env aK k=>aa (lf (wpAny_enterFrame k.1 hroom (af (And.intro (by cases fd.body<;>rfl) k.2))))
theorem iU{a:Addr}{args:Args}{o:Obj}{fd:FuncData}{body:List Stmt}(hroom:A.depth<recursionLimit)
  (ho:s.heap.get? a=some o)
  (Dl:o.data=.func fd)(hco:fd.scope.isCoroutine=false)(hgen:fd.scope.isGenerator=false)(hbody:fd.body=.stmts body)(hcd:s.heap.CodeRec fd.code fd.qualname)
  (h:ab (model prog w) A.in1 (bindArgs fd args) (fun binds ag=>
   ab (model prog w) A.in1 (newFunctionEnv fd.scope fd.globals fd.closure binds (fd.qualname++".<locals>.") (some a) fd.code none fd.builtins)
    (fun env aK=>aK.heap.NoLimit∧ba (model prog w) A (.func body env) R aK) (fun e s'=>R (.error e) s') ag) (fun e s'=>R (.error e) s') s):
  ba (model prog w) A (.call (.ref a) args) R s:=
 uN hroom ho Dl hco hgen hcd (by rw [hbody];exact h)
theorem qQ{a:Addr}{args:Args}{o:Obj}{fd:FuncData}{body:Expr}(hroom:A.depth<recursionLimit)
  (ho:s.heap.get? a=some o)
  (Dl:o.data=.func fd)(hco:fd.scope.isCoroutine=false)(hgen:fd.scope.isGenerator=false)(hbody:fd.body=.expr body)(hcd:s.heap.CodeRec fd.code fd.qualname)
  (h:ab (model prog w) A.in1 (bindArgs fd args) (fun binds ag=>
   ab (model prog w) A.in1 (newFunctionEnv fd.scope fd.globals fd.closure binds (fd.qualname++".<locals>.") (some a) fd.code none fd.builtins)
    (fun env aK=>aK.heap.NoLimit∧ba (model prog w) A (.expr body env) R aK) (fun e s'=>R (.error e) s') ag) (fun e s'=>R (.error e) s') s):
  ba (model prog w) A (.call (.ref a) args) R s:=
 uN hroom ho Dl hco hgen hcd (by rw [hbody];exact h)
theorem iA{elt target iter ifs rest scope pos it acc}
  (h0:ba (model prog w) A (.compLoop (.ListComp elt (⟨target,iter,ifs,0⟩::rest) scope pos) 0 it acc env) R s)
  (h:ab (model prog w) A (pyIter it) (fun Uz s'=>ba (model prog w) A (.compLoop (.ListComp elt (⟨target,iter,ifs,0⟩::rest) scope pos) 0 Uz acc env) R s')
   (notedBy (model prog w) A env fun x s'=>R (.error x) s') s):
  ba (model prog w) A (.compStart (.ListComp elt (⟨target,iter,ifs,0⟩::rest) scope pos) 0 it acc env) R s:=by
 refine bk ?_
 show ab _ _ ((compStart (.ListComp elt (⟨target,iter,ifs,0⟩::rest) scope pos) 0 it acc env).onRaise (fun x=>do noteFrame x env;standAt theWindowsPlace)) _ _ s
 refine o9 ?_
 unfold compStart;show ab _ _ (ask>>=_) _ _ s;refine aa (lf (wpAny_askSetting ?_));refine pM ?_;split
 ·first
   |exact aa (af (af (And.intro rfl h0)))
   |exact af (And.intro rfl h0)
 ·refine aa (dj ?_)
  show ab _ _ (standAt iter.pos>>=_) _ _ s;exact aa (au (sq h fun Uz s' k=>af (And.intro rfl k)))
end
end
end Mine.Internal
namespace Mine.Internal
open PySem PySem.W PySem.Calls PyProof.Rows Builtin Builtin.ObjectAttr Builtin.Getset_descriptor
open PySem.Sem (wp)
noncomputable section
section
variable{prog:Program}{w:World}{A:Around}{E:Value→Shared→Prop}{R:Result→Shared→Prop}{s:Shared}{env:PySem.Env}
theorem gn{elts:List Expr}{x1}{pos:Pos}{t:Addr}{items:Array Value}{Q:Unit→Shared→Prop}(hh:A.handled=none)(ht:IsTup s.heap t items)
  (hn:(assignEach elts env).length=items.size)(hstar:(assignEach elts env).findIdx? (·.1)=none)
  (h:∀h',Heap.ExtBut s.heap.objs.size s.heap h'→ab (model prog w) A (assignInOrder ((assignEach elts env).map (·.2)) items.toList) Q E {s with heap:=h'}):
  ab (model prog w) A (assign (.Tuple elts x1 pos) env (.ref t)) Q E s:=by
 rw [assign_Tuple];refine aa (au ?_);unfold unpack;rw [hn,hstar];exact aa (aj (lf (unpackItems_tuple hh ht h)))
theorem pC{pairs:List (Sem Value×Sem Value)}{Q:List (Value×Value)→Shared→Prop}(h:ab (model prog w) A (evalPairs pairs) Q E s):
  ab (model prog w) A (evalPairs pairs) (fun vs s'=>vs.length=pairs.length∧Q vs s') E s:=
 fun Γ p iz hc=>wp_evalPairs_len _ Γ pairs _ _ p s (h Γ p iz hc)
theorem o7{K:Type} [DecidableEq K]{knd:KeyKind prog w K}{pairs:List (Sem Value×Sem Value)}{Q:Addr→Shared→Prop}(hlen:pairs.length≤15)
  (h:ab (model prog w) A (evalPairs pairs) (fun vs ag=>∃kvs,Carries knd vs kvs∧ag.heap.DictOf knd s.heap.objs.size []∧
   ∀h',h'.DictOf knd s.heap.objs.size (merged [] kvs)→Heap.SameBut s.heap.objs.size ag.heap h'→Q s.heap.objs.size {ag with heap:=h',toks:=ag.toks+vs.length}) E
   {s with heap:=s.heap.push {cls:=.type "dict",data:=.dict #[]}}):
  ab (model prog w) A (subDict pairs) Q E s:=by
 unfold subDict;refine aa (lf (wpAny_alloc ?_));refine aa (aj ?_);rw [if_pos hlen];refine sq (pC h) fun vs ag k=>?_
 obtain⟨hvl,kvs,hc,hm,hQ⟩:=k
 have hsz:([]:List (K×Value)).length+kvs.length≤sizeLine:=by
  have e:=hc.length
  rw [sizeLine_eq,List.length_nil];lia
 exact aj (aa (lf (wpAny_storeAll (knd:=knd) vs kvs [] ag _ hc hm hsz fun h' Ll qj=>af (af (hQ h' Ll qj)))))
theorem lM{K:Type} [DecidableEq K]{knd:KeyKind prog w K}{keys:List (Option Expr)}{values:List Expr}{pos:Pos}{pairs:List (Sem Value×Sem Value)}{Q:Value→Shared→Prop}
  (hshape:(evalEachOpt keys env).zip ((evalEach values env).map fun v=>do let x←v;standAt pos;pure x)=pairs.map fun p=>(some p.1,p.2))(h0:pairs≠[])(hlen:pairs.length≤15)
  (h:ab (model prog w) A (evalPairs pairs) (fun vs ag=>∃kvs,Carries knd vs kvs∧ag.heap.DictOf knd s.heap.objs.size []∧
   ∀h',h'.DictOf knd s.heap.objs.size (merged [] kvs)→Heap.SameBut s.heap.objs.size ag.heap h'→Q (.ref s.heap.objs.size) {ag with heap:=h',toks:=ag.toks+vs.length}) E
   {s with heap:=s.heap.push {cls:=.type "dict",data:=.dict #[]}}):
  ab (model prog w) A (eval (.Dict keys values pos) env) Q E s:=by
 rw [arm_eval_Dict,hshape,dictDisplay_pairs pairs h0 (by lia)]
 refine aa (au (aa (o7 (knd:=knd) hlen (aG h (fun vs ag k=>?_) fun Y Y e=>e))))
 refine lI (k:) fun kvs hc hm hq=>?_
 exact⟨kvs,hc,hm,fun h' a b=>af (hq h' a b)⟩
def compPost(M:Model)(A:Around)(E:Value→Shared→Prop)(use:Option (Value→Sem Unit))(Q:Value→Shared→Prop)(acc:Value)(C:Addr)(r:Result)(s':Shared):Prop:=
 match r,use with
 |.ok _,none=>∃m,s'.heap.Ns C m∧∀h',Heap.SameBut C s'.heap h'→Q acc {s' with heap:=h'}
 |.ok _,some u=>ab M A (u acc) (fun Y gJ=>∃m,gJ.heap.Ns C m∧∀h',Heap.SameBut C gJ.heap h'→Q .none {gJ with heap:=h'}) E s'
 |.error x,_=>∃m,s'.heap.Ns C m∧∀h',Heap.SameBut C s'.heap h'→∀cenv:PySem.Env,cenv.locals=C→ab M A (passOn "comprehension.variables-let-go" x cenv:Sem Value) (fun Y Y=>False) E {s' with heap:=h'}
theorem o8{M:Model}{α:Type}{c:Prop} [Decidable c]{pos:Pos}{k:PUnit→Sem α}{Q:α→Shared→Prop}(h:ab M A (k ()) Q E s):
  ab M A (if c then(standAt pos>>=k)else k ()) Q E s:=by
 split
 ·exact aa (au h)
 ·exact h
theorem gW{M:Model}{e:Expr}{scope:Scope}{pos:Pos}{Cy first:Sem Value}{g:Comprehension}{gs:List Comprehension}{cl:List (Str×Addr)}{use:Option (Value→Sem Unit)}
  {Q:Value→Shared→Prop}
  (hcl:clausesOf e=g::gs)(hs:∀x,foldedSetIterable g.iter env x=pure x)(hclos:closureFor scope env=pure cl)
  (hkind:scope.kind=.function)(hnames:∀x∈scope.names,x.2=.local→scope.names.lookup x.1=some .local)
  (h:ab M A first (fun x ag=>ab M A (pyIter x) (fun it aK=>ab M A Cy (fun acc bM=>
   ab M A (newFunctionEnv scope env.globals cl [] env.qual none .none (some env)) (fun cenv kQ=>
    ba M A (.compStart e 0 it acc {cenv with scope:=relabel scope env}) (compPost M A E use Q acc cenv.locals) kQ) E bM) E aK) E ag) E s):
  ab M A (comprehension e scope env pos Cy false first use) Q E s:=by
 unfold comprehension;rw [hclos,hcl];refine sq h fun x ag h₁=>aa (au (aa (aV (hs x) (sq (aj h₁) fun it aK br=>
  o8 (sq br fun acc bM dP=>aa (af (sq dP fun cenv kQ iH=>?_)))))))
 dsimp only
 have hv:∀x∈(scope.names.filter fun x=>(x.2==.local||x.2==.cell)&&x.1 !=(".0":Str)).reverse,x.2=.local→
   PySem.Env.kindOf {cenv with scope:=relabel scope env} x.1=some .local:=fun x hx hl=>lookup_relabel_local (hnames x (List.mem_filter.mp (List.mem_reverse.mp hx)).1 hl)
 have WK:∀x∈(scope.names.filter fun x=>(x.2==.local||x.2==.cell)&&x.1 !=(".0":Str)).reverse.drop 1++(scope.names.filter fun x=>(x.2==.local||x.2==.cell)&&x.1 !=(".0":Str)).reverse.take 1,
   x.2=.local→PySem.Env.kindOf {cenv with scope:=relabel scope env} x.1=some .local:=fun x hx hl=>by
  rcases List.mem_append.mp hx with h1|h1
  ·exact hv x (List.mem_of_mem_drop h1) hl
  ·exact hv x (List.mem_of_mem_take h1) hl
 refine aj (aa (jX (aj (pL (fV iH fun r s' hr=>?_)))))
 cases r with
 |ok f=>
  cases use with
  |none=>
   refine aC (hr:) fun m hn hr=>?_
   exact aa (aj (lf (wpAny_comp_letGo (cenv:={cenv with scope:=relabel scope env}) hkind _ s' m hv hn fun h' m' Y qj=>af (hr h' qj))))
  |some u=>
   refine aa (dj (sq (aj hr) fun Y gJ k=>?_))
   refine aC (k:) fun m hn k=>?_
   exact aa (lf (wpAny_comp_letGo (cenv:={cenv with scope:=relabel scope env}) hkind _ gJ m WK hn fun h' m' Y qj=>af (k h' qj)))
 |error x=>
  have Sr:∃m,s'.heap.Ns cenv.locals m∧∀h',Heap.SameBut cenv.locals s'.heap h'→∀Jk:PySem.Env,Jk.locals=cenv.locals→ab M A (passOn "comprehension.variables-let-go" x Jk:Sem Value) (fun Y Y=>False) E {s' with heap:=h'}:=by cases use<;>exact hr
  refine aC (Sr:) fun m hn hr=>?_
  exact aa (aj (lf (wpAny_comp_letGo (cenv:={cenv with scope:=relabel scope env}) hkind _ s' m hv hn fun h' m' Y qj=>aG (hr h' qj _ rfl) (fun Y Y f=>f.elim) fun Y Y y=>y)))
def GI(M:Model)(A:Around)(R:Result→Shared→Prop)(fin:Fin)(s':Shared):Prop:=
 match fin with|.done f=>R (.ok f) s'|.again c'=>c'.quiet=true∧ba M A c' R s'
theorem fH{id:String}{args:Args}{b:Builtin}(hb:entryFor table id=some b)
  (h:ab (model prog w) (A.under (.builtin id args)) (b args) (GI (model prog w) A R) (fun e s'=>R (.error e) s') s)(hn:iD id=true:=by decide+kernel):
  ba (model prog w) A (.builtin id args) R s:=by
 refine bk ?_ hn
 show ab _ _ (match entryFor table id with|some b=>b args|none=>unsupported ((withoutEnding? id "#data").getD id)) _ _ s
 rw [hb];exact h
theorem eH{id:String}{args:Args}{b:Builtin}(hq:(Code.builtin id args).quiet=true)(hb:entryFor table id=some b)
  (h:ab (model prog w) A.in1 (checkBuiltinCall id args) (fun Y ag=>ab (model prog w) (A.under (.builtin id args)) (b args) (GI (model prog w) A R) (fun e s'=>R (.error e) s') ag)
   (fun e s'=>R (.error e) s') s)(hn:iD id=true:=by decide+kernel):ba (model prog w) A (.call (.builtin id) args) R s:=by
 refine bk ?_
 show ab _ A.in1 (checkBuiltinCall id args>>=fun Y=>pure (Fin.again (.builtin id args))) _ _ s
 exact sq h fun Y ag k=>af (And.intro hq (fH hb k hn))
theorem fq{id:String}{args:Args}{b:Builtin}(hq:plainId id=true)(hb:entryFor table id=some b)
  (h:ab (model prog w) A.in1 (checkBuiltinCall id args) (fun Y ag=>ab (model prog w) A.in1 (b args) (GI (model prog w) A R) (fun e s'=>R (.error e) s') ag)
   (fun e s'=>R (.error e) s') s)(hn:iD id=true:=by decide+kernel):ba (model prog w) A (.call (.builtin id) args) R s:=
 eH (plainId_quiet hq args) hb (by rw [Around.under_plainId hq args];exact h) hn
theorem cf{T:String}{name:Str}
  {id:String}{b:Builtin}{self:Value}{rest:List Value}{Q:Value→Shared→Prop}(h:Slot T name id)(hT:s.TypeIs self T)
  (hb:entryFor table id=some b)
  (hc:ab (model prog w) A.in1 (b ⟨self::rest,[]⟩) (fun fin s'=>∃v,fin=.done (.ret v)∧Q v s') E s)
  (ha:argsOk id ⟨self::rest,[]⟩:=by rfl)(hn:iD id=true:=by decide+kernel):
  ab (model prog w) A (call (.builtin id) (self::rest)) Q E s:=by
 refine dA (fq h.plain hb (lf (h.check _ _ _ _ _ _ _ _ hT ha (aG hc (fun fin s' k=>?_) fun Y Y k=>k))) hn)
 obtain⟨v,rfl,hv⟩:=k;exact hv
theorem y4{C:Addr}{h:Heap}{g:_}{d:_}{t:Tok}{os:_}{rest:List Value}{kw:List (Str×Value)}{init:Value}(Y1:Makes (model prog w) h C)(hi:Looks (model prog w) h (typeLookup (.ref C) "__init__") (some init))
  (hb:∀self,Looks (model prog w) h (bindSpecial init self) (init,[self]))(hne:(some init !=some (Value.builtin "object.__init__"))=true∨(rest=[]∧kw=[]))
  (hq:ba (model prog w) (A.under (.builtin "type.__call__" ⟨.ref C::rest,kw⟩)) (.call init ⟨.ref (h.objs.size+1)::rest,kw⟩) (InitBack (h.objs.size+1) R) ⟨(h.push emptyDict).push (instObj C h.objs.size),g,d,t,os⟩):
  ba (model prog w) A (.call (.ref C) ⟨rest,kw⟩) R ⟨h,g,d,t,os⟩:=by
 have Y':=Y1
 obtain⟨⟨oc,od,cd,sl,hC,e1,e2,e4⟩,made,base,self,top,PU,typ⟩:=Y1
 refine bk ?_
 show ab _ _ (callAny (.ref C) _) _ _ _;refine aa (m:=load C) (lf (wpAny_load hC ?_))
 show ab _ _ (callAny.viaDunder (.ref C) _) _ _ _;unfold callAny.viaDunder;refine aa (lf (PU.at ?_))
 dsimp only
 rw [tc_bind];refine aa (af (aa (af ?_)));refine af (a:=Fin.again (.call (.builtin "type.__call__") ⟨.ref C::rest,kw⟩)) (And.intro rfl ?_)
 refine eH (Code.quiet_builtin _ (by decide+kernel)) entry_typeCall (lf (check_slot tc_kind tc_split typ (tc_args _ _ _) ?_))
 have hm:Looks (model prog w) h (mroOf (.ref C)) cd.mro:=((Looks.ld (part:=none) hC).andThen .now).andThen .now
 show ab _ _ (mroOf (.ref C)>>=fun m=>_) _ _ _
 refine aa (lf (hm.at ?_))
 rw [e4];show ab _ _ (Bind.madeBy (.ref C)>>=fun m=>_) _ _ _
 refine aa (lf (made.at ?_))
 refine aa (af (aa (aj ?_)))
 refine lf (PySem.wpAny_call (new_K Y' hi hne ?_))
 have k:∀b o,h.get? b=some o→((h.push emptyDict).push (instObj C h.objs.size)).get? b=some o:=fun b o e=>Heap.get?_push_of_some _ (Heap.get?_push_of_some _ e)
 have hx:((h.push emptyDict).push (instObj C h.objs.size)).get? (h.objs.size+1)=some (instObj C h.objs.size):=by heap_get
 have t1:Looks (model prog w) ((h.push emptyDict).push (instObj C h.objs.size)) (typeOf (.ref (h.objs.size+1))) (.ref C):=(Looks.ld hx).andThen .now
 have s1:=self.keeps k
 have i1:=hi.keeps k
 have b1:=(hb (.ref (h.objs.size+1))).keeps k
 show ab _ _ (isInstance (.ref (h.objs.size+1)) (.ref C)>>=fun m=>_) _ _ _
 refine aa (lf ((t1.andThen s1:Looks _ _ (isInstance (.ref (h.objs.size+1)) (.ref C)) true).at ?_))
 simp only[Bool.not_true,Bool.false_eq_true,if_false]
 refine aa (aj ?_)
 unfold callSpecial?;refine aa (lf ((t1.andThen i1:Looks _ _ (specialOf (.ref (h.objs.size+1)) "__init__") (some init)).at ?_));refine aj (aa (lf (b1.at ?_)));refine aa (dA (fV hq fun r s' z=>?_))
 rcases r with e|(v|_|_|_)<;>first|exact z|exact z.elim|skip
 obtain⟨rfl,z⟩:=z
 exact af (af z)
end
end
end Mine.Internal
namespace Mine.Internal
open PySem PySem.W PyProof.Rows PySem.SeqAt
noncomputable section
variable{A:Around}{E Q:Value→Shared→Prop}{M M' Z:Addr→Prop}{b r:Bool}{d i j k kind n:Nat}{es:List DictEntry}{h h':Heap}{hi:Option Int}{o:Obj}{pos:Pos}{ras vs:List Value}{rv:Value}{st:Shared}{tg:List Nat}{value x x1:Expr}{xs:List Expr}{α β:Type}{ν:Nat→Int}{J σ':List Addr}
inductive IE where
 |c (i:Int)|v (k:Nat)
 |add (a b:IE)|sub (a b:IE)|mul (a b:IE)|div (a b:IE)|mod (a b:IE)
 |tab (l:List Int) (a:IE)
 deriving Inhabited
noncomputable def IE.eval(ν:Nat→Int):IE→Int
 |.c i=>i
 |.v k=>ν k
 |.add a b=>a.eval ν+b.eval ν
 |.sub a b=>a.eval ν - b.eval ν
 |.mul a b=>a.eval ν*b.eval ν
 |.div a b=>Int.fdiv (a.eval ν) (b.eval ν)
 |.mod a b=>Int.fmod (a.eval ν) (b.eval ν)
 |.tab l a=>l.getD (a.eval ν).toNat 0
inductive AV where
 |none
 |bool (b:Bool)
 |int (e:IE)
 |str (s:List Nat)
 |bytes (b:List IE)
 |t (l:List AV)
 |eD (l:List (List Nat×AV))
 |ref (i:Nat)
 |fn (k:Nat)
 |cls (k:Nat)
 |bi (k:Nat)
 |vd (k:Nat) (bR:List AV)
 |xM (a b:Int)
 |mC (i:Nat)
 deriving Inhabited
variable{a v:AV}{as l:List AV}
inductive AO where
 |list (l:List AV)
 |inst (c d:Nat)
 |ns (l:List (Nat×AV))
 |cu (b:List IE)
 deriving Inhabited
inductive Op where
 |add|sub|mul|div|mod|pow
 deriving Inhabited
inductive Cm where
 |eq|ne|lt|le|gt|ge|is|tZ|oX|Cw
 deriving Inhabited
inductive CE where
 |n (x:Nat)
 |val (v:AV)
 |t (es:List CE)
 |list (es:List CE)
 |eD (ks:List (List Nat)) (es:List CE)
 |bin (op:Op) (a b:CE)
 |cmp (op:Cm) (a b:CE)
 |chain (op:Cm) (a b:CE) (jS:Cm) (c:CE)
 |and (es:List CE)
 |or (es:List CE)
 |not (a:CE)
 |neg (a:CE)
 |ite (t a b:CE)
 |attr (o:CE) (n:Nat)
 |idx (o i:CE)
 |iB (o:CE) (lo hi:Option CE)
 |rev (o:CE)
 |call (f:CE) (as:List CE)
 |bG (o:CE) (n:Nat) (as:List CE)
 |comp (elt:CE) (tg:List Nat) (flat:Bool) (it:CE) (ifs:List CE)
 |gH (elt:CE) (tg:List Nat) (flat:Bool) (ifs:List CE) (src:AV) (k:Nat) (acc:List AV)
 |lam (k:Nat) (bR:List Nat)
 |eW (x:Nat)
 |bad (n:Nat)
 deriving Inhabited
variable{e:CE}
inductive CS where
 |b8 (x:Nat) (e:CE)
 |cP (xs:List Nat) (e:CE)
 |aT (o:CE) (n:Nat) (e:CE)
 |jW (o i:CE) (e:CE)
 |i0 (o lo hi:CE) (e:CE)
 |iS (o i:CE) (x:Nat) (e:CE)
 |ex (e:CE)
 |ret (e:CE)
 |ite (t:CE) (a b:List CS)
 |for (tg:List Nat) (flat:Bool) (kind:Nat) (it:CE) (b:List CS)
 |gZ (tg:List Nat) (flat:Bool) (kind:Nat) (src:AV) (k:Nat) (b:List CS)
 |while (t:CE) (b:List CS)
 |try (b:List CS)
 |pass
 |bad (n:Nat)
 deriving Inhabited
inductive aE(α:Type)where
 |nil
 |node (v:Option α) (l r:aE α)
 deriving Inhabited
namespace aE
noncomputable def get(t:aE α):Nat→Option α:=
 aE.rec (motive:=fun Y=>Nat→Option α) (fun Y=>.none) (fun v Y Y gl gr i=>
  Nat.rec (motive:=fun Y=>Option α) v (fun Y Y=>Nat.rec (motive:=fun Y=>Option α) (gr (Nat.sub (Nat.div i 2) 1)) (fun Y Y=>gl (Nat.div i 2)) (Nat.mod i 2)) i) t
noncomputable def QD(f:aE α→Nat→α→aE α)(i:Nat)(o:α)(v:Option α)(l r:aE α):aE α:=
 Nat.rec (motive:=fun Y=>aE α) (.node (some o) l r) (fun Y Y=>Nat.rec (motive:=fun Y=>aE α) (.node v l (f r (Nat.sub (Nat.div i 2) 1) o)) (fun Y Y=>.node v (f l (Nat.div i 2) o) r) (Nat.mod i 2)) i
def put(n:Nat):aE α→Nat→α→aE α:=
 Nat.rec (motive:=fun Y=>aE α→Nat→α→aE α) (fun t Y Y=>t) (fun Y f t i o=>aE.rec (motive:=fun Y=>aE α) (QD f i o .none .nil .nil) (fun v l r Y Y=>QD f i o v l r) t) n
def ofList(l:List α):aE α:=(l.foldl (fun(p:aE α×Nat) o=>(put 40 p.1 p.2 o,p.2+1)) (.nil,0)).1
end aE
noncomputable def iy(a b:Int):Bool:=PySem.W.Z.eqB a b
noncomputable def iY(a b:Int):Bool:=PySem.W.Z.ltB a b
noncomputable def jM(a b:Int):Bool:=PySem.W.Z.leB a b
noncomputable def lEq:List Nat→List Nat→Bool
 |[],m=>(match m with|[]=>true|_::_=>false)
 |a::x,m=>match m with|[]=>false|b::y=>match Nat.beq a b with|true=>lEq x y|false=>false
abbrev Rg:=List (Int×Int)
variable{rg:Rg}
def mG(a b:Int):Int:=match jM a b with|true=>a|false=>b
def imax(a b:Int):Int:=match jM a b with|true=>b|false=>a
noncomputable def CR:List Int→Int→Int
 |[],m=>m
 |a::l,m=>CR l (mG a m)
noncomputable def CT:List Int→Int→Int
 |[],m=>m
 |a::l,m=>CT l (imax a m)
noncomputable def ck(b:Bool)(r:Option α):Option α:=match b with|true=>r|false=>none
noncomputable def fW(o:Option α)(g:α→Option β):Option β:=match o with|some a=>g a|none=>none
noncomputable def kc(l:List α)(g:α→List α→Option β):Option β:=match l with|a::r=>g a r|[]=>none
noncomputable def gM(e:IE):Option Int:=match e with|.c i=>some i|_=>none
noncomputable def EI(e:IE):Option Nat:=match e with|.v i=>some i|_=>none
noncomputable def mF:IE→IE
 |.c i=>.c i|.v k=>.v k|.add a _=>a|.sub a _=>a|.mul a _=>a|.div a _=>a|.mod a _=>a|.tab _ a=>a
noncomputable def rq:IE→IE
 |.c i=>.c i|.v k=>.v k|.add _ a=>a|.sub _ a=>a|.mul _ a=>a|.div _ a=>a|.mod _ a=>a|.tab _ a=>a
noncomputable def Il:IE→List Int
 |.c _=>[]|.v _=>[]|.add _ _=>[]|.sub _ _=>[]|.mul _ _=>[]|.div _ _=>[]|.mod _ _=>[]|.tab l _=>l
noncomputable def ME(e:IE)(k:Nat):Bool:=Nat.beq e.ctorIdx k
noncomputable def gc(rg:Rg):IE→Option (Int×Int)
 |.c i=>some (i,i)
 |.v k=>rg[k]?
 |.add a b=>fW (gc rg a) fun p=>fW (gc rg b) fun q=>some (p.1+q.1,p.2+q.2)
 |.sub a b=>fW (gc rg a) fun p=>fW (gc rg b) fun q=>some (p.1 - q.2,p.2 - q.1)
 |.mul a b=>fW (gc rg a) fun p=>fW (gM b) fun i=>ck (jM 0 i) (some (p.1*i,p.2*i))
 |.div a b=>fW (gc rg a) fun p=>fW (gM b) fun i=>ck (iY 0 i) (some (Int.fdiv p.1 i,Int.fdiv p.2 i))
 |.mod a b=>fW (gc rg a) fun Y=>fW (gM b) fun i=>ck (iY 0 i) (some (0,i - 1))
 |.tab l a=>fW (gc rg a) fun p=>ck (jM 0 p.1&&iY p.2 l.length) (kc ((l.take (p.2+1).toNat).drop p.1.toNat) fun x r=>some (CR r x,CT r x))
def l4(e:IE):Option (IE×Int):=ck (ME e 2) (fW (gM (rq e)) fun i=>some (mF e,i))
def uU(x:IE)(j:Int):IE:=match gM x with
 |some i=>.c (i+j)
 |none=>match l4 x with
  |some p=>(match iy (p.2+j) 0 with|true=>p.1|false=>.add p.1 (.c (p.2+j)))
  |none=>match iy j 0 with|true=>x|false=>.add x (.c j)
def Mo(x y:IE):IE:=match l4 x with
 |some p=>(match l4 y with|some q=>uU (.add p.1 q.1) (p.2+q.2)|none=>.add (.add p.1 y) (.c p.2))
 |none=>match l4 y with|some q=>.add (.add x q.1) (.c q.2)|none=>.add x y
def mkAdd(x y:IE):IE:=match gM y with
 |some j=>uU x j
 |none=>match gM x with|some i=>uU y i|none=>Mo x y
def mkSub(x y:IE):IE:=match gM y with
 |some j=>uU x (-j)
 |none=>.sub x y
def mulC(x:IE)(j:Int):IE:=match gM x with
 |some i=>.c (i*j)
 |none=>match iy j 0 with
  |true=>.c 0
  |false=>match iy j 1 with
   |true=>x
   |false=>match l4 x with
    |some p=>.add (.mul p.1 (.c j)) (.c (p.2*j))
    |none=>.mul x (.c j)
def mkMul(x y:IE):IE:=match gM y with
 |some j=>mulC x j
 |none=>match gM x with|some i=>mulC y i|none=>.mul x y
def both(x y:IE)(g:Int→Int→α)(d:α):α:=match gM x with
 |some i=>(match gM y with|some j=>g i j|none=>d)
 |none=>d
def IK(x y:IE):IE:=both x y (fun i j=>.c (Int.fdiv i j)) (.div x y)
noncomputable def oI(m:Int):IE→IE
 |.add a b=>mkAdd (oI m a) (oI m b)
 |.mul a b=>(match gM b with
  |some k=>(match iy (Int.emod k m) 0 with|true=>.c 0|false=>.mul a b)
  |none=>.mul a b)
 |.c i=>.c (Int.emod i m)
 |.v k=>.v k
 |.sub a b=>.sub a b
 |.div a b=>.div a b
 |.mod a b=>.mod a b
 |.tab l a=>.tab l a
def B5(rg:Rg)(m:Int)(x y:IE):IE:=match gc rg y with
 |some p=>(match iY (p.2 - Int.fdiv p.1 m*m) m with
  |true=>uU y (-(Int.fdiv p.1 m*m))
  |false=>.mod x (.c m))
 |none=>.mod x (.c m)
def IJ(rg:Rg)(x y:IE):IE:=both x y (fun i j=>.c (Int.fmod i j)) (match gM y with
 |some m=>(match iY 0 m with
  |true=>B5 rg m x (oI m x)
  |false=>.mod x (.c m))
 |none=>.mod x y)
structure AS where
 hp:aE AO
 n:Nat
 rg:Rg
 deriving Inhabited
variable{s s':AS}
inductive aH(α:Type)where
 |ok (a:α)
 |fork (k:Nat) (a b:IE) (t f:aH α)
 |bad (n:Nat)
 deriving Inhabited
namespace aH
noncomputable def bind(r:aH α)(g:α→aH β):aH β:=
 aH.rec (motive:=fun Y=>aH β) (fun a=>g a) (fun k a b Y Y ht hf=>.fork k a b ht hf) (fun n=>.bad n) r
end aH
noncomputable def fw:Rg→Nat→Int×Int→Rg
 |[],_,_=>[]
 |x::r,k,y=>match Nat.beq k 0 with
  |true=>y::r
  |false=>x::fw r (k - 1) y
def pO(x:IE):Option (Nat×Int):=match EI x with
 |some k=>some (k,0)
 |none=>fW (l4 x) fun p=>fW (EI p.1) fun k=>some (k,p.2)
def dX(kind:Nat)(i j:Int):Bool:=match kind with
 |0=>iy i j
 |1=>iY i j
 |_=>jM i j
noncomputable def pick(sw b:Bool)(r1 r2 r3 r4:Rg):Rg:=match sw with
 |false=>(match b with|true=>r1|false=>r2)
 |true=>match b with|true=>r3|false=>r4
def mS(rg:Rg)(kind:Nat)(sw:Bool)(k:Nat)(m:Int)(b:Bool):Rg:=
 match rg[k]? with
 |none=>rg
 |some p=>match kind with
  |0=>(match b with
   |true=>fw rg k (imax p.1 m,mG p.2 m)
   |false=>match iy p.1 m with
    |true=>fw rg k (p.1+1,p.2)
    |false=>match iy p.2 m with
     |true=>fw rg k (p.1,p.2 - 1)
     |false=>rg)
  |1=>pick sw b (fw rg k (p.1,mG p.2 (m - 1))) (fw rg k (imax p.1 m,p.2)) (fw rg k (imax p.1 (m+1),p.2)) (fw rg k (p.1,mG p.2 m))
  |_=>pick sw b (fw rg k (p.1,mG p.2 m)) (fw rg k (imax p.1 (m+1),p.2)) (fw rg k (imax p.1 m,p.2)) (fw rg k (p.1,mG p.2 (m - 1)))
def narrow(rg:Rg)(kind:Nat)(x y:IE)(b:Bool):Rg:=match gM y with
 |some j=>(match pO x with
  |some p=>mS rg kind false p.1 (j - p.2) b
  |none=>rg)
 |none=>match gM x with
  |some j=>(match pO y with
   |some p=>mS rg kind true p.1 (j - p.2) b
   |none=>rg)
  |none=>rg
noncomputable def Gs:List Int→List Int→Bool
 |[],m=>(match m with|[]=>true|_::_=>false)
 |a::x,m=>match m with|[]=>false|b::y=>match iy a b with|true=>Gs x y|false=>false
def sM(k:Nat)(y:IE)(f g:IE→Bool):Bool:=match ME y k with
 |true=>(match f (mF y)with|true=>g (rq y)|false=>false)
 |false=>false
noncomputable def fR:IE→IE→Bool
 |.c i,y=>(match gM y with|some j=>iy i j|none=>false)
 |.v i,y=>(match EI y with|some j=>Nat.beq i j|none=>false)
 |.add a b,y=>sM 2 y (fun c=>fR a c) fun c=>fR b c
 |.sub a b,y=>sM 3 y (fun c=>fR a c) fun c=>fR b c
 |.mul a b,y=>sM 4 y (fun c=>fR a c) fun c=>fR b c
 |.div a b,y=>sM 5 y (fun c=>fR a c) fun c=>fR b c
 |.mod a b,y=>sM 6 y (fun c=>fR a c) fun c=>fR b c
 |.tab l a,y=>sM 7 y (fun c=>fR a c) fun Y=>Gs l (Il y)
def LQ(p q:Int×Int)(a b:IE):Option Bool:=match iY p.2 q.1||iY q.2 p.1 with
 |true=>some false
 |false=>match iy p.1 p.2&&(iy q.1 q.2&&iy p.1 q.1)with
  |true=>some true
  |false=>ck (fR a b) (some true)
def LP(p q:Int×Int):Option Bool:=match iY p.2 q.1 with
 |true=>some true
 |false=>ck (jM q.2 p.1) (some false)
def LO(p q:Int×Int):Option Bool:=match jM p.2 q.1 with
 |true=>some true
 |false=>ck (iY q.2 p.1) (some false)
def rR(rg:Rg)(kind:Nat)(a b:IE):Option Bool:=
 fW (gc rg a) fun p=>fW (gc rg b) fun q=>match kind with
  |0=>LQ p q a b
  |1=>LP p q
  |_=>LO p q
noncomputable def rA(m:Int):List Int→Bool
 |[]=>true
 |x::r=>match iy x m with|true=>false|false=>rA m r
def tabAt(rg:Rg)(a b:IE):Option (IE×IE):=ck (ME a 7) (fW (EI (mF a)) fun k=>fW (gM b) fun m=>fW rg[k]? fun p=>ck (jM 0 p.1&&iY p.2 (Il a).length) (kc (((Il a).take (p.2+1).toNat).drop p.1.toNat) fun x r=>
 ck (iy x m&&rA m r) (some (.v k,.c p.1))))
def BO(rg:Rg)(kind:Nat)(a b:IE):Option (IE×IE):=match kind with
 |0=>tabAt rg a b
 |_=>none
def yv(kind:Nat)(x y:IE)(s:AS):aH (Bool×AS):=.fork kind x y (.ok (true,{s with rg:=narrow s.rg kind x y true})) (.ok (false,{s with rg:=narrow s.rg kind x y false}))
def ask'(kind:Nat)(a b:IE)(s:AS):aH (Bool×AS):=match rR s.rg kind a b with
 |some r=>.ok (r,s)
 |none=>match BO s.rg kind a b with
  |some p=>yv 0 p.1 p.2 s
  |none=>yv kind a b s
def ask(kind:Nat)(a b:IE)(s:AS):aH (Bool×AS):=both a b (fun i j=>.ok (dX kind i j,s)) (ask' kind a b s)
noncomputable def oM:Nat→IE→AS→aH (Int×AS)
 |0,_,_=>.bad 1
 |n+1,e,s=>match gM e with
  |some i=>.ok (i,s)
  |none=>match gc s.rg e with
   |none=>.bad 2
   |some p=>match iy p.1 p.2 with
    |true=>.ok (p.1,s)
    |false=>(ask 0 e (.c p.1) s).bind fun(b,s)=>match b with
     |true=>.ok (p.1,s)
     |false=>oM n e s
abbrev Env:=List (Nat×AV)
variable{env:PySem.Env}{ρ:Env}
noncomputable def az:Env→Nat→Option AV
 |[],_=>none
 |p::r,x=>match Nat.beq p.1 x with|true=>some p.2|false=>az r x
noncomputable def bU:Env→Nat→AV→Env
 |[],x,v=>[(x,v)]
 |p::r,x,v=>match Nat.beq p.1 x with|true=>(x,v)::r|false=>p::bU r x v
noncomputable def jk:AV→Bool
 |.bi _=>false
 |.mC _=>false
 |_=>true
noncomputable def gA:List (Nat×Nat)→Nat→Option Nat
 |[],_=>none
 |p::r,x=>match Nat.beq p.1 x with|true=>some p.2|false=>gA r x
inductive Fl where
 |nx
 |rt (v:AV)
 deriving Inhabited
structure Fn where
 ps:List Nat
 df:List AV
 body:List CS
 deriving Inhabited
structure Pg where
 fs:aE Fn
 gB:aE (List Nat×List Nat×CE)
 cs:aE (Nat×List (Nat×Nat))
 gl:aE AV
 nf:Nat
 sm:Nat→List AV→AS→Option (aH (AV×AS))
 smd:Nat
variable{P:Pg}
structure Ih where
 ev:CE→Env→AS→aH (AV×AS)
 ts:CE→Env→AS→aH (Bool×AS)
 xs:List CS→Env→AS→aH (Fl×Env×AS)
 ca:AV→List AV→AS→aH (AV×AS)
variable{ih:Ih}
noncomputable def AS.get(s:AS)(i:Nat):Option AO:=s.hp.get i
noncomputable def AS.new(s:AS)(o:AO):Nat×AS:=(s.n,{s with hp:=aE.put 40 s.hp s.n o,n:=s.n+1})
noncomputable def AS.alloc(s:AS)(o:AO):aH (Nat×AS):=match Nat.blt s.n 1000000 with
 |true=>.ok (s.new o)
 |false=>.bad 95
noncomputable def AS.upd(s:AS)(i:Nat)(o:AO):AS:={s with hp:=aE.put 40 s.hp i o}
structure oZ where
 append:Nat
 extend:Nat
 pop:Nat
 split:Nat
 find:Nat
 join:Nat
 get:Nat
 init:Nat
variable{N:oZ}
noncomputable def jN(n:Nat)(r:aH α):aH α:=match Nat.ble n 100000 with
 |true=>r
 |false=>.bad 96
def newList(s:AS)(l:List AV):aH (AV×AS):=jN l.length<|(s.alloc (.list l)).bind fun(i,s)=>.ok (.ref i,s)
noncomputable def listOf(s:AS):AV→Option (List AV)
 |.ref i=>match s.get i with
  |some (.list l)=>some l
  |_=>none
 |_=>none
noncomputable def instOf(s:AS):AV→Option (Nat×Nat×List (Nat×AV))
 |.ref i=>match s.get i with
  |some (.inst c d)=>match s.get d with
   |some (.ns l)=>some (c,d,l)
   |_=>none
  |_=>none
 |_=>none
noncomputable def rW(s:AS):AV→Option (List IE)
 |.ref i=>match s.get i with
  |some (.cu b)=>some b
  |_=>none
 |_=>none
abbrev RV:=aH (AV×AS)
section
noncomputable def one(as:List AV)(g:AV→aH β):aH β:=match as with
 |[a]=>g a
 |_=>.bad 30
noncomputable def two(as:List AV)(g:AV→AV→aH β):aH β:=match as with
 |[a,b]=>g a b
 |_=>.bad 30
noncomputable def cU(a:AV)(g:IE→aH β):aH β:=match a with
 |.int e=>g e
 |_=>.bad 30
noncomputable def onStr(a:AV)(g:List Nat→aH β):aH β:=match a with
 |.str x=>g x
 |_=>.bad 42
noncomputable def FY(a:AV)(g:List IE→aH β):aH β:=match a with
 |.bytes x=>g x
 |_=>.bad 42
noncomputable def qc(a:AV)(g:List AV→aH β):aH β:=match a with
 |.t x=>g x
 |_=>.bad 42
noncomputable def AP(s:AS)(a:AV)(gl:List AV→aH β)(gb:List IE→aH β):aH β:=match a with
 |.ref i=>match s.get i with
  |some (.list l)=>gl l
  |some (.cu l)=>gb l
  |_=>.bad 21
 |_=>.bad 30
def kE(s:AS)(a:AV)(g:List AV→aH β):aH β:=match listOf s a with
 |some l=>g l
 |none=>.bad 45
noncomputable def iff(b:Bool)(r r':aH β):aH β:=match b with
 |true=>r
 |false=>r'
noncomputable def gd(b:Bool)(r:aH β):aH β:=match b with
 |true=>r
 |false=>.bad 12
noncomputable def bQ(o:Option α)(g:α→aH β):aH β:=match o with
 |some a=>g a
 |none=>.bad 44
end
noncomputable def clamp(n:Nat)(i:Int):Nat:=match i with
 |.ofNat k=>Nat.min k n
 |.negSucc k=>n - (k+1)
noncomputable def cut(l:List α)(lo hi:Nat):List α:=(l.take hi).drop lo
noncomputable def index(n:Nat)(i:Int):Option Nat:=match i with
 |.ofNat k=>match Nat.blt k n with|true=>some k|false=>none
 |.negSucc k=>match Nat.ble (k+1) n with|true=>some (n - (k+1))|false=>none
noncomputable def strLt:List Nat→List Nat→Bool
 |[],[]=>false
 |[],_::_=>true
 |_::_,[]=>false
 |a::x,b::y=>match Nat.blt a b with
  |true=>true
  |false=>match Nat.beq a b with
   |true=>strLt x y
   |false=>false
noncomputable def gz(c:Nat):List Nat→Bool
 |[]=>false
 |b::y=>match Nat.beq b c with|true=>true|false=>gz c y
noncomputable def rP:List IE→List IE→AS→aH (Bool×AS)
 |[],m,s=>(match m with|[]=>.ok (true,s)|_::_=>.ok (false,s))
 |a::x,m,s=>match m with
  |[]=>.ok (false,s)
  |b::y=>(ask 0 a b s).bind fun(r,s)=>match r with
   |true=>rP x y s
   |false=>.ok (false,s)
def eqB(a b:AV)(s:AS):aH (Bool×AS):=match a with
 |.int x=>cU b fun y=>ask 0 x y s
 |.str x=>onStr b fun y=>.ok (lEq x y,s)
 |.bytes x=>FY b fun y=>rP x y s
 |_=>.bad 3
noncomputable def DN:List AV→List AV→AS→aH (Bool×AS)
 |[],m,s=>(match m with|[]=>.ok (true,s)|_::_=>.ok (false,s))
 |a::x,m,s=>match m with
  |[]=>.ok (false,s)
  |b::y=>(eqB a b s).bind fun(r,s)=>(DN x y s).bind fun(r',s)=>.ok (r&&r',s)
def Je(x y:List AV)(s:AS):aH (Bool×AS):=iff (Nat.beq x.length y.length) (DN x y s) (.ok (false,s))
def Tc(a b:AV)(s:AS):aH (Bool×AS):=match a with
 |.t x=>qc b fun y=>DN x y s
 |.ref i=>kE s (.ref i) fun x=>kE s b fun y=>Je x y s
 |a=>eqB a b s
noncomputable def qK(a:AV):List AV→AS→aH (Bool×AS)
 |[],s=>.ok (false,s)
 |b::y,s=>(eqB b a s).bind fun(r,s)=>(qK a y s).bind fun(r',s)=>.ok (r||r',s)
noncomputable def Ew(a:IE):List IE→AS→aH (Bool×AS)
 |[],s=>.ok (false,s)
 |b::y,s=>(ask 0 a b s).bind fun(r,s)=>match r with
  |true=>.ok (true,s)
  |false=>Ew a y s
noncomputable def gG:List (List Nat×AV)→List Nat→Option AV
 |[],_=>none
 |p::r,k=>match lEq p.1 k with|true=>some p.2|false=>gG r k
noncomputable def F7(r:aH (Bool×AS))(neg:Bool):aH (AV×AS):=r.bind fun(b,s)=>.ok (.bool (b !=neg),s)
def UD(x:IE)(y:List IE)(s:AS):aH (Bool×AS):=bQ (gc s.rg x) fun p=>gd (jM 0 p.1&&iY p.2 256) (Ew x y s)
def UC(x y:List Nat)(s:AS):aH (Bool×AS):=gd (Nat.beq x.length 1) (.ok (gz (x.headD 0) y,s))
def isIn(a b:AV)(s:AS):aH (Bool×AS):=match b with
 |.t l=>qK a l s
 |.ref i=>kE s (.ref i) fun l=>qK a l s
 |.str y=>onStr a fun x=>UC x y s
 |.bytes y=>cU a fun x=>UD x y s
 |.eD l=>onStr a fun x=>.ok ((gG l x).isSome,s)
 |_=>.bad 7
noncomputable def isNone(a b:AV)(s:AS):aH (Bool×AS):=match b with
 |.none=>(match a with
  |.none=>.ok (true,s)
  |.bool _=>.ok (false,s)
  |.int _=>.ok (false,s)
  |.str _=>.ok (false,s)
  |.t _=>.ok (false,s)
  |.ref _=>.ok (false,s)
  |_=>.bad 8)
 |_=>.bad 8
def Jj(a b:AV)(s:AS):aH (Bool×AS):=match a with
 |.int x=>cU b fun y=>ask 2 x y s
 |.str x=>onStr b fun y=>.ok (!strLt y x,s)
 |_=>.bad 9
def compare(op:Cm)(a b:AV)(s:AS):aH (Bool×AS):=match op with
 |.eq=>Tc a b s
 |.ne=>(Tc a b s).bind fun(r,s)=>.ok (!r,s)
 |.is=>isNone a b s
 |.tZ=>(isNone a b s).bind fun(r,s)=>.ok (!r,s)
 |.oX=>isIn a b s
 |.Cw=>(isIn a b s).bind fun(r,s)=>.ok (!r,s)
 |.lt=>cU a fun x=>cU b fun y=>ask 1 x y s
 |.le=>Jj a b s
 |.gt=>cU a fun x=>cU b fun y=>ask 1 y x s
 |.ge=>cU a fun x=>cU b fun y=>ask 2 y x s
noncomputable def mP(l:List α):Nat→List α
 |0=>[]
 |n+1=>l++mP l n
def fj(rg:Rg)(e:IE):Bool:=match gc rg e with
 |some p=>iY (-18446744073709551616) p.1&&iY p.2 18446744073709551616
 |none=>false
def mid(rg:Rg)(e:IE):Bool:=match gc rg e with
 |some p=>iY (-(2^8192:Nat)) p.1&&iY p.2 (2^8192:Nat)
 |none=>false
def QG(e:IE)(g:Int→RV):RV:=bQ (gM e) g
def RH(i j:Int)(s:AS):RV:=match j with
 |.ofNat n=>gd (Nat.ble n 200&&fj s.rg (.c i)) (.ok (.int (.c (i^n)),s))
 |.negSucc _=>.bad 11
def Iz(op:Op)(x y:IE)(s:AS):RV:=match op with
 |.add=>.ok (.int (mkAdd x y),s)
 |.sub=>.ok (.int (mkSub x y),s)
 |.mul=>gd (fj s.rg y||(fj s.rg x||(mid s.rg x&&mid s.rg y))) (.ok (.int (mkMul x y),s))
 |.div=>QG y fun j=>gd (iY 0 j&&iY j 1073741824) (.ok (.int (IK x (.c j)),s))
 |.mod=>QG y fun j=>gd (iY 0 j) (.ok (.int (IJ s.rg x (.c j)),s))
 |.pow=>QG x fun i=>QG y fun j=>RH i j s
def P2(x:List IE)(y:IE)(s:AS):RV:=(oM 40 y s).bind fun(n,s)=>gd (Nat.ble 1 x.length&&(Nat.ble x.length 16&&(jM (-100000) n&&jM n 100000))) (.ok (.bytes (mP x n.toNat),s))
def RK(op:Op)(x:List IE)(b:AV)(s:AS):RV:=match op with
 |.add=>FY b fun y=>jN (x.length+y.length) (.ok (.bytes (x++y),s))
 |.mul=>cU b fun y=>P2 x y s
 |_=>.bad 11
noncomputable def Cj(op:Op)(r:RV):RV:=match op with
 |.add=>r
 |_=>.bad 11
def binop(op:Op)(a b:AV)(s:AS):RV:=match a with
 |.int x=>cU b fun y=>Iz op x y s
 |.bytes x=>RK op x b s
 |.t x=>Cj op (qc b fun y=>jN (x.length+y.length) (.ok (.t (x++y),s)))
 |.ref i=>Cj op (kE s (.ref i) fun x=>kE s b fun y=>newList s (x++y))
 |_=>.bad 11
def getIdx(l:List α)(i:IE)(s:AS):aH (α×AS):=jN l.length<|(oM 40 i s).bind fun(i,s)=>bQ (index l.length i) fun k=>bQ l[k]? fun x=>.ok (x,s)
noncomputable def constsOf:List IE→Option (List Int)
 |[]=>some []
 |a::r=>fW (gM a) fun i=>(constsOf r).map (i::·)
def C4(l:List IE)(i:IE)(s:AS):RV:=(getIdx l i s).bind fun(x,s)=>.ok (.int x,s)
def tY(l:List IE)(i:IE)(s:AS):Option RV:=match gM i with
 |some _=>none
 |none=>fW (gc s.rg i) fun p=>fW (constsOf l) fun vs=>ck (iY p.1 p.2&&(jM 0 p.1&&iY p.2 l.length)) (some (jN l.length (.ok (.int (.tab vs i),s))))
def item(o i:AV)(s:AS):RV:=match o with
 |.t l=>cU i fun i=>getIdx l i s
 |.str l=>cU i fun i=>(getIdx l i s).bind fun(x,s)=>.ok (.str [x],s)
 |.bytes l=>cU i fun i=>(match tY l i s with|some r=>r|none=>C4 l i s)
 |.eD l=>onStr i fun k=>bQ (gG l k) fun v=>.ok (v,s)
 |.ref r=>cU i fun i=>kE s (.ref r) fun l=>getIdx l i s
 |_=>.bad 17
def bound(d:Nat)(n:Nat)(o:Option AV)(s:AS):aH (Nat×AS):=match o with
 |none=>.ok (d,s)
 |some v=>cU v fun e=>(oM 40 e s).bind fun(i,s)=>.ok (clamp n i,s)
def sliceOf(l:List α)(lo hi:Option AV)(s:AS):aH (List α×AS):=
 jN l.length<|(bound 0 l.length lo s).bind fun(a,s)=>(bound l.length l.length hi s).bind fun(b,s)=>.ok (cut l a b,s)
def rk(o:AV)(lo hi:Option AV)(s:AS):RV:=AP s o (fun l=>(sliceOf l lo hi s).bind fun(x,s)=>newList s x) fun l=>(sliceOf l lo hi s).bind fun(x,s)=>(s.alloc (.cu x)).bind fun(i,s)=>.ok (.ref i,s)
def slice(o:AV)(lo hi:Option AV)(s:AS):RV:=match o with
 |.t l=>(sliceOf l lo hi s).bind fun(x,s)=>.ok (.t x,s)
 |.str l=>(sliceOf l lo hi s).bind fun(x,s)=>.ok (.str x,s)
 |.bytes l=>(sliceOf l lo hi s).bind fun(x,s)=>.ok (.bytes x,s)
 |o=>rk o lo hi s
noncomputable def intOf(a:AV):Option IE:=match a with|.int e=>some e|_=>none
noncomputable def strOf(a:AV):Option (List Nat):=match a with|.str x=>some x|_=>none
noncomputable def L0(a:AV):Option (List IE):=match a with|.bytes x=>some x|_=>none
noncomputable def allOf(f:AV→Option α):List AV→Option (List α)
 |[]=>some []
 |a::r=>fW (f a) fun x=>fW (allOf f r) fun xs=>some (x::xs)
def xa(rg:Rg)(e:IE):Bool:=match gc rg e with
 |some p=>jM 0 p.1&&iY p.2 256
 |none=>false
noncomputable def Fj(a:IE):List IE→IE
 |[]=>a
 |e::r=>Fj (mkAdd a e) r
def tU(n:Nat)(s:AS):RV:=jN n (.ok (.int (.c n),s))
def U3(a:AV)(s:AS):RV:=match a with
 |.t l=>tU l.length s
 |.str l=>tU l.length s
 |.bytes l=>tU l.length s
 |a=>AP s a (fun l=>tU l.length s) fun l=>tU l.length s
def U2(a:AV)(s:AS):RV:=cU a fun a=>(oM 40 a s).bind fun(a,s)=>.ok (.xM 0 a,s)
def P0(a b:AV)(s:AS):RV:=cU a fun a=>cU b fun b=>(oM 40 a s).bind fun(a,s)=>(oM 40 b s).bind fun(b,s)=>.ok (.xM a b,s)
def UZ(a:AV)(s:AS):RV:=AP s a (fun l=>bQ (allOf intOf l) fun b=>gd (b.all (xa s.rg)) (jN l.length (.ok (.bytes b,s)))) fun b=>jN b.length (.ok (.bytes b,s))
def UY(a:AV)(s:AS):RV:=match a with
 |.bytes b=>jN b.length ((s.alloc (.cu b)).bind fun(i,s)=>.ok (.ref i,s))
 |_=>.bad 30
def UX(a:AV)(s:AS):RV:=AP s a (fun l=>newList s l) fun Y=>.bad 24
def UW(a:AV)(s:AS):RV:=match a with
 |.t l=>.ok (.t l,s)
 |a=>AP s a (fun l=>jN l.length (.ok (.t l,s))) fun Y=>.bad 25
def UU(a:AV)(s:AS):RV:=match a with
 |.eD l=>match l with
  |[]=>newList s []
  |_=>.bad 30
 |_=>.bad 30
def UT(a b:AV)(s:AS):RV:=cU a fun a=>cU b fun b=>(ask 1 a b s).bind fun(r,s)=>.ok (.int (match r with|true=>b|false=>a),s)
def PZ(a b:AV)(s:AS):RV:=cU a fun a=>cU b fun b=>(ask 1 b a s).bind fun(r,s)=>.ok (.int (match r with|true=>b|false=>a),s)
def PY(a:AV)(s:AS):RV:=cU a fun a=>(ask 1 a (.c 0) s).bind fun(r,s)=>.ok (.int (match r with|true=>mkSub (.c 0) a|false=>a),s)
def Mb(a:AV)(s:AS):RV:=match a with
 |.str l=>match l with
  |[d]=>match Nat.ble 48 d&&Nat.ble d 57 with
   |true=>.ok (.int (.c (.ofNat (d - 48))),s)
   |false=>.bad 26
  |_=>.bad 30
 |.bool b=>.ok (.int (.c (match b with|true=>1|false=>0)),s)
 |a=>cU a fun a=>.ok (.int a,s)
def PX(a:AV)(s:AS):RV:=AP s a (fun l=>bQ (allOf intOf l) fun es=>.ok (.int (Fj (.c 0) es),s)) fun Y=>.bad 28
noncomputable def Hk(a b:AV)(s:AS):RV:=match b with
 |.bi 5=>match a with
  |.t _=>.ok (.bool true,s)
  |.none=>.ok (.bool false,s)
  |.bool _=>.ok (.bool false,s)
  |.bytes _=>.ok (.bool false,s)
  |.str _=>.ok (.bool false,s)
  |_=>.bad 30
 |_=>.bad 30
def pJ(g:AV→AS→RV)(as:List AV)(s:AS):RV:=one as fun a=>g a s
def Hh(g:AV→AV→AS→RV)(as:List AV)(s:AS):RV:=two as fun a b=>g a b s
def yJ(g:AV→AS→RV)(g':AV→AV→AS→RV)(as:List AV)(s:AS):RV:=match as with
 |[a]=>g a s
 |as=>two as fun a b=>g' a b s
noncomputable def Hg(_:List AV)(_:AS):RV:=.bad 30
def UR:List (List AV→AS→RV):=[pJ U3,yJ U2 P0,pJ UZ,pJ UY,pJ UX,pJ UW,pJ UU,Hg,Hg,Hh UT,Hh PZ,pJ PY,pJ Mb,pJ PX,Hh Hk]
noncomputable def KO:List (List AV→AS→RV)→Nat→List AV→AS→RV
 |[],_=>Hg
 |f::r,k=>match k with
  |0=>f
  |k+1=>KO r k
def builtin(k:Nat)(as:List AV)(s:AS):RV:=KO UR k as s
def Kc(a b:Int)(k:Nat):aH (Option AV):=gd (jM (-1000000) a&&(jM a 1000000&&(jM (-1000000) b&&jM b 1000000))) (.ok (match iY (a+k) b with|true=>some (.int (.c (a+k)))|false=>none))
def Rn(s:AS)(src:AV)(k:Nat):aH (Option AV):=match src with
 |.t l=>.ok l[k]?
 |.bytes l=>.ok (l[k]?.map .int)
 |.str l=>.ok (l[k]?.map fun c=>.str [c])
 |.eD l=>(match l with|[]=>.ok none|_=>.bad 31)
 |.xM a b=>Kc a b k
 |.ref i=>kE s (.ref i) fun l=>.ok l[k]?
 |_=>.bad 31
def Rm(s:AS)(src:AV)(k:Nat):aH (Option AV):=match src with
 |.bytes l=>.ok (l[k]?.map fun v=>.t [.int (.c k),.int v])
 |a=>kE s a fun l=>.ok (l[k]?.map fun v=>.t [.int (.c k),v])
def xW(x y:Option AV):Option AV:=fW x fun x=>fW y fun y=>some (.t [x,y])
def Rl(s:AS)(src:AV)(k:Nat):aH (Option AV):=qc src fun l=>two l fun a b=>kE s a fun l=>kE s b fun m=>.ok (xW l[k]? m[k]?)
def iN(s:AS)(kind:Nat)(src:AV)(k:Nat):aH (Option AV):=match kind with
 |0=>Rn s src k
 |1=>Rm s src k
 |2=>Rl s src k
 |_=>.bad 34
def iu(tg:List Nat)(flat:Bool)(v:AV)(ρ:Env):Option Env:=match flat with
 |true=>(match tg with|[x]=>some (bU ρ x v)|_=>none)
 |false=>match v with
  |.t l=>ck (Nat.beq tg.length l.length) (some ((tg.zip l).foldl (fun ρ p=>bU ρ p.1 p.2) ρ))
  |_=>none
def bindArgs(ps:List Nat)(df:List AV)(as:List AV):Option Env:=
 ck (Nat.ble as.length ps.length&&Nat.ble ps.length (as.length+df.length)) (some (ps.zip (as++df.drop (as.length+df.length - ps.length))))
noncomputable def qw(ih:Ih):List CE→Env→AS→aH (List AV×AS)
 |[],_,s=>.ok ([],s)
 |e::r,ρ,s=>(ih.ev e ρ s).bind fun(v,s)=>(qw ih r ρ s).bind fun(vs,s)=>.ok (v::vs,s)
noncomputable def S8(ih:Ih):Option CE→Env→AS→aH (Option AV×AS)
 |none,_,s=>.ok (none,s)
 |some e,ρ,s=>(ih.ev e ρ s).bind fun(v,s)=>.ok (some v,s)
def truthy(v:AV)(s:AS):aH (Bool×AS):=match v with
 |.bool b=>.ok (b,s)
 |v=>kE s v fun l=>jN l.length (.ok (match l with|[]=>false|_=>true,s))
noncomputable def DI(ih:Ih):List CE→Env→AS→aH (AV×AS)
 |[],_,_=>.bad 37
 |[e],ρ,s=>ih.ev e ρ s
 |e::r,ρ,s=>(ih.ev e ρ s).bind fun(v,s)=>(truthy v s).bind fun(b,s)=>match b with
  |true=>DI ih r ρ s
  |false=>.ok (v,s)
noncomputable def LI(ih:Ih):List CE→Env→AS→aH (AV×AS)
 |[],_,_=>.bad 37
 |[e],ρ,s=>ih.ev e ρ s
 |e::r,ρ,s=>(ih.ev e ρ s).bind fun(v,s)=>(truthy v s).bind fun(b,s)=>match b with
  |false=>LI ih r ρ s
  |true=>.ok (v,s)
noncomputable def BI(ih:Ih):List CE→Env→AS→aH (Bool×AS)
 |[],_,s=>.ok (true,s)
 |e::r,ρ,s=>(ih.ts e ρ s).bind fun(b,s)=>match b with
  |true=>BI ih r ρ s
  |false=>.ok (false,s)
noncomputable def J2(ih:Ih):List CE→Env→AS→aH (Bool×AS)
 |[],_,s=>.ok (false,s)
 |e::r,ρ,s=>(ih.ts e ρ s).bind fun(b,s)=>match b with
  |false=>J2 ih r ρ s
  |true=>.ok (true,s)
noncomputable def xF(ih:Ih):List CE→Env→AS→aH (Bool×AS)
 |[],_,s=>.ok (true,s)
 |e::r,ρ,s=>(ih.ts e ρ s).bind fun(b,s)=>match b with
  |true=>xF ih r ρ s
  |false=>.ok (false,s)
noncomputable def w7(ρ:Env):List Nat→Option (List AV)
 |[]=>some []
 |x::r=>fW (az ρ x) fun v=>fW (w7 ρ r) fun vs=>some (v::vs)
def w6(op:Cm)(jS:Cm)(a b:AV)(s:AS)(c:AS→aH (AV×AS)):aH (Bool×AS):=
 (compare op a b s).bind fun(r,s)=>match r with
  |false=>.ok (false,s)
  |true=>(c s).bind fun(d,s)=>compare jS b d s
inductive Callee where
 |own (g:AV) (first:List AV)
 |kind
 |no (k:Nat)
def jO(v:AV)(o:Option AV)(m:Option Nat):Callee:=match o with
 |some g=>(match m with
  |none=>(match jk g with
   |true=>.own g []
   |false=>.no 57)
  |some _=>.no 55)
 |none=>match m with
  |some k=>.own (.fn k) [v]
  |none=>.no 55
def yH(P:Pg)(v:AV)(n:Nat)(c:Nat)(fl:List (Nat×AV)):Callee:=match P.cs.get c with
 |some p=>jO v (az fl n) (gA p.2 n)
 |none=>.no 56
def lz(P:Pg)(s:AS)(v:AV)(n:Nat):Callee:=match instOf s v with
 |some p=>yH P v n p.1 p.2.2
 |none=>match listOf s v with
  |some _=>.kind
  |none=>.no 58
def callee(P:Pg)(s:AS)(v:AV)(n:Nat):Callee:=match v with
 |.str _=>.kind
 |.bytes _=>.kind
 |.eD _=>.kind
 |v=>lz P s v n
def CK(x:List Nat)(vs:List AV)(s:AS):RV:=one vs fun a=>onStr a fun y=>match Nat.ble 1 y.length with
    |true=>jN x.length (jN (Txt.split ⟨x.toArray⟩ ⟨y.toArray⟩).length (newList s ((Txt.split ⟨x.toArray⟩ ⟨y.toArray⟩).map fun(t:Str)=>AV.str t.cps.toList)))
    |false=>.bad 42
def IM(x:List Nat)(vs:List AV)(s:AS):RV:=two vs fun a b=>onStr a fun y=>cU b fun i=>match i with
    |.c k=>.ok (.int (.c (Txt.find3 ⟨x.toArray⟩ ⟨y.toArray⟩ k)),s)
    |_=>.bad 43
def IL(x:List Nat)(vs:List AV)(s:AS):RV:=one vs fun w=>kE s w fun l=>bQ (allOf strOf l) fun xs=>iff (JoinOk ⟨x.toArray⟩ (xs.map fun l=>⟨l.toArray⟩))
    (.ok (.str (Txt.join ⟨x.toArray⟩ (xs.map fun l=>⟨l.toArray⟩)).cps.toList,s)) (.bad 44)
def CM(x:List IE)(vs:List AV)(s:AS):RV:=one vs fun w=>kE s w fun l=>bQ (allOf L0 l) fun xs=>gd (Nat.ble 2 l.length&&Nat.beq x.length 0) (jN xs.flatten.length (jN l.length (.ok (.bytes xs.flatten,s))))
def Oj(l:List (List Nat×AV))(vs:List AV)(s:AS):RV:=two vs fun a d=>onStr a fun k=>.ok ((gG l k).getD d,s)
def Oo(i:Nat)(l:List AV)(vs:List AV)(s:AS):RV:=one vs fun w=>jN (l.length+1) (.ok (.none,s.upd i (.list (l++[w]))))
def Ol(i:Nat)(l:List AV)(vs:List AV)(s:AS):RV:=one vs fun w=>kE s w fun m=>jN (l.length+m.length) (.ok (.none,s.upd i (.list (l++m))))
def Oh(i:Nat)(l:List AV)(vs:List AV)(s:AS):RV:=match vs with
 |[]=>bQ l.getLast? fun w=>jN l.length (.ok (w,s.upd i (.list l.dropLast)))
 |_=>.bad 54
def R7(N:oZ)(x:List Nat)(n:Nat)(vs:List AV)(s:AS):RV:=
 iff (Nat.beq n N.split) (CK x vs s) (iff (Nat.beq n N.find) (IM x vs s) (iff (Nat.beq n N.join) (IL x vs s) (.bad 46)))
def Oi(P:Pg)(N:oZ)(i:Nat)(l:List AV)(n:Nat)(vs:List AV)(s:AS):RV:=
 iff (Nat.ble P.nf i) (iff (Nat.beq n N.append) (Oo i l vs s) (iff (Nat.beq n N.extend) (Ol i l vs s) (iff (Nat.beq n N.pop) (Oh i l vs s) (.bad 54)))) (.bad 51)
def x8(P:Pg)(N:oZ)(v:AV)(n:Nat)(vs:List AV)(s:AS):RV:=match v with
 |.str x=>R7 N x n vs s
 |.bytes x=>iff (Nat.beq n N.join) (CM x vs s) (.bad 49)
 |.eD l=>iff (Nat.beq n N.get) (Oj l vs s) (.bad 50)
 |.ref i=>match s.get i with
  |some (.list l)=>Oi P N i l n vs s
  |_=>.bad 58
 |_=>.bad 59
noncomputable def RW(m:Option Nat)(r:aH β):aH β:=match m with
 |none=>r
 |some _=>.bad 39
def P7(P:Pg)(v:AV)(n:Nat)(s:AS):RV:=bQ (instOf s v) fun q=>bQ (P.cs.get q.1) fun p=>RW (gA p.2 n) (bQ (az q.2.2 n) fun w=>gd (jk w) (.ok (w,s)))
def cF(P:Pg)(N:oZ)(ih:Ih)(e:CE)(ρ:Env)(s:AS):aH (AV×AS):=match e with
 |.n x=>bQ (az ρ x) fun v=>.ok (v,s)
 |.val v=>.ok (v,s)
 |.t es=>(qw ih es ρ s).bind fun(vs,s)=>jN vs.length (.ok (.t vs,s))
 |.list es=>(qw ih es ρ s).bind fun(vs,s)=>newList s vs
 |.eD ks es=>(qw ih es ρ s).bind fun(vs,s)=>jN vs.length (.ok (.eD (ks.zip vs),s))
 |.bin op a b=>(ih.ev a ρ s).bind fun(x,s)=>(ih.ev b ρ s).bind fun(y,s)=>binop op x y s
 |.cmp op a b=>(ih.ev a ρ s).bind fun(x,s)=>(ih.ev b ρ s).bind fun(y,s)=>F7 (compare op x y s) false
 |.chain _ _ _ _ _=>.bad 38
 |.and es=>DI ih es ρ s
 |.or es=>LI ih es ρ s
 |.not _=>.bad 38
 |.neg a=>(ih.ev a ρ s).bind fun(v,s)=>cU v fun e=>.ok (.int (mkSub (.c 0) e),s)
 |.ite t a b=>(ih.ts t ρ s).bind fun(r,s)=>match r with
  |true=>ih.ev a ρ s
  |false=>ih.ev b ρ s
 |.attr o n=>(ih.ev o ρ s).bind fun(v,s)=>P7 P v n s
 |.idx o i=>(ih.ev o ρ s).bind fun(v,s)=>(ih.ev i ρ s).bind fun(w,s)=>item v w s
 |.iB o lo hi=>(ih.ev o ρ s).bind fun(v,s)=>(S8 ih lo ρ s).bind fun(a,s)=>(S8 ih hi ρ s).bind fun(b,s)=>slice v a b s
 |.rev o=>(ih.ev o ρ s).bind fun(v,s)=>kE s v fun l=>newList s l.reverse
 |.call f as=>(ih.ev f ρ s).bind fun(g,s)=>(qw ih as ρ s).bind fun(vs,s)=>ih.ca g vs s
 |.bG o n as=>(ih.ev o ρ s).bind fun(v,s)=>match callee P s v n with
  |.own g first=>(qw ih as ρ s).bind fun(vs,s)=>ih.ca g (first++vs) s
  |.kind=>(qw ih as ρ s).bind fun(vs,s)=>x8 P N v n vs s
  |.no k=>.bad k
 |.comp elt tg flat it ifs=>(ih.ev it ρ s).bind fun(v,s)=>ih.ev (.gH elt tg flat ifs v 0 []) ρ s
 |.gH elt tg flat ifs src k acc=>(iN s 0 src k).bind fun x=>match x with
  |none=>newList s acc.reverse
  |some v=>bQ (iu tg flat v ρ) fun ρ'=>(xF ih ifs ρ' s).bind fun(b,s)=>match b with
    |false=>ih.ev (.gH elt tg flat ifs src (k+1) acc) ρ s
    |true=>(ih.ev elt ρ' s).bind fun(w,s)=>ih.ev (.gH elt tg flat ifs src (k+1) (w::acc)) ρ s
 |.lam k cs=>bQ (w7 ρ cs) fun vs=>.ok (.vd k vs,s)
 |.eW x=>bQ (P.gl.get x) fun v=>.ok (v,s)
 |.bad n=>.bad (100000+n)
def plainT(ih:Ih)(e:CE)(ρ:Env)(s:AS):aH (Bool×AS):=(ih.ev e ρ s).bind fun(v,s)=>truthy v s
def stepT(ih:Ih)(e:CE)(ρ:Env)(s:AS):aH (Bool×AS):=match e with
 |.not a=>(ih.ts a ρ s).bind fun(b,s)=>.ok (!b,s)
 |.and es=>BI ih es ρ s
 |.or es=>J2 ih es ρ s
 |.cmp op a b=>(ih.ev a ρ s).bind fun(x,s)=>(ih.ev b ρ s).bind fun(y,s)=>compare op x y s
 |.chain op a b jS c=>(ih.ev a ρ s).bind fun(x,s)=>(ih.ev b ρ s).bind fun(y,s)=>w6 op jS x y s fun s=>ih.ev c ρ s
 |.n x=>plainT ih (.n x) ρ s
 |.attr o n=>plainT ih (.attr o n) ρ s
 |.call f as=>plainT ih (.call f as) ρ s
 |.bG o n as=>plainT ih (.bG o n as) ρ s
 |_=>.bad 36
noncomputable def setAt:List α→Nat→α→List α
 |[],_,_=>[]
 |x::r,k,y=>match Nat.beq k 0 with
  |true=>y::r
  |false=>x::setAt r (k - 1) y
abbrev RX:=aH (Fl×Env×AS)
noncomputable def Cd(a:AV)(g:Nat→RX):RX:=match a with
 |.ref i=>g i
 |_=>.bad 68
def Nq(P:Pg)(w:AV)(n:Nat)(v:AV)(ρ:Env)(s:AS):RX:=bQ (instOf s w) fun q=>bQ (P.cs.get q.1) fun p=>RW (gA p.2 n) (gd (Nat.ble P.nf q.2.1&&Nat.ble q.2.2.length 500) (.ok (.nx,ρ,s.upd q.2.1 (.ns (bU q.2.2 n v)))))
def Ki(P:Pg)(w j v:AV)(ρ:Env)(s:AS):RX:=Cd w fun r=>cU j fun j=>kE s (.ref r) fun l=>gd (Nat.ble P.nf r) (jN l.length ((oM 40 j s).bind fun(j,s)=>bQ (index l.length j) fun k=>.ok (.nx,ρ,s.upd r (.list (setAt l k v)))))
def setB(r:Nat)(l x:List IE)(a b:AV)(ρ:Env)(s:AS):RX:=jN l.length<|(bound 0 l.length (some a) s).bind fun(a,s)=>(bound 0 l.length (some b) s).bind fun(b,s)=>gd (Nat.ble a b&&Nat.beq x.length (b - a)) (.ok (.nx,ρ,s.upd r (.cu (l.take a++x++l.drop b))))
def Np(P:Pg)(w a b v:AV)(ρ:Env)(s:AS):RX:=Cd w fun r=>FY v fun x=>bQ (rW s (.ref r)) fun l=>gd (Nat.ble P.nf r) (setB r l x a b ρ s)
def bX(P:Pg)(ih:Ih)(c:CS)(ρ:Env)(s:AS):aH (Fl×Env×AS):=match c with
 |.b8 x e=>(ih.ev e ρ s).bind fun(v,s)=>.ok (.nx,bU ρ x v,s)
 |.cP xs e=>(ih.ev e ρ s).bind fun(v,s)=>qc v fun l=>gd (Nat.beq xs.length l.length) (.ok (.nx,(xs.zip l).foldl (fun ρ p=>bU ρ p.1 p.2) ρ,s))
 |.aT o n e=>(ih.ev e ρ s).bind fun(v,s)=>(ih.ev o ρ s).bind fun(w,s)=>Nq P w n v ρ s
 |.jW o i e=>(ih.ev e ρ s).bind fun(v,s)=>(ih.ev o ρ s).bind fun(w,s)=>(ih.ev i ρ s).bind fun(j,s)=>Ki P w j v ρ s
 |.iS o i x e=>(ih.ev e ρ s).bind fun(v,s)=>qc v fun l=>two l fun v u=>(ih.ev o ρ s).bind fun(w,s)=>(ih.ev i ρ s).bind fun(j,s)=>Ki P w j v (bU ρ x u) s
 |.i0 o lo hi e=>(ih.ev e ρ s).bind fun(v,s)=>(ih.ev o ρ s).bind fun(w,s)=>(ih.ev lo ρ s).bind fun(a,s)=>(ih.ev hi ρ s).bind fun(b,s)=>Np P w a b v ρ s
 |.ex e=>(ih.ev e ρ s).bind fun(_,s)=>.ok (.nx,ρ,s)
 |.ret e=>(ih.ev e ρ s).bind fun(v,s)=>.ok (.rt v,ρ,s)
 |.ite t a b=>(ih.ts t ρ s).bind fun(r,s)=>match r with
  |true=>ih.xs a ρ s
  |false=>ih.xs b ρ s
 |.for tg flat kind it b=>(ih.ev it ρ s).bind fun(v,s)=>ih.xs [.gZ tg flat kind v 0 b] ρ s
 |.gZ tg flat kind src k b=>(iN s kind src k).bind fun x=>match x with
  |none=>.ok (.nx,ρ,s)
  |some v=>bQ (iu tg flat v ρ) fun ρ=>(ih.xs b ρ s).bind fun(f,ρ,s)=>match f with
    |.rt v=>.ok (.rt v,ρ,s)
    |.nx=>ih.xs [.gZ tg flat kind src (k+1) b] ρ s
 |.while t b=>(ih.ts t ρ s).bind fun(r,s)=>match r with
  |false=>.ok (.nx,ρ,s)
  |true=>(ih.xs b ρ s).bind fun(f,ρ,s)=>match f with
   |.rt v=>.ok (.rt v,ρ,s)
   |.nx=>ih.xs [.while t b] ρ s
 |.try b=>ih.xs b ρ s
 |.pass=>.ok (.nx,ρ,s)
 |.bad n=>.bad (200000+n)
def BU(P:Pg)(ih:Ih):List CS→Env→AS→aH (Fl×Env×AS)
 |[],ρ,s=>.ok (.nx,ρ,s)
 |c::r,ρ,s=>(bX P ih c ρ s).bind fun(f,ρ,s)=>match f with
  |.rt v=>.ok (.rt v,ρ,s)
  |.nx=>match r with
   |[]=>.ok (.nx,ρ,s)
   |_=>ih.xs r ρ s
def nK(P:Pg)(ih:Ih)(k:Nat)(as:List AV)(s:AS):aH (AV×AS):=bQ (P.fs.get k) fun f=>bQ (bindArgs f.ps f.df as) fun ρ=>(ih.xs f.body ρ s).bind fun(f,_,s)=>.ok (match f with|.rt v=>v|.nx=>.none,s)
noncomputable def V9(o:Option RV)(r:RV):RV:=match o with
 |some q=>q
 |none=>r
noncomputable def Nm(P:Pg)(ok:Bool)(k:Nat)(as:List AV)(s:AS):Option RV:=match ok with
 |true=>P.sm k as s
 |false=>none
noncomputable def IS(v:AV):Bool:=Nat.beq v.ctorIdx 0
def xJ(P:Pg)(ih:Ih)(ok:Bool)(g:AV)(as:List AV)(s:AS):aH (AV×AS):=match g with
 |.fn k=>bQ (P.fs.get k) fun Y=>V9 (Nm P ok k as s) (nK P ih k as s)
 |.cls c=>bQ (P.cs.get c) fun p=>(s.alloc (.ns [])).bind fun(d,s)=>(s.alloc (.inst c d)).bind fun(x,s)=>(nK P ih p.1 (.ref x::as) s).bind fun(v,s)=>gd (IS v) (.ok (.ref x,s))
 |.vd k bR=>bQ (P.gB.get k) fun q=>bQ (bindArgs q.1 [] as) fun ρ=>ih.ev q.2.2 (ρ++q.2.1.zip bR) s
 |.bi k=>builtin k as s
 |_=>.bad 77
def step(P:Pg)(N:oZ)(ih:Nat→Ih)(d:Nat):Ih:=⟨fun e ρ s=>cF P N (ih d) e ρ s,fun e ρ s=>stepT (ih d) e ρ s,fun c ρ s=>BU P (ih d) c ρ s,fun g as s=>match d with|0=>.bad 94|d+1=>xJ P (ih d) (Nat.ble P.smd d) g as s⟩
noncomputable def run(P:Pg)(N:oZ):Nat→Nat→Ih
 |0=>fun Y=>⟨fun Y Y Y=>.bad 90,fun Y Y Y=>.bad 91,fun Y Y Y=>.bad 92,fun Y Y Y=>.bad 93⟩
 |n+1=>step P N (run P N n)
structure Tx where
 nm:Nat→Str
 tabs:List (Addr×Addr)
 lam:Nat→FuncData→Prop
 bR:Nat→List Nat
 tV:Addr→Pos→Str
 attrs:List Nat
structure Cx extends Tx where
 prog:Program
 w:World
 ν:Nat→Int
 U:Nat→Value
 hb:Heap
 mH:Nat→Addr
 dm:Nat→Addr
 nf:Nat
 f0:aE AO
 K:Frag
variable{C:Cx}
noncomputable def US:List Value:=[.builtin "len",.type "range",.type "bytes",.type "bytearray",.type "list",.type "tuple",.builtin "sorted",.type "enumerate",.type "zip",.builtin "max",.builtin "min",.builtin "abs",.type "int",.builtin "sum",.builtin "isinstance",.builtin "chr",.builtin "ord"]
noncomputable def ve(k:Nat):Value:=US.getD k .none
theorem Ds{P:Value→Prop}(n:P .none)(l:List Value):l.foldr (fun v r=>P v∧r) True→∀k,P (l.getD k .none):=by
 induction l with
 |nil=>exact fun Y Y=>n
 |cons a l ih=>exact fun h k=>Nat.casesOn k h.1 fun k=>ih h.2 k
noncomputable def aR(l:List Nat):Str:=⟨l.toArray⟩
noncomputable def cz(ν:Nat→Int)(e:IE):UInt8:=UInt8.ofNat (e.eval ν).toNat
def bq(ν:Nat→Int)(l:List IE):Prop:=∀e∈l,0≤e.eval ν∧e.eval ν<256
def aS(ν:Nat→Int)(l:List IE):Array UInt8:=(l.map (cz ν)).toArray
noncomputable abbrev fM(vs:List Value)(n:Nat):Obj:={cls:=.type "tuple",data:=.seq vs.toArray n}
noncomputable abbrev bZ(vs:List Value)(n:Nat):Obj:={cls:=.type "list",data:=.seq vs.toArray n}
noncomputable abbrev bK(es:List DictEntry)(n:Nat):Obj:={cls:=.type "dict",data:=.dict es.toArray n}
noncomputable abbrev c0(b:Array UInt8):Obj:={cls:=.type "bytearray",data:=.bytearray b 0}
noncomputable abbrev zX(c dx:Addr):Obj:={cls:=.ref c,dict:=some dx,data:=.plain}
section
def dG(M:Addr→Prop)(h:Heap)(cl:List (Str×Addr))(nm:Nat→Str)(l:List Nat):List Addr→List Value→Prop:=List.rec (motive:=fun Y=>List Addr→List Value→Prop) (fun cs vs=>cs=[]∧vs=[])
 (fun x Y r cs vs=>∃c EP v vb o,cs=c::EP∧vs=v::vb∧cl.lookup (nm x)=some c∧¬M c∧h.get? c=some o∧o.data=.cell (some v)∧r EP vb) l
abbrev VV:=Value→Prop
abbrev HA:=List Value→Prop
abbrev MK:=List DictEntry→Prop
section
variable(C:Cx)(J:List Addr)(M:Addr→Prop)(h:Heap)
noncomputable def Bx(e:IE):VV:=fun rv=>∃t,rv=.int (e.eval C.ν) t
def Bv(l:List Nat):VV:=fun rv=>∃t,rv=.str (aR l) t
def qZ(l:List IE):VV:=fun rv=>bq C.ν l∧∃t,rv=.bytes (aS C.ν l) t
noncomputable def Bu(r:HA):VV:=fun rv=>∃a vs n,rv=.ref a∧¬M a∧h.get? a=some (fM vs n)∧r vs
noncomputable def By(r:MK):VV:=fun rv=>∃a es n,rv=.ref a∧¬M a∧(a==sysModules)=false∧h.get? a=some (bK es n)∧r es
structure xq(k:Nat)(r:HA)(a c:Addr)(o oc:Obj)(fd:FuncData)(vs:Array Value)(t:Tok)(cs:List Addr)(rvs:List Value):Prop where
 out:¬M a
 at_:h.get? a=some o
 cls:o.cls=.type "function"
 dat:o.data=.func fd
 lam:C.lam k fd
 code:fd.code=.ref c
 NU:¬M c
 TF:h.get? c=some oc
 PL:oc.data=.fields vs
 qual:vs[1]?=some (.str fd.qualname t)
 bR:dG M h fd.closure C.nm (C.bR k) cs rvs
 vals:r rvs
 all:∀x c,fd.closure.lookup x=some c→∃y∈C.bR k,x=C.nm y
noncomputable def Bz(k:Nat)(r:HA):VV:=fun rv=>∃a,rv=.ref a∧∃c o oc fd vs t cs rvs,xq C M h k r a c o oc fd vs t cs rvs
noncomputable def Bw(a b:Int):VV:=fun rv=>∃x t u w,rv=.ref x∧¬M x∧h.get? x=some {cls:=.type "range",data:=.fields #[.int a t,.int b u,.int 1 w]}
noncomputable def vq(v:VV)(r:HA):HA:=fun rvs=>∃rv rs,rvs=rv::rs∧v rv∧r rs
noncomputable def wK(p:DictEntry→Prop)(r:MK):MK:=fun es=>∃e lu,es=e::lu∧p e∧r lu
def oH(k:List Nat)(v:VV)(e:DictEntry):Prop:=∃rv t,e=⟨PyData.keyHash C.w.params (aR k),.str (aR k) t,rv⟩∧v rv
def ao(v:AV):Value→Prop:=AV.rec (motive_1:=fun Y=>VV) (motive_2:=fun Y=>HA) (motive_3:=fun Y=>MK) (motive_4:=fun Y=>DictEntry→Prop)
 (fun rv=>rv=.none) (fun b rv=>rv=.bool b) (Bx C) Bv (qZ C) (fun Y=>Bu M h) (fun Y=>By M h) (fun i rv=>∃a,rv=.ref a∧J[i]?=some a) (fun k rv=>rv=.ref (C.mH k)) (fun k rv=>rv=.ref (C.dm k)) (fun k rv=>rv=ve k) (fun k Y=>Bz C M h k) (Bw M h) (fun i rv=>rv=C.U i)
 (fun rvs=>rvs=[]) (fun Y Y=>vq) (fun es=>es=[]) (fun Y Y=>wK) (fun k Y=>oH C k) v
def ay(l:List AV):List Value→Prop:=AV.rec_1 (motive_1:=fun Y=>VV) (motive_2:=fun Y=>HA) (motive_3:=fun Y=>MK) (motive_4:=fun Y=>DictEntry→Prop)
 (fun rv=>rv=.none) (fun b rv=>rv=.bool b) (Bx C) Bv (qZ C) (fun Y=>Bu M h) (fun Y=>By M h) (fun i rv=>∃a,rv=.ref a∧J[i]?=some a) (fun k rv=>rv=.ref (C.mH k)) (fun k rv=>rv=.ref (C.dm k)) (fun k rv=>rv=ve k) (fun k Y=>Bz C M h k) (Bw M h) (fun i rv=>rv=C.U i)
 (fun rvs=>rvs=[]) (fun Y Y=>vq) (fun es=>es=[]) (fun Y Y=>wK) (fun k Y=>oH C k) l
def cV(l:List (List Nat×AV)):List DictEntry→Prop:=AV.rec_2 (motive_1:=fun Y=>VV) (motive_2:=fun Y=>HA) (motive_3:=fun Y=>MK) (motive_4:=fun Y=>DictEntry→Prop)
 (fun rv=>rv=.none) (fun b rv=>rv=.bool b) (Bx C) Bv (qZ C) (fun Y=>Bu M h) (fun Y=>By M h) (fun i rv=>∃a,rv=.ref a∧J[i]?=some a) (fun k rv=>rv=.ref (C.mH k)) (fun k rv=>rv=.ref (C.dm k)) (fun k rv=>rv=ve k) (fun k Y=>Bz C M h k) (Bw M h) (fun i rv=>rv=C.U i)
 (fun rvs=>rvs=[]) (fun Y Y=>vq) (fun es=>es=[]) (fun Y Y=>wK) (fun k Y=>oH C k) l
end
end
def HD(C:Cx)(J:List Addr)(M:Addr→Prop)(h:Heap)(v:AV)(rv:Value):Prop:=match v with
 |.none=>rv=.none
 |.bool b=>rv=.bool b
 |.int e=>∃t,rv=.int (e.eval C.ν) t
 |.str l=>∃t,rv=.str (aR l) t
 |.bytes l=>bq C.ν l∧∃t,rv=.bytes (aS C.ν l) t
 |.t l=>∃a vs n,rv=.ref a∧¬M a∧h.get? a=some (fM vs n)∧ay C J M h l vs
 |.eD l=>∃a es n,rv=.ref a∧¬M a∧(a==sysModules)=false∧h.get? a=some (bK es n)∧cV C J M h l es
 |.ref i=>∃a,rv=.ref a∧J[i]?=some a
 |.fn k=>rv=.ref (C.mH k)
 |.cls k=>rv=.ref (C.dm k)
 |.bi k=>rv=ve k
 |.vd k bR=>∃a,rv=.ref a∧∃c o oc fd vs t cs rvs,xq C M h k (ay C J M h bR) a c o oc fd vs t cs rvs
 |.xM a b=>∃x t u w,rv=.ref x∧¬M x∧h.get? x=some {cls:=.type "range",data:=.fields #[.int a t,.int b u,.int 1 w]}
 |.mC i=>rv=C.U i
section
theorem ao.of(V:HD C J M h v rv):ao C J M h v rv:=AV.casesOn (motive_1:=fun v=>HD C J M h v rv→ao C J M h v rv) v id (fun Y=>id) (fun Y=>id) (fun Y=>id) (fun Y=>id) (fun Y=>id) (fun Y=>id) (fun Y=>id) (fun Y=>id) (fun Y=>id) (fun Y=>id) (fun Y Y=>id) (fun Y Y=>id) (fun Y=>id) V
theorem ay.of(V:∃v r,ras=v::r∧ao C J M h a v∧ay C J M h l r):ay C J M h (a::l) ras:=V
theorem cV.of{k:List Nat}{l:List (List Nat×AV)}(V:∃e lu,es=e::lu∧(∃v t,e=⟨PyData.keyHash C.w.params (aR k),.str (aR k) t,v⟩∧ao C J M h a v)∧cV C J M h l lu):cV C J M h ((k,a)::l) es:=V
theorem dG.of{cl:List (Str×Addr)}{nm:Nat→Str}{x:Nat}{xs:List Nat}{cs:List Addr}(V:∃c EP v vb o,cs=c::EP∧vs=v::vb∧cl.lookup (nm x)=some c∧¬M c∧h.get? c=some o∧o.data=.cell (some v)∧dG M h cl nm xs EP vb):dG M h cl nm (x::xs) cs vs:=V
theorem ao.none:ao C J M h .none .none:=rfl
theorem ao.bool(b:Bool):ao C J M h (.bool b) (.bool b):=rfl
theorem ao.int(e:IE)(i:Int)(t:Tok)(q:e.eval C.ν=i):ao C J M h (.int e) (.int i t):=⟨t,q▸rfl⟩
theorem ao.str(l:List Nat)(t:Tok):ao C J M h (.str l) (.str (aR l) t):=⟨t,rfl⟩
theorem ao.bytes(l:List IE)(t:Tok)(q:bq C.ν l):ao C J M h (.bytes l) (.bytes (aS C.ν l) t):=⟨q,t,rfl⟩
theorem ao.t(l:List AV)(a:Addr)(vs:List Value)(n:Nat)(h1:¬M a)(h2:h.get? a=some (fM vs n))(h3:ay C J M h l vs):ao C J M h (.t l) (.ref a):=.of ⟨a,vs,n,rfl,h1,h2,h3⟩
theorem ao.eD(l:List (List Nat×AV))(a:Addr)(es:List DictEntry)(n:Nat)(h1:¬M a)(h2:(a==sysModules)=false)(h3:h.get? a=some (bK es n))(h4:cV C J M h l es):ao C J M h (.eD l) (.ref a):=.of ⟨a,es,n,rfl,h1,h2,h3,h4⟩
theorem ao.ref(i:Nat)(a:Addr)(q:J[i]?=some a):ao C J M h (.ref i) (.ref a):=⟨a,rfl,q⟩
theorem ao.fn(k:Nat):ao C J M h (.fn k) (.ref (C.mH k)):=rfl
theorem ao.cls(k:Nat):ao C J M h (.cls k) (.ref (C.dm k)):=rfl
theorem ao.bi(k:Nat):ao C J M h (.bi k) (ve k):=rfl
theorem ao.vd(k:Nat)(bR:List AV)(a c:Addr)(o oc:Obj)(fd:FuncData)(vs:Array Value)(t:Tok)(cs:List Addr)(rvs:List Value)(h1:¬M a)(h2:h.get? a=some o)(h3:o.cls=.type "function")(h4:o.data=.func fd)(h5:C.lam k fd)(h6:fd.code=.ref c)(h7:¬M c)(h8:h.get? c=some oc)(h9:oc.data=.fields vs)(Xe:vs[1]?=some (.str fd.qualname t))
  (SQ:dG M h fd.closure C.nm (C.bR k) cs rvs)(SP:ay C J M h bR rvs)(SN:∀x c,fd.closure.lookup x=some c→∃y∈C.bR k,x=C.nm y):ao C J M h (.vd k bR) (.ref a):=.of ⟨a,rfl,c,o,oc,fd,vs,t,cs,rvs,⟨h1,h2,h3,h4,h5,h6,h7,h8,h9,Xe,SQ,SP,SN⟩⟩
theorem ao.xM(a b:Int)(x:Addr)(t u v:Tok)(h1:¬M x)(h2:h.get? x=some {cls:=.type "range",data:=.fields #[.int a t,.int b u,.int 1 v]}):ao C J M h (.xM a b) (.ref x):=⟨x,t,u,v,rfl,h1,h2⟩
theorem ao.mC(i:Nat):ao C J M h (.mC i) (C.U i):=rfl
theorem ay.nil:ay C J M h [] []:=rfl
theorem ay.cons{v:Value}(V:ao C J M h a v)(R:ay C J M h l vs):ay C J M h (a::l) (v::vs):=.of ⟨v,vs,rfl,V,R⟩
theorem cV.nil:cV C J M h [] []:=rfl
theorem cV.cons{k:List Nat}{v:Value}{t:Tok}{l:List (List Nat×AV)}(V:ao C J M h a v)(R:cV C J M h l es):cV C J M h ((k,a)::l) (⟨PyData.keyHash C.w.params (aR k),.str (aR k) t,v⟩::es):=.of ⟨_,es,rfl,⟨v,t,rfl,V⟩,R⟩
theorem ao.inv(V:ao C J M h v rv):HD C J M h v rv:=AV.casesOn (motive_1:=fun v=>ao C J M h v rv→HD C J M h v rv) v id (fun Y=>id) (fun Y=>id) (fun Y=>id) (fun Y=>id) (fun Y=>id) (fun Y=>id) (fun Y=>id) (fun Y=>id) (fun Y=>id) (fun Y=>id) (fun Y Y=>id) (fun Y Y=>id) (fun Y=>id) V
section
variable{P:Value→Prop}
@[elab_as_elim] theorem ao.eK{e:IE}(V:ao C J M h (.int e) rv)(k:∀t,P (.int (e.eval C.ν) t)):P rv:=dC V.inv fun t q=>q▸k t
@[elab_as_elim] theorem ao.gK{l:List Nat}(V:ao C J M h (.str l) rv)(k:∀t,P (.str (aR l) t)):P rv:=dC V.inv fun t q=>q▸k t
@[elab_as_elim] theorem ao.eF{l:List IE}(V:ao C J M h (.bytes l) rv)(k:bq C.ν l→∀t,P (.bytes (aS C.ν l) t)):P rv:=aw V.inv fun b q=>dC q fun t q=>q▸k b t
@[elab_as_elim] theorem ao.kO(V:ao C J M h (.t l) rv)(k:∀a vs n,¬M a→h.get? a=some (fM vs n)→ay C J M h l vs→P (.ref a)):P rv:=oW V.inv fun a vs n q a1 a2 a3=>q▸k a vs n a1 a2 a3
@[elab_as_elim] theorem ao.wR{l:List (List Nat×AV)}(V:ao C J M h (.eD l) rv)(k:∀a es n,¬M a→(a==sysModules)=false→h.get? a=some (bK es n)→cV C J M h l es→P (.ref a)):P rv:=QH V.inv fun a es n q a1 a2 a3 a4=>q▸k a es n a1 a2 a3 a4
end
theorem ay.un(V:ay C J M h (a::l) ras):∃v r,ras=v::r∧ao C J M h a v∧ay C J M h l r:=V
theorem ay.nl(V:ay C J M h [] ras):ras=[]:=V
@[elab_as_elim] theorem ay.ind{P:List AV→List Value→Prop}(V:ay C J M h l vs)(nil:P [] [])(cons:∀a v l vs,ao C J M h a v→ay C J M h l vs→P l vs→P (a::l) (v::vs)):P l vs:=
 List.rec (motive:=fun l=>∀vs,ay C J M h l vs→P l vs) (fun Y V=>V.nl▸nil) (fun a l ih Y V=>jZ V.un fun v vs q x r=>q▸cons a v l vs x r (ih vs r)) l vs V
@[elab_as_elim] theorem ay.oU{P:List Value→Prop}(V:ay C J M h (a::l) vs)(k:∀v r,ao C J M h a v→ay C J M h l r→P (v::r)):P vs:=jZ V.un fun v r q x y=>q▸k v r x y
theorem ay.one(V:ay C J M h [a] ras):∃ra,ras=[ra]∧ao C J M h a ra:=jZ V.un fun v Y e f R=>⟨v,e.trans (congrArg (v::·) R.nl),f⟩
theorem ay.two{b:AV}(V:ay C J M h [a,b] ras):∃ra rb,ras=[ra,rb]∧ao C J M h a ra∧ao C J M h b rb:=jZ V.un fun v Y e f R=>aC R.one fun w q W=>⟨v,w,e.trans (congrArg (v::·) q),f,W⟩
theorem cV.at{k:List Nat}{l:List (List Nat×AV)}(V:cV C J M h ((k,a)::l) es):∃e lu,es=e::lu∧(∃v t,e=⟨PyData.keyHash C.w.params (aR k),.str (aR k) t,v⟩∧ao C J M h a v)∧cV C J M h l lu:=V
theorem cV.un{p:List Nat×AV}{l:List (List Nat×AV)}(V:cV C J M h (p::l) es):∃v t lu,es=⟨PyData.keyHash C.w.params (aR p.1),.str (aR p.1) t,v⟩::lu∧ao C J M h p.2 v∧cV C J M h l lu:=jZ V.at fun Y es q f g=>eJ f fun v t e f=>⟨v,t,es,q.trans (congrArg (·::es) e),f,g⟩
theorem cV.nl(V:cV C J M h [] es):es=[]:=V
theorem dG.un{cl:List (Str×Addr)}{nm:Nat→Str}{x:Nat}{xs:List Nat}{cs:List Addr}(V:dG M h cl nm (x::xs) cs vs):∃c EP v vb o,cs=c::EP∧vs=v::vb∧cl.lookup (nm x)=some c∧¬M c∧h.get? c=some o∧o.data=.cell (some v)∧dG M h cl nm xs EP vb:=V
theorem dG.cons{cl:List (Str×Addr)}{nm:Nat→Str}{x:Nat}{c:Addr}{v:Value}{xs:List Nat}{cs:List Addr}(h1:cl.lookup (nm x)=some c)(h2:¬M c)(h3:h.get? c=some o)(h4:o.data=.cell (some v))(h5:dG M h cl nm xs cs vs):dG M h cl nm (x::xs) (c::cs) (v::vs):=.of ⟨c,cs,v,vs,o,rfl,rfl,h1,h2,h3,h4,h5⟩
theorem dG.nil{cl:List (Str×Addr)}{nm:Nat→Str}:dG M h cl nm [] [] []:=⟨rfl,rfl⟩
theorem ay.length:∀{vs:List Value},ay C J M h l vs→l.length=vs.length:=
 List.rec (motive:=fun l=>∀{vs:List Value},ay C J M h l vs→l.length=vs.length) (@fun Y e=>(congrArg List.length e.nl).symm) (fun Y Y ih Y V=>jZ V.un fun Y Y e Y R=>(congrArg Nat.succ (ih R)).trans (congrArg List.length e).symm) l
end
theorem oF{p:Nat×AV}{r:Env}{x:Nat}(q:Nat.beq p.1 x=true):az (p::r) x=some p.2:=by unfold az;rw [q]
theorem mr{p:Nat×AV}{r:Env}{x:Nat}(q:Nat.beq p.1 x=false):az (p::r) x=az r x:=by rw [az,q]
structure Ext(M:Addr→Prop)(h h':Heap):Prop where
 live:∀b o,h.get? b=some o→∃o',h'.get? b=some o'
 keep:∀b o,¬M b→h.get? b=some o→h'.get? b=some o
structure aJ(Z:Addr→Prop)(J:List Addr)(M:Addr→Prop)(h:Heap)(σ':List Addr)(M':Addr→Prop)(h':Heap):Prop where
 pre:∃l,σ'=J++l∧∀a∈l,h.get? a=none
 ext:Ext (fun a=>M a∧¬Z a) h h'
 more:∀a,M a→M' a
 fresh:∀a,M' a→M a∨h.get? a=none
theorem Heap.bc(h:Heap):h.get? h.objs.size=none:=by
 cases q:h.get? h.objs.size with
 |none=>rfl
 |some o=>exact absurd (Heap.lt_size q) (Nat.lt_irrefl _)
theorem aO{a:Addr}(e:h.get? a=some o)(n:h.get? a=none):False:=by rw [e]at n;injection n
section
variable{Z':Addr→Prop}{y8:List Addr}{aP HQ:Addr→Prop}{qk:Heap}
theorem Ext.dead(X:Ext M h h'){a:Addr}(n:h'.get? a=none):h.get? a=none:=by
 cases q:h.get? a with
 |none=>rfl
 |some o=>refine dC (X.live a o q:) fun o' e=>?_;exact(aO e n).elim
theorem Ext.refl(M:Addr→Prop)(h:Heap):Ext M h h:=⟨fun Y o e=>⟨o,e⟩,fun Y Y Y e=>e⟩
theorem aJ.refl(Z:Addr→Prop)(J:List Addr)(M:Addr→Prop)(h:Heap):aJ Z J M h J M h:=⟨⟨[],by simp,fun Y m=>nomatch m⟩,Ext.refl _ h,fun Y x=>x,fun Y x=>.inl x⟩
theorem aJ.notM(G:aJ Z J M h σ' M' h'){a:Addr}(hn:¬M a)(e:h.get? a=some o):¬M' a:=fun q=>
 (G.fresh a q).elim hn fun q=>aO e q
theorem aJ.kept(G:aJ Z J M h σ' M' h'){a:Addr}(hn:¬M a)(e:h.get? a=some o):h'.get? a=some o:=G.ext.keep a o (fun q=>hn q.1) e
theorem aJ.dz(G:aJ Z J M h σ' M' h'){a:Addr}(hn:Z a)(e:h.get? a=some o):h'.get? a=some o:=G.ext.keep a o (fun q=>q.2 hn) e
theorem aJ.trans(G:aJ Z J M h σ' M' h')(G':aJ Z σ' M' h' y8 HQ qk):aJ Z J M h y8 HQ qk:=by
 obtain⟨l,rfl,f⟩:=G.pre
 obtain⟨l',rfl,f'⟩:=G'.pre
 refine⟨⟨l++l',by simp,fun a m=>(List.mem_append.mp m).elim (f a) fun m=>G.ext.dead (f' a m)⟩,⟨fun b o e=>?_,fun b o hn e=>?_⟩,fun a x=>G'.more a (G.more a x),fun a x=>(G'.fresh a x).elim (fun x=>G.fresh a x) fun x=>.inr (G.ext.dead x)⟩
 ·refine dC (G.ext.live b o e:) fun o' e'=>?_
  exact G'.ext.live b o' e'
 ·refine G'.ext.keep b o (fun q=>(G.fresh b q.1).elim (fun x=>hn ⟨x,q.2⟩) fun x=>aO e x) (G.ext.keep b o hn e)
theorem aJ.less(G:aJ Z J M h σ' M' h')(hz:∀a,Z' a→Z a):aJ Z' J M h σ' M' h':=
 ⟨G.pre,⟨G.ext.live,fun b o hn e=>G.ext.keep b o (fun q=>hn ⟨q.1,fun x=>q.2 (hz b x)⟩) e⟩,G.more,G.fresh⟩
theorem aJ.heap(Z:Addr→Prop)(J:List Addr)(M:Addr→Prop)(hk:∀b o,h.get? b=some o→h'.get? b=some o):aJ Z J M h J M h':=
 ⟨⟨[],by simp,fun Y m=>nomatch m⟩,⟨fun b o e=>⟨o,hk b o e⟩,fun b o Y e=>hk b o e⟩,fun Y x=>x,fun Y x=>.inl x⟩
end
structure u9(J:List Addr)(M:Addr→Prop)(h:Heap)(σ':List Addr)(M':Addr→Prop)(h':Heap):Prop where
 pre:∃l,σ'=J++l
 keep:∀a o,¬M a→h.get? a=some o→¬M' a∧h'.get? a=some o
theorem u9.notM(G:u9 J M h σ' M' h'){a:Addr}(hn:¬M a)(e:h.get? a=some o):¬M' a:=(G.keep a o hn e).1
theorem u9.kept(G:u9 J M h σ' M' h'){a:Addr}(hn:¬M a)(e:h.get? a=some o):h'.get? a=some o:=(G.keep a o hn e).2
theorem aJ.chg(G:aJ Z J M h σ' M' h'):u9 J M h σ' M' h':=⟨let⟨l,e,_⟩:=G.pre;⟨l,e⟩,fun Y Y hn e=>⟨G.notM hn e,G.kept hn e⟩⟩
theorem dG.chg(G:u9 J M h σ' M' h'){cl:List (Str×Addr)}{nm:Nat→Str}{xs:List Nat}:∀{cs:List Addr}{vs:List Value},dG M h cl nm xs cs vs→dG M' h' cl nm xs cs vs:=
 List.rec (motive:=fun xs=>∀{cs:List Addr}{vs:List Value},dG M h cl nm xs cs vs→dG M' h' cl nm xs cs vs) id (fun Y Y ih Y Y V=>AQ V.un fun c cs v vs o f=>.of ⟨c,cs,v,vs,o,f.1,f.2.1,f.2.2.1,G.notM f.2.2.2.1 f.2.2.2.2.1,G.kept f.2.2.2.1 f.2.2.2.2.1,f.2.2.2.2.2.1,ih f.2.2.2.2.2.2⟩) xs
section
variable(G:u9 J M h σ' M' h')
include G
theorem xq.chg{r r':HA}{a c:Addr}{oc:Obj}{fd:FuncData}{vs:Array Value}{t:Tok}{cs:List Addr}{rvs:List Value}(hr:∀vs,r vs→r' vs)(V:xq C M h k r a c o oc fd vs t cs rvs):xq C M' h' k r' a c o oc fd vs t cs rvs:=
 ⟨G.notM V.out V.at_,G.kept V.out V.at_,V.cls,V.dat,V.lam,V.code,G.notM V.NU V.TF,G.kept V.NU V.TF,V.PL,V.qual,V.bR.chg G,hr _ V.vals,V.all⟩
theorem FH{v:Value}(V:ao C J M h (.ref i) v):ao C σ' M' h' (.ref i) v:=aC V fun a e q=>dC G.pre fun l z=>⟨a,e,z▸(List.getElem?_append_left (List.getElem?_eq_some_iff.mp q).1).trans q⟩
theorem ao.chg:∀{v:Value},ao C J M h a v→ao C σ' M' h' a v:=fun{v} V=>
 AV.rec (motive_1:=fun a=>∀v,ao C J M h a v→ao C σ' M' h' a v) (motive_2:=fun l=>∀vs,ay C J M h l vs→ay C σ' M' h' l vs) (motive_3:=fun l=>∀es,cV C J M h l es→cV C σ' M' h' l es)
  (motive_4:=fun p=>∀e,oH C p.1 (ao C J M h p.2) e→oH C p.1 (ao C σ' M' h' p.2) e)
  (fun Y V=>V) (fun Y Y V=>V) (fun Y Y V=>V) (fun Y Y V=>V) (fun Y Y V=>V) (fun l r v V=>oW (show∃a vs n,v=Value.ref a∧¬M a∧h.get? a=some (fM vs n)∧ay C J M h l vs from V) fun a vs n e n' g x=>.of ⟨a,vs,n,e,G.notM n' g,G.kept n' g,r vs x⟩) (fun l r v V=>QH (show∃a es n,v=Value.ref a∧¬M a∧(a==sysModules)=false∧h.get? a=some (bK es n)∧cV C J M h l es from V) fun a es n e n' s g x=>.of ⟨a,es,n,e,G.notM n' g,s,G.kept n' g,r es x⟩)
  (fun Y Y V=>FH G V) (fun Y Y V=>V) (fun Y Y V=>V) (fun Y Y V=>V) (fun k l r v V=>aC (show∃a,v=Value.ref a∧∃c o oc fd vs t cs rvs,xq C M h k (ay C J M h l) a c o oc fd vs t cs rvs from V) fun a e X=>.of ⟨a,e,KJ X fun c o oc fd X=>KJ X fun vs t cs rvs X=>⟨c,o,oc,fd,vs,t,cs,rvs,X.chg G r⟩⟩)
  (fun a b v V=>RO (show∃x t u w,v=Value.ref x∧¬M x∧h.get? x=some {cls:=.type "range",data:=.fields #[.int a t,.int b u,.int 1 w]}from V) fun x t u w e n g=>⟨x,t,u,w,e,G.notM n g,G.kept n g⟩) (fun Y Y V=>V) (fun Y V=>V) (fun Y Y x r Y V=>jZ V.un fun v vs e f g=>.of ⟨v,vs,e,x v f,r vs g⟩) (fun Y V=>V) (fun Y Y x r Y V=>jZ V.at fun v vs e f g=>.of ⟨v,vs,e,x v f,r vs g⟩)
  (fun Y Y x Y V=>eJ V fun v t e f=>⟨v,t,e,x v f⟩) a v V
theorem ay.chg{a:List AV}:∀{v:List Value},ay C J M h a v→ay C σ' M' h' a v:=
 List.rec (motive:=fun a=>∀{v:List Value},ay C J M h a v→ay C σ' M' h' a v) id (fun Y Y ih Y V=>jZ V.un fun v vs e f g=>.of ⟨v,vs,e,f.chg G,ih g⟩) a
end
theorem ao.grow(G:aJ Z J M h σ' M' h'){v:Value}(V:ao C J M h a v):ao C σ' M' h' a v:=V.chg G.chg
theorem ay.grow(G:aJ Z J M h σ' M' h'){a:List AV}{v:List Value}(V:ay C J M h a v):ay C σ' M' h' a v:=V.chg G.chg
def cj(C:Cx)(J:List Addr)(M:Addr→Prop)(h:Heap)(l:List (Nat×AV)):List DictEntry→Prop:=List.rec (motive:=fun Y=>List DictEntry→Prop) (fun es=>es=[])
 (fun p Y r es=>∃v t lu,es=⟨PyData.keyHash C.w.params (C.nm p.1),.str (C.nm p.1) t,v⟩::lu∧ao C J M h p.2 v∧r lu) l
theorem cj.nil:cj C J M h [] []:=rfl
theorem cj.cons{x:Nat}{v:Value}{t:Tok}{l:List (Nat×AV)}(V:ao C J M h a v)(R:cj C J M h l es):cj C J M h ((x,a)::l) (⟨PyData.keyHash C.w.params (C.nm x),.str (C.nm x) t,v⟩::es):=⟨v,t,es,rfl,V,R⟩
theorem cj.un{p:Nat×AV}{l:List (Nat×AV)}(V:cj C J M h (p::l) es):∃v t lu,es=⟨PyData.keyHash C.w.params (C.nm p.1),.str (C.nm p.1) t,v⟩::lu∧ao C J M h p.2 v∧cj C J M h l lu:=V
theorem cj.nl(V:cj C J M h [] es):es=[]:=V
@[elab_as_elim] theorem cj.oU{P:List DictEntry→Prop}{p:Nat×AV}{l:List (Nat×AV)}(V:cj C J M h (p::l) es)(k:∀v t lu,ao C J M h p.2 v→cj C J M h l lu→P (⟨PyData.keyHash C.w.params (C.nm p.1),.str (C.nm p.1) t,v⟩::lu)):P es:=F0 V.un fun v t es q a b=>q▸k v t es a b
@[elab_as_elim] theorem cj.ind{P:List (Nat×AV)→List DictEntry→Prop}{l:List (Nat×AV)}(V:cj C J M h l es)(nil:P [] [])(cons:∀p l v t es,ao C J M h p.2 v→cj C J M h l es→P l es→P (p::l) (⟨PyData.keyHash C.w.params (C.nm p.1),.str (C.nm p.1) t,v⟩::es)):P l es:=
 List.rec (motive:=fun l=>∀es,cj C J M h l es→P l es) (fun Y V=>V.nl▸nil) (fun p l ih Y V=>V.oU fun v t es x r=>cons p l v t es x r (ih es r)) l es V
theorem cj.chg(G:u9 J M h σ' M' h'){a:List (Nat×AV)}:∀{v:List DictEntry},cj C J M h a v→cj C σ' M' h' a v:=
 List.rec (motive:=fun a=>∀{v:List DictEntry},cj C J M h a v→cj C σ' M' h' a v) id (fun Y Y ih Y V=>F0 V.un fun v t es e f g=>⟨v,t,es,e,f.chg G,ih g⟩) a
theorem cj.grow(G:aJ Z J M h σ' M' h'){a:List (Nat×AV)}{v:List DictEntry}(V:cj C J M h a v):cj C σ' M' h' a v:=V.chg G.chg
def cQ(C:Cx)(J:List Addr)(M:Addr→Prop)(h:Heap)(o:AO)(a:Addr):Prop:=match o with
 |.list l=>∃vs n,h.get? a=some (bZ vs n)∧ay C J M h l vs
 |.inst c d=>∃dx,h.get? a=some (zX (C.dm c) dx)∧J[d]?=some dx
 |.ns l=>∃es n,h.get? a=some (bK es n)∧cj C J M h l es
 |.cu b=>h.get? a=some (c0 (aS C.ν b))∧bq C.ν b
section
theorem cQ.list(l:List AV)(a:Addr)(vs:List Value)(n:Nat)(h1:h.get? a=some (bZ vs n))(h2:ay C J M h l vs):cQ C J M h (.list l) a:=⟨vs,n,h1,h2⟩
theorem cQ.inst(c d:Nat)(a dx:Addr)(h1:h.get? a=some (zX (C.dm c) dx))(h2:J[d]?=some dx):cQ C J M h (.inst c d) a:=⟨dx,h1,h2⟩
theorem cQ.ns(l:List (Nat×AV))(a:Addr)(es:List DictEntry)(n:Nat)(h1:h.get? a=some (bK es n))(h2:cj C J M h l es):cQ C J M h (.ns l) a:=⟨es,n,h1,h2⟩
theorem cQ.cu(b:List IE)(a:Addr)(h1:h.get? a=some (c0 (aS C.ν b)))(h2:bq C.ν b):cQ C J M h (.cu b) a:=⟨h1,h2⟩
theorem cQ.listI{a:Addr}(R:cQ C J M h (.list l) a):∃vs n,h.get? a=some (bZ vs n)∧ay C J M h l vs:=R
theorem cQ.instI{c:Nat}{a:Addr}(R:cQ C J M h (.inst c d) a):∃dx,h.get? a=some (zX (C.dm c) dx)∧J[d]?=some dx:=R
theorem cQ.QJ{l:List (Nat×AV)}{a:Addr}(R:cQ C J M h (.ns l) a):∃es n,h.get? a=some (bK es n)∧cj C J M h l es:=R
theorem cQ.jE{b:List IE}{a:Addr}(R:cQ C J M h (.cu b) a):h.get? a=some (c0 (aS C.ν b))∧bq C.ν b:=R
end
def qL(C:Cx)(M:Addr→Prop)(h:Heap)(P:Addr):Prop:=
 ∃ps,M P∧h.get? P=some (tabObj ps)∧TriplesOk ps.toList∧∀pos cv,codeAmong pos ps.toList=some cv→∃c oc vs t,cv=.ref c∧¬M c∧h.get? c=some oc∧oc.data=.fields vs∧vs[1]?=some (.str (C.tV P pos) t)
structure aq(C:Cx)(J:List Addr)(M:Addr→Prop)(s:AS)(h:Heap):Prop where
 len:s.n=J.length
 lim:s.n≤1000000
 gL:C.nf≤s.n∧∀i,i<C.nf→s.hp.get i=C.f0.get i
 nodup:J.Nodup
 low:∀i o,s.hp.get i=some o→i<s.n
 obj:∀i o a,s.hp.get i=some o→J[i]?=some a→cQ C J M h o a
 jq:∀i a,J[i]?=some a→C.nf≤i→M a
 yu:∀i a,J[i]?=some a→i<C.nf→¬M a
 there:∀a,a∈J→∃o,h.get? a=some o
 mlt:∀a,M a→∃o,h.get? a=some o
 base:∀b o,C.hb.get? b=some o→¬M b∧h.get? b=some o
 tab:∀p∈C.tabs,qL C M h p.2∧p.2∉J
 rg:∀(k:Nat)(p:Int×Int),s.rg[k]?=some p→p.1≤C.ν k∧C.ν k≤p.2
noncomputable def eE(ν:Nat→Int)(k:Nat)(a b:IE):Bool:=match k with
 |0=>decide (a.eval ν=b.eval ν)
 |1=>decide (a.eval ν<b.eval ν)
 |_=>decide (a.eval ν≤b.eval ν)
def aH.leaf(ν:Nat→Int):aH α→Option α
 |.ok a=>some a
 |.fork k a b t f=>match eE ν k a b with
  |true=>t.leaf ν
  |false=>f.leaf ν
 |.bad _=>none
theorem aH.lU(ν:Nat→Int)(g:α→aH β):∀r:aH α,(r.bind g).leaf ν=(r.leaf ν).bind fun a=>(g a).leaf ν
 |.ok a=>rfl
 |.bad n=>rfl
 |.fork k a b t f=>by
  have ht:=aH.lU ν g t
  have hf:=aH.lU ν g f
  show(match eE ν k a b with|true=>(t.bind g).leaf ν|false=>(f.bind g).leaf ν)=(match eE ν k a b with|true=>t.leaf ν|false=>f.leaf ν).bind fun a=>(g a).leaf ν
  cases eE ν k a b with
  |true=>exact ht
  |false=>exact hf
theorem aH.jJ{g:α→aH β}{r:aH α}{y:β}(e:(r.bind g).leaf ν=some y):∃a,r.leaf ν=some a∧(g a).leaf ν=some y:=by
 rw [aH.lU]at e;cases q:r.leaf ν with
 |none=>rw [q]at e;injection e
 |some a=>rw [q]at e;exact⟨a,rfl,e⟩
theorem aH.bd{g:α→aH β}{r:aH α}{y:β}{P:Prop}(e:(r.bind g).leaf ν=some y)(k:∀a,r.leaf ν=some a→(g a).leaf ν=some y→P):P:=aC (aH.jJ e) k
theorem aH.cL{γ:Type}{g:α×γ→aH β}{r:aH (α×γ)}{y:β}{P:Prop}(e:(r.bind g).leaf ν=some y)(k:∀a c,r.leaf ν=some (a,c)→(g (a,c)).leaf ν=some y→P):P:=aC (aH.jJ e) fun a=>k a.1 a.2
theorem aH.U4{γ δ:Type}{g:α×γ×δ→aH β}{r:aH (α×γ×δ)}{y:β}{P:Prop}(e:(r.bind g).leaf ν=some y)(k:∀a c d,r.leaf ν=some (a,c,d)→(g (a,c,d)).leaf ν=some y→P):P:=aC (aH.jJ e) fun a=>k a.1 a.2.1 a.2.2
theorem Ek{γ δ:Type}{R:aH (β×γ×δ)}{g:β×γ×δ→aH α}{r:α}(e:(R.bind g).leaf ν=some r):∃b c s,R.leaf ν=some (b,c,s)∧(g (b,c,s)).leaf ν=some r:=
 (aH.jJ e).elim fun x h=>⟨x.1,x.2.1,x.2.2,h⟩
theorem PW{γ:Type}{R:aH (β×γ)}{g:β×γ→aH α}{r:α}(e:(R.bind g).leaf ν=some r):∃b s,R.leaf ν=some (b,s)∧(g (b,s)).leaf ν=some r:=
 (aH.jJ e).elim fun x h=>⟨x.1,x.2,h⟩
theorem no{x:α}{P:Prop}(h:none=some x):P:=nomatch h
theorem zV{x:IE}(e:intOf a=some x):a=.int x:=by
 cases a with
 |int y=>exact congrArg AV.int (bh e)
 |_=>exact no e
theorem zj{x:List Nat}(e:strOf a=some x):a=.str x:=by
 cases a with
 |str y=>exact congrArg AV.str (bh e)
 |_=>exact no e
theorem Ec{x:List IE}(e:L0 a=some x):a=.bytes x:=by
 cases a with
 |bytes y=>exact congrArg AV.bytes (bh e)
 |_=>exact no e
section
variable{r:β}
theorem ie{g:AV→aH β}(e:(one as g).leaf ν=some r):∃a,as=[a]∧(g a).leaf ν=some r:=by
 cases as with
 |nil=>exact no e
 |cons a l=>cases l with
  |nil=>exact⟨a,rfl,e⟩
  |cons b l=>exact no e
theorem kN{g:AV→AV→aH β}(e:(two as g).leaf ν=some r):∃a b,as=[a,b]∧(g a b).leaf ν=some r:=by
 cases as with
 |nil=>exact no e
 |cons a l=>cases l with
  |nil=>exact no e
  |cons b l=>cases l with
   |nil=>exact⟨a,b,rfl,e⟩
   |cons _ _=>exact no e
theorem aX{g:IE→aH β}(e:(cU a g).leaf ν=some r):∃x,a=.int x∧(g x).leaf ν=some r:=by
 cases a with
 |int x=>exact⟨x,rfl,e⟩
 |_=>exact no e
theorem dB{g:List Nat→aH β}(e:(onStr a g).leaf ν=some r):∃x,a=.str x∧(g x).leaf ν=some r:=by
 cases a with
 |str x=>exact⟨x,rfl,e⟩
 |_=>exact no e
theorem aI{o:Option α}{g:α→aH β}(e:(bQ o g).leaf ν=some r):∃x,o=some x∧(g x).leaf ν=some r:=by
 cases o with
 |none=>exact no e
 |some x=>exact⟨x,rfl,e⟩
theorem qh(q:listOf s a=some l):∃i,a=.ref i∧s.get i=some (.list l):=by
 cases a with
 |ref i=>
  unfold listOf at q
  dsimp only at q
  cases z:s.get i with
  |none=>rw [z]at q;exact no q
  |some o=>
   rw [z]at q;cases o with
   |list m=>exact⟨i,rfl,z.trans (congrArg (fun m=>some (AO.list m)) (bh q))⟩
   |_=>exact no q
 |_=>exact no q
theorem eQ{g:List AV→aH β}(e:(kE s a g).leaf ν=some r):∃i l,a=.ref i∧s.get i=some (.list l)∧(g l).leaf ν=some r:=by
 cases q:listOf s a with
 |none=>unfold kE at e;rw [q]at e;exact no e
 |some l=>
  unfold kE at e;rw [q]at e;refine aC (qh q:) fun i h1 h2=>?_
  exact⟨i,l,h1,h2,e⟩
theorem dD{p q:aH β}(e:(iff b p q).leaf ν=some r):(b=true∧p.leaf ν=some r)∨(b=false∧q.leaf ν=some r):=by
 cases b with
 |true=>exact .inl ⟨rfl,e⟩
 |false=>exact .inr ⟨rfl,e⟩
theorem ig{gl:List AV→aH β}{gb:List IE→aH β}(e:(AP s a gl gb).leaf ν=some r):∃i,a=.ref i∧((∃l,s.get i=some (.list l)∧(gl l).leaf ν=some r)∨∃l,s.get i=some (.cu l)∧(gb l).leaf ν=some r):=by
 cases a with
 |ref i=>
  refine⟨i,rfl,?_⟩
  unfold AP at e
  dsimp only at e
  cases q:s.get i with
  |none=>rw [q]at e;exact no e
  |some o=>
   rw [q]at e;cases o with
   |list l=>exact .inl ⟨l,rfl,e⟩
   |cu l=>exact .inr ⟨l,rfl,e⟩
   |_=>exact no e
 |_=>exact no e
theorem lQ{g:List IE→aH β}(e:(FY a g).leaf ν=some r):∃x,a=.bytes x∧(g x).leaf ν=some r:=by
 cases a with
 |bytes x=>exact⟨x,rfl,e⟩
 |_=>exact no e
theorem iC{g:List AV→aH β}(e:(qc a g).leaf ν=some r):∃x,a=.t x∧(g x).leaf ν=some r:=by
 cases a with
 |t x=>exact⟨x,rfl,e⟩
 |_=>exact no e
theorem cS{g:List AV→aH β}(e:(kE s (.ref i) g).leaf ν=some r):∃l,s.get i=some (.list l)∧(g l).leaf ν=some r:=by
 refine eJ (eQ e:) fun j l q h=>?_
 injection q with q;subst q;exact⟨l,h⟩
theorem cN{p:aH β}(e:(gd b p).leaf ν=some r):b=true∧p.leaf ν=some r:=by
 cases b with
 |true=>exact⟨rfl,e⟩
 |false=>exact no e
theorem tK{m:Option Nat}{p:aH β}(e:(RW m p).leaf ν=some r):m=none∧p.leaf ν=some r:=by
 cases m with
 |none=>exact⟨rfl,e⟩
 |some _=>exact no e
theorem nP{g:Nat→RX}{r:Fl×Env×AS}(e:(Cd a g).leaf ν=some r):∃i,a=.ref i∧(g i).leaf ν=some r:=by
 cases a with
 |ref x=>exact⟨x,rfl,e⟩
 |_=>exact no e
theorem instOf_eq{q:Nat×Nat×List (Nat×AV)}(e:instOf s a=some q):∃i,a=.ref i∧s.get i=some (.inst q.1 q.2.1)∧s.get q.2.1=some (.ns q.2.2):=by
 cases a with
 |ref i=>
  unfold instOf at e
  dsimp only at e
  cases z:s.get i with
  |none=>rw [z]at e;exact no e
  |some o=>
   rw [z]at e;cases o with
   |inst c d=>
    dsimp only at e
    cases y:s.get d with
    |none=>rw [y]at e;exact no e
    |some o=>
     rw [y]at e;cases o with
     |ns l=>(injection e with e;subst e);exact⟨i,rfl,z,y⟩
     |_=>exact no e
   |_=>exact no e
 |_=>exact no e
theorem qG{l:List IE}(e:rW s (.ref i)=some l):s.get i=some (.cu l):=by
 unfold rW at e
 dsimp only at e
 cases z:s.get i with
 |none=>rw [z]at e;exact no e
 |some o=>
  rw [z]at e;cases o with
  |cu m=>exact congrArg (fun m=>some (AO.cu m)) (bh e)
  |_=>exact no e
end
structure Kd where
 k:Str→Option NameKind
 code:Option Addr
 qual:Str
variable{kd:Kd}
inductive dI(Z M:Addr→Prop)(env:PySem.Env)(h:Heap)(x:Str)(v:Value):Prop
 |loc (m:Str→Option Value):env.kindOf x=some .local→Z env.locals→h.Ns env.locals m→m x=some v→dI Z M env h x v
 |cell (c:Addr) (o:Obj):(env.kindOf x=some .cell∨env.kindOf x=some .free)→env.cells.lookup x=some c→(Z c∨¬M c)→h.get? c=some o→o.data=.cell (some v)→dI Z M env h x v
def gV(k:Option NameKind):Prop:=k=some .local∨k=some .cell∨k=some .free
structure fm(C:Cx)(Z:Addr→Prop)(J:List Addr)(M:Addr→Prop)(kd:Kd)(env:PySem.Env)(ρ:Env)(h:Heap):Prop where
 glob:env.globals=mainGlobals
 iZ:env.builtins=builtinsNs
 kind:env.scope.kind=.function
 kinds:∀x,env.kindOf x=kd.k x
 D5:∀x,kd.k x=some .cell∨kd.k x=some .free→∃c,env.cells.lookup x=some c
 w5:∀x c,env.cells.lookup x=some c→∃o,h.get? c=some o
 code:∀c,kd.code=some c→env.code=.ref c∧env.qual=kd.qual∧∀x a,env.cells.lookup x=some a→¬M a
 vars:∀x v,az ρ x=some v→gV (kd.k (C.nm x))→∃rv,dI Z M env h (C.nm x) rv∧ao C J M h v rv
def bu(A:Around)(d:Nat):Prop:=A.handled=none∧A.depth+2*d+4<recursionLimit∧A.units+12*d+40<cLine
theorem bu.u(R:bu A d)(h:k≤40):A.units+k<cLine:=Nat.lt_of_le_of_lt (Nat.add_le_add (Nat.le_add_right ..) h) R.2.2
def cm(C:Cx)(Z:Addr→Prop)(J:List Addr)(h:Heap):Prop:=∀a,Z a→(∃o,h.get? a=some o)∧a∉J∧∀p∈C.tabs,a≠p.2
theorem dI.grow(G:aJ Z J M h σ' M' h'){x:Str}{v:Value}(R:dI Z M env h x v):dI Z M' env h' x v:=by
 cases R with
 |loc m a b c d=>
  refine mR (c:) fun o es ep e r=>?_
  exact .loc m a b ⟨o,es,ep,G.dz b e,r⟩ d
 |cell c o a b e f g=>exact .cell c o a b (e.imp id fun n=>G.notM n f) (e.elim (fun n=>G.dz n f) fun n=>G.kept n f) g
theorem fm.grow(G:aJ Z J M h σ' M' h')(F:fm C Z J M kd env ρ h):fm C Z σ' M' kd env ρ h':=
 ⟨F.glob,F.iZ,F.kind,F.kinds,F.D5,(fun x c q=>let⟨o,e⟩:=F.w5 x c q;G.ext.live c o e),(fun c q=>let⟨a1,a2,a3⟩:=F.code c q;⟨a1,a2,fun x a q=>let⟨o,e⟩:=F.w5 x a q;G.notM (a3 x a q) e⟩),fun x v e k=>let⟨rv,a,b⟩:=F.vars x v e k;⟨rv,a.grow G,b.grow G⟩⟩
def KV(C:Cx)(Z:Addr→Prop)(J:List Addr)(M:Addr→Prop)(st:Shared)(v:AV)(s':AS)(Q:Value→Shared→Prop):Prop:=
 ∀σ' M' h' tk rv,aJ Z J M st.heap σ' M' h'→aq C σ' M' s' h'→ao C σ' M' h' v rv→Q rv {st with heap:=h',toks:=tk}
def QV(C:Cx)(Z:Addr→Prop)(J:List Addr)(M:Addr→Prop)(st:Shared)(v:List AV)(s':AS)(Q:List Value→Shared→Prop):Prop:=
 ∀σ' M' h' tk rv,aJ Z J M st.heap σ' M' h'→aq C σ' M' s' h'→ay C σ' M' h' v rv→Q rv {st with heap:=h',toks:=tk}
def KB(C:Cx)(Z:Addr→Prop)(J:List Addr)(M:Addr→Prop)(st:Shared)(b:Bool)(s':AS)(Q:Bool→Shared→Prop):Prop:=
 ∀σ' M' h' tk,aJ Z J M st.heap σ' M' h'→aq C σ' M' s' h'→Q b {st with heap:=h',toks:=tk}
theorem KV.ok(K:KV C Z J M st v s' Q){b:AS}(e:(aH.ok (a,b)).leaf ν=some (v,s')):KV C Z J M st a b Q:=by
 injection e with e;injection e with e aN;subst e aN;exact K
section
variable{tk:Tok}
theorem KV.after(K:KV C Z J M st v s' Q)(G:aJ Z J M st.heap σ' M' h'):KV C Z σ' M' {st with heap:=h',toks:=tk} v s' Q:=
 fun cy dR br bf rv bb S R=>K cy dR br bf rv (G.trans bb) S R
theorem KB.after{Q:Bool→Shared→Prop}(K:KB C Z J M st b s' Q)(G:aJ Z J M st.heap σ' M' h'):KB C Z σ' M' {st with heap:=h',toks:=tk} b s' Q:=
 fun cy dR br bf bb S=>K cy dR br bf (G.trans bb) S
theorem KV.of{v':AV}{gJ:AS}(e:(aH.ok (v',gJ):aH (AV×AS)).leaf ν=some (v,s'))(K:KV C Z J M st v s' Q):KV C Z J M st v' gJ Q:=by injection e with e;injection e with e aN;subst e aN;exact K
theorem QV.of{v v':List AV}{gJ:AS}{Q:List Value→Shared→Prop}(e:(aH.ok (v',gJ):aH (List AV×AS)).leaf ν=some (v,s'))(K:QV C Z J M st v s' Q):QV C Z J M st v' gJ Q:=by injection e with e;injection e with e aN;subst e aN;exact K
theorem KB.of{b':Bool}{gJ:AS}{Q:Bool→Shared→Prop}(e:(aH.ok (b',gJ):aH (Bool×AS)).leaf ν=some (b,s'))(K:KB C Z J M st b s' Q):KB C Z J M st b' gJ Q:=by injection e with e;injection e with e aN;subst e aN;exact K
theorem KV.now(K:KV C Z J M st v s' Q)(S:aq C J M s' st.heap)(R:ao C J M st.heap v rv)(tk:Tok):Q rv {st with toks:=tk}:=
 K J M st.heap tk rv (aJ.refl _ _ _ _) S R
theorem KB.now{Q:Bool→Shared→Prop}(K:KB C Z J M st b s' Q)(S:aq C J M s' st.heap)(tk:Tok):Q b {st with toks:=tk}:=
 K J M st.heap tk (aJ.refl _ _ _ _) S
end
noncomputable def Iy:Op→Operator
 |.add=>.Add|.sub=>.Sub|.mul=>.Mult|.div=>.FloorDiv|.mod=>.Mod|.pow=>.Pow
noncomputable def mX:Cm→CmpOp
 |.eq=>.Eq|.ne=>.NotEq|.lt=>.Lt|.le=>.LtE|.gt=>.Gt|.ge=>.GtE|.is=>.Is|.tZ=>.IsNot|.oX=>.In|.Cw=>.NotIn
inductive sg:AV→Const→Prop
 |none:sg .none .none
 |bool (b:Bool):sg (.bool b) (.bool b)
 |int (i:Int):sg (.int (.c i)) (.int i)
 |str (l:List Nat):sg (.str l) (.str (aR l))
 |bytes (l:List IE) (b:List UInt8):(∀e∈l,∃i:Nat,i<256∧e=.c (i:Int))→l.map (cz fun Y=>0)=b→sg (.bytes l) (.bytes b)
noncomputable def cC(kd:Kd)(sc:Scope):Kd:=⟨fun x=>(sc.names.map fun(p:Str×NameKind)=>if(p.2==NameKind.free&&kd.k p.1==some NameKind.cell)then(p.1,NameKind.cell)else(p.1,p.2)).lookup x,kd.code,kd.qual⟩
def i9(ks:List (List Nat)):List (Option Expr)→Prop:=List.rec (motive:=fun Y=>List (Option Expr)→Prop) (fun xs=>xs=[]) (fun k Y r xs=>∃n pos sH,xs=some (.Constant (.str (aR k)) n pos)::sH∧r sH) ks
theorem i9.nil:i9 [] []:=rfl
theorem i9.cons{k:List Nat}{n pos ks xs}(h:i9 ks xs):i9 (k::ks) (some (.Constant (.str (aR k)) n pos)::xs):=⟨n,pos,xs,rfl,h⟩
theorem i9.nl{xs:List (Option Expr)}(h:i9 [] xs):xs=[]:=h
theorem i9.un{k:List Nat}{ks:List (List Nat)}{xs:List (Option Expr)}(h:i9 (k::ks) xs):∃n pos sH,xs=some (.Constant (.str (aR k)) n pos)::sH∧i9 ks sH:=h
def cw(C:Tx)(p:Str→Prop)(tg:List Nat):List Expr→Prop:=List.rec (motive:=fun Y=>List Expr→Prop) (fun xs=>xs=[]) (fun x Y r xs=>∃s pos sH,xs=.Name s pos::sH∧s=C.nm x∧p s∧r sH) tg
def eU(C:Tx)(p:Str→Prop)(tg:List Nat)(flat:Bool)(x:Expr):Prop:=match flat with
 |true=>∃y s pos,tg=[y]∧x=.Name s pos∧s=C.nm y∧p s
 |false=>∃xs k pos,x=.Tuple xs k pos∧cw C p tg xs
section
variable{C:Tx}{p q:Str→Prop}
theorem cw.nil:cw C p [] []:=rfl
theorem cw.of{x:Nat}(h:∃s pos sH,xs=.Name s pos::sH∧s=C.nm x∧p s∧cw C p tg sH):cw C p (x::tg) xs:=h
theorem cw.un{x:Nat}(h:cw C p (x::tg) xs):∃s pos sH,xs=.Name s pos::sH∧s=C.nm x∧p s∧cw C p tg sH:=h
theorem cw.nl(h:cw C p [] xs):xs=[]:=h
theorem cw.cons{x:Nat}{s:Str}(h1:s=C.nm x)(h2:p s)(h3:cw C p tg xs):cw C p (x::tg) (.Name s pos::xs):=.of ⟨s,pos,xs,rfl,h1,h2,h3⟩
@[elab_as_elim] theorem cw.ind{P:List Nat→List Expr→Prop}(h:cw C p tg xs)(nil:P [] [])(cons:∀x s pos tg xs,s=C.nm x→p s→cw C p tg xs→P tg xs→P (x::tg) (.Name s pos::xs)):P tg xs:=
 List.rec (motive:=fun tg=>∀xs,cw C p tg xs→P tg xs) (fun Y h=>h.nl▸nil) (fun x tg ih Y h=>oW h.un fun s pos xs q a b c=>q▸cons x s pos tg xs a b c (ih xs c)) tg xs h
theorem cw.mono(h:cw C p tg xs)(k:∀s,p s→q s):cw C q tg xs:=h.ind .nil fun Y s Y Y Y a b Y ih=>.cons a (k s b) ih
theorem eU.one{x:Nat}{s:Str}(h1:s=C.nm x)(h2:p s):eU C p [x] true (.Name s pos):=⟨x,s,pos,rfl,rfl,h1,h2⟩
theorem eU.many(h:cw C p tg xs):eU C p tg false (.Tuple xs k pos):=⟨xs,k,pos,rfl,h⟩
theorem eU.NW(h:eU C p tg true x):∃y s pos,tg=[y]∧x=.Name s pos∧s=C.nm y∧p s:=h
theorem eU.CI(h:eU C p tg false x):∃xs k pos,x=.Tuple xs k pos∧cw C p tg xs:=h
theorem eU.mono{flat:Bool}(h:eU C p tg flat x)(k:∀s,p s→q s):eU C q tg flat x:=by
 cases flat with
 |true=>exact oW h.NW fun y s pos a b c d=>⟨y,s,pos,a,b,c,k s d⟩
 |false=>exact mR h.CI fun xs n pos a b=>⟨xs,n,pos,a,b.mono k⟩
end
abbrev Mw(C:Tx)(kd:Str→Option NameKind):List Nat→List Expr→Prop:=cw C fun s=>kd s=some .local
abbrev Ju(C:Tx)(kd:Str→Option NameKind):List Nat→Bool→Expr→Prop:=eU C fun s=>kd s=some .local
structure xk(C:Tx)(kd:Kd)(k:Nat)(bR:List Nat)(params:Arguments)(body:Expr)(scope:Scope)(pos:Pos):Prop where
 at_:∃c P,kd.code=some c∧(c,P)∈C.tabs∧∀pos,C.tV P pos=kd.qual++"<lambda>"
 dflt:∀env,defaultsOf params env=([],[])
 j9:C.bR k=bR
 free:∀y∈scope.names,y.2=.free→kd.k y.1=some .cell∨kd.k y.1=some .free
 has:∀x∈bR,(C.nm x,NameKind.free)∈scope.names
 all:∀y∈scope.names,y.2=.free→∃x∈bR,y.1=C.nm x
 lam:∀pm cdv ctv qual clos,C.lam k {name:="<lambda>",qualname:=qual,params,body:=.expr body,scope,globals:=mainGlobals,closure:=clos,defaults:=.none,kwdefaults:=.none,doc:=.none,pyModule:=pm,annotations:=none,code:=cdv,closureTuple:=ctv,builtins:=builtinsNs}
section
abbrev FF:=Kd→Expr→Prop
abbrev yV:=Kd→List Expr→Prop
abbrev MO:=Kd→Option Expr→Prop
section
variable(C:Tx)
noncomputable def DF(x:Nat):FF:=fun kd e=>∃s pos,e=.Name s pos∧s=C.nm x∧gV (kd.k s)∧(s==("__debug__":Str))=false∧(s==("__classdict__":Str))=false
noncomputable def uw(x:Nat):FF:=fun kd e=>∃s pos,e=.Name s pos∧s=C.nm x∧kd.k s=some .globalImplicit∧(s==("__debug__":Str))=false
noncomputable def ui(v:AV):FF:=fun Y e=>∃c k pos,e=.Constant c k pos∧sg v c
noncomputable def uj(l:yV):FF:=fun kd e=>∃xs k pos,e=.Tuple xs k pos∧l kd xs
noncomputable def ot(l:yV):FF:=fun kd e=>∃xs pos,e=.List xs pos∧l kd xs
def ux(ks:List (List Nat))(es:List CE)(l:yV):FF:=fun kd e=>∃kx xs pos,e=.Dict kx xs pos∧i9 ks kx∧l kd xs∧ks.length=es.length∧(ks.map aR).Nodup∧ks.length≤15
def uz(op:Op)(a b:FF):FF:=fun kd e=>∃x y pos,e=.BinOp x (Iy op) y pos∧a kd x∧b kd y
def uy(op:Cm)(a b:FF):FF:=fun kd e=>∃x y pos,e=.Compare x [mX op] [y] pos∧a kd x∧b kd y∧behindInMarks (mX op) y=false
def lr(op jS:Cm)(a b c:FF):FF:=fun kd e=>∃x y z pos,e=.Compare x [mX op,mX jS] [y,z] pos∧a kd x∧b kd y∧c kd z∧lastMarks [mX op,mX jS] [y,z]=false
noncomputable def g9(op:BoolOp)(l:yV):FF:=fun kd e=>∃xs pos,e=.BoolOp op xs pos∧l kd xs
noncomputable def pA(op:UnaryOp)(a:FF):FF:=fun kd e=>∃x pos,e=.UnaryOp op x pos∧a kd x
noncomputable def uu(a b c:FF):FF:=fun kd e=>∃x y z pos,e=.IfExp x y z pos∧a kd x∧b kd y∧c kd z
noncomputable def oz(n:Nat)(a:FF):FF:=fun kd e=>∃x s pos,e=.Attribute x s pos∧s=C.nm n∧n∈C.attrs∧(∀id p q,x≠.Call (.Name id p) [] [] q)∧a kd x
noncomputable def uv(a b:FF):FF:=fun kd e=>∃x y pos,e=.Subscript x y pos∧a kd x∧b kd y
noncomputable def uk(a:FF)(lo hi:MO):FF:=fun kd e=>∃x l u p pos,e=.Subscript x (.Slice l u none p) pos∧a kd x∧lo kd l∧hi kd u
noncomputable def um(a:FF):FF:=fun kd e=>∃x k p1 p2 p3 p4,e=.Subscript x (.Slice none none (some (.UnaryOp .USub (.Constant (.int 1) k p1) p2)) p3) p4∧a kd x
noncomputable def ur(k:Nat)(bR:List Nat):FF:=fun kd e=>∃params body scope pos,e=.Lambda params body scope pos∧xk C kd k bR params body scope pos
noncomputable def oy(f:FF)(l:yV):FF:=fun kd e=>∃x xs pos,e=.Call x xs [] pos∧f kd x∧(∀o n p,x≠.Attribute o n p)∧l kd xs
noncomputable def oq(n:Nat)(a:FF)(l:yV):FF:=fun kd e=>∃x s apos xs pos,e=.Call (.Attribute x s apos) xs [] pos∧s=C.nm n∧n∈C.attrs∧(∀id p q,x≠.Call (.Name id p) [] [] q)∧a kd x∧l kd xs∧xs.length<30∧(apos.endLine==pos.line)=true
structure ED(elt:FF)(tg:List Nat)(flat:Bool)(it:FF)(ifs:yV)(kd:Kd)(xe xt xi:Expr)(xs:List Expr)(sc:Scope):Prop where
 XI:Ju C (fun n=>sc.names.lookup n) tg flat xt
 fit:it kd xi
 Xg:elt (cC kd sc) xe
 Xf:ifs (cC kd sc) xs
 kind:sc.kind=.function
 RU:∀y∈sc.names,y.2≠.cell
 loc:∀y∈sc.names,y.2=.local→sc.names.lookup y.1=some .local
 free:∀y∈sc.names,y.2=.free→kd.k y.1=some .cell∨kd.k y.1=some .free
 mem:∀x,sc.names.lookup (C.nm x)=some .local→x∈tg
 Ur:∀x k p,xi≠.Set x k p
 RT:sc.isCoroutine=false
 Us:sc.isGenerator=false
noncomputable def ox(tg:List Nat)(flat:Bool)(elt it:FF)(ifs:yV):FF:=fun kd e=>∃xe xt xi xs sc pos,e=.ListComp xe [⟨xt,xi,xs,0⟩] sc pos∧ED C elt tg flat it ifs kd xe xt xi xs sc
noncomputable def yB:FF:=fun Y e=>∀xs k p,e≠.Set xs k p
noncomputable def wB(a:FF)(l:yV):yV:=fun kd ys=>∃x xs,ys=x::xs∧a kd x∧(∀y p,x≠.Starred y p)∧l kd xs
noncomputable def wz(a:FF):MO:=fun kd o=>∃x,o=some x∧a kd x
def ak(kd:Kd)(e:CE):Expr→Prop:=CE.rec (motive_1:=fun Y=>FF) (motive_2:=fun Y=>yV) (motive_3:=fun Y=>MO)
 (DF C) ui (fun Y=>uj) (fun Y=>ot) ux (fun op Y Y=>uz op) (fun op Y Y=>uy op) (fun op Y Y jS Y=>lr op jS) (fun Y=>g9 .And) (fun Y=>g9 .Or) (fun Y=>pA .Not) (fun Y=>pA .USub) (fun Y Y Y=>uu) (fun Y n=>oz C n) (fun Y Y=>uv) (fun Y Y Y=>uk) (fun Y=>um) (fun Y Y=>oy) (fun Y n Y=>oq C n) (fun Y tg flat Y Y=>ox C tg flat) (fun Y Y Y Y Y Y Y Y Y Y Y=>False) (ur C) (uw C) (fun Y=>yB)
 (fun Y xs=>xs=[]) (fun Y Y=>wB) (fun Y o=>o=none) (fun Y=>wz) e kd
def cD(kd:Kd)(e:List CE):List Expr→Prop:=CE.rec_1 (motive_1:=fun Y=>FF) (motive_2:=fun Y=>yV) (motive_3:=fun Y=>MO)
 (DF C) ui (fun Y=>uj) (fun Y=>ot) ux (fun op Y Y=>uz op) (fun op Y Y=>uy op) (fun op Y Y jS Y=>lr op jS) (fun Y=>g9 .And) (fun Y=>g9 .Or) (fun Y=>pA .Not) (fun Y=>pA .USub) (fun Y Y Y=>uu) (fun Y n=>oz C n) (fun Y Y=>uv) (fun Y Y Y=>uk) (fun Y=>um) (fun Y Y=>oy) (fun Y n Y=>oq C n) (fun Y tg flat Y Y=>ox C tg flat) (fun Y Y Y Y Y Y Y Y Y Y Y=>False) (ur C) (uw C) (fun Y=>yB)
 (fun Y xs=>xs=[]) (fun Y Y=>wB) (fun Y o=>o=none) (fun Y=>wz) e kd
def eV(kd:Kd)(e:Option CE):Option Expr→Prop:=CE.rec_2 (motive_1:=fun Y=>FF) (motive_2:=fun Y=>yV) (motive_3:=fun Y=>MO)
 (DF C) ui (fun Y=>uj) (fun Y=>ot) ux (fun op Y Y=>uz op) (fun op Y Y=>uy op) (fun op Y Y jS Y=>lr op jS) (fun Y=>g9 .And) (fun Y=>g9 .Or) (fun Y=>pA .Not) (fun Y=>pA .USub) (fun Y Y Y=>uu) (fun Y n=>oz C n) (fun Y Y=>uv) (fun Y Y Y=>uk) (fun Y=>um) (fun Y Y=>oy) (fun Y n Y=>oq C n) (fun Y tg flat Y Y=>ox C tg flat) (fun Y Y Y Y Y Y Y Y Y Y Y=>False) (ur C) (uw C) (fun Y=>yB)
 (fun Y xs=>xs=[]) (fun Y Y=>wB) (fun Y o=>o=none) (fun Y=>wz) e kd
end
end
abbrev FS(C:Tx)(a:CE):FF:=fun kd=>ak C kd a
abbrev u7(C:Tx)(a:List CE):yV:=fun kd=>cD C kd a
abbrev QX(C:Tx)(a:Option CE):MO:=fun kd=>eV C kd a
section
variable{C:Tx}
namespace ak
section
variable{op jS:Op}{o1 o2:Cm}{x:Nat}{a b c:CE}{es:List CE}{ks:List (List Nat)}{lo hi:Option CE}{flat:Bool}{e:Expr}
theorem RY(h:ak C kd (.n x) e):DF C x kd e:=h
theorem OZ(h:ak C kd (.eW x) e):uw C x kd e:=h
theorem M8(h:ak C kd (.val v) e):ui v kd e:=h
theorem tupI(h:ak C kd (.t es) e):uj (u7 C es) kd e:=h
theorem listI(h:ak C kd (.list es) e):ot (u7 C es) kd e:=h
theorem PK(h:ak C kd (.eD ks es) e):ux ks es (u7 C es) kd e:=h
theorem binI(h:ak C kd (.bin op a b) e):uz op (FS C a) (FS C b) kd e:=h
theorem LX(h:ak C kd (.cmp o1 a b) e):uy o1 (FS C a) (FS C b) kd e:=h
theorem D3(h:ak C kd (.chain o1 a b o2 c) e):lr o1 o2 (FS C a) (FS C b) (FS C c) kd e:=h
theorem Mn(h:ak C kd (.and es) e):g9 .And (u7 C es) kd e:=h
theorem RJ(h:ak C kd (.or es) e):g9 .Or (u7 C es) kd e:=h
theorem N8(h:ak C kd (.not a) e):pA .Not (FS C a) kd e:=h
theorem Oa(h:ak C kd (.neg a) e):pA .USub (FS C a) kd e:=h
theorem Gm(h:ak C kd (.ite a b c) e):uu (FS C a) (FS C b) (FS C c) kd e:=h
theorem Er(h:ak C kd (.attr a n) e):oz C n (FS C a) kd e:=h
theorem OJ(h:ak C kd (.idx a b) e):uv (FS C a) (FS C b) kd e:=h
theorem Nn(h:ak C kd (.iB a lo hi) e):uk (FS C a) (QX C lo) (QX C hi) kd e:=h
theorem NJ(h:ak C kd (.rev a) e):um (FS C a) kd e:=h
theorem OA(h:ak C kd (.lam n tg) e):ur C n tg kd e:=h
theorem D9(h:ak C kd (.call a es) e):oy (FS C a) (u7 C es) kd e:=h
theorem CD(h:ak C kd (.bG a n es) e):oq C n (FS C a) (u7 C es) kd e:=h
theorem DZ(h:ak C kd (.comp a tg flat b es) e):ox C tg flat (FS C a) (FS C b) (u7 C es) kd e:=h
theorem TC(h:ak C kd (.bad n) e):yB kd e:=h
theorem Wo(h:DF C x kd e):ak C kd (.n x) e:=h
theorem SR(h:uw C x kd e):ak C kd (.eW x) e:=h
theorem Rc(h:ui v kd e):ak C kd (.val v) e:=h
theorem pg(h:uj (u7 C es) kd e):ak C kd (.t es) e:=h
theorem Ow(h:ot (u7 C es) kd e):ak C kd (.list es) e:=h
theorem Ts(h:ux ks es (u7 C es) kd e):ak C kd (.eD ks es) e:=h
theorem Tz(h:uz op (FS C a) (FS C b) kd e):ak C kd (.bin op a b) e:=h
theorem Tu(h:uy o1 (FS C a) (FS C b) kd e):ak C kd (.cmp o1 a b) e:=h
theorem LY(h:lr o1 o2 (FS C a) (FS C b) (FS C c) kd e):ak C kd (.chain o1 a b o2 c) e:=h
theorem TJ(h:g9 .And (u7 C es) kd e):ak C kd (.and es) e:=h
theorem Wa(h:g9 .Or (u7 C es) kd e):ak C kd (.or es) e:=h
theorem RS(h:pA .Not (FS C a) kd e):ak C kd (.not a) e:=h
theorem RZ(h:pA .USub (FS C a) kd e):ak C kd (.neg a) e:=h
theorem K9(h:uu (FS C a) (FS C b) (FS C c) kd e):ak C kd (.ite a b c) e:=h
theorem P8(h:oz C n (FS C a) kd e):ak C kd (.attr a n) e:=h
theorem Sl(h:uv (FS C a) (FS C b) kd e):ak C kd (.idx a b) e:=h
theorem Rq(h:uk (FS C a) (QX C lo) (QX C hi) kd e):ak C kd (.iB a lo hi) e:=h
theorem RC(h:um (FS C a) kd e):ak C kd (.rev a) e:=h
theorem Se(h:ur C n tg kd e):ak C kd (.lam n tg) e:=h
theorem PT(h:oy (FS C a) (u7 C es) kd e):ak C kd (.call a es) e:=h
theorem Of(h:oq C n (FS C a) (u7 C es) kd e):ak C kd (.bG a n es) e:=h
theorem PN(h:ox C tg flat (FS C a) (FS C b) (u7 C es) kd e):ak C kd (.comp a tg flat b es) e:=h
theorem bad(h:∀xs k p,e≠.Set xs k p):ak C kd (.bad n) e:=h
section
variable{s:Str}{pos' p1 p2 p3 p4 apos:Pos}{cst:Const}{y z l u:Expr}{X:Expr}{kx:List (Option Expr)}{ol ou:Option Expr}
theorem nm(h1:s=C.nm x)(h2:gV (kd.k s))(h3:(s==("__debug__":Str))=false)(h4:(s==("__classdict__":Str))=false):ak C kd (.n x) (.Name s pos):=Wo ⟨s,pos,rfl,h1,h2,h3,h4⟩
theorem eW(h1:s=C.nm x)(h2:kd.k s=some .globalImplicit)(h3:(s==("__debug__":Str))=false):ak C kd (.eW x) (.Name s pos):=SR ⟨s,pos,rfl,h1,h2,h3⟩
theorem val(h:sg v cst):ak C kd (.val v) (.Constant cst k pos):=Rc ⟨cst,k,pos,rfl,h⟩
theorem t(h:cD C kd es xs):ak C kd (.t es) (.Tuple xs k pos):=pg ⟨xs,k,pos,rfl,h⟩
theorem list(h:cD C kd es xs):ak C kd (.list es) (.List xs pos):=Ow ⟨xs,pos,rfl,h⟩
theorem eD(h1:i9 ks kx)(h2:cD C kd es xs)(h3:ks.length=es.length)(h4:(ks.map aR).Nodup)(h5:ks.length≤15):ak C kd (.eD ks es) (.Dict kx xs pos):=Ts ⟨kx,xs,pos,rfl,h1,h2,h3,h4,h5⟩
theorem bin(h1:ak C kd a X)(h2:ak C kd b y):ak C kd (.bin op a b) (.BinOp X (Iy op) y pos):=Tz ⟨X,y,pos,rfl,h1,h2⟩
theorem cmp(h1:ak C kd a X)(h2:ak C kd b y)(h3:behindInMarks (mX o1) y=false):ak C kd (.cmp o1 a b) (.Compare X [mX o1] [y] pos):=Tu ⟨X,y,pos,rfl,h1,h2,h3⟩
theorem chain(h1:ak C kd a X)(h2:ak C kd b y)(h3:ak C kd c z)(h4:lastMarks [mX o1,mX o2] [y,z]=false):ak C kd (.chain o1 a b o2 c) (.Compare X [mX o1,mX o2] [y,z] pos):=LY ⟨X,y,z,pos,rfl,h1,h2,h3,h4⟩
theorem and(h:cD C kd es xs):ak C kd (.and es) (.BoolOp .And xs pos):=TJ ⟨xs,pos,rfl,h⟩
theorem or(h:cD C kd es xs):ak C kd (.or es) (.BoolOp .Or xs pos):=Wa ⟨xs,pos,rfl,h⟩
theorem not(h:ak C kd a X):ak C kd (.not a) (.UnaryOp .Not X pos):=RS ⟨X,pos,rfl,h⟩
theorem neg(h:ak C kd a X):ak C kd (.neg a) (.UnaryOp .USub X pos):=RZ ⟨X,pos,rfl,h⟩
theorem ite(h1:ak C kd a X)(h2:ak C kd b y)(h3:ak C kd c z):ak C kd (.ite a b c) (.IfExp X y z pos):=K9 ⟨X,y,z,pos,rfl,h1,h2,h3⟩
theorem attr(h1:s=C.nm n)(h2:n∈C.attrs)(h3:∀id p q,X≠.Call (.Name id p) [] [] q)(h4:ak C kd a X):ak C kd (.attr a n) (.Attribute X s pos):=P8 ⟨X,s,pos,rfl,h1,h2,h3,h4⟩
theorem idx(h1:ak C kd a X)(h2:ak C kd b y):ak C kd (.idx a b) (.Subscript X y pos):=Sl ⟨X,y,pos,rfl,h1,h2⟩
theorem iB(h1:ak C kd a X)(h2:eV C kd lo ol)(h3:eV C kd hi ou):ak C kd (.iB a lo hi) (.Subscript X (.Slice ol ou none pos') pos):=Rq ⟨X,ol,ou,pos',pos,rfl,h1,h2,h3⟩
theorem rev(h1:ak C kd a X):ak C kd (.rev a) (.Subscript X (.Slice none none (some (.UnaryOp .USub (.Constant (.int 1) k p1) p2)) p3) p4):=RC ⟨X,k,p1,p2,p3,p4,rfl,h1⟩
theorem lam{params:Arguments}{body:Expr}{scope:Scope}(h:xk C kd n tg params body scope pos):ak C kd (.lam n tg) (.Lambda params body scope pos):=Se ⟨params,body,scope,pos,rfl,h⟩
theorem call(h1:ak C kd a X)(h2:∀o n p,X≠.Attribute o n p)(h3:cD C kd es xs):ak C kd (.call a es) (.Call X xs [] pos):=PT ⟨X,xs,pos,rfl,h1,h2,h3⟩
theorem bG(h1:s=C.nm n)(h2:n∈C.attrs)(h3:∀id p q,X≠.Call (.Name id p) [] [] q)(h4:ak C kd a X)(h5:cD C kd es xs)(h6:xs.length<30)(h7:(apos.endLine==pos.line)=true):ak C kd (.bG a n es) (.Call (.Attribute X s apos) xs [] pos):=Of ⟨X,s,apos,xs,pos,rfl,h1,h2,h3,h4,h5,h6,h7⟩
end
end
end ak
theorem cD.nl(h:cD C kd [] xs):xs=[]:=h
theorem cD.un{es:List CE}(h:cD C kd (e::es) xs):∃x r,xs=x::r∧ak C kd e x∧(∀y p,x≠.Starred y p)∧cD C kd es r:=h
@[elab_as_elim] theorem cD.oU{es:List CE}{P:List Expr→Prop}(h:cD C kd (e::es) xs)(k:∀x r,ak C kd e x→(∀y p,x≠.Starred y p)→cD C kd es r→P (x::r)):P xs:=KL h.un fun x r q a b c=>q▸k x r a b c
theorem cD.nil:cD C kd [] []:=rfl
theorem cD.of{es:List CE}(h:∃x r,xs=x::r∧ak C kd e x∧(∀y p,x≠.Starred y p)∧cD C kd es r):cD C kd (e::es) xs:=h
theorem cD.cons{es:List CE}(h1:ak C kd e x)(h2:∀y p,x≠.Starred y p)(h3:cD C kd es xs):cD C kd (e::es) (x::xs):=.of ⟨x,xs,rfl,h1,h2,h3⟩
theorem eV.Wn{x:Option Expr}(h:eV C kd .none x):x=.none:=h
theorem eV.Nj{x:Option Expr}(h:eV C kd (.some e) x):∃y,x=.some y∧ak C kd e y:=h
theorem eV.none:eV C kd .none .none:=rfl
theorem eV.of{x:Option Expr}(h:∃y,x=.some y∧ak C kd e y):eV C kd (.some e) x:=h
theorem eV.some(h:ak C kd e x):eV C kd (.some e) (.some x):=.of ⟨x,rfl,h⟩
end
abbrev Jt(C:Cx):=Mw C.toTx
abbrev u6(C:Cx):=Ju C.toTx
abbrev Qn(C:Cx):=xk C.toTx
abbrev aW(C:Cx):=ak C.toTx
abbrev cY(C:Cx):=cD C.toTx
abbrev yT(C:Cx):=eV C.toTx
abbrev Md(C:Cx):Model:=model C.prog C.w
def gk(C:Cx)(ih:Ih)(d:Nat):Prop:=∀e ρ s v s',(ih.ev e ρ s).leaf C.ν=some (v,s')→∀kd ex,aW C kd e ex→∀Z J M env A st,fm C Z J M kd env ρ st.heap→aq C J M s st.heap→bu A d→cm C Z J st.heap→
 ∀Q E,KV C Z J M st v s' Q→ab (Md C) A (eval ex env) Q E st
def vg(C:Cx)(ih:Ih)(d:Nat):Prop:=∀e ρ s b s',(ih.ts e ρ s).leaf C.ν=some (b,s')→∀kd ex,aW C kd e ex→∀Z J M env A st,fm C Z J M kd env ρ st.heap→aq C J M s st.heap→bu A d→cm C Z J st.heap→
 ∀Q E,KB C Z J M st b s' Q→ab (Md C) A (isTrue ex env (eval ex env)) Q E st
noncomputable def aE.vl(t:aE α):Option α:=t.casesOn none fun v Y Y=>v
noncomputable def aE.lf(t:aE α):aE α:=t.casesOn .nil fun Y l Y=>l
noncomputable def aE.rt(t:aE α):aE α:=t.casesOn .nil fun Y Y r=>r
section
variable{t:aE α}{o:α}
theorem aE.I5:t.get 0=t.vl:=by cases t<;>rfl
theorem aE.n9(q:(i+1) %2=0):t.get (i+1)=t.rt.get ((i+1)/2 - 1):=by
 cases t with
 |nil=>rfl
 |node v l r=>exact congrArg (Nat.rec (motive:=fun Y=>Option α) (r.get ((i+1)/2 - 1)) fun Y Y=>l.get ((i+1)/2)) q
theorem aE.n8(q:(i+1) %2=k+1):t.get (i+1)=t.lf.get ((i+1)/2):=by
 cases t with
 |nil=>rfl
 |node v l r=>exact congrArg (Nat.rec (motive:=fun Y=>Option α) (r.get ((i+1)/2 - 1)) fun Y Y=>l.get ((i+1)/2)) q
theorem aE.Nh{f:aE α→Nat→α→aE α}{v:Option α}{l r:aE α}(q:(i+1) %2=0):QD f (i+1) o v l r=.node v l (f r ((i+1)/2 - 1) o):=congrArg (Nat.rec (motive:=fun Y=>aE α) (.node v l (f r ((i+1)/2 - 1) o)) fun Y Y=>.node v (f l ((i+1)/2) o) r) q
theorem aE.Ng{f:aE α→Nat→α→aE α}{v:Option α}{l r:aE α}(q:(i+1) %2=k+1):QD f (i+1) o v l r=.node v (f l ((i+1)/2) o) r:=congrArg (Nat.rec (motive:=fun Y=>aE α) (.node v l (f r ((i+1)/2 - 1) o)) fun Y Y=>.node v (f l ((i+1)/2) o) r) q
theorem aE.Ir:put (n+1) t 0 o=.node (some o) t.lf t.rt:=by cases t<;>rfl
theorem aE.Iv(q:(i+1) %2=0):put (n+1) t (i+1) o=.node t.vl t.lf (put n t.rt ((i+1)/2 - 1) o):=by cases t<;>exact Nh q
theorem aE.Iu(q:(i+1) %2=k+1):put (n+1) t (i+1) o=.node t.vl (put n t.lf ((i+1)/2) o) t.rt:=by cases t<;>exact Ng q
end
theorem Lq{m p:Nat}(d:2*m+0=i+1)(h:i+1<2*p - 1):m - 1<p - 1:=
 Nat.sub_lt_sub_right (Nat.pos_of_ne_zero fun e=>by rw [e]at d;exact nomatch d) (Nat.lt_of_mul_lt_mul_left (a:=2) (Nat.lt_of_le_of_lt (Nat.le_of_eq d) (Nat.lt_of_lt_of_le h (Nat.sub_le _ _))))
theorem Lp{m p:Nat}(d:2*m+1=i+1)(h:i+1<2*p - 1):m<p - 1:=
 Nat.lt_sub_of_add_lt (Nat.lt_of_mul_lt_mul_left (a:=2) (Nat.lt_of_le_of_lt (Nat.le_of_eq (congrArg (·+1) d)) (Nat.add_lt_of_lt_sub h)))
theorem vM{m:Nat}(q:m %2=k+1):k=0:=Nat.le_zero.mp (Nat.le_of_lt_succ (Nat.lt_of_succ_lt_succ ((congrArg (·<2) q).mp (Nat.mod_lt m Nat.two_pos))))
theorem AS.cp(t:aE AO)(n:Nat):∀(i:Nat)(o:AO),i<2^n - 1→(aE.put n t i o).get i=some o:=by
 induction n generalizing t with
 |zero=>exact fun i Y h=>absurd h (Nat.not_lt_zero i)
 |succ n ih=>
  intro i o h;cases i with
  |zero=>rw [aE.Ir];rfl
  |succ i=>
   have d:=Nat.div_add_mod (i+1) 2
   rw [Nat.pow_succ,Nat.mul_comm]at h;cases q:(i+1) %2 with
   |zero=>rw [aE.Iv q,aE.n9 q];exact ih _ _ _ (Lq (q▸d) h)
   |succ k=>rw [aE.Iu q,aE.n8 q];exact ih _ _ _ (Lp ((congrArg (2*((i+1)/2)+·) (q.trans (congrArg (·+1) (vM q)))).symm.trans d) h)
theorem xY{b:Nat}(hij:i+1≠j+1)(q:(i+1) %2=b)(r:(j+1) %2=b):(i+1)/2≠(j+1)/2:=fun e=>
 hij ((Nat.div_add_mod (i+1) 2).symm.trans ((congrArg (2*·+_) e).trans ((congrArg (_+·) (q.trans r.symm)).trans (Nat.div_add_mod (j+1) 2))))
theorem ud(q:(i+1) %2=0):0<(i+1)/2:=Nat.pos_of_ne_zero fun e=>by
 have d:=Nat.div_add_mod (i+1) 2
 rw [q,e]at d;exact nomatch d
theorem AS.bB(t:aE AO)(n:Nat):∀(i j:Nat)(o:AO),i≠j→(aE.put n t i o).get j=t.get j:=by
 induction n generalizing t with
 |zero=>intro i j o _;rfl
 |succ n ih=>
  intro i j o hij;cases i with
  |zero=>
   rw [aE.Ir];cases j with
   |zero=>exact absurd rfl hij
   |succ j=>
    cases r:(j+1) %2 with
    |zero=>exact(aE.n9 r).trans (aE.n9 (t:=t) r).symm
    |succ k=>exact(aE.n8 r).trans (aE.n8 (t:=t) r).symm
  |succ i=>
   cases q:(i+1) %2 with
   |zero=>
    rw [aE.Iv q];cases j with
    |zero=>exact(aE.I5 (t:=t)).symm
    |succ j=>
     cases r:(j+1) %2 with
     |zero=>exact(aE.n9 r).trans ((ih _ _ _ _ fun e=>xY hij q r (Nat.sub_one_cancel (ud q) (ud r) e)).trans (aE.n9 (t:=t) r).symm)
     |succ k=>exact(aE.n8 r).trans (aE.n8 (t:=t) r).symm
   |succ k=>
    rw [aE.Iu q];cases j with
    |zero=>exact(aE.I5 (t:=t)).symm
    |succ j=>
     cases r:(j+1) %2 with
     |zero=>exact(aE.n9 r).trans (aE.n9 (t:=t) r).symm
     |succ k'=>exact(aE.n8 r).trans ((ih _ _ _ _ (xY hij q (r.trans (congrArg (·+1) ((vM r).trans (vM q).symm))))).trans (aE.n8 (t:=t) r).symm)
section
theorem cQ.chg(G:u9 J M h σ' M' h'){o:AO}{a:Addr}(R:cQ C J M h o a)(e:∀x,h.get? a=some x→h'.get? a=some x):cQ C σ' M' h' o a:=by
 cases o with
 |list l=>exact eJ R.listI fun vs n q r=>.list l a vs n (e _ q) (r.chg G)
 |inst c d=>exact aC R.instI fun dx q r=>.inst c d a dx (e _ q) (dC G.pre fun l z=>z▸(List.getElem?_append_left (List.getElem?_eq_some_iff.mp r).1).trans r)
 |ns l=>exact eJ R.QJ fun es n q r=>.ns l a es n (e _ q) (r.chg G)
 |cu b=>exact⟨e _ R.jE.1,R.jE.2⟩
theorem cQ.grow(G:aJ Z J M h σ' M' h'){o:AO}{a:Addr}(R:cQ C J M h o a)(e:∀x,h.get? a=some x→h'.get? a=some x):cQ C σ' M' h' o a:=R.chg G.chg e
theorem aq.nU(S:aq C J M s h){a:Addr}(ha:h.get? a=none):¬M a:=fun q=>let⟨_,e⟩:=S.mlt a q;aO e ha
theorem cQ.live{o:AO}{a:Addr}(R:cQ C J M h o a):∃x,h.get? a=some x:=by
 cases o with
 |list l=>exact eJ R.listI fun Y Y q Y=>⟨_,q⟩
 |inst c d=>exact aC R.instI fun Y q Y=>⟨_,q⟩
 |ns l=>exact eJ R.QJ fun Y Y q Y=>⟨_,q⟩
 |cu b=>exact⟨_,R.jE.1⟩
theorem aq.inj(S:aq C J M s h){a:Addr}(e:J[i]?=some a)(e':J[j]?=some a):i=j:=by
 refine dC (List.getElem?_eq_some_iff.mp e:) fun hi Lo=>?_
 refine dC (List.getElem?_eq_some_iff.mp e':) fun hj UH=>?_
 have P:=List.pairwise_iff_getElem.mp S.nodup
 rcases Nat.lt_trichotomy i j with q|q|q
 ·exact absurd (Lo.trans UH.symm) (P i j hi hj q)
 ·exact q
 ·exact absurd (UH.trans Lo.symm) (P j i hj hi q)
theorem qL.keep{P:Addr}(T:qL C M h P)(hk:∀b o,h.get? b=some o→h'.get? b=some o):qL C M h' P:=
 let⟨ps,a,b,c,d⟩:=T;⟨ps,a,hk _ _ b,c,fun pos cv e=>let⟨c,oc,vs,t,e1,e2,e3,e4⟩:=d pos cv e;⟨c,oc,vs,t,e1,e2,hk _ _ e3,e4⟩⟩
theorem aq.heap(S:aq C J M s h)(hk:∀b o,h.get? b=some o→h'.get? b=some o):aq C J M s h':=
 ⟨S.len,S.lim,S.gL,S.nodup,S.low,fun i o a e q=>(S.obj i o a e q).grow (aJ.heap (fun Y=>False) J M hk) (fun x=>hk a x),S.jq,S.yu,fun a m=>let⟨o,e⟩:=S.there a m;⟨o,hk _ _ e⟩,fun a m=>let⟨o,e⟩:=S.mlt a m;⟨o,hk _ _ e⟩,fun b o e=>⟨(S.base b o e).1,hk b o (S.base b o e).2⟩,fun p hp=>⟨(S.tab p hp).1.keep hk,(S.tab p hp).2⟩,S.rg⟩
theorem aq.alloc(S:aq C J M s h)(Lm:Nat.blt s.n 1000000=true){a:Addr}(hk:∀b o,h.get? b=some o→h'.get? b=some o)(ha:h.get? a=none)(o:AO)
  (ho:cQ C (J++[a]) (fun b=>M b∨b=a) h' o a):aq C (J++[a]) (fun b=>M b∨b=a) (s.new o).2 h'∧aJ Z J M h (J++[a]) (fun b=>M b∨b=a) h'∧(J++[a])[s.n]?=some a:=by
 have G:aJ Z J M h (J++[a]) (fun b=>M b∨b=a) h':=⟨⟨[a],rfl,fun b m=>by rw [List.mem_singleton]at m;rw [m];exact ha⟩,⟨fun b o e=>⟨o,hk b o e⟩,fun b o Y e=>hk b o e⟩,fun Y x=>.inl x,fun b x=>x.elim .inl fun q=>.inr (q▸ha)⟩
 have hn:a∉J:=fun m=>let⟨_,e⟩:=S.there a m;aO e ha
 have ON:s.n<1000000:=bF Lm
 have hnf:=S.gL
 have hroom:s.n<2^40 - 1:=Nat.lt_trans ON (by decide)
 have he:(J++[a])[s.n]?=some a:=by rw [S.len,List.getElem?_append_right (Nat.le_refl _),Nat.sub_self];rfl
 refine⟨⟨?_,ON,⟨Nat.le_succ_of_le hnf.1,fun i hi=>(AS.bB s.hp 40 s.n i o (by have:=hnf.1;lia)).trans (hnf.2 i hi)⟩,?_,?_,?_,?_,?_,?_,fun b m=>m.elim (fun m=>let⟨o,e⟩:=S.mlt b m;⟨o,hk _ _ e⟩) fun m=>m▸ho.live,?_,?_,S.rg⟩,G,he⟩
 ·show s.n+1=_
  rw [S.len];simp
 ·rw [List.nodup_append]
  exact⟨S.nodup,by simp,fun x hx y hy=>by rw [List.mem_singleton]at hy;subst hy;rintro rfl;exact hn hx⟩
 ·intro i o' e
  show i<s.n+1
  by_cases hi:s.n=i
  ·lia
  ·have:(aE.put 40 s.hp s.n o).get i=some o':=e
   rw [AS.bB _ _ _ _ _ hi]at this;have:=S.low i o' this
   lia
 ·intro i o' b e q
  by_cases hi:s.n=i
  ·subst hi
   have e':(aE.put 40 s.hp s.n o).get s.n=some o':=e
   rw [AS.cp _ _ _ _ hroom]at e';injection e' with e';subst e';rw [he]at q;injection q with q;subst q;exact ho
  ·have e':(aE.put 40 s.hp s.n o).get i=some o':=e
   rw [AS.bB _ _ _ _ _ hi]at e';have hl:=S.low i o' e'
   rw [S.len]at hl;rw [List.getElem?_append_left hl]at q;exact(S.obj i o' b e' q).grow G (fun x y=>hk b x y)
 ·intro i b q hle
  rcases Nat.lt_or_ge i J.length with hl|hl
  ·rw [List.getElem?_append_left hl]at q
   exact .inl (S.jq i b q hle)
  ·rw [List.getElem?_append_right hl]at q
   have:b∈[a]:=bO q
   exact .inr (List.mem_singleton.mp this)
 ·intro i b q Dg hb
  have hl:i<J.length:=by rw [←S.len];exact Nat.lt_of_lt_of_le Dg hnf.1
  rw [List.getElem?_append_left hl]at q;refine hb.elim (S.yu i b q Dg) fun x=>?_
  subst x;exact hn (bO q)
 ·intro b m
  rcases List.mem_append.mp m with m|m
  ·refine dC (S.there b m:) fun o e=>?_
   exact⟨o,hk _ _ e⟩
  ·rw [List.mem_singleton]at m;subst m;exact ho.live
 ·intro b o' e
  refine aw (S.base b o' e:) fun x y=>?_
  refine⟨fun q=>q.elim x fun q=>?_,hk b o' y⟩
  subst q;exact aO y ha
 ·intro p hp
  obtain⟨⟨ps,a1,a2,a3,a4⟩,a5⟩:=S.tab p hp
  refine⟨⟨ps,.inl a1,hk _ _ a2,a3,fun pos cv e=>?_⟩,fun m=>?_⟩
  ·refine vc (a4 pos cv e:) fun c oc vs t e1 e2 e3 e4=>?_
   exact⟨c,oc,vs,t,e1,G.notM e2 e3,hk _ _ e3,e4⟩
  ·rcases List.mem_append.mp m with m|m
   ·exact a5 m
   ·rw [List.mem_singleton]at m
    rw [m]at a2;exact aO a2 ha
theorem aq.push(S:aq C J M s h)(o:Obj):aq C J M s (h.push o):=S.heap fun Y Y e=>Heap.get?_push_of_some _ e
theorem aJ.push(Z:Addr→Prop)(J:List Addr)(M:Addr→Prop)(h:Heap)(o:Obj):aJ Z J M h J M (h.push o):=aJ.heap Z J M fun Y Y e=>Heap.get?_push_of_some _ e
theorem aq.update(S:aq C J M s h){a:Addr}{x:Obj}{f:Obj→Obj}{o o':AO}(hi:J[i]?=some a)(hn:C.nf≤i)(hz:cm C Z J h)(he:s.hp.get i=some o')(hx:h.get? a=some x)(hf:(f x).isFreed=false)
  (ho:aJ Z J M h J M (h.update a f)→(h.update a f).get? a=some (f x)→cQ C J M (h.update a f) o a):aq C J M (s.upd i o) (h.update a f)∧aJ Z J M h J M (h.update a f):=by
 have hs:∀b,b≠a→(h.update a f).get? b=h.get? b:=fun b hb=>Heap.get?_update_ne _ _ _ _ hb
 have hm:=S.jq i a hi hn
 have nz:¬Z a:=fun q=>(hz a q).2.1 (bO hi)
 have hu:=Heap.get?_update_self f hx hf
 have hv:∀b o,h.get? b=some o→∃o',(h.update a f).get? b=some o':=fun b o e=>by
  by_cases hb:b=a
  ·subst hb;exact⟨_,hu⟩
  ·exact⟨o,(hs b hb).trans e⟩
 have G:aJ Z J M h J M (h.update a f):=⟨⟨[],by simp,fun Y m=>nomatch m⟩,⟨hv,fun b o hb e=>(hs b fun q=>hb (by rw [q];exact⟨hm,nz⟩)).trans e⟩,fun Y x=>x,fun Y x=>.inl x⟩
 have hl:=S.low i o' he
 have hr:s.n<2^40 - 1:=Nat.lt_of_le_of_lt S.lim (by decide)
 refine⟨⟨S.len,S.lim,⟨S.gL.1,fun j hj=>(AS.bB s.hp 40 i j o (by lia)).trans (S.gL.2 j hj)⟩,S.nodup,?_,?_,S.jq,S.yu,fun b m=>let⟨o,e⟩:=S.there b m;hv b o e,fun b m=>let⟨o,e⟩:=S.mlt b m;hv b o e,?_,?_,S.rg⟩,G⟩
 ·intro j tG e
  by_cases hj:i=j
  ·subst hj;exact hl
  ·have e':(aE.put 40 s.hp i o).get j=some tG:=e
   rw [AS.bB _ _ _ _ _ hj]at e';exact S.low j tG e'
 ·intro j tG b e q
  by_cases hj:i=j
  ·subst hj
   have e':(aE.put 40 s.hp i o).get i=some tG:=e
   rw [AS.cp _ _ _ _ (Nat.lt_trans hl hr)]at e';injection e' with e';subst e';rw [hi]at q;injection q with q;subst q;exact ho G hu
  ·have e':(aE.put 40 s.hp i o).get j=some tG:=e
   rw [AS.bB _ _ _ _ _ hj]at e';have hb:b≠a:=fun z=>hj (S.inj hi (z▸q))
   exact(S.obj j tG b e' q).grow G fun y hy=>(hs b hb).trans hy
 ·intro b tG e
  refine aw (S.base b tG e:) fun n y=>?_
  exact⟨n,(hs b fun z=>n (z▸hm)).trans y⟩
 ·intro p hp
  obtain⟨⟨ps,a1,a2,a3,a4⟩,a5⟩:=S.tab p hp
  refine⟨⟨ps,a1,(hs _ fun z=>a5 (by rw [z];exact bO hi)).trans a2,a3,fun pos cv e=>?_⟩,a5⟩
  refine vc (a4 pos cv e:) fun c oc vs t e1 e2 e3 e4=>?_
  exact⟨c,oc,vs,t,e1,e2,(hs _ fun z=>e2 (by rw [z];exact hm)).trans e3,e4⟩
theorem cm.grow(z:cm C Z J h)(G:aJ Z J M h σ' M' h'):cm C Z σ' h':=fun a q=>by
 obtain⟨l,rfl,f⟩:=G.pre
 obtain⟨⟨o,z1⟩,z2,z3⟩:=z a q
 exact⟨G.ext.live a o z1,fun m=>(List.mem_append.mp m).elim z2 fun m=>aO z1 (f a m),z3⟩
end
def sf(C:Cx)(x:Nat)(v:AV):Prop:=∃rv,(∀J M h,(∀b o,C.hb.get? b=some o→¬M b∧h.get? b=some o)→ao C J M h v rv)∧∃mg,C.hb.Ns mainGlobals mg∧
 (mg (C.nm x)=some rv∨(mg (C.nm x)=none∧∃mb,C.hb.Ns builtinsNs mb∧mb (C.nm x)=some rv))
section
theorem dI.wp{x:Str}(R:dI Z M env st.heap x rv)(hk:env.scope.kind=.function)(h1:(x==("__debug__":Str))=false)(h2:(x==("__classdict__":Str))=false)(q:Q rv st):
  ab (Md C) A (eval (.Name x pos) env) Q E st:=by
 refine m7 ?_ h1
 cases R with
 |loc m a b c e=>exact lf<|wpAny_loadName_local hk a c e q
 |cell c o a b e f g=>exact a.elim (fun a=>lf<|wpAny_loadName_cell hk a b ⟨o,f,g⟩ q) fun a=>lf<|wpAny_loadName_free hk a b ⟨o,f,g⟩ q h2
theorem Rt{x:Nat}(e:(cF P N ih (.n x) ρ s).leaf C.ν=some (v,s')){sN:Str}(h1:sN=C.nm x)(h2:gV (kd.k sN))(h3:(sN==("__debug__":Str))=false)(h4:(sN==("__classdict__":Str))=false)(F:fm C Z J M kd env ρ st.heap)(S:aq C J M s st.heap)(K:KV C Z J M st v s' Q):
  ab (Md C) A (eval (.Name sN pos) env) Q E st:=by
  subst h1;exact aC (aI e) fun w q e=>aC (F.vars x w q h2) fun rv R V=>R.wp F.kind h3 h4 ((K.of e).now S V st.toks)
theorem Nr(e:(cF P N ih (.val a) ρ s).leaf C.ν=some (v,s')){cc:Const}{kk:Nat}(h:sg a cc)(S:aq C J M s st.heap)(K:KV C Z J M st v s' Q):
  ab (Md C) A (eval (.Constant cc kk pos) env) Q E st:=by
  unfold cF at e;injection e with e;injection e with e aN;subst e aN;rw [arm_eval_Constant];cases h with
  |none=>exact af (K.now S .none st.toks)
  |bool b=>exact af (K.now S (.bool b) st.toks)
  |int i=>exact lf<|wpAny_mkInt (K.now S (.int (.c i) i _ rfl) _)
  |str l=>exact lf<|wpAny_mkText (K.now S (.str l _) _)
  |bytes l b hb hl=>
   refine aa (lf<|wpAny_fresh (af ?_))
   have hE:∀ν:Nat→Int,∀e∈l,∃i:Nat,i<256∧e.eval ν=(i:Int):=fun ν e he=>by
    obtain⟨i,hi,rfl⟩:=hb e he
    exact⟨i,hi,rfl⟩
   have hq:l.map (cz C.ν)=b:=by
    rw [←hl];refine List.map_congr_left fun e he=>?_
    obtain⟨i,hi,rfl⟩:=hb e he
    rfl
   have:b.toArray=aS C.ν l:=by unfold aS;rw [hq]
   rw [this];exact K.now S (.bytes l _ fun e he=>by
    refine aC (hE C.ν e he:) fun i hi q=>?_
    rw [q];lia) _
theorem z7{x:Nat}{w:AV}(W:sf C x w)(S:aq C J M s st.heap)(F:fm C Z J M kd env ρ st.heap)(k:∀rv,ao C J M st.heap w rv→Q rv st):ab (Md C) A (loadGlobal env (C.nm x)) Q E st:=
 aC W fun rv V W=>aC W fun mg G hm=>by
  have kp:∀b o,C.hb.get? b=some o→st.heap.get? b=some o:=fun b o e=>(S.base b o e).2
  have G':st.heap.Ns env.globals mg:=by rw [F.glob];exact G.keeps kp
  exact hm.elim (fun hm=>lf<|Calls.loadGlobal_global G' hm (k rv (V _ _ _ S.base))) fun hm=>aw hm fun hm h=>aC h fun mb B hb=>lf<|Calls.loadGlobal_builtin G' hm (by rw [F.iZ];exact B.keeps kp) hb (k rv (V _ _ _ S.base))
theorem NA(W:∀x v,P.gl.get x=some v→sf C x v){x:Nat}(e:(cF P N ih (.eW x) ρ s).leaf C.ν=some (v,s')){sN:Str}(h1:sN=C.nm x)(h2:kd.k sN=some .globalImplicit)(h3:(sN==("__debug__":Str))=false)(F:fm C Z J M kd env ρ st.heap)(S:aq C J M s st.heap)(K:KV C Z J M st v s' Q):
  ab (Md C) A (eval (.Name sN pos) env) Q E st:=by
  subst h1;refine aC (aI e) fun w q e=>fu F.kind ((F.kinds _).trans h2) (z7 (W x w q) S F fun rv V=>(K.of e).now S V st.toks) h3
theorem bC{r:aH α}{a:α}(e:(jN n r).leaf ν=some a):n≤100000∧r.leaf ν=some a:=by
 unfold jN at e;cases q:Nat.ble n 100000 with
 |true=>rw [q]at e;exact⟨bF q,e⟩
 |false=>rw [q]at e;injection e
theorem bN(h:n≤100000):n≤sizeLine:=Nat.le_trans h (by decide)
theorem dU(h:∀y p,x≠.Starred y p):starEach (x::xs) env=(false,eval x env)::starEach xs env:=by
 cases x<;>first|rfl|exact absurd rfl (h _ _)
theorem gh(H:gk C ih d):∀{es:List CE}{ρ:Env}{s:AS}{vs:List AV}{s':AS},(qw ih es ρ s).leaf C.ν=some (vs,s')→∀{kd:Kd}{xs:List Expr},cY C kd es xs→∀{Z:Addr→Prop}{J:List Addr}{M:Addr→Prop}{env:PySem.Env}{A:Around}{st:Shared}(pos:Pos),
  fm C Z J M kd env ρ st.heap→aq C J M s st.heap→bu A d→cm C Z J st.heap→∀{Q:List Value→Shared→Prop}{E:Value→Shared→Prop},QV C Z J M st vs s' Q→ab (Md C) A (spliced (backTo pos (starEach xs env))) Q E st:=by
 intro es
 induction es with
 |nil=>
  intro ρ s vs s' e kd xs hf Z J M env A st pos F S R z Q E K;exact hf.nl▸lf (wpAny_items_nil (K.of e J M st.heap st.toks [] (aJ.refl _ _ _ _) S .nil))
 |cons a es Dc=>
  intro ρ s vs s' e kd xs hf Z J M env A st pos F S R z Q E K;refine aH.bd e fun p e1 e=>aH.bd e fun q e2 e=>hf.oU fun x sH f1 f2 f3=>?_
  refine hK (H a ρ s p.1 p.2 e1 kd x f1 Z J M env A st F S R z _ _ fun aA aP h₁ aU rv G aD V=>?_) (dU f2)
  exact Dc e2 f3 pos (F.grow G) aD R (z.grow G) fun cy dR br bf rvs bb bT dY=>K.of e cy dR br bf _ (G.trans bb) bT (.cons (V.grow bb) dY)
theorem Nt(H:gk C ih d){es:List CE}(e:(cF P N ih (.t es) ρ s).leaf C.ν=some (v,s')){kk:Nat}(h:cY C kd es xs)(F:fm C Z J M kd env ρ st.heap)(S:aq C J M s st.heap)(R:bu A d)(z:cm C Z J st.heap)(K:KV C Z J M st v s' Q):
  ab (Md C) A (eval (.Tuple xs kk pos) env) Q E st:=by
  unfold cF at e;refine aH.cL e fun vs ag e1 e=>?_
  refine aw (bC e:) fun hl e=>?_
  injection e with e;injection e with e aN;subst e aN;refine sy (gh H e1 h _ F S R z fun aA aP h₁ aU rvs G aD V=>⟨by rw [←V.length];exact bN hl,?_⟩)
  have G':=aJ.push Z aA aP h₁ (fM rvs 0)
  exact K aA aP _ aU _ (G.trans G') (aD.push _) (.t vs _ rvs 0 (aD.nU (Heap.bc _)) (Heap.get?_push_size _ rfl) (V.grow G'))
theorem ff{o:AO}(e:(s.alloc o).leaf ν=some (i,s')):Nat.blt s.n 1000000=true∧i=s.n∧s'=(s.new o).2:=by
 unfold AS.alloc at e;cases q:Nat.blt s.n 1000000 with
 |true=>rw [q]at e;injection e with e;injection e with e aN;subst e aN;exact⟨rfl,rfl,rfl⟩
 |false=>rw [q]at e;injection e
theorem newList_K{rvs:List Value}(e:(newList s l).leaf C.ν=some (v,s'))(S:aq C J M s st.heap)(V:ay C J M st.heap l rvs)(K:KV C Z J M st v s' Q)(tk:Tok):
  rvs.length≤sizeLine∧Q (.ref st.heap.objs.size) {st with heap:=st.heap.push (bZ rvs 0),toks:=tk}:=by
 unfold newList at e;refine aw (bC e:) fun hl e=>?_
 refine aH.cL e fun i ag e1 e=>?_
 injection e with e;injection e with e aN;subst e aN;obtain⟨hb,rfl,rfl⟩:=ff e1
 refine⟨by rw [←V.length];exact bN hl,?_⟩
 have hg:=Heap.get?_push_size st.heap (o:=bZ rvs 0) rfl
 have G:aJ Z J M st.heap (J++[st.heap.objs.size]) (fun b=>M b∨b=st.heap.objs.size) (st.heap.push (bZ rvs 0)):=
  ⟨⟨[st.heap.objs.size],rfl,fun b m=>by rw [List.mem_singleton]at m;rw [m];exact Heap.bc _⟩,⟨fun b o e=>⟨o,Heap.get?_push_of_some _ e⟩,fun b o Y e=>Heap.get?_push_of_some _ e⟩,fun Y x=>.inl x,fun b x=>x.elim .inl fun q=>.inr (q▸Heap.bc _)⟩
 obtain⟨S',G',he⟩:=S.alloc (Z:=Z) hb (h':=st.heap.push (bZ rvs 0)) (a:=st.heap.objs.size) (fun Y Y e=>Heap.get?_push_of_some _ e) (Heap.bc _) (.list l)
  (.list l _ rvs 0 hg (V.grow G))
 exact K _ _ _ tk _ G' S' (.ref _ _ he)
theorem Kk(H:gk C ih d){es:List CE}(e:(cF P N ih (.list es) ρ s).leaf C.ν=some (v,s'))(h:cY C kd es xs)(F:fm C Z J M kd env ρ st.heap)(S:aq C J M s st.heap)(R:bu A d)(z:cm C Z J st.heap)(K:KV C Z J M st v s' Q):
  ab (Md C) A (eval (.List xs pos) env) Q E st:=by
  unfold cF at e;refine aH.cL e fun vs ag e1 e=>?_
  exact vi (gh H e1 h _ F S R z fun aA aP h₁ aU rvs G aD V=>newList_K (st:={st with heap:=h₁,toks:=aU}) e aD V (K.after G) aU)
theorem BZ(H:gk C ih d){a b:CE}{y:Expr}{op:AV→AV→AS→aH (AV×AS)}{t:Value→Value→Sem Value}
  (e:((ih.ev a ρ s).bind fun(x,s)=>(ih.ev b ρ s).bind fun(y,s)=>op x y s).leaf C.ν=some (v,s'))(h1:aW C kd a x)(h2:aW C kd b y)(F:fm C Z J M kd env ρ st.heap)(S:aq C J M s st.heap)(R:bu A d)(z:cm C Z J st.heap)(K:KV C Z J M st v s' Q)
  (ht:∀{av bv:AV}{ag:AS}{rv rw:Value}{J:List Addr}{M:Addr→Prop}{st:Shared}{Q:Value→Shared→Prop},(op av bv ag).leaf C.ν=some (v,s')→ao C J M st.heap av rv→ao C J M st.heap bv rw→aq C J M ag st.heap→cm C Z J st.heap→KV C Z J M st v s' Q→ab (Md C) A (t rv rw) Q E st):
  ab (Md C) A (eval x env) (fun a ag=>ab (Md C) A (eval y env) (fun b aK=>ab (Md C) A (t a b) Q E aK) E ag) E st:=by
 refine aH.cL e fun av ag e1 e=>?_
 refine aH.cL e fun bv aK e2 e=>?_
 refine H a ρ s av ag e1 kd x h1 Z J M env A st F S R z _ _ fun aA aP h₁ aU rv aF aD cb=>?_
 refine H b ρ ag bv aK e2 kd y h2 Z aA aP env A _ (F.grow aF) aD R (z.grow aF) _ _ fun cy dR br bf rw bb bT dY=>?_
 exact ht (st:={st with heap:=br,toks:=bf}) e (cb.grow bb) dY bT ((z.grow aF).grow bb) (K.after (aF.trans bb))
theorem Ny(H:gk C ih d)(HT:vg C ih d){t a b:CE}(e:(cF P N ih (.ite t a b) ρ s).leaf C.ν=some (v,s')){x2 x3:Expr}(h1:aW C kd t x1)(h2:aW C kd a x2)(h3:aW C kd b x3)(F:fm C Z J M kd env ρ st.heap)(S:aq C J M s st.heap)(R:bu A d)(z:cm C Z J st.heap)(K:KV C Z J M st v s' Q):
  ab (Md C) A (eval (.IfExp x1 x2 x3 pos) env) Q E st:=by
  unfold cF at e;refine aH.cL e fun r ag e1 e=>?_
  refine sA (HT t ρ s r ag e1 kd _ h1 Z J M env A st F S R z _ _ fun aA aP h₁ aU aF aD=>?_)
  cases r with
  |true=>exact H a ρ ag v s' e kd _ h2 Z aA aP env A _ (F.grow aF) aD R (z.grow aF) _ _ (K.after aF)
  |false=>exact H b ρ ag v s' e kd _ h3 Z aA aP env A _ (F.grow aF) aD R (z.grow aF) _ _ (K.after aF)
end
theorem bL{a b:Int}:iy a b=true↔a=b:=PySem.W.Z.eqB_iff a b
theorem bz{a b:Int}:iY a b=true↔a<b:=PySem.W.Z.ltB_iff a b
theorem bI{a b:Int}:jM a b=true↔a≤b:=PySem.W.Z.leB_iff a b
theorem IW{a b:Int}(h:iy a b=false):a≠b:=fun q=>by rw [bL.mpr q]at h;injection h
theorem IV{a b:Int}(h:iY a b=false):b≤a:=Int.not_lt.mp fun q=>by rw [bz.mpr q]at h;injection h
theorem yr{a b:Int}(h:jM a b=false):b<a:=Int.not_le.mp fun q=>by rw [bI.mpr q]at h;injection h
def cg(ν:Nat→Int)(rg:Rg):Prop:=∀(k:Nat)(p:Int×Int),rg[k]?=some p→p.1≤ν k∧ν k≤p.2
theorem ym(a b:Int):mG a b≤a∧mG a b≤b:=by
 unfold mG;cases q:jM a b with
 |true=>have:=bI.mp q;simp only;lia
 |false=>have:=yr q;simp only;lia
theorem yd(a b:Int):a≤imax a b∧b≤imax a b:=by
 unfold imax;cases q:jM a b with
 |true=>have:=bI.mp q;simp only;lia
 |false=>have:=yr q;simp only;lia
theorem mT:∀(l:List Int)(m x:Int),x=m∨x∈l→CR l m≤x
 |[],m,x,h=>by rcases h with rfl|h;exact Int.le_refl _;cases h
 |a::l,m,x,h=>by
  unfold CR;rcases h with rfl|h
  ·exact Int.le_trans (mT l _ _ (.inl rfl)) (ym a x).2
  ·rcases cO h with rfl|h
   ·exact Int.le_trans (mT l _ _ (.inl rfl)) (ym x m).1
   ·exact mT l _ _ (.inr h)
theorem mV:∀(l:List Int)(m x:Int),x=m∨x∈l→x≤CT l m
 |[],m,x,h=>by rcases h with rfl|h;exact Int.le_refl _;cases h
 |a::l,m,x,h=>by
  unfold CT;rcases h with rfl|h
  ·exact Int.le_trans (yd a x).2 (mV l _ _ (.inl rfl))
  ·rcases cO h with rfl|h
   ·exact Int.le_trans (yd x m).1 (mV l _ _ (.inl rfl))
   ·exact mV l _ _ (.inr h)
theorem xH{t:List Int}{lo hi i:Int}(h0:0≤lo)(h1:hi<t.length)(h2:lo≤i)(h3:i≤hi):t.getD i.toNat 0∈(t.take (hi+1).toNat).drop lo.toNat:=by
 refine dC (Int.eq_ofNat_of_zero_le h0:) fun a ea=>?_
 refine dC (Int.eq_ofNat_of_zero_le (Int.le_trans h0 h2):) fun k ek=>?_
 refine dC (Int.eq_ofNat_of_zero_le (Int.le_trans h0 (Int.le_trans h2 h3)):) fun b eb=>?_
 subst ea ek eb;have h2:=Int.ofNat_le.mp h2
 have h3:=Int.ofNat_le.mp h3
 have hlt:k<t.length:=Nat.lt_of_le_of_lt h3 (Int.ofNat_lt.mp h1)
 show t.getD k 0∈(t.take (b+1)).drop a;rw [List.getD_eq_getElem?_getD,List.getElem?_eq_getElem hlt];refine bO (i:=k - a) ?_
 rw [List.getElem?_drop,Nat.add_sub_cancel' h2,List.getElem?_take,if_pos (Nat.lt_succ_of_le h3),List.getElem?_eq_getElem hlt]
 rfl
theorem qt{a b m:Int}(h:a≤b)(hm:0<m):Int.fdiv a m≤Int.fdiv b m:=by
 rw [Int.fdiv_eq_ediv_of_nonneg _ (Int.le_of_lt hm),Int.fdiv_eq_ediv_of_nonneg _ (Int.le_of_lt hm)];exact Int.ediv_le_ediv hm h
theorem aB{r:Option α}{y:α}(h:ck b r=some y):b=true∧r=some y:=by
 cases b with
 |true=>exact⟨rfl,h⟩
 |false=>injection h
theorem aM{o:Option α}{g:α→Option β}{y:β}(h:fW o g=some y):∃a,o=some a∧g a=some y:=by
 cases o with
 |none=>injection h
 |some a=>exact⟨a,rfl,h⟩
theorem bD{l:List α}{g:α→List α→Option β}{y:β}(h:kc l g=some y):∃a r,l=a::r∧g a r=some y:=by
 cases l with
 |nil=>injection h
 |cons a r=>exact⟨a,r,rfl,h⟩
theorem ae{a:Bool}(h:(a&&b)=true):a=true∧b=true:=(Bool.and_eq_true a b).mp h
theorem fQ{a:Bool}(h:(a||b)=true):a=true∨b=true:=(Bool.or_eq_true a b).mp h
theorem dy{a:Bool}(h:(!a)=true):a=false:=by cases a with
 |true=>injection h
 |false=>rfl
theorem de{x:IE}{i:Int}(h:gM x=some i):x=.c i:=by cases x<;>first|exact congrArg IE.c (bh h)|injection h
theorem kb{x:IE}(h:EI x=some k):x=.v k:=by cases x<;>first|exact congrArg IE.v (bh h)|injection h
def zy(l:List Prop)(k:Nat):Prop:=Nat.rec (motive:=fun Y=>List Prop→Prop) (fun l=>l.headD True) (fun Y r l=>r l.tail) k l
theorem OI(e:IE):zy [True,True,e=.add (mF e) (rq e),e=.sub (mF e) (rq e),e=.mul (mF e) (rq e),e=.div (mF e) (rq e),e=.mod (mF e) (rq e),e=.tab (Il e) (mF e)] e.ctorIdx:=by
 cases e<;>first|exact trivial|exact rfl
theorem ju{e:IE}(h:ME e k=true):zy [True,True,e=.add (mF e) (rq e),e=.sub (mF e) (rq e),e=.mul (mF e) (rq e),e=.div (mF e) (rq e),e=.mod (mF e) (rq e),e=.tab (Il e) (mF e)] k:=aL h▸OI e
theorem Hz{x:IE}{p:IE×Int}(h:l4 x=some p):x=.add p.1 (.c p.2):=by
 refine aw (aB h:) fun h0 h=>?_
 refine aC (aM h:) fun i e h=>?_
 injection h with h;subst h;exact(show x=.add (mF x) (rq x)from ju h0).trans (congrArg (IE.add _) (de e))
theorem jP{x:IE}{p:IE×Int}(ν:Nat→Int)(h:l4 x=some p):x.eval ν=p.1.eval ν+p.2:=congrArg (IE.eval ν) (Hz h)
theorem hH{x:IE}{i:Int}(ν:Nat→Int)(h:gM x=some i):x.eval ν=i:=congrArg (IE.eval ν) (de h)
section
def Wi(p:Int×Int)(x:Int):Prop:=p.1≤x∧x≤p.2
theorem Wi.add{p q:Int×Int}{x y:Int}(a:Wi p x)(b:Wi q y):Wi (p.1+q.1,p.2+q.2) (x+y):=⟨Int.add_le_add a.1 b.1,Int.add_le_add a.2 b.2⟩
theorem Wi.sub{p q:Int×Int}{x y:Int}(a:Wi p x)(b:Wi q y):Wi (p.1 - q.2,p.2 - q.1) (x - y):=⟨Int.sub_le_sub a.1 b.2,Int.sub_le_sub a.2 b.1⟩
theorem Wi.tab{t:List Int}{p:Int×Int}{i x:Int}{r:List Int}(b1:0≤p.1)(b2:p.2<t.length)(hv:Wi p i)(hl:(t.take (p.2+1).toNat).drop p.1.toNat=x::r):Wi (CR r x,CT r x) (t.getD i.toNat 0):=by
 have hm:t.getD i.toNat 0∈x::r:=hl▸xH b1 b2 hv.1 hv.2
 exact⟨mT r x _ (cO hm),mV r x _ (cO hm)⟩
theorem dH(R:cg ν rg):∀{e:IE}{p:Int×Int},gc rg e=some p→Wi p (e.eval ν):=by
 intro e
 induction e with
 |c i=>intro p q;injection q with q;subst q;exact⟨Int.le_refl _,Int.le_refl _⟩
 |v k=>exact fun q=>R k _ q
 |add a b ha hb=>
  intro p q;refine aC (aM q:) fun x e1 q=>?_
  refine aC (aM q:) fun y e2 q=>?_
  injection q with q;subst q;exact(ha e1).add (hb e2)
 |sub a b ha hb=>
  intro p q;refine aC (aM q:) fun x e1 q=>?_
  refine aC (aM q:) fun y e2 q=>?_
  injection q with q;subst q;exact(ha e1).sub (hb e2)
 |mul a b ha hb=>
  intro p q;refine aC (aM q:) fun x e1 q=>?_
  refine aC (aM q:) fun i e2 q=>?_
  refine aw (aB q:) fun hi q=>?_
  injection q with q;subst q;rw [de e2];exact⟨Int.mul_le_mul_of_nonneg_right (ha e1).1 (bI.mp hi),Int.mul_le_mul_of_nonneg_right (ha e1).2 (bI.mp hi)⟩
 |div a b ha hb=>
  intro p q;refine aC (aM q:) fun x e1 q=>?_
  refine aC (aM q:) fun i e2 q=>?_
  refine aw (aB q:) fun hi q=>?_
  injection q with q;subst q;rw [de e2];exact⟨qt (ha e1).1 (bz.mp hi),qt (ha e1).2 (bz.mp hi)⟩
 |mod a b ha hb=>
  intro p q;refine aC (aM q:) fun x e1 q=>?_
  refine aC (aM q:) fun i e2 q=>?_
  refine aw (aB q:) fun hi q=>?_
  injection q with q;subst q;rw [de e2];exact⟨Int.fmod_nonneg_of_pos _ (bz.mp hi),Int.le_sub_one_of_lt (Int.fmod_lt_of_pos _ (bz.mp hi))⟩
 |tab t a ha=>
  intro p q;refine aC (aM q:) fun x e1 q=>?_
  refine aw (aB q:) fun hb q=>?_
  refine eJ (bD q:) fun y r hl q=>?_
  injection q with q;subst q;exact Wi.tab (bI.mp (ae hb).1) (bz.mp (ae hb).2) (ha e1) hl
theorem ye(R:cg ν rg){e:IE}{l h:Int}(q:gc rg e=some (l,h)):l≤e.eval ν∧e.eval ν≤h:=dH R q
end
theorem iw(ν:Nat→Int)(x:IE)(j:Int):(uU x j).eval ν=x.eval ν+j:=by
 unfold uU;cases q:gM x with
 |some i=>rw [de q];rfl
 |none=>
  simp only
  cases q:l4 x with
  |some p=>
   dsimp only
   rw [jP ν q,Int.add_assoc];cases q:iy (p.2+j) 0 with
   |true=>rw [bL.mp q,Int.add_zero]
   |false=>rfl
  |none=>
   dsimp only
   cases q:iy j 0 with
   |true=>rw [bL.mp q,Int.add_zero]
   |false=>rfl
theorem AL(ν:Nat→Int)(x y:IE):(Mo x y).eval ν=x.eval ν+y.eval ν:=by
 unfold Mo;cases q:l4 x with
 |some p=>
  dsimp only
  rw [jP ν q];cases q:l4 y with
  |some r=>
   rw [jP ν q];show(uU _ _).eval ν=_;rw [iw];show p.1.eval ν+r.1.eval ν+(p.2+r.2)=_
   lia
  |none=>exact Int.add_right_comm ..
 |none=>
  dsimp only
  cases q:l4 y with
  |some r=>rw [jP ν q];exact Int.add_assoc ..
  |none=>rfl
theorem kq(ν:Nat→Int)(x y:IE):(mkAdd x y).eval ν=x.eval ν+y.eval ν:=by
 unfold mkAdd;cases q:gM y with
 |some j=>rw [hH ν q];exact iw ..
 |none=>
  dsimp only
  cases q:gM x with
  |some i=>rw [hH ν q];exact(iw ..).trans (Int.add_comm ..)
  |none=>exact AL ..
theorem km(ν:Nat→Int)(x y:IE):(mkSub x y).eval ν=x.eval ν - y.eval ν:=by
 unfold mkSub;cases q:gM y with
 |some j=>rw [hH ν q];exact iw ..
 |none=>rfl
theorem qg(ν:Nat→Int)(x:IE)(j:Int):(mulC x j).eval ν=x.eval ν*j:=by
 unfold mulC;cases q:gM x with
 |some i=>rw [de q];rfl
 |none=>
  dsimp only
  cases q:iy j 0 with
  |true=>rw [bL.mp q,Int.mul_zero];rfl
  |false=>
   dsimp only
   cases q:iy j 1 with
   |true=>rw [bL.mp q,Int.mul_one]
   |false=>
    dsimp only
    cases q:l4 x with
    |some p=>rw [jP ν q,Int.add_mul];rfl
    |none=>rfl
theorem vO(ν:Nat→Int)(x y:IE):(mkMul x y).eval ν=x.eval ν*y.eval ν:=by
 unfold mkMul;cases q:gM y with
 |some j=>rw [hH ν q];exact qg ..
 |none=>
  dsimp only
  cases q:gM x with
  |some i=>rw [hH ν q];exact(qg ..).trans (Int.mul_comm ..)
  |none=>rfl
theorem rV{P:α→Prop}{x y:IE}{g:Int→Int→α}{d:α}(h:∀i j,x=.c i→y=.c j→P (g i j))(hd:P d):P (both x y g d):=by
 unfold both;cases q:gM x with
 |none=>exact hd
 |some i=>
  cases q':gM y with
  |none=>exact hd
  |some j=>exact h i j (de q) (de q')
theorem vV(ν:Nat→Int)(x y:IE):(IK x y).eval ν=Int.fdiv (x.eval ν) (y.eval ν):=rV (P:=fun z:IE=>z.eval ν=_) (fun i j ex ey=>by rw [ex,ey];rfl) rfl
theorem ky(ν:Nat→Int){m:Int}:∀x:IE,(oI m x).eval ν % m=x.eval ν % m
 |.c i=>by
  show(Int.emod i m) % m=i % m;exact Int.emod_emod_of_dvd _ (Int.dvd_refl m)
 |.v k=>rfl
 |.add a b=>by
  have h1:=ky ν (m:=m) a
  have h2:=ky ν (m:=m) b
  show(mkAdd (oI m a) (oI m b)).eval ν % m=(a.eval ν+b.eval ν) % m;rw [kq,Int.add_emod,h1,h2,←Int.add_emod]
 |.sub a b=>rfl
 |.mul a b=>by
  unfold oI;cases q:gM b with
  |none=>rfl
  |some k=>
   dsimp only
   cases q':iy (Int.emod k m) 0 with
   |false=>rfl
   |true=>
    show(0:Int) % m=(a.eval ν*b.eval ν) % m;rw [hH ν q,Int.mul_emod,show k % m=0 from bL.mp q',Int.mul_zero]
 |.div a b=>rfl
 |.mod a b=>rfl
 |.tab l a=>rfl
theorem vG(R:cg ν rg){m:Int}(hm:0<m){x y:IE}(h:y.eval ν % m=x.eval ν % m):(B5 rg m x y).eval ν=Int.fmod (x.eval ν) m:=by
 unfold B5;cases q:gc rg y with
 |none=>rfl
 |some p=>
  dsimp only
  cases q':iY (p.2 - Int.fdiv p.1 m*m) m with
  |false=>rfl
  |true=>
   dsimp only
   have b:=bz.mp q'
   refine aw (dH R q:) fun v1 v2=>?_
   rw [iw,Int.fmod_eq_emod_of_nonneg _ (Int.le_of_lt hm),←h];rw [Int.fdiv_eq_ediv_of_nonneg _ (Int.le_of_lt hm)]at b⊢;have key:(y.eval ν - p.1/m*m) % m=y.eval ν - p.1/m*m:=Int.emod_eq_of_lt (Int.sub_nonneg_of_le (Int.le_trans (Int.ediv_mul_le p.1 (Int.ne_of_gt hm)) v1)) (Int.lt_of_le_of_lt (Int.sub_le_sub_right v2 _) b)
   exact Int.sub_eq_add_neg.symm.trans (key.symm.trans (Int.sub_mul_emod_self_right ..))
theorem vQ(R:cg ν rg)(x y:IE):(IJ rg x y).eval ν=Int.fmod (x.eval ν) (y.eval ν):=by
 refine rV (P:=fun z:IE=>z.eval ν=_) (fun i j ex ey=>by rw [ex,ey];rfl) ?_
 cases q:gM y with
 |none=>rfl
 |some m=>
  dsimp only
  rw [de q];cases q':iY 0 m with
  |false=>rfl
  |true=>exact vG R (bz.mp q') (ky ν _)
theorem kh(R:cg ν rg){e:IE}(h:fj rg e=true):Builtin.Int.intBits (e.eval ν)≤64:=by
 unfold fj at h;cases q:gc rg e with
 |none=>rw [q]at h;injection h
 |some p=>
  rw [q]at h;refine aw (ae h:) fun b1 b2=>?_
  refine aw (dH R q:) fun v1 v2=>?_
  exact intBits_le_64 (Int.lt_of_lt_of_le (bz.mp b1) v1) (Int.lt_of_le_of_lt v2 (bz.mp b2))
theorem Mp{B:Nat}{l x h:Int}(a: -(B:Int)<l)(b:l≤x)(c:x≤h)(d:h<(B:Int)):x.natAbs<B:=by
 have p:=Int.lt_of_lt_of_le a b
 have q:=Int.lt_of_le_of_lt c d
 cases x with
 |ofNat n=>exact Int.ofNat_lt.mp q
 |negSucc n=>exact Int.ofNat_lt.mp (Int.neg_lt_neg_iff.mp p)
theorem CB(R:cg ν rg){e:IE}(h:mid rg e=true):Builtin.Int.intBits (e.eval ν)≤8192:=by
 unfold mid at h;cases q:gc rg e with
 |none=>rw [q]at h;injection h
 |some p=>
  rw [q]at h;refine aw (ae h:) fun b1 b2=>?_
  refine aw (dH R q:) fun v1 v2=>?_
  exact PySem.intBits_le_iff.mpr (Mp (bz.mp b1) v1 v2 (bz.mp b2))
section
theorem Oc(R:cg ν rg){x y:IE}(hb:(fj rg y||(fj rg x||(mid rg x&&mid rg y)))=true):IntMulOk (x.eval ν) (y.eval ν):=by
 rcases fQ hb with hb|hb
 ·exact IntMulOk.of_right (kh R hb)
 ·rcases fQ hb with hb|hb
  ·exact IntMulOk.of_left (kh R hb)
  ·exact IntMulOk.of_bits (Nat.le_trans (CB R (ae hb).1) (by decide)) (Nat.le_trans (CB R (ae hb).2) (by decide))
theorem NN{i:Int}(b1:n≤200)(b3:Builtin.Int.intBits i≤64):(Builtin.Int.intBits i:Int)*(n:Int)≤64*200:=Int.mul_le_mul (by exact_mod_cast b3) (by lia) (by lia) (by decide)
theorem EG{x y:IE}{op:Op}{rw:Value}(e:(Iz op x y s).leaf C.ν=some (v,s'))(V:ao C J M st.heap (.int x) rv)(W:ao C J M st.heap (.int y) rw)(S:aq C J M s st.heap)
  (K:KV C Z J M st v s' Q):ab (Md C) A (binaryOp (Iy op) rv rw) Q E st:=by
 refine V.eK fun t=>?_
 refine W.eK fun u=>?_
 have R:cg C.ν s.rg:=S.rg
 cases op with
 |add=>(injection e with e;injection e with e aN;subst e aN);exact lf<|add_int (K.now S (.int _ _ _ (kq _ _ _)) _)
 |sub=>(injection e with e;injection e with e aN;subst e aN);exact lf<|PyProof.Rows.sub_int (K.now S (.int _ _ _ (km _ _ _)) _)
 |mul=>
  refine aw (cN e:) fun hb e=>?_
  injection e with e;injection e with e aN;subst e aN;exact lf<|mul_int (K.now S (.int _ _ _ (vO _ _ _)) _) (Oc R hb)
 |div=>
  refine aC (aI e:) fun j q e=>?_
  refine aw (cN e:) fun hb e=>?_
  injection e with e;injection e with e aN;subst e aN;have b1:=bz.mp (ae hb).1
  have b2:=bz.mp (ae hb).2
  rw [de q];exact lf<|floordiv_int (Int.ne_of_gt b1) (K.now S (.int _ _ _ (vV _ _ _)) _) (.inl (PyProof.noPylong_small (Int.ofNat_lt.mp (show((j.natAbs:Nat):Int)<_ by rw [Int.natAbs_of_nonneg (Int.le_of_lt b1)];exact b2))))
 |mod=>
  refine aC (aI e:) fun j q e=>?_
  refine aw (cN e:) fun hb e=>?_
  injection e with e;injection e with e aN;subst e aN;have b1:=bz.mp hb
  rw [de q];exact lf<|mod_int' (Int.ne_of_gt b1) (K.now S (.int _ _ _ (vQ R _ _)) _)
 |pow=>
  refine aC (aI e:) fun i q e=>?_
  refine aC (aI e:) fun j q' e=>?_
  cases j with
  |negSucc n=>exact no e
  |ofNat n=>
   refine aw (cN e:) fun hb e=>?_
   injection e with e;injection e with e aN;subst e aN;rw [de q,de q'];exact lf<|pow_int (n:=((n:Nat):Int)) (Int.natCast_nonneg n) (Int.le_trans (NN (bF (ae hb).1) (kh (e:=.c i) R (ae hb).2)) (by decide)) (by rw [Int.toNat_natCast];exact K.now S (.int (.c (i^n)) (i^n) st.toks rfl) _)
end
theorem pZ:∀(rg:Rg)(k:Nat)(y:Int×Int)(j:Nat)(p:Int×Int),(fw rg k y)[j]?=some p→(j=k∧p=y)∨rg[j]?=some p
 |[],_,_,_,_,h=>by injection h
 |x::r,k,y,j,p,h=>by
  unfold fw at h;cases q:Nat.beq k 0 with
  |true=>
   rw [q]at h;have:k=0:=aL q
   subst this;cases j with
   |zero=>left;simpa using h.symm
   |succ j=>right;simpa using h
  |false=>
   rw [q]at h;have hk:k≠0:=Nat.ne_of_beq_eq_false q
   cases j with
   |zero=>right;simpa using h
   |succ j=>
    rcases pZ r (k - 1) y j p (by simpa using h)with⟨a,b⟩|a
    ·left;exact⟨a▸Nat.sub_one_add_one hk,b⟩
    ·right;simpa using a
theorem cg.set(R:cg ν rg){l h:Int}(h1:l≤ν k)(h2:ν k≤h):cg ν (fw rg k (l,h)):=fun j p e=>by
 rcases pZ rg k (l,h) j p e with⟨rfl,rfl⟩|e
 ·exact⟨h1,h2⟩
 ·exact R j p e
theorem sI{x:IE}{p:Nat×Int}(h:pO x=some p):x.eval ν=ν p.1+p.2:=by
 unfold pO at h;cases q:EI x with
 |some k=>
  rw [q]at h;injection h with h;subst h;rw [kb q];exact(Int.add_zero _).symm
 |none=>
  rw [q]at h;refine aC (aM h:) fun r q1 h=>?_
  refine aC (aM h:) fun k q2 h=>?_
  injection h with h;subst h;rw [jP ν q1,kb q2];rfl
theorem iI(ν:Nat→Int)(kind:Nat)(a b:IE):eE ν kind a b=dX kind (a.eval ν) (b.eval ν):=by
 have e0:∀i j:Int,decide (i=j)=iy i j:=fun i j=>by rw [Bool.eq_iff_iff,decide_eq_true_iff,bL]
 have e1:∀i j:Int,decide (i<j)=iY i j:=fun i j=>by rw [Bool.eq_iff_iff,decide_eq_true_iff,bz]
 have e2:∀i j:Int,decide (i≤j)=jM i j:=fun i j=>by rw [Bool.eq_iff_iff,decide_eq_true_iff,bI]
 match kind with
 |0=>exact e0 _ _
 |1=>exact e1 _ _
 |_+2=>exact e2 _ _
theorem qJ(kind:Nat)(x d j:Int):dX kind (x+d) j=dX kind x (j - d)∧dX kind j (x+d)=dX kind (j - d) x:=by
 match kind with
 |0=>exact⟨Bool.eq_iff_iff.mpr (bL.trans (Iff.trans (eq_comm.trans (Int.sub_eq_iff_eq_add.symm.trans eq_comm)) bL.symm)),Bool.eq_iff_iff.mpr (bL.trans (Iff.trans Int.sub_eq_iff_eq_add.symm bL.symm))⟩
 |1=>exact⟨Bool.eq_iff_iff.mpr (bz.trans (Iff.trans ⟨Int.lt_sub_right_of_add_lt,Int.add_lt_of_lt_sub_right⟩ bz.symm)),Bool.eq_iff_iff.mpr (bz.trans (Iff.trans ⟨Int.sub_right_lt_of_lt_add,Int.lt_add_of_sub_right_lt⟩ bz.symm))⟩
 |_+2=>exact⟨Bool.eq_iff_iff.mpr (bI.trans (Iff.trans ⟨Int.le_sub_right_of_add_le,Int.add_le_of_le_sub_right⟩ bI.symm)),Bool.eq_iff_iff.mpr (bI.trans (Iff.trans ⟨Int.sub_right_le_of_le_add,Int.le_add_of_sub_right_le⟩ bI.symm))⟩
theorem yc{x a b:Int}(h1:x≤a)(h2:x≤b):x≤mG a b:=by
 unfold mG;cases jM a b<;>assumption
theorem yn{x a b:Int}(h1:a≤x)(h2:b≤x):imax a b≤x:=by
 unfold imax;cases jM a b<;>assumption
section
theorem cg.upTo(R:cg ν rg){p:Int×Int}{u:Int}(e:rg[k]?=some p)(h:ν k≤u):cg ν (fw rg k (p.1,mG p.2 u)):=
 R.set (R k p e).1 (yc (R k p e).2 h)
theorem cg.from(R:cg ν rg){p:Int×Int}{l:Int}(e:rg[k]?=some p)(h:l≤ν k):cg ν (fw rg k (imax p.1 l,p.2)):=
 R.set (yn (R k p e).1 h) (R k p e).2
theorem tj{P:Rg→Prop}{sw:Bool}{r1 r2 r3 r4:Rg}(h1:sw=false→b=true→P r1)(h2:sw=false→b=false→P r2)(h3:sw=true→b=true→P r3)(h4:sw=true→b=false→P r4):P (pick sw b r1 r2 r3 r4):=by
 cases sw<;>cases b
 ·exact h2 rfl rfl
 ·exact h1 rfl rfl
 ·exact h4 rfl rfl
 ·exact h3 rfl rfl
def M5(kind:Nat)(sw:Bool)(x m:Int):Bool:=match sw with|false=>dX kind x m|true=>dX kind m x
theorem nX(R:cg ν rg){sw:Bool}{m:Int}(hb:M5 kind sw (ν k) m=b):cg ν (mS rg kind sw k m b):=by
 unfold mS;cases e:rg[k]? with
 |none=>exact R
 |some p=>
  match kind with
  |0=>
   have hw:iy (ν k) m=b:=by
    cases sw with
    |false=>exact hb
    |true=>rw [←hb];exact Bool.eq_iff_iff.mpr (bL.trans (Iff.trans ⟨Eq.symm,Eq.symm⟩ bL.symm))
   cases b with
   |true=>
    have q:=bL.mp hw
    exact R.set (yn (R k p e).1 (Int.le_of_eq q.symm)) (yc (R k p e).2 (Int.le_of_eq q))
   |false=>
    have q:=IW hw
    refine aw (R k p e:) fun r1 r2=>?_
    cases q1:iy p.1 m with
    |true=>
     have:=bL.mp q1
     simp only[q1]
     exact R.set (by lia) r2
    |false=>
     cases q2:iy p.2 m with
     |true=>
      have:=bL.mp q2
      simp only[q1,q2]
      exact R.set r1 (by lia)
     |false=>simp only[q1,q2];exact R
  |1=>
   refine tj (fun a c=>?_) (fun a c=>?_) (fun a c=>?_) (fun a c=>?_)<;>subst a<;>subst c
   ·exact R.upTo e (Int.le_sub_one_of_lt (bz.mp hb))
   ·exact R.from e (IV hb)
   ·exact R.from e (Int.add_one_le_of_lt (bz.mp hb))
   ·exact R.upTo e (IV hb)
  |_+2=>
   refine tj (fun a c=>?_) (fun a c=>?_) (fun a c=>?_) (fun a c=>?_)<;>subst a<;>subst c
   ·exact R.upTo e (bI.mp hb)
   ·exact R.from e (Int.add_one_le_of_lt (yr hb))
   ·exact R.from e (bI.mp hb)
   ·exact R.upTo e (Int.le_sub_one_of_lt (yr hb))
theorem qf(R:cg ν rg){x y:IE}(hb:eE ν kind x y=b):cg ν (narrow rg kind x y b):=by
 rw [iI]at hb;unfold narrow;cases q:gM y with
 |some j=>
  cases q':pO x with
  |none=>exact R
  |some p=>exact nX R ((qJ kind _ _ _).1.symm.trans (by rw [←sI q',←hH ν q];exact hb))
 |none=>
  cases q:gM x with
  |none=>exact R
  |some j=>
   cases q':pO y with
   |none=>exact R
   |some p=>exact nX (sw:=true) R ((qJ kind _ _ _).2.symm.trans (by rw [←sI q',←hH ν q];exact hb))
end
theorem yo:∀{a b:List Int},Gs a b=true→a=b
 |[],[],_=>rfl
 |[],_::_,h=>nomatch h
 |_::_,[],h=>nomatch h
 |a::x,b::y,h=>by
  unfold Gs at h
  dsimp only at h
  cases q:iy a b with
  |true=>rw [q]at h;rw [bL.mp q,yo h]
  |false=>rw [q]at h;injection h
theorem jH{y:IE}{f g:IE→Bool}(h:sM k y f g=true):ME y k=true∧f (mF y)=true∧g (rq y)=true:=by
 unfold sM at h;cases q:ME y k with
 |false=>rw [q]at h;injection h
 |true=>
  rw [q]at h;cases q':f (mF y)with
  |false=>simp only[q']at h;injection h
  |true=>simp only[q']at h;exact⟨rfl,rfl,h⟩
theorem uF(f:Int→Int→Int){a b c d:Int}(h1:a=b)(h2:c=d):f a c=f b d:=h1▸h2▸rfl
theorem eR(ν:Nat→Int){a:IE}:∀{b:IE},fR a b=true→a.eval ν=b.eval ν:=by
 induction a with
 |c i=>
  intro y h;unfold fR at h;cases q:gM y with
  |none=>rw [q]at h;injection h
  |some j=>rw [q]at h;rw [de q,bL.mp h]
 |v i=>
  intro y h;unfold fR at h;cases q:EI y with
  |none=>rw [q]at h;injection h
  |some j=>rw [q]at h;rw [kb q,aL h]
 |add a b ha hb=>
  intro y h;refine dJ (jH h:) fun h0 h1 h2=>?_
  rw [show y=.add (mF y) (rq y)from ju h0]
  exact uF Int.add (ha h1) (hb h2)
 |sub a b ha hb=>
  intro y h;refine dJ (jH h:) fun h0 h1 h2=>?_
  rw [show y=.sub (mF y) (rq y)from ju h0]
  exact uF Int.sub (ha h1) (hb h2)
 |mul a b ha hb=>
  intro y h;refine dJ (jH h:) fun h0 h1 h2=>?_
  rw [show y=.mul (mF y) (rq y)from ju h0]
  exact uF Int.mul (ha h1) (hb h2)
 |div a b ha hb=>
  intro y h;refine dJ (jH h:) fun h0 h1 h2=>?_
  rw [show y=.div (mF y) (rq y)from ju h0]
  exact uF Int.fdiv (ha h1) (hb h2)
 |mod a b ha hb=>
  intro y h;refine dJ (jH h:) fun h0 h1 h2=>?_
  rw [show y=.mod (mF y) (rq y)from ju h0]
  exact uF Int.fmod (ha h1) (hb h2)
 |tab l a ha=>
  intro y h;refine dJ (jH h:) fun h0 h1 h2=>?_
  rw [show y=.tab (Il y) (mF y)from ju h0,yo h2]
  exact congrArg (fun i:Int=>(Il y).getD i.toNat 0) (ha h1)
section
variable{p q:Int×Int}{x y:Int}
theorem G1{a b:IE}(P:Wi p (a.eval ν))(Q:Wi q (b.eval ν))(h:LQ p q a b=some r):dX 0 (a.eval ν) (b.eval ν)=r:=by
 refine aw (P:) fun p1 p2=>?_
 refine aw (Q:) fun q1 q2=>?_
 unfold LQ at h;cases c:iY p.2 q.1||iY q.2 p.1 with
 |true=>
  rw [c]at h;injection h with h;subst h;cases z:dX 0 (a.eval ν) (b.eval ν)with
  |false=>rfl
  |true=>
   have z:=bL.mp z
   exfalso
   rcases fQ c with c|c<;>(have:=bz.mp c;lia)
 |false=>
  rw [c]at h
  dsimp only at h
  cases c:iy p.1 p.2&&(iy q.1 q.2&&iy p.1 q.1)with
  |true=>
   rw [c]at h;injection h with h;subst h;have c1:=bL.mp (ae c).1
   have c2:=bL.mp (ae (ae c).2).1
   have c3:=bL.mp (ae (ae c).2).2
   exact bL.mpr (by lia)
  |false=>
   rw [c]at h;refine aw (aB h:) fun c h=>?_
   injection h with h;subst h;exact bL.mpr (eR ν c)
theorem GZ(P:Wi p x)(Q:Wi q y)(h:LP p q=some r):iY x y=r:=by
 unfold LP at h;cases c:iY p.2 q.1 with
 |true=>
  rw [c]at h;injection h with h;subst h;exact bz.mpr (Int.lt_of_le_of_lt P.2 (Int.lt_of_lt_of_le (bz.mp c) Q.1))
 |false=>
  rw [c]at h;refine aw (aB h:) fun c h=>?_
  injection h with h;subst h;cases z:iY x y with
  |false=>rfl
  |true=>exact absurd (bz.mp z) (Int.not_lt.mpr (Int.le_trans Q.2 (Int.le_trans (bI.mp c) P.1)))
theorem GY(P:Wi p x)(Q:Wi q y)(h:LO p q=some r):jM x y=r:=by
 unfold LO at h;cases c:jM p.2 q.1 with
 |true=>
  rw [c]at h;injection h with h;subst h;exact bI.mpr (Int.le_trans P.2 (Int.le_trans (bI.mp c) Q.1))
 |false=>
  rw [c]at h;refine aw (aB h:) fun c h=>?_
  injection h with h;subst h;cases z:jM x y with
  |false=>rfl
  |true=>exact absurd (bI.mp z) (Int.not_le.mpr (Int.lt_of_le_of_lt Q.2 (Int.lt_of_lt_of_le (bz.mp c) P.1)))
end
theorem wQ(R:cg ν rg){a b:IE}(h:rR rg kind a b=some r):eE ν kind a b=r:=by
 rw [iI];refine aC (aM h:) fun p q1 h=>?_
 refine aC (aM h:) fun q q2 h=>?_
 match kind with
 |0=>exact G1 (dH R q1) (dH R q2) h
 |1=>exact GZ (dH R q1) (dH R q2) h
 |_+2=>exact GY (dH R q1) (dH R q2) h
def SameBut(s s':AS):Prop:=s'.hp=s.hp∧s'.n=s.n
theorem aq.lP(S:aq C J M s h)(B:SameBut s s')(R:cg C.ν s'.rg):aq C J M s' h:=by
 refine aw (B:) fun b1 b2=>?_
 exact⟨b2▸S.len,b2▸S.lim,⟨b2▸S.gL.1,fun i hi=>by rw [b1];exact S.gL.2 i hi⟩,S.nodup,fun i o e=>by rw [b2];exact S.low i o (b1▸e),fun i o a e=>S.obj i o a (b1▸e),S.jq,S.yu,S.there,S.mlt,S.base,S.tab,R⟩
theorem zA{m:Int}{l:List Int}(h:rA m l=true):m∉l:=by
 induction l with
 |nil=>exact List.not_mem_nil
 |cons x r ih=>
  unfold rA at h;cases q:iy x m with
  |true=>rw [q]at h;injection h
  |false=>
   rw [q]at h
   rintro hm
   rcases cO hm with rfl|hm
   ·exact IW q rfl
   ·exact ih h hm
theorem zh{l:List Int}{lo hi i m x:Int}{r:List Int}(b1:0≤lo)(b2:hi<l.length)(h1:lo≤i)(h2:i≤hi)(hl:(l.take (hi+1).toNat).drop lo.toNat=x::r)(q1:x=m)(q2:m∉r):(i=lo)↔l.getD i.toNat 0=m:=by
 subst q1;refine⟨fun e=>?_,fun e=>?_⟩
 ·have h0:=congrArg (·[0]?) hl
  simp only[List.getElem?_drop,List.getElem?_cons_zero]at h0
  rw [Nat.add_zero,List.getElem?_take,if_pos (by lia)]at h0
  rw [e,List.getD_eq_getElem?_getD,h0];rfl
 ·have ht:=congrArg List.tail hl
  rw [List.tail_cons,List.tail_drop]at ht;refine Classical.byContradiction fun hlo=>q2 ?_
  rw [←e,←ht];have:=xH (t:=l) (lo:=lo+1) (hi:=hi) (i:=i) (by lia) b2 (by lia) h2
  rwa[show(lo+1).toNat=lo.toNat+1 by lia]at this
theorem BN(R:cg ν rg){a b:IE}{p:IE×IE}(h:tabAt rg a b=some p):eE ν 0 p.1 p.2=eE ν 0 a b:=by
 refine aw (aB h:) fun h0 h=>?_
 refine aC (aM h:) fun k e1 h=>?_
 refine aC (aM h:) fun m e2 h=>?_
 refine aC (aM h:) fun p e h=>?_
 refine aw (aB h:) fun hb h=>?_
 refine eJ (bD h:) fun x r hl h=>?_
 refine aw (aB h:) fun q h=>?_
 injection h with h;subst h;rw [show a=.tab (Il a) (mF a)from ju h0,de e2,kb e1]
 exact decide_eq_decide.mpr (zh (bI.mp (ae hb).1) (bz.mp (ae hb).2) (R k p e).1 (R k p e).2 hl (bL.mp (ae q).1) (zA (ae q).2))
theorem ql{a b:IE}(R:cg ν s.rg)(e:(yv kind a b s).leaf ν=some (r,s')):eE ν kind a b=r∧SameBut s s'∧cg ν s'.rg:=by
 unfold yv aH.leaf at e;cases q:eE ν kind a b with
 |true=>rw [q]at e;injection e with e;injection e with e aN;subst e aN;exact⟨rfl,⟨rfl,rfl⟩,qf R q⟩
 |false=>rw [q]at e;injection e with e;injection e with e aN;subst e aN;exact⟨rfl,⟨rfl,rfl⟩,qf R q⟩
theorem AF{a b:IE}(R:cg ν s.rg)(e:(ask' kind a b s).leaf ν=some (r,s')):eE ν kind a b=r∧SameBut s s'∧cg ν s'.rg:=by
 unfold ask' at e;cases q:rR s.rg kind a b with
 |some b=>rw [q]at e;injection e with e;injection e with e aN;subst e aN;exact⟨wQ R q,⟨rfl,rfl⟩,R⟩
 |none=>
  rw [q]at e
  dsimp only at e
  cases q:BO s.rg kind a b with
  |none=>rw [q]at e;exact ql R e
  |some p=>
   rw [q]at e;refine aw (ql R e:) fun f1 f2=>?_
   cases kind with
   |succ k=>injection q
   |zero=>exact⟨(BN R q).symm.trans f1,f2⟩
theorem dF{a b:IE}(R:cg ν s.rg):(ask kind a b s).leaf ν=some (r,s')→eE ν kind a b=r∧SameBut s s'∧cg ν s'.rg:=
 rV (P:=fun z:aH (Bool×AS)=>z.leaf ν=some (r,s')→_) (fun i j ei ej e=>by
  injection e with e;injection e with e aN;subst e aN;rw [ei,ej];exact⟨iI ν kind _ _,⟨rfl,rfl⟩,R⟩) (AF R)
theorem SameBut.refl(s:AS):SameBut s s:=⟨rfl,rfl⟩
theorem SameBut.trans{gJ:AS}(a:SameBut s s')(b:SameBut s' gJ):SameBut s gJ:=⟨b.1.trans a.1,b.2.trans a.2⟩
theorem fc(n:Nat){e:IE}:∀{s:AS}{i:Int}{s':AS},cg ν s.rg→(oM n e s).leaf ν=some (i,s')→e.eval ν=i∧SameBut s s'∧cg ν s'.rg:=by
 induction n with
 |zero=>exact fun Y h=>no h
 |succ n ih=>
  intro s i s' R h;unfold oM at h;cases q:gM e with
  |some j=>rw [q]at h;injection h with h;injection h with h aN;subst h aN;exact⟨hH ν q,⟨rfl,rfl⟩,R⟩
  |none=>
   rw [q]at h
   dsimp only at h
   cases q:gc s.rg e with
   |none=>rw [q]at h;exact no h
   |some p=>
    rw [q]at h
    dsimp only at h
    refine aw (dH R q:) fun v1 v2=>?_
    cases q:iy p.1 p.2 with
    |true=>
     rw [q]at h;injection h with h;injection h with h aN;subst h aN;exact⟨Int.le_antisymm (bL.mp q▸v2) v1,⟨rfl,rfl⟩,R⟩
    |false=>
     rw [q]at h;refine aH.cL h fun b ag e1 h=>?_
     refine dJ (dF R e1:) fun c1 c2 c3=>?_
     cases b with
     |true=>(injection h with h;injection h with h aN;subst h aN);exact⟨of_decide_eq_true (show decide (e.eval ν=p.1)=true from c1),c2,c3⟩
     |false=>
      refine dJ (ih c3 h:) fun d1 d2 d3=>?_
      exact⟨d1,c2.trans d2,d3⟩
section
theorem KV.any(K:KV C Z J M st v s' Q)(S:aq C J M s' st.heap)(R:ao C J M st.heap v rv)(tk:Tok):Q rv {st with toks:=tk}:=K.now S R tk
theorem ao.str_inv{l:List Nat}(V:ao C J M h (.str l) rv):∃t,rv=.str (aR l) t:=V.inv
theorem cJ(ν:Nat→Int)(l:List IE):(aS ν l).size=l.length:=by simp[aS]
theorem pI(ν:Nat→Int)(l m:List IE):aS ν l++aS ν m=aS ν (l++m):=by simp[aS]
theorem bq.append{l m:List IE}(a:bq ν l)(b:bq ν m):bq ν (l++m):=fun e he=>(List.mem_append.mp he).elim (a e) (b e)
theorem ay.append:∀{m:List AV}{vs ws:List Value},ay C J M h l vs→ay C J M h m ws→ay C J M h (l++m) (vs++ws):=
 List.rec (motive:=fun l=>∀{m:List AV}{vs ws:List Value},ay C J M h l vs→ay C J M h m ws→ay C J M h (l++m) (vs++ws)) (fun a b=>a.nl▸b) (fun Y Y ih Y Y Y a b=>jZ a.un fun Y Y e x r=>e▸.cons x (ih r b)) l
theorem H3{x y:List IE}{rw:Value}(e:(jN (x.length+y.length) (.ok (AV.bytes (x++y),s))).leaf C.ν=some (v,s'))(V:ao C J M st.heap (.bytes x) rv)(W:ao C J M st.heap (.bytes y) rw)(S:aq C J M s st.heap)
  (K:KV C Z J M st v s' Q):ab (Md C) A (binaryOp .Add rv rw) Q E st:=by
 refine V.eF fun b1 t=>?_
 refine W.eF fun b2 u=>?_
 refine aw (bC e:) fun hl e=>?_
 injection e with e;injection e with e aN;subst e aN;refine lf<|PySem.W.KBy.add_bytes (by rw [cJ,cJ];lia) fun t' k=>?_
 rw [pI];exact K.any S (.bytes _ t' (b1.append b2)) k
theorem QB{x y:List AV}{rw:Value}(e:(jN (x.length+y.length) (.ok (AV.t (x++y),s))).leaf C.ν=some (v,s'))(V:ao C J M st.heap (.t x) rv)(W:ao C J M st.heap (.t y) rw)(S:aq C J M s st.heap)
  (K:KV C Z J M st v s' Q):ab (Md C) A (binaryOp .Add rv rw) Q E st:=by
 refine V.kO fun a vs n ha ea Va=>?_
 refine W.kO fun b ws m hb eb Vb=>?_
 refine aw (bC e:) fun hl e=>?_
 injection e with e;injection e with e aN;subst e aN;have hlen:vs.length+ws.length≤sizeLine:=by rw [←Va.length,←Vb.length];exact bN hl
 have eA:vs.toArray++ws.toArray=(vs++ws).toArray:=by simp
 by_cases hv:vs=[]
 ·refine lf<|concat_meets ⟨_,ea,rfl⟩ ⟨_,eb,rfl⟩ noFill_tuple_add seq_tuple_add PySem.F.slot_tuple_add PySem.F.entry_tuple_add (PySem.F.args_tuple_add_2 _ _) (tuple_addW0 a b vs.toArray ws.toArray n m none none #[] #[] (by simp[hv])) ⟨ea,eb,?_⟩
  subst hv;cases List.eq_nil_of_length_eq_zero Va.length;exact K.now S (.t y b ws m hb eb Vb) st.toks
 ·by_cases hw:ws=[]
  ·refine lf<|concat_meets ⟨_,ea,rfl⟩ ⟨_,eb,rfl⟩ noFill_tuple_add seq_tuple_add PySem.F.slot_tuple_add PySem.F.entry_tuple_add (PySem.F.args_tuple_add_2 _ _) (tuple_addW1 a b vs.toArray ws.toArray n m none none #[] #[] (by simpa using hv) (by simp[hw])) ⟨ea,eb,?_⟩
   subst hw;cases List.eq_nil_of_length_eq_zero Vb.length;rw [List.append_nil]at K;exact K.now S (.t x a vs n ha ea Va) st.toks
  ·refine lf<|concat_meets ⟨_,ea,rfl⟩ ⟨_,eb,rfl⟩ noFill_tuple_add seq_tuple_add PySem.F.slot_tuple_add PySem.F.entry_tuple_add (PySem.F.args_tuple_add_2 _ _) (tuple_addW2 a b vs.toArray ws.toArray n m none none #[] #[] (by simpa using hv) (by simpa using hw) (by rw [List.size_toArray,List.size_toArray];exact hlen)) ⟨ea,eb,?_⟩
   rw [eA];have G:=aJ.push Z J M st.heap (fM (vs++ws) 0)
   exact K J M _ st.toks _ G (S.push _) (.t _ _ _ 0 (S.nU (Heap.bc _)) (Heap.get?_push_size _ rfl) ((Va.append Vb).grow G))
theorem ao.n0(S:aq C J M s st.heap)(V:ao C J M st.heap (.ref i) rv)(e:s.get i=some (.list l)):∃a vs n,rv=.ref a∧J[i]?=some a∧st.heap.get? a=some (bZ vs n)∧ay C J M st.heap l vs:=by
 exact aC V.inv fun a q1 q=>eJ (S.obj i _ a e q).listI fun vs n h1 h2=>⟨a,vs,n,q1,q,h1,h2⟩
@[elab_as_elim] theorem ao.listE{P:Value→Prop}(S:aq C J M s st.heap)(V:ao C J M st.heap (.ref i) rv)(e:s.get i=some (.list l))(k:∀a vs n,J[i]?=some a→st.heap.get? a=some (bZ vs n)→ay C J M st.heap l vs→P (.ref a)):P rv:=oW (V.n0 S e) fun a vs n q a1 a2 a3=>q▸k a vs n a1 a2 a3
theorem My{x y:List AV}{rw:Value}(ei:s.get i=some (.list x))(ej:s.get j=some (.list y))(e:(newList s (x++y)).leaf C.ν=some (v,s'))(V:ao C J M st.heap (.ref i) rv)(W:ao C J M st.heap (.ref j) rw)(S:aq C J M s st.heap)
  (K:KV C Z J M st v s' Q):ab (Md C) A (binaryOp .Add rv rw) Q E st:=by
 refine V.listE S ei fun a vs n ha ea Va=>?_
 refine W.listE S ej fun b ws m hb eb Vb=>?_
 have eA:vs.toArray++ws.toArray=(vs++ws).toArray:=by simp
 refine aw (newList_K e S (Va.append Vb) K st.toks:) fun hl hq=>?_
 refine lf<|P.add_list ea eb (by rw [eA];exact hq) (by rw [List.size_toArray,List.size_toArray,←List.length_append];exact hl)
theorem kj(l:List α):∀n:Nat,mP l n=(List.replicate n l).flatten
 |0=>rfl
 |n+1=>by rw [List.replicate_succ,List.flatten_cons,←kj l n];rfl
theorem Mz{x:List IE}{y:IE}{rw:Value}(e:(P2 x y s).leaf C.ν=some (v,s'))(V:ao C J M st.heap (.bytes x) rv)(W:ao C J M st.heap (.int y) rw)(S:aq C J M s st.heap)
  (K:KV C Z J M st v s' Q):ab (Md C) A (binaryOp .Mult rv rw) Q E st:=by
 refine V.eF fun b1 t=>?_
 refine W.eK fun u=>?_
 refine aH.cL e fun n ag e1 e=>?_
 refine dJ (fc 40 S.rg e1:) fun c1 c2 c3=>?_
 refine aw (cN e:) fun hb e=>?_
 ·injection e with e;injection e with e aN;subst e aN
  refine aw (ae hb:) fun h1 hb=>?_
  refine aw (ae hb:) fun h2 hb=>?_
  refine aw (ae hb:) fun h3 h4=>?_
  have h1:1≤x.length:=bF h1
  have h2:x.length≤16:=bF h2
  have h3:=bI.mp h3
  have h4:=bI.mp h4
  rw [c1];refine lf<|bytes_mul_any (b:=x.map (cz C.ν)) (n:=n) (by intro q;rw [List.map_eq_nil_iff]at q;subst q;simp at h1) (by lia) (by lia) (by simpa using h2) fun t' k=>?_
  have hE:((List.replicate n.toNat (x.map (cz C.ν))).flatten).toArray=aS C.ν (mP x n.toNat):=by
   unfold aS;rw [kj,List.map_flatten,List.map_replicate]
  rw [hE];refine K.any (S.lP c2 c3) (.bytes _ t' ?_) k;rw [kj];intro q hq;refine aC (List.mem_flatten.mp hq:) fun l hl hq=>?_
  rw [List.eq_of_mem_replicate hl]at hq;exact b1 q hq
theorem nQ{op:Op}{r:RV}{y:AV×AS}(e:(Cj op r).leaf ν=some y):op=.add∧r.leaf ν=some y:=by
 cases op with
 |add=>exact⟨rfl,e⟩
 |_=>exact no e
theorem T6{op:Op}{av bv:AV}{rw:Value}(e:(binop op av bv s).leaf C.ν=some (v,s'))(V:ao C J M st.heap av rv)(W:ao C J M st.heap bv rw)(S:aq C J M s st.heap)(K:KV C Z J M st v s' Q):
  ab (Md C) A (binaryOp (Iy op) rv rw) Q E st:=by
 cases av with
 |int x=>
  obtain⟨y,rfl,e⟩:=aX e
  exact EG e V W S K
 |bytes x=>cases op with
  |add=>
   obtain⟨y,rfl,e⟩:=lQ e
   exact H3 e V W S K
  |mul=>
   obtain⟨y,rfl,e⟩:=aX e
   exact Mz e V W S K
  |_=>exact no e
 |t x=>
  obtain⟨rfl,e⟩:=nQ e
  obtain⟨y,rfl,e⟩:=iC e
  exact QB e V W S K
 |ref i=>
  obtain⟨rfl,e⟩:=nQ e
  refine aC (cS e:) fun x ex e=>?_
  obtain⟨j,y,rfl,ey,e⟩:=eQ e
  exact My ex ey e V W S K
 |_=>exact no e
end
noncomputable def lx(a b:Value):Bool:=match a with
 |.int a _=>(match b with|.int b _=>a==b|_=>false)
 |.str a _=>(match b with|.str b _=>a==b|_=>false)
 |.bytes a _=>(match b with|.bytes b _=>a.toList==b.toList|_=>false)
 |_=>false
def PP(a b:Value):Prop:=∀A s,EqAt A s a b (lx a b)∧RcAt A s a b (lx a b)∧RcNeAt A s a b (!lx a b)
theorem th(A:Around)(s:Shared)(b c:Array UInt8)(t u:Tok):RcAt A s (.bytes b t) (.bytes c u) (b.toList==c.toList):=fun prog w E Q h=>
 richCompare_gives (op:=.Eq) (T:="bytes") rfl rfl FB.slot_bytes_eq FB.entry_bytes_eq (FB.args_bytes_eq_2 _ _) (gives_bytes_eq b c t u) (fun x=>nomatch x) h
theorem vL(A:Around)(s:Shared)(b c:Array UInt8)(t u:Tok):RcNeAt A s (.bytes b t) (.bytes c u) (!(b.toList==c.toList)):=fun prog w E Q h=>
 richCompare_gives (op:=.NotEq) (T:="bytes") rfl rfl FB.slot_bytes_ne FB.entry_bytes_ne (FB.args_bytes_ne_2 _ _) (gives_bytes_ne b c t u) (fun x=>nomatch x) h
theorem wF(A:Around)(s:Shared)(b c:Array UInt8)(t u:Tok):EqAt A s (.bytes b t) (.bytes c u) (b.toList==c.toList):=fun prog w E Q h=>by
 unfold eqBool;refine PySem.wpAny_holding ?_;refine PySem.wpAny_ite_split (fun hab=>?_) (fun Y=>?_)
 ·have e:b=c:=by have:=eq_of_beq hab;injection this
  subst e;exact PySem.wpAny_bind (PySem.wpAny_rule (PySem.wpAny_pure (by simpa using h)))
 ·exact PySem.wpAny_bind (th A s b c t u prog w E _ (PySem.wpAny_truthy_bool h))
theorem kr:∀{x y:List Nat},lEq x y=true→x=y
 |[],[],_=>rfl
 |[],_::_,h=>nomatch h
 |_::_,[],h=>nomatch h
 |a::x,b::y,h=>by
  unfold lEq at h
  dsimp only at h
  cases q:Nat.beq a b with
  |true=>rw [q]at h;rw [aL q,kr h]
  |false=>rw [q]at h;injection h
theorem jt:∀l:List Nat,lEq l l=true
 |[]=>rfl
 |a::x=>by unfold lEq;dsimp only;rw [Nat.beq_refl];exact jt x
theorem lEq_iff{x y:List Nat}:lEq x y=true↔x=y:=⟨kr,fun e=>e▸jt x⟩
theorem nG{x y:List Nat}:aR x=aR y↔x=y:=by
 unfold aR;constructor
 ·intro h;injection h with h;simpa using h
 ·rintro rfl;rfl
theorem BR(x y:List Nat):(aR x==aR y)=lEq x y:=by
 rw [Bool.eq_iff_iff,beq_iff_eq,nG,lEq_iff]
theorem uP{a b:IE}(ha:0≤a.eval ν∧a.eval ν<256)(hb:0≤b.eval ν∧b.eval ν<256):cz ν a=cz ν b↔a.eval ν=b.eval ν:=by
 unfold cz;constructor
 ·intro h
  have h:=congrArg UInt8.toNat h
  rw [UInt8.toNat_ofNat',UInt8.toNat_ofNat',Nat.mod_eq_of_lt ((Int.toNat_lt ha.1).mpr ha.2),Nat.mod_eq_of_lt ((Int.toNat_lt hb.1).mpr hb.2)]at h;exact(Int.toNat_of_nonneg ha.1).symm.trans ((congrArg Int.ofNat h).trans (Int.toNat_of_nonneg hb.1))
 ·intro h;rw [h]
theorem Aq{a b:IE}{q:Bool}(ha:0≤a.eval ν∧a.eval ν<256)(hb:0≤b.eval ν∧b.eval ν<256)(c:decide (a.eval ν=b.eval ν)=q):(cz ν a==cz ν b)=q:=by
 rw [←c,Bool.eq_iff_iff,beq_iff_eq,decide_eq_true_iff];exact uP ha hb
theorem rO{x:List IE}:∀{y:List IE}{s:AS}{r:Bool}{s':AS},cg ν s.rg→bq ν x→bq ν y→(rP x y s).leaf ν=some (r,s')→((x.map (cz ν))==(y.map (cz ν)))=r∧SameBut s s'∧cg ν s'.rg:=by
 induction x with
 |nil=>intro y s r s' R _ _ e;cases y<;>((injection e with e;injection e with e aN;subst e aN);exact⟨rfl,.refl _,R⟩)
 |cons a x ih=>
  intro y s r s' R bx bw e;cases y with
  |nil=>(injection e with e;injection e with e aN;subst e aN);exact⟨rfl,.refl _,R⟩
  |cons b y=>
   refine aH.cL e fun q ag e1 e=>?_
   refine dJ (dF R e1:) fun c1 c2 c3=>?_
   rw [List.map_cons,List.map_cons,List.cons_beq_cons,Aq (bx a bW) (bw b bW) c1];cases q with
   |true=>
    refine dJ (ih c3 (fun e m=>bx e (cq _ m)) (fun e m=>bw e (cq _ m)) e:) fun d1 d2 d3=>?_
    exact⟨d1,c2.trans d2,d3⟩
   |false=>(injection e with e;injection e with e aN;subst e aN);exact⟨rfl,c2,c3⟩
section
theorem oC{b:AV}{rw:Value}(e:(eqB a b s).leaf C.ν=some (r,s'))(V:ao C J M h a rv)(W:ao C J M h b rw)(R:cg C.ν s.rg):lx rv rw=r∧PP rv rw∧SameBut s s'∧cg C.ν s'.rg:=by
 cases a with
 |int x=>
  obtain⟨y,rfl,e⟩:=aX e
  obtain⟨t,rfl⟩:=V.inv
  obtain⟨u,rfl⟩:=W.inv
  refine dJ (dF (kind:=0) R e:) fun c1 c2 c3=>?_
  exact⟨c1,fun A s=>⟨.int_int _ _ _ _,.int_int _ _ _ _,.int_int _ _ _ _⟩,c2,c3⟩
 |str x=>
  obtain⟨y,rfl,e⟩:=dB e
  obtain⟨t,rfl⟩:=V.inv
  obtain⟨u,rfl⟩:=W.inv
  injection e with e;injection e with e aN;subst e aN;exact⟨BR x y,fun A s=>⟨.str_str _ _ _ _,.str_str _ _ _ _,.str_str _ _ _ _⟩,.refl _,R⟩
 |bytes x=>
  obtain⟨y,rfl,e⟩:=lQ e
  obtain⟨bx,t,rfl⟩:=V.inv
  obtain⟨bw,u,rfl⟩:=W.inv
  refine dJ (rO R bx bw e:) fun c1 c2 c3=>?_
  exact⟨c1,fun A s=>⟨wF A s _ _ _ _,th A s _ _ _ _,vL A s _ _ _ _⟩,c2,c3⟩
 |_=>exact no e
noncomputable def Hy:List Value→List Value→Bool
 |[],m=>(match m with|[]=>true|_::_=>false)
 |a::x,m=>match m with|[]=>false|b::y=>lx a b&&Hy x y
theorem qz{x:List AV}:∀{y:List AV}{s:AS}{r:Bool}{s':AS}{vs ws:List Value},cg C.ν s.rg→(DN x y s).leaf C.ν=some (r,s')→ay C J M h x vs→ay C J M h y ws→
  Hy vs ws=r∧(∀j(h1:j<vs.length)(h2:j<ws.length),PP vs[j] ws[j])∧SameBut s s'∧cg C.ν s'.rg:=by
 induction x with
 |nil=>exact fun{y}{s}{r}{s'}{vs}{ws} R e V W=>V.nl▸(by
   have h:Hy [] ws=r∧s=s':=by
    cases y with
    |nil=>(injection e with e;injection e with e aN;subst e aN);exact⟨by rw [W.nl];rfl,rfl⟩
    |cons b y=>(injection e with e;injection e with e aN;subst e aN);exact⟨jZ W.un fun w ws q Y Y=>by rw [q];rfl,rfl⟩
   exact⟨h.1,fun j h1=>absurd h1 (Nat.not_lt_zero _),h.2▸.refl _,h.2▸R⟩)
 |cons a x ih=>
  intro y s r s' vs ws R e V W;refine jZ V.un fun v vs q V r1=>q▸?_
  cases y with
  |nil=>rw [W.nl];injection e with e;injection e with e aN;subst e aN;exact⟨rfl,fun j Y h1=>absurd h1 (Nat.not_lt_zero _),.refl _,R⟩
  |cons b y=>
   refine jZ W.un fun w ws q W r2=>q▸aH.bd e fun p e1 e=>aH.bd e fun p' e2 e=>lJ (oC e1 V W R) fun c1 c2 c3 c4=>lJ (ih c4 e2 r1 r2) fun d1 d2 d3 d4=>?_
   injection e with e;injection e with e aN;subst e aN;exact⟨congr (congrArg and c1) d1,fun j=>Nat.casesOn (motive:=fun j=>∀(h1:j<(v::vs).length)(h2:j<(w::ws).length),PP (v::vs)[j] (w::ws)[j]) j (fun Y Y=>c2) fun j h1 h2=>d2 j (Nat.lt_of_succ_lt_succ h1) (Nat.lt_of_succ_lt_succ h2),c3.trans d3,d4⟩
theorem oR(vs:List Value):∀ws:List Value,Hy vs ws=((List.range (min vs.length ws.length)).all (fun j=>lx (vs.getD j .none) (ws.getD j .none))&&vs.length==ws.length):=by
 induction vs with
 |nil=>intro ws;cases ws<;>rfl
 |cons a x ih=>
  intro ws;cases ws with
  |nil=>exact(Bool.and_false _).symm
  |cons b y=>
   rw [List.length_cons,List.length_cons,Nat.succ_min_succ,List.range_succ_eq_map,List.all_cons,List.all_map,Bool.and_assoc,show(x.length+1==y.length+1)=(x.length==y.length)from Bool.eq_iff_iff.mpr ((beq_iff_eq).trans (Nat.succ_inj.trans beq_iff_eq.symm))]
   exact congrArg (lx a b&&·) (ih y)
theorem getD_at(h:j<vs.length):vs.getD j .none=vs[j]:=by rw [List.getD_eq_getElem?_getD,List.getElem?_eq_getElem h];rfl
theorem isTup{a:Addr}(e:h.get? a=some (fM vs n)):h.IsTuple a vs.toArray:=⟨_,e,rfl,n,rfl⟩
theorem cM{a:Addr}(e:h.get? a=some (bZ vs n)):h.IsList a vs.toArray:=⟨_,e,rfl,n,rfl⟩
theorem yP{ws:List Value}(c2:∀j(h1:j<vs.length)(h2:j<ws.length),PP vs[j] ws[j])(A:Around)(s:Shared):∀j(h1:j<vs.toArray.size)(h2:j<ws.toArray.size),EqAt A s vs.toArray[j] ws.toArray[j] (lx (vs.getD j .none) (ws.getD j .none)):=fun j h1 h2=>by
 have h1:j<vs.length:=by simpa using h1
 have h2:j<ws.length:=by simpa using h2
 rw [getD_at h1,getD_at h2];exact(c2 j h1 h2 A s).1
def HY(C:Cx)(A:Around)(st:Shared)(rv rw:Value)(r:Bool)(s s':AS):Prop:=RcAt A st rv rw r∧RcNeAt A st rv rw (!r)∧SameBut s s'∧cg C.ν s'.rg
theorem DL{x y:List AV}{rw:Value}(hu:A.units<cLine)(e:(Je x y s).leaf C.ν=some (r,s'))(ei:s.get i=some (.list x))(ej:s.get j=some (.list y))(V:ao C J M st.heap (.ref i) rv)(W:ao C J M st.heap (.ref j) rw)(S:aq C J M s st.heap):HY C A st rv rw r s s':=by
 refine V.listE S ei fun a vs n ha ea Va=>?_
 refine W.listE S ej fun b ws m hb eb Vb=>?_
 rcases dD e with⟨hl,e⟩|⟨hl,e⟩
 ·have hl:=aL hl
  rw [Va.length,Vb.length]at hl;refine lJ (qz S.rg e Va Vb:) fun c1 c2 c3 c4=>?_
  have hr:((List.range vs.toArray.size).all fun j=>lx (vs.getD j .none) (ws.getD j .none))=r:=by
   rw [←c1,oR,hl,Nat.min_self];simp[hl]
  subst hr;exact⟨.lists (cM ea) (cM eb) (by simpa using hl) hu (yP c2 A.in1 st),RcNeAt.lists (cM ea) (cM eb) (by simpa using hl) hu (yP c2 A.in1 st),c3,c4⟩
 ·injection e with e;injection e with e aN;subst e aN
  have hl:=Nat.ne_of_beq_eq_false hl
  rw [Va.length,Vb.length]at hl;exact⟨.lists_lengths (cM ea) (cM eb) (by simpa using hl) hu,RcNeAt.lists_lengths (cM ea) (cM eb) (by simpa using hl) hu,.refl _,S.rg⟩
theorem GU{x y:List AV}{rw:Value}(hu:A.units<cLine)(e:(DN x y s).leaf C.ν=some (r,s'))(V:ao C J M st.heap (.t x) rv)(W:ao C J M st.heap (.t y) rw)(S:aq C J M s st.heap):HY C A st rv rw r s s':=by
 refine V.kO fun a vs n ha ea Va=>?_
 refine W.kO fun b ws m hb eb Vb=>?_
 refine lJ (qz S.rg e Va Vb:) fun c1 c2 c3 c4=>?_
 rw [oR]at c1;subst c1;exact⟨.tuples (isTup ea) (isTup eb) hu (yP c2 A.in1 st),RcNeAt.tuples (isTup ea) (isTup eb) hu (yP c2 A.in1 st),c3,c4⟩
theorem DK{b:AV}{rw:Value}(V:ao C J M st.heap a rv)(W:ao C J M st.heap b rw)(e:(eqB a b s).leaf C.ν=some (r,s'))(S:aq C J M s st.heap):HY C A st rv rw r s s':=by
 refine lJ (oC e V W S.rg:) fun c1 c2 c3 c4=>?_
 refine dJ (c2 A st:) fun Y d2 d3=>?_
 rw [c1]at d2 d3;exact⟨d2,d3,c3,c4⟩
theorem DM{b:AV}{rw:Value}(hu:A.units<cLine)(e:(Tc a b s).leaf C.ν=some (r,s'))(V:ao C J M st.heap a rv)(W:ao C J M st.heap b rw)(S:aq C J M s st.heap):HY C A st rv rw r s s':=by
 cases a with
 |t x=>
  obtain⟨y,rfl,e⟩:=iC e
  exact GU hu e V W S
 |ref i=>
  refine aC (cS e:) fun x ei e=>?_
  obtain⟨j,y,rfl,ej,e⟩:=eQ e
  exact DL hu e ei ej V W S
 |_=>exact DK V W e S
end
theorem x7(c:Nat):∀y:List Nat,gz c y=decide (c∈y)
 |[]=>by simp[gz]
 |b::y=>by
  unfold gz;cases q:Nat.beq b c with
  |true=>have:=aL q;simp[this]
  |false=>
   have:=Nat.ne_of_beq_eq_false q
   simp only
   rw [x7 c y];have h:c≠b:=fun e=>this e.symm
   simp[h]
theorem nW{a b:Nat}:Nat.blt a b=true↔a<b:=by
 unfold Nat.blt;exact⟨fun h=>bF h,fun h=>Nat.ble_eq_true_of_le h⟩
theorem pV:∀{x y:List Nat},strLt x y=true↔x<y
 |[],[]=>by simp[strLt]
 |[],b::y=>by simp[strLt]
 |a::x,[]=>by simp[strLt]
 |a::x,b::y=>by
  unfold strLt;rw [List.cons_lt_cons_iff];cases q:Nat.blt a b with
  |true=>have:=nW.mp q;simp[this]
  |false=>
   have h1:¬a<b:=fun h=>by rw [nW.mpr h]at q;injection q
   cases q':Nat.beq a b with
   |true=>
    have:=aL q'
    subst this;simp only;rw [pV];simp
   |false=>
    have:=Nat.ne_of_beq_eq_false q'
    simp[h1,this]
theorem jx(b:Array UInt8)(i:Int)(t u:Tok)(h0:0≤i)(h1:i<256):Gives (Builtin.«bytes.__contains__» ⟨[.bytes b t,.int i u],[]⟩) (.val (.bool (b.contains i.toNat.toUInt8))):=by
 refine .of_wp fun M A E s Q hq=>?_
 show PySem.wpAny M A (Builtin.Bytes.containsIn "bytes.__contains__" (.bytes b t) (.int i u)>>=fun r=>_) _ E s
 refine PySem.wpAny_bind ?_
 unfold Builtin.Bytes.containsIn;show PySem.wpAny M A (Builtin.Bytes.buffer? "bytes.__contains__" (.bytes b t)>>=fun r=>_) _ E s
 refine PySem.wpAny_bind (PySem.wpAny_of_eq KBy.buffer_eq ?_)
 show PySem.wpAny M A (if(decide (i<0)||decide (i≥256))=true then _ else _) _ E s;rw [if_neg (by simp;lia)]
 exact PySem.wpAny_pure (PySem.wpAny_pure ⟨_,rfl,hq⟩)
section
theorem oQ:∀{s:AS}{r:Bool}{s':AS}{vs:List Value},cg C.ν s.rg→(qK a l s).leaf C.ν=some (r,s')→ao C J M h a rv→ay C J M h l vs→
  (vs.any fun y=>lx y rv)=r∧(∀y,y∈vs→PP y rv)∧SameBut s s'∧cg C.ν s'.rg:=by
 induction l with
 |nil=>exact fun R e V W=>W.nl▸(by injection e with e;injection e with e aN;subst e aN;exact⟨rfl,(fun y m=>nomatch m),.refl _,R⟩)
 |cons b l ih=>
  exact fun R e V W=>aH.bd e fun p e1 e=>aH.bd e fun p' e2 e=>jZ W.un fun w ws q W r2=>lJ (oC e1 W V R) fun c1 c2 c3 c4=>lJ (ih c4 e2 V r2) fun d1 d2 d3 d4=>q▸(by
   injection e with e;injection e with e aN;subst e aN;exact⟨congr (congrArg or c1) d1,fun y m=>(cO m).elim (fun q=>q▸c2) (d2 y),c3.trans d3,d4⟩)
theorem xd{a:IE}(ha:0≤a.eval ν∧a.eval ν<256){l:List IE}:∀{s:AS}{r:Bool}{s':AS},cg ν s.rg→bq ν l→(Ew a l s).leaf ν=some (r,s')→
  (l.map (cz ν)).contains (cz ν a)=r∧SameBut s s'∧cg ν s'.rg:=by
 induction l with
 |nil=>exact fun R Y e=>by injection e with e;injection e with e aN;subst e aN;exact⟨rfl,.refl _,R⟩
 |cons b l ih=>
  intro s r s' R B e;refine aH.bd e fun p e1 e=>dJ (dF R e1) fun c1 c2 c3=>?_
  have hb:=uP ha (B b bW)
  have c1:decide (a.eval ν=b.eval ν)=p.1:=c1
  rw [List.map_cons,List.contains_cons];obtain⟨q,ag⟩:=p
  cases q with
  |true=>
   injection e with e;injection e with e aN;subst e aN;rw [hb.mpr (of_decide_eq_true c1),beq_self_eq_true];exact⟨rfl,c2,c3⟩
  |false=>
   refine dJ (ih c3 (fun e m=>B e (cq _ m)) e) fun d1 d2 d3=>?_
   rw [show(cz ν a==cz ν b)=false from beq_eq_false_iff_ne.mpr fun q=>of_decide_eq_false c1 (hb.mp q),d1]
   exact⟨rfl,c2.trans d2,d3⟩
theorem yC(C:Cx)(k k':List Nat)(t:Tok):Value.isStrOf (aR k) (.str (aR k') t)=lEq k' k:=
 Bool.eq_iff_iff.mpr ⟨fun q=>dC (Value.isStrOf_shape q) fun Y hu=>lEq_iff.mpr (nG.mp (by injection hu)),fun q=>lEq_iff.mp q▸strKind_is C.prog C.w _ t⟩
theorem uh{p:α→Bool}{a:α}{l:List α}(h:p a=true):(a::l).find? p=some a:=by rw [List.find?_cons,h]
theorem qq{p:α→Bool}{a:α}{l:List α}(h:p a=false):(a::l).find? p=l.find? p:=by rw [List.find?_cons,h]
def Jv(C:Cx)(J:List Addr)(M:Addr→Prop)(h:Heap)(o:Option AV)(f:Option DictEntry):Prop:=match o with
 |none=>f=none
 |some v=>∃e,f=some e∧ao C J M h v e.val
theorem cV.find(k:List Nat){l:List (List Nat×AV)}:∀{es:List DictEntry},cV C J M h l es→Jv C J M h (gG l k) (es.find? (fun e=>Value.isStrOf (aR k) e.key)):=by
 induction l with
 |nil=>exact fun V=>V.nl▸rfl
 |cons p l ih=>
  exact fun V=>F0 V.un fun v t es q V r=>q▸(by
   unfold gG;cases z:lEq p.1 k with
   |true=>exact⟨_,uh ((yC C k p.1 t).trans z),V⟩
   |false=>exact(qq (p:=fun e:DictEntry=>Value.isStrOf (aR k) e.key) (a:=⟨PyData.keyHash C.w.params (aR p.1),.str (aR p.1) t,v⟩) ((yC C k p.1 t).trans z)).symm▸ih r)
theorem cV.keys{l:List (List Nat×AV)}:∀{es:List DictEntry},cV C J M h l es→∀e∈es,∃k,(strKind C.prog C.w).is k e.key=true∧e.hash=(strKind C.prog C.w).hash k:=by
 induction l with
 |nil=>exact fun V=>V.nl▸fun e m=>nomatch m
 |cons p l ih=>exact fun V=>F0 V.un fun v t es q V r=>q▸fun e m=>(cO m).elim (fun q=>q▸⟨aR p.1,strKind_is _ _ _ _,rfl⟩) (ih r e)
theorem rS{l:List (List Nat×AV)}{a:Addr}(e:h.get? a=some (bK es n))(r:cV C J M h l es):h.MapOf (strKind C.prog C.w) a (fun k=>(es.find? fun e=>Value.isStrOf k e.key).map (·.val)):=
 ⟨_,es.toArray,n,e,⟨rfl,rfl,rfl⟩,rfl,fun e m=>r.keys e (by simpa using m),fun k=>by
  show findBy Value.isStrOf _ _=_;unfold findBy;simp⟩
theorem rX(l:List UInt8)(c:UInt8):l.toArray.contains c=l.contains c:=by simp
theorem Rh(ν:Nat→Int)(x:IE):(x.eval ν).toNat.toUInt8=cz ν x:=rfl
section
variable{neg:Bool}{rw:Value}
theorem Le(e:(qK a l s).leaf C.ν=some (r,s'))(V:ao C J M st.heap a rv)(W:ao C J M st.heap (.t l) rw)(S:aq C J M s st.heap)(K:KB C Z J M st (r !=neg) s' (fun b=>Q (.bool b))):ab (Md C) A (compareOp (if neg then .NotIn else .In) rv rw) Q E st:=by
 refine W.kO fun b ws m hb eb Vb=>?_
 refine lJ (oQ S.rg e V Vb:) fun c1 c2 c3 c4=>?_
 have hp:∀y,y∈ws.toArray→EqAt A.in1 st y rv (lx y rv):=fun y m=>(c2 y (List.mem_toArray.mp m) A.in1 st).1
 have K:=K.now (S.lP c3 c4) st.toks
 have hr:ws.toArray.any (fun y=>lx y rv)=r:=by rw [←c1];simp
 subst hr;cases neg with
 |true=>exact lf<|notIn_tupleAt _ (isTup eb) hp (by rwa[Bool.bne_true]at K)
 |false=>exact lf<|in_tupleAt _ (isTup eb) hp (by rwa[Bool.bne_false]at K)
theorem ES(ej:s.get i=some (.list l))(e:(qK a l s).leaf C.ν=some (r,s'))(V:ao C J M st.heap a rv)(W:ao C J M st.heap (.ref i) rw)(S:aq C J M s st.heap)(K:KB C Z J M st (r !=neg) s' (fun b=>Q (.bool b))):ab (Md C) A (compareOp (if neg then .NotIn else .In) rv rw) Q E st:=by
 refine W.listE S ej fun b ws m hb eb Vb=>?_
 refine lJ (oQ S.rg e V Vb:) fun c1 c2 c3 c4=>?_
 have hp:∀y,y∈ws.toArray→EqAt A.in1 st y rv (lx y rv):=fun y m=>(c2 y (List.mem_toArray.mp m) A.in1 st).1
 have K:=K.now (S.lP c3 c4) st.toks
 have hr:ws.toArray.any (fun y=>lx y rv)=r:=by rw [←c1];simp
 subst hr;cases neg with
 |true=>exact lf<|notIn_listAt _ (cM eb) hp (by rwa[Bool.bne_true]at K)
 |false=>exact lf<|in_listAt _ (cM eb) hp (by rwa[Bool.bne_false]at K)
theorem JD{x y:List Nat}(e:(UC x y s).leaf C.ν=some (r,s'))(V:ao C J M st.heap (.str x) rv)(W:ao C J M st.heap (.str y) rw)(S:aq C J M s st.heap)(K:KB C Z J M st (r !=neg) s' (fun b=>Q (.bool b))):ab (Md C) A (compareOp (if neg then .NotIn else .In) rv rw) Q E st:=by
 refine V.gK fun t=>?_
 refine W.gK fun u=>?_
 refine aw (cN e) fun hx e=>?_
 cases x with
 |nil=>injection hx
 |cons c x=>cases x with
  |cons _ _=>injection hx
  |nil=>
   injection e with e;injection e with e aN;subst e aN;have K:=K.now S st.toks
   have hr:(!(Builtin.Str.occurrences (aR y) (aR [c]) 0 (aR y).length 1).isEmpty)=gz ([c].headD 0) y:=(StrLaws.found_one (aR y) c).trans (x7 c y).symm
   rw [←hr]at K;cases neg with
   |true=>exact lf<|P.notIn_str (by rwa[Bool.bne_true]at K)
   |false=>exact lf<|P.in_str (by rwa[Bool.bne_false]at K)
theorem C9{x:IE}{y:List IE}(e:(UD x y s).leaf C.ν=some (r,s'))(V:ao C J M st.heap (.int x) rv)(W:ao C J M st.heap (.bytes y) rw)(S:aq C J M s st.heap)(K:KB C Z J M st (r !=neg) s' (fun b=>Q (.bool b))):ab (Md C) A (compareOp (if neg then .NotIn else .In) rv rw) Q E st:=by
 refine aC (aI e:) fun p q e=>?_
 refine aw (cN e:) fun hb e=>?_
 refine aw (dH S.rg q:) fun v1 v2=>?_
 have b1:=Int.le_trans (bI.mp (ae hb).1) v1
 have b2:=Int.lt_of_le_of_lt v2 (bz.mp (ae hb).2)
 refine V.eK fun t=>?_
 refine W.eF fun B u=>?_
 refine dJ (xd (ν:=C.ν) (a:=x) ⟨b1,b2⟩ S.rg B e:) fun c1 c2 c3=>?_
 have K:=K.now (S.lP c2 c3) st.toks
 have hr:(aS C.ν y).contains ((x.eval C.ν).toNat.toUInt8)=r:=by
  rw [←c1];unfold aS;rw [rX,Rh]
 have g:=jx (aS C.ν y) (x.eval C.ν) u t b1 b2
 rw [hr]at g;cases neg with
 |true=>exact lf<|notIn_gives (typeIs_bytes st _ u) FB.slot_bytes_contains FB.entry_bytes_contains (FB.args_bytes_contains_2 _ _) g (by rwa[Bool.bne_true]at K)
 |false=>exact lf<|in_gives (typeIs_bytes st _ u) FB.slot_bytes_contains FB.entry_bytes_contains (FB.args_bytes_contains_2 _ _) g (by rwa[Bool.bne_false]at K)
theorem Lf{x:List Nat}{l:List (List Nat×AV)}(e:(aH.ok ((gG l x).isSome,s)).leaf C.ν=some (r,s'))(V:ao C J M st.heap (.str x) rv)(W:ao C J M st.heap (.eD l) rw)(S:aq C J M s st.heap)(K:KB C Z J M st (r !=neg) s' (fun b=>Q (.bool b))):ab (Md C) A (compareOp (if neg then .NotIn else .In) rv rw) Q E st:=by
 injection e with e;injection e with e aN;subst e aN;refine V.gK fun t=>?_
 refine W.wR fun a es n ha hs ea Ra=>?_
 have hm:=rS ea Ra
 have hr:((es.find? fun e=>Value.isStrOf (aR x) e.key).map (·.val)).isSome=(gG l x).isSome:=by
  have:=Ra.find x
  cases q:gG l x with
  |none=>rw [q]at this;rw [show es.find? _=none from this];rfl
  |some v=>rw [q]at this;refine aC (this:) fun e h1 Y=>?_;rw [h1];rfl
 rw [←hr]at K;cases neg with
 |true=>exact lf<|wpAny_notIn_of (strKind_is _ _ _ _) hs hm (by rw [Bool.bne_true]at K;exact K.now S _)
 |false=>exact lf<|wpAny_in_of (strKind_is _ _ _ _) hs hm (by rw [Bool.bne_false]at K;exact K.now S _)
end
theorem IU(neg:Bool){b:AV}{rw:Value}(e:(isIn a b s).leaf C.ν=some (r,s'))(V:ao C J M st.heap a rv)(W:ao C J M st.heap b rw)(S:aq C J M s st.heap)
  (K:KB C Z J M st (r !=neg) s' (fun b=>Q (.bool b))):ab (Md C) A (compareOp (if neg then .NotIn else .In) rv rw) Q E st:=by
 cases b with
 |t l=>exact Le e V W S K
 |ref i=>
  refine aC (cS e:) fun l ej e=>?_
  exact ES ej e V W S K
 |str y=>
  obtain⟨x,rfl,e⟩:=dB e
  exact JD e V W S K
 |bytes y=>
  obtain⟨x,rfl,e⟩:=aX e
  exact C9 e V W S K
 |eD l=>
  obtain⟨x,rfl,e⟩:=dB e
  exact Lf e V W S K
 |_=>exact no e
theorem mi{b:AV}{rw:Value}(e:(isNone a b s).leaf C.ν=some (r,s'))(V:ao C J M h a rv)(W:ao C J M h b rw):rw=.none∧(rv==Value.none)=r∧s'=s:=by
 cases b with
 |none=>
  cases W.inv
  refine⟨rfl,?_⟩
  cases a with
  |none=>cases V.inv;injection e with e;injection e with e aN;subst e aN;exact⟨rfl,rfl⟩
  |bool x=>cases V.inv;injection e with e;injection e with e aN;subst e aN;exact⟨rfl,rfl⟩
  |int x=>obtain⟨t,rfl⟩:=V.inv;injection e with e;injection e with e aN;subst e aN;exact⟨rfl,rfl⟩
  |str x=>obtain⟨t,rfl⟩:=V.inv;injection e with e;injection e with e aN;subst e aN;exact⟨rfl,rfl⟩
  |t x=>obtain⟨a,vs,n,rfl,_⟩:=V.inv;injection e with e;injection e with e aN;subst e aN;exact⟨rfl,rfl⟩
  |ref x=>obtain⟨a,rfl,_⟩:=V.inv;injection e with e;injection e with e aN;subst e aN;exact⟨rfl,rfl⟩
  |_=>exact no e
 |_=>exact no e
theorem Oz{b:AV}{rw:Value}(e:(Jj a b s).leaf C.ν=some (r,s'))(V:ao C J M st.heap a rv)(W:ao C J M st.heap b rw)(S:aq C J M s st.heap)
  (K:KB C Z J M st r s' (fun b=>Q (.bool b))):ab (Md C) A (compareOp .LtE rv rw) Q E st:=by
 cases a with
 |int x=>
  obtain⟨y,rfl,e⟩:=aX e
  refine V.eK fun t=>?_
  refine W.eK fun u=>?_
  refine dJ (dF (kind:=2) S.rg e:) fun c1 c2 c3=>?_
  have c1:decide (x.eval C.ν≤y.eval C.ν)=r:=c1
  exact lf<|PyProof.Rows.le_int (by rw [c1];exact K.now (S.lP c2 c3) st.toks)
 |str x=>
  obtain⟨y,rfl,e⟩:=dB e
  refine V.gK fun t=>?_
  refine W.gK fun u=>?_
  injection e with e;injection e with e aN;subst e aN;refine lf<|P.le_str ?_;have Sr:decide ((aR y).cps.toList<(aR x).cps.toList)=strLt y x:=by
   rw [Bool.eq_iff_iff,decide_eq_true_eq,pV];exact Iff.rfl
  rw [Sr];exact K.now S st.toks
 |_=>exact no e
theorem H2{op:Cm}{b:AV}{rw:Value}(hu:A.units<cLine)(e:(compare op a b s).leaf C.ν=some (r,s'))(V:ao C J M st.heap a rv)(W:ao C J M st.heap b rw)(S:aq C J M s st.heap)
  (K:KB C Z J M st r s' (fun b=>Q (.bool b))):ab (Md C) A (compareOp (mX op) rv rw) Q E st:=by
 cases op with
 |eq=>
  refine lJ (DM hu e V W S:) fun c1 c2 c3 c4=>?_
  exact lf<|c1 _ _ E Q (K.now (S.lP c3 c4) st.toks)
 |ne=>
  refine aH.cL e fun q ag e1 e=>?_
  refine lJ (DM hu e1 V W S:) fun c1 c2 c3 c4=>?_
  injection e with e;injection e with e aN;subst e aN;exact lf<|c2 _ _ E Q (K.now (S.lP c3 c4) st.toks)
 |is=>
  obtain⟨rfl,h1,rfl⟩:=mi e V W
  exact lf<|is_none (by rw [h1];exact K.now S st.toks)
 |tZ=>
  refine aH.cL e fun q ag e1 e=>?_
  injection e with e;injection e with e aN;subst e aN;obtain⟨rfl,h1,rfl⟩:=mi e1 V W
  exact lf<|isNot_none (by rw [h1];exact K.now S st.toks)
 |oX=>exact IU (Z:=Z) false e V W S (by simpa using K)
 |Cw=>
  refine aH.cL e fun q ag e1 e=>?_
  injection e with e;injection e with e aN;subst e aN;exact IU (Z:=Z) true e1 V W S (by simpa using K)
 |lt=>
  obtain⟨x,rfl,e⟩:=aX e
  obtain⟨y,rfl,e⟩:=aX e
  refine V.eK fun t=>?_
  refine W.eK fun u=>?_
  refine dJ (dF (kind:=1) S.rg e:) fun c1 c2 c3=>?_
  have c1:decide (x.eval C.ν<y.eval C.ν)=r:=c1
  exact lf<|PyProof.Rows.lt_int (by rw [c1];exact K.now (S.lP c2 c3) st.toks)
 |gt=>
  obtain⟨x,rfl,e⟩:=aX e
  obtain⟨y,rfl,e⟩:=aX e
  refine V.eK fun t=>?_
  refine W.eK fun u=>?_
  refine dJ (dF (kind:=1) S.rg e:) fun c1 c2 c3=>?_
  have c1:decide (y.eval C.ν<x.eval C.ν)=r:=c1
  exact lf<|PyProof.Rows.gt_int (by rw [c1];exact K.now (S.lP c2 c3) st.toks)
 |ge=>
  obtain⟨x,rfl,e⟩:=aX e
  obtain⟨y,rfl,e⟩:=aX e
  refine V.eK fun t=>?_
  refine W.eK fun u=>?_
  refine dJ (dF (kind:=2) S.rg e:) fun c1 c2 c3=>?_
  have c1:decide (y.eval C.ν≤x.eval C.ν)=r:=c1
  exact lf<|PyProof.Rows.ge_int (by rw [c1];exact K.now (S.lP c2 c3) st.toks)
 |le=>exact Oz e V W S K
end
section
variable{ex:Expr}
theorem bu.units(R:bu A d):A.units<cLine:=R.u (Nat.zero_le 40)
theorem je{Q:Bool→Shared→Prop}(e:(truthy v s).leaf C.ν=some (r,s'))(V:ao C J M st.heap v rv)(S:aq C J M s st.heap)(K:KB C Z J M st r s' Q):ab (Md C) A (PySem.truthy rv) Q E st:=by
 cases v with
 |bool b=>
  cases V.inv;injection e with e;injection e with e aN;subst e aN
  exact lf<|wpAny_truthy_bool (K.now S st.toks)
 |ref i=>
  refine aC (cS e:) fun l el e=>?_
  obtain⟨hl,e⟩:=bC e
  refine V.listE S el fun a vs n ha ea Va=>?_
  injection e with e;injection e with e aN;subst e aN;have hlen:=Va.length
  refine lf<|wpAny_truthy_list (cM ea) (by rw [List.size_toArray,←hlen];lia) ?_
  cases l with
  |nil=>exact Va.nl▸K.now S _
  |cons _ _=>exact jZ Va.un fun Y Y q Y Y=>q▸K.now S _
 |_=>exact no e
theorem ND(H:gk C ih d){op:Op}{a b:CE}(e:(cF P N ih (.bin op a b) ρ s).leaf C.ν=some (v,s')){x2:Expr}(h1:aW C kd a x1)(h2:aW C kd b x2)(F:fm C Z J M kd env ρ st.heap)(S:aq C J M s st.heap)(R:bu A d)(z:cm C Z J st.heap)(K:KV C Z J M st v s' Q):
  ab (Md C) A (eval (.BinOp x1 (Iy op) x2 pos) env) Q E st:=by
 exact sC (BZ H (op:=binop op) (t:=binaryOp (Iy op)) e h1 h2 F S R z K fun e V W S Y K=>T6 e V W S K)
theorem zJ{r:aH (Bool×AS)}{neg:Bool}(e:(F7 r neg).leaf ν=some (v,s')):∃b,r.leaf ν=some (b,s')∧v=.bool (b !=neg):=by
 unfold F7 at e;refine aH.cL e fun b ag e1 e=>?_
 injection e with e;injection e with e aN;subst e aN;exact⟨b,e1,rfl⟩
theorem NC(H:gk C ih d){op:Cm}{a b:CE}(e:(cF P N ih (.cmp op a b) ρ s).leaf C.ν=some (v,s')){x2:Expr}(h1:aW C kd a x1)(h2:aW C kd b x2)(h3:behindInMarks (mX op) x2=false)(F:fm C Z J M kd env ρ st.heap)(S:aq C J M s st.heap)(R:bu A d)(z:cm C Z J st.heap)(K:KV C Z J M st v s' Q):
  ab (Md C) A (eval (.Compare x1 [mX op] [x2] pos) env) Q E st:=by
  refine m9 (BZ H (op:=fun x y s=>F7 (compare op x y s) false) (t:=compareOp (mX op)) e h1 h2 F S R z K fun{av bv ag rv rw J M st Q} e V W S _ K=>?_) h3
  obtain⟨r,e1,rfl⟩:=zJ e
  exact H2 (Z:=Z) R.units e1 V W S fun σ' M' h' tk G S'=>K σ' M' h' tk _ G S' (by simpa using ao.bool r)
theorem Nf(H:gk C ih d){op:Cm}{a b:CE}{Q:Bool→Shared→Prop}{whole:Sem Value}{y:Expr}(e:(stepT ih (.cmp op a b) ρ s).leaf C.ν=some (r,s'))(h1:aW C kd a x)(h2:aW C kd b y)(h3:behindInMarks (mX op) y=false)(F:fm C Z J M kd env ρ st.heap)(S:aq C J M s st.heap)(R:bu A d)(z:cm C Z J st.heap)(K:KB C Z J M st r s' Q):
  ab (Md C) A (isTrue (.Compare x [mX op] [y] pos) env whole) Q E st:=by
 refine aH.cL e fun av ag e1 e=>?_
 refine aH.cL e fun bv aK e2 e=>?_
 refine iT ?_ h3
 refine H a ρ s av ag e1 kd x h1 Z J M env A st F S R z _ _ fun aA aP h₁ aU rv aF aD cb=>?_
 refine H b ρ ag bv aK e2 kd y h2 Z aA aP env A _ (F.grow aF) aD R (z.grow aF) _ _ fun cy dR br bf rw bb bT dY=>?_
 exact H2 (Z:=Z) (st:={st with heap:=br,toks:=bf}) R.units e (cb.grow bb) dY bT fun σ' M' h' tk G S'=>lf<|wpAny_truthy_bool (K σ' M' h' tk ((aF.trans bb).trans G) S')
theorem uK{op jS:Cm}{b:AV}{c:AS→aH (AV×AS)}(e:(w6 op jS a b s c).leaf C.ν=some (r,s')):∃q ag,(compare op a b s).leaf C.ν=some (q,ag)∧
  (match q with|false=>r=false∧s'=ag|true=>∃d aK,(c ag).leaf C.ν=some (d,aK)∧(compare jS b d aK).leaf C.ν=some (r,s')):=by
 unfold w6 at e;refine aH.cL e fun q ag e1 e=>?_
 refine⟨q,ag,e1,?_⟩
 cases q with
 |false=>(injection e with e;injection e with e aN;subst e aN);exact⟨rfl,rfl⟩
 |true=>
  refine aH.cL e fun d aK e2 e=>?_
  exact⟨d,aK,e2,e⟩
theorem Fg(H:gk C ih d){op jS:Cm}{a b c:CE}{Q:Bool→Shared→Prop}{whole:Sem Value}{y w:Expr}(e:(stepT ih (.chain op a b jS c) ρ s).leaf C.ν=some (r,s'))(h1:aW C kd a x)(h2:aW C kd b y)(h3:aW C kd c w)(h4:lastMarks [mX op,mX jS] [y,w]=false)(F:fm C Z J M kd env ρ st.heap)(S:aq C J M s st.heap)(R:bu A d)(z:cm C Z J st.heap)(K:KB C Z J M st r s' Q):
  ab (Md C) A (isTrue (.Compare x [mX op,mX jS] [y,w] pos) env whole) Q E st:=by
 refine aH.cL e fun av ag e1 e=>?_
 refine aH.cL e fun bv aK e2 e=>?_
 refine eJ (uK e:) fun q bM e4 e5=>?_
 refine isTrue_chain ?_ h4
 refine H a ρ s av ag e1 kd x h1 Z J M env A st F S R z _ _ fun aA aP h₁ aU rv aF aD cb=>?_
 refine yX (H b ρ ag bv aK e2 kd y h2 Z aA aP env A _ (F.grow aF) aD R (z.grow aF) _ _ fun cy dR br bf rw bb bT dY=>?_)
 have Qs:=aF.trans bb
 refine H2 (Z:=Z) (st:={st with heap:=br,toks:=bf}) R.units e4 (cb.grow bb) dY bT fun kK r9 dP ib dn fD=>lf<|wpAny_truthy_bool ?_
 have QW:=Qs.trans dn
 cases q with
 |false=>
  obtain⟨rfl,rfl⟩:=e5
  exact K _ _ _ _ QW fD
 |true=>
  refine eJ (e5:) fun dv kQ e6 e7=>?_
  refine yY (H c ρ bM dv kQ e6 kd w h3 Z kK r9 env A _ (F.grow QW) fD R (z.grow QW) _ _ fun ma u0 iH fU rx dZ lE Ex=>?_)
  exact H2 (Z:=Z) (st:={st with heap:=iH,toks:=fU}) R.units e7 ((dY.grow dn).grow dZ) Ex lE fun σ' M' h' tk G S'=>lf<|wpAny_truthy_bool (K σ' M' h' tk ((QW.trans dZ).trans G) S')
theorem Mm(H:gk C ih d)(pos:Pos){es:List CE}:∀{xs:List Expr}{s:AS}{J:List Addr}{M:Addr→Prop}{st:Shared}{Q:Value→Shared→Prop},(DI ih es ρ s).leaf C.ν=some (v,s')→cY C kd es xs→fm C Z J M kd env ρ st.heap→aq C J M s st.heap→bu A d→cm C Z J st.heap→KV C Z J M st v s' Q→
  ab (Md C) A (eval (.BoolOp .And xs pos) env) Q E st:=by
 induction es with
 |nil=>exact fun e=>no e
 |cons a l Dc=>
  intro xs s J M st Q e hl F S R z K;refine hl.oU fun x xs h1 Y h4=>?_
  cases l with
  |nil=>exact h4.nl▸nj (H a ρ s v s' e kd _ h1 Z J M env A st F S R z _ _ K)
  |cons b r=>
   refine aH.cL e fun av ag e1 e=>aH.cL e fun q aK e2 e=>?_
   revert h4
   refine fun h4=>h4.oU fun x' sH h2 h3 h4=>vn (H a ρ s av ag e1 kd _ h1 Z J M env A st F S R z _ _ fun aA aP h₁ aU rv aF aD cb=>?_)
   refine je (Z:=Z) (st:={st with heap:=h₁,toks:=aU}) e2 cb aD fun cy dR br bf bb bT=>?_
   cases q with
   |true=>exact Dc (st:={st with heap:=br,toks:=bf}) e (.cons h2 h3 h4) (F.grow (aF.trans bb)) bT R (z.grow (aF.trans bb)) (K.after (aF.trans bb))
   |false=>exact K.of e _ _ _ _ _ (aF.trans bb) bT (cb.grow bb)
theorem NV(H:gk C ih d)(pos:Pos){es:List CE}:∀{xs:List Expr}{s:AS}{J:List Addr}{M:Addr→Prop}{st:Shared}{Q:Value→Shared→Prop},(LI ih es ρ s).leaf C.ν=some (v,s')→cY C kd es xs→fm C Z J M kd env ρ st.heap→aq C J M s st.heap→bu A d→cm C Z J st.heap→KV C Z J M st v s' Q→
  ab (Md C) A (eval (.BoolOp .Or xs pos) env) Q E st:=by
 induction es with
 |nil=>exact fun e=>no e
 |cons a l Dc=>
  intro xs s J M st Q e hl F S R z K;refine hl.oU fun x xs h1 Y h4=>?_
  cases l with
  |nil=>exact h4.nl▸nj (H a ρ s v s' e kd _ h1 Z J M env A st F S R z _ _ K)
  |cons b r=>
   refine aH.cL e fun av ag e1 e=>aH.cL e fun q aK e2 e=>?_
   revert h4
   refine fun h4=>h4.oU fun x' sH h2 h3 h4=>y7 (H a ρ s av ag e1 kd _ h1 Z J M env A st F S R z _ _ fun aA aP h₁ aU rv aF aD cb=>?_)
   refine je (Z:=Z) (st:={st with heap:=h₁,toks:=aU}) e2 cb aD fun cy dR br bf bb bT=>?_
   cases q with
   |false=>exact Dc (st:={st with heap:=br,toks:=bf}) e (.cons h2 h3 h4) (F.grow (aF.trans bb)) bT R (z.grow (aF.trans bb)) (K.after (aF.trans bb))
   |true=>exact K.of e _ _ _ _ _ (aF.trans bb) bT (cb.grow bb)
theorem Fd(HT:vg C ih d)(pos:Pos)(whole:Sem Value){es:List CE}:∀{xs:List Expr}{s:AS}{r:Bool}{J:List Addr}{M:Addr→Prop}{st:Shared}{Q:Bool→Shared→Prop},(BI ih es ρ s).leaf C.ν=some (r,s')→cY C kd es xs→fm C Z J M kd env ρ st.heap→aq C J M s st.heap→bu A d→cm C Z J st.heap→KB C Z J M st r s' Q→
  ab (Md C) A (isTrue (.BoolOp .And xs pos) env whole) Q E st:=by
 induction es with
 |nil=>intro xs s r J M st Q e hl F S R z K;exact hl.nl▸lf (isTrue_and_nil ((K.of e).now S st.toks))
 |cons a l Dc=>
  intro xs s r J M st Q e hl F S R z K;refine hl.oU fun x xs h1 Y h4=>aH.cL e fun q aK e2 e=>isTrue_and (HT a ρ s q aK e2 kd _ h1 Z J M env A st F S R z _ _ fun cy dR br bf G bT=>?_)
  cases q with
  |true=>exact Dc (st:={st with heap:=br,toks:=bf}) e h4 (F.grow G) bT R (z.grow G) (K.after G)
  |false=>exact K.of e _ _ _ _ G bT
theorem J4(HT:vg C ih d)(pos:Pos)(whole:Sem Value){es:List CE}:∀{xs:List Expr}{s:AS}{r:Bool}{J:List Addr}{M:Addr→Prop}{st:Shared}{Q:Bool→Shared→Prop},(J2 ih es ρ s).leaf C.ν=some (r,s')→cY C kd es xs→fm C Z J M kd env ρ st.heap→aq C J M s st.heap→bu A d→cm C Z J st.heap→KB C Z J M st r s' Q→
  ab (Md C) A (isTrue (.BoolOp .Or xs pos) env whole) Q E st:=by
 induction es with
 |nil=>intro xs s r J M st Q e hl F S R z K;exact hl.nl▸lf (isTrue_or_nil ((K.of e).now S st.toks))
 |cons a l Dc=>
  intro xs s r J M st Q e hl F S R z K;refine hl.oU fun x xs h1 Y h4=>aH.cL e fun q aK e2 e=>isTrue_or (HT a ρ s q aK e2 kd _ h1 Z J M env A st F S R z _ _ fun cy dR br bf G bT=>?_)
  cases q with
  |false=>exact Dc (st:={st with heap:=br,toks:=bf}) e h4 (F.grow G) bT R (z.grow G) (K.after G)
  |true=>exact K.of e _ _ _ _ G bT
theorem Nw(H:gk C ih d){a:CE}(e:(cF P N ih (.neg a) ρ s).leaf C.ν=some (v,s'))(h1:aW C kd a x1)(F:fm C Z J M kd env ρ st.heap)(S:aq C J M s st.heap)(R:bu A d)(z:cm C Z J st.heap)(K:KV C Z J M st v s' Q):
  ab (Md C) A (eval (.UnaryOp .USub x1 pos) env) Q E st:=by
  refine aH.cL e fun av ag e1 e=>?_
  refine pa (H a ρ s av ag e1 kd _ h1 Z J M env A st F S R z _ _ fun aA aP h₁ aU rv aF aD cb=>?_)
  obtain⟨x,rfl,e⟩:=aX e
  injection e with e;injection e with e aN;subst e aN;refine cb.eK fun t=>?_
  exact lf<|PySem.P.neg_int (K _ _ _ _ _ aF aD (.int _ _ _ (by rw [km];exact Int.zero_sub _)))
end
theorem md(h1:j<n):seqIndex? (j:Int) n=some j:=by
 unfold seqIndex?;rw [if_neg (Int.not_lt.mpr (Int.natCast_nonneg j)),if_pos (by rw [Bool.and_eq_true,decide_eq_true_eq,decide_eq_true_eq];exact⟨Int.natCast_nonneg j,Int.ofNat_lt.mpr h1⟩)]
 rfl
theorem seqIndex_of{i:Int}(h0:0≤i)(h1:i<n):seqIndex? i n=some i.toNat:=dC (Int.eq_ofNat_of_zero_le h0:) fun k e=>by subst e;exact md (Int.ofNat_lt.mp h1)
structure yQ(n:Nat)(i:Int)(k:Nat):Prop where
 s:seqIndex? i n=some k
 lo: -(n:Int)≤i
 hi:i<n
 lt:k<n
 nn:0≤i→i.toNat=k
 ng:i<0→(i+n).toNat=k
theorem Lh(h:j<n):yQ n (j:Int) j:=⟨md h,Int.le_trans (Int.neg_nonpos_of_nonneg (Int.natCast_nonneg n)) (Int.natCast_nonneg j),Int.ofNat_lt.mpr h,h,fun Y=>Int.toNat_natCast j,fun q=>absurd q (Int.not_lt.mpr (Int.natCast_nonneg j))⟩
theorem xu(h:j+1≤n):Int.negSucc j+(n:Int)=((n - (j+1):Nat):Int):=Int.subNatNat_of_le h
theorem Cz(h:j+1≤n):n - (j+1)<n:=Nat.sub_lt (Nat.lt_of_lt_of_le (Nat.succ_pos j) h) (Nat.succ_pos j)
theorem sY(h:j+1≤n):seqIndex? (Int.negSucc j) n=some (n - (j+1)):=by
 unfold seqIndex?;rw [if_pos (Int.negSucc_lt_zero j)];show(if _ then some (Int.negSucc j+(n:Int)).toNat else none)=_;rw [xu h,if_pos (by rw [Bool.and_eq_true,decide_eq_true_eq,decide_eq_true_eq];exact⟨Int.natCast_nonneg _,Int.ofNat_lt.mpr (Cz h)⟩)]
 rfl
theorem Li(h:j+1≤n):yQ n (Int.negSucc j) (n - (j+1)):=⟨sY h,Int.neg_le_neg (Int.ofNat_le.mpr h),Int.lt_of_lt_of_le (Int.negSucc_lt_zero j) (Int.natCast_nonneg n),Cz h,fun q=>absurd (Int.negSucc_lt_zero j) (Int.not_lt.mpr q),fun Y=>by rw [xu h];rfl⟩
theorem t8{i:Int}(h:index n i=some k):yQ n i k:=by
 cases i with
 |ofNat j=>
  unfold index at h
  dsimp only at h
  cases q:Nat.blt j n with
  |true=>rw [q]at h;injection h with h;subst h;exact Lh (nW.mp q)
  |false=>rw [q]at h;injection h
 |negSucc j=>
  unfold index at h
  dsimp only at h
  cases q:Nat.ble (j+1) n with
  |true=>rw [q]at h;injection h with h;subst h;exact Li (bF q)
  |false=>rw [q]at h;injection h
theorem gS{l:List α}{i:IE}{x:α}(R:cg ν s.rg)(e:(getIdx l i s).leaf ν=some (x,s')):l.length≤100000∧SameBut s s'∧cg ν s'.rg∧∃k,l[k]?=some x∧yQ l.length (i.eval ν) k:=by
 refine aw (bC e:) fun hl e=>?_
 refine aH.cL e fun j ag e1 e=>?_
 refine dJ (fc 40 R e1:) fun c1 c2 c3=>?_
 refine aC (aI e:) fun k hk e=>?_
 refine aC (aI e:) fun y hx e=>?_
 injection e with e;injection e with e aN;subst e aN;exact⟨hl,c2,c3,k,hx,c1▸t8 hk⟩
theorem BK(x:Int):(max 0 x).toNat=x.toNat:=by
 cases x with
 |ofNat k=>exact congrArg Int.toNat (Int.max_eq_right (Int.natCast_nonneg k))
 |negSucc k=>exact(congrArg Int.toNat (Int.max_eq_left (Int.le_of_lt (Int.negSucc_lt_zero k)))).trans rfl
theorem oN(n:Nat)(i:Int):clamp n i=clipAt n i:=by
 cases i with
 |ofNat k=>
  unfold clipAt;rw [if_neg (show¬Int.ofNat k<0 from Int.not_lt.mpr (Int.natCast_nonneg k))]
  refine Eq.trans ?_ (BK _).symm
  show min k n=(min (k:Int) n).toNat;refine(Nat.le_total k n).elim (fun q=>?_) fun q=>?_
  ·rw [Nat.min_eq_left q,Int.min_eq_left (Int.ofNat_le.mpr q)];rfl
  ·rw [Nat.min_eq_right q,Int.min_eq_right (Int.ofNat_le.mpr q)];rfl
 |negSucc k=>
  unfold clipAt;rw [if_pos (Int.negSucc_lt_zero k)];refine Eq.trans ?_ (BK _).symm;rw [Int.min_eq_left (Int.le_trans (Int.add_le_add_right (Int.le_of_lt (Int.negSucc_lt_zero k)) n) (Int.le_of_eq (Int.zero_add _))),Int.add_comm];exact(Int.toNat_sub n (k+1)).symm
theorem qE(n:Nat)(i:Int):clipAt n i≤n:=oN n i▸(by cases i with|ofNat k=>exact Nat.min_le_right _ _|negSucc k=>exact Nat.sub_le _ _)
section
variable{ex:Expr}
theorem ay.get(V:ay C J M h l vs){x:AV}(e:l[k]?=some x):∃y,vs[k]?=some y∧ao C J M h x y:=
 V.ind (P:=fun l vs=>∀k x,l[k]?=some x→∃y,vs[k]?=some y∧ao C J M h x y) (fun Y Y e=>Mine.Internal.no e) (fun Y v Y Y x Y ih k=>Nat.casesOn k (fun Y e=>⟨v,rfl,bh e▸x⟩) fun k y e=>ih k y e) k x e
theorem ay.drop(k:Nat)(V:ay C J M h l vs):ay C J M h (l.drop k) (vs.drop k):=
 V.ind (P:=fun l vs=>∀k,ay C J M h (l.drop k) (vs.drop k)) (fun k=>by rw [List.drop_nil,List.drop_nil];exact .nil) (fun Y Y Y Y x r ih k=>Nat.casesOn k (.cons x r) ih) k
theorem ay.take(k:Nat)(V:ay C J M h l vs):ay C J M h (l.take k) (vs.take k):=
 V.ind (P:=fun l vs=>∀k,ay C J M h (l.take k) (vs.take k)) (fun k=>by rw [List.take_nil,List.take_nil];exact .nil) (fun Y Y Y Y x r ih k=>Nat.casesOn k .nil fun k=>.cons x (ih k)) k
theorem ay.cut(a b:Nat)(V:ay C J M h l vs):ay C J M h ((l.drop a).take b) ((vs.drop a).take b):=(V.drop a).take b
theorem nF(slice:Expr)(o i:Value):subscripted slice false o i=operate [i,o] (getItem o i)∨subscripted slice false o i=operate [o,i] (getItem o i):=by
 cases slice with
 |Slice l u s p=>cases s<;>first|exact .inl rfl|exact .inr rfl
 |_=>exact .inr rfl
theorem d7{T id:String}{slice:Expr}{o i:Value}(hT:st.TypeIs o T)(hl:typeLookup (.type T) "__getitem__"=pure (some (.builtin id)))(h:ab (Md C) A (getItem o i) Q E st):ab (Md C) A (subscriptTail value slice o i) Q E st:=by
 unfold subscriptTail;refine aa ?_;rw [getitemInPython_of_ne hT.not_modules];refine aa (lf<|wpAny_specialOf hT hl ?_);have fin:ab (Md C) A (subscripted slice false o i) (fun r bM=>ab (Md C) A (letTemporaryGo value o r>>=fun Y=>pure r) Q E bM) E st:=by
  have h':=aG h (fun r bM dP=>aa (lf<|wpAny_letTemporaryGo (prog:=C.prog) (w:=C.w) (E:=E) (base:=value) (o:=o) (r:=r) (Q:=fun Y s=>ab (Md C) A (pure r) Q E s) (af dP))) fun Y Y x=>x
  exact(nF slice o i).elim (fun q=>q▸cB h') fun q=>q▸cB h'
 exact af (aa fin)
theorem uD{l:List IE}:∀{vs:List Int},constsOf l=some vs→∀(k:Nat)(x:IE),l[k]?=some x→vs[k]?=some (x.eval ν):=by
 induction l with
 |nil=>exact fun Y Y Y e=>no e
 |cons a l ih=>
  intro vs e k x h;refine aC (aM e:) fun i q e=>?_
  cases q':constsOf l with
  |none=>rw [q']at e;injection e
  |some ws=>
   rw [q']at e;injection e with e;subst e;cases k with
   |zero=>(injection h with h;subst h);exact congrArg some (hH ν q).symm
   |succ k=>exact ih q' k x h
theorem ue{l:List IE}{i:Int}{t u:Tok}{x:IE}(B:bq C.ν l)(hl:l.length≤100000)(h1:seqIndex? i l.length=some k)(h2:l[k]?=some x)(h3: -(l.length:Int)≤i)(h4:i<l.length)
  (K:∀t',Q (.int (x.eval C.ν) t') {st with toks:=st.toks+1}):ab (Md C) A (getItem (.bytes (aS C.ν l) t) (.int i u)) Q E st:=by
 have hx:(aS C.ν l)[k]?=some (cz C.ν x):=by
  unfold aS;rw [List.getElem?_toArray,List.getElem?_map,h2];rfl
 refine lf<|getItem_gives (typeIs_bytes st _ t) (by decide) FB.slot_bytes_getitem FB.entry_bytes_getitem (FB.args_bytes_getitem_2 _ _) (gives_bytes_getitem _ i t u (cz C.ν x) ?_ ?_) ?_
 ·simp only[Builtin.Bytes.fitsIndex,Bool.and_eq_true,decide_eq_true_eq];lia
 ·rw [cJ,h1];exact hx
 ·have hb:=B x (bO h2)
  have:(((cz C.ν x).toNat:Nat):Int)=x.eval C.ν:=by
   unfold cz;rw [UInt8.toNat_ofNat',Nat.mod_eq_of_lt ((Int.toNat_lt hb.1).mpr hb.2)];exact Int.toNat_of_nonneg hb.1
  show Q (.int ((cz C.ν x).toNat:Nat) st.toks) {st with toks:=st.toks+1}
  rw [this];exact K _
section
variable{slice:Expr}{rw:Value}
theorem A3{i:IE}(e:(getIdx l i s).leaf C.ν=some (v,s'))(V:ao C J M st.heap (.t l) rv)(W:ao C J M st.heap (.int i) rw)(S:aq C J M s st.heap)(K:KV C Z J M st v s' Q):ab (Md C) A (subscriptTail value slice rv rw) Q E st:=by
 refine V.kO fun a vs n ha ea Va=>?_
 refine W.eK fun u=>?_
 obtain⟨hl,c2,c3,k,d2,I⟩:=gS S.rg e
 refine aC (Va.get d2:) fun y hy Vy=>?_
 rw [Va.length]at hl I;exact d7 ⟨_,ea,rfl⟩ F.slot_tuple_getitem.lookup (lf<|PySem.P.getItem_tuple (t:=a) (items:=vs.toArray) (n:=n) ea (by have:=I.lo;lia) (by have:=I.hi;lia) (by rw [List.size_toArray];exact I.s) (by simpa using hy) (K.now (S.lP c2 c3) Vy st.toks))
theorem A5{l:List Nat}{i:IE}(e:((getIdx l i s).bind fun(x,s)=>aH.ok (AV.str [x],s)).leaf C.ν=some (v,s'))(V:ao C J M st.heap (.str l) rv)(W:ao C J M st.heap (.int i) rw)(S:aq C J M s st.heap)(K:KV C Z J M st v s' Q):ab (Md C) A (subscriptTail value slice rv rw) Q E st:=by
 refine V.gK fun t=>?_
 refine W.eK fun u=>?_
 refine aH.cL e fun x ag e1 e=>?_
 obtain⟨hl,c2,c3,k,d2,I⟩:=gS S.rg e1
 injection e with e;injection e with e aN;subst e aN;have hlen:(aR l).length=l.length:=by simp[aR,Str.length]
 exact d7 (typeIs_str st _ t) F.slot_str_getitem.lookup (lf<|PySem.P.getItem_str (c:=x) (by rw [Bool.or_eq_false_iff];constructor<;>(apply decide_eq_false;have:=I.lo;have:=I.hi;lia)) (by rw [hlen,I.s];simpa[aR]using d2) (K.now (S.lP c2 c3) (.str [x] _) _))
theorem zU{l:List IE}{i:IE}(e:(C4 l i s).leaf C.ν=some (v,s'))(V:ao C J M st.heap (.bytes l) rv)(W:ao C J M st.heap (.int i) rw)(S:aq C J M s st.heap)(K:KV C Z J M st v s' Q):ab (Md C) A (subscriptTail value slice rv rw) Q E st:=by
 refine V.eF fun B t=>?_
 refine W.eK fun u=>?_
 refine aH.cL e fun x ag e1 e=>?_
 obtain⟨hl,c2,c3,k,d2,I⟩:=gS S.rg e1
 injection e with e;injection e with e aN;subst e aN;exact d7 (typeIs_bytes st _ t) FB.slot_bytes_getitem.lookup (ue B hl I.s d2 I.lo I.hi fun t'=>K.now (S.lP c2 c3) (.int _ _ _ rfl) _)
theorem A4{l:List IE}{i:IE}{r:RV}(q:tY l i s=some r)(e:r.leaf C.ν=some (v,s'))(V:ao C J M st.heap (.bytes l) rv)(W:ao C J M st.heap (.int i) rw)(S:aq C J M s st.heap)(K:KV C Z J M st v s' Q):ab (Md C) A (subscriptTail value slice rv rw) Q E st:=by
 refine V.eF fun B t=>?_
 refine W.eK fun u=>?_
 unfold tY at q;cases q0:gM i with
 |some j=>rw [q0]at q;injection q
 |none=>
  rw [q0]at q;refine aC (aM q:) fun p q1 q=>?_
  refine aC (aM q:) fun vs q2 q=>?_
  refine aw (aB q:) fun hb q=>?_
  injection q with q;subst q;refine aw (bC e:) fun hl e=>?_
  injection e with e;injection e with e aN;subst e aN;refine aw (dH S.rg q1:) fun v1 v2=>?_
  have b1:=Int.le_trans (bI.mp (ae (ae hb).2).1) v1
  have b2:=Int.lt_of_le_of_lt v2 (bz.mp (ae (ae hb).2).2)
  have hx:=List.getElem?_eq_getElem ((Int.toNat_lt b1).mpr b2)
  refine d7 (typeIs_bytes st _ t) FB.slot_bytes_getitem.lookup (ue B hl (seqIndex_of b1 b2) hx (Int.le_trans (Int.neg_nonpos_of_nonneg (Int.natCast_nonneg _)) b1) b2 fun t'=>K.now S (.int _ _ _ ?_) _)
  show vs.getD (i.eval C.ν).toNat 0=_;rw [List.getD_eq_getElem?_getD,uD q2 _ _ hx];rfl
theorem C3{l:List (List Nat×AV)}{k:List Nat}(q:gG l k=some v)(V:ao C J M st.heap (.eD l) rv)(W:ao C J M st.heap (.str k) rw)(S:aq C J M s st.heap)(K:KV C Z J M st v s Q):ab (Md C) A (subscriptTail value slice rv rw) Q E st:=by
 refine V.wR fun a es n ha hs ea Ra=>?_
 refine W.gK fun t=>?_
 have hf:=Ra.find k
 rw [q]at hf;refine aC (hf:) fun en h1 h2=>?_
 have hm:=rS ea Ra
 exact d7 hm.typeIs slot_dict_getitem.lookup (lf<|wpAny_getItem_of (strKind_is _ _ _ _) hm (v:=en.val) (by rw [h1];rfl) (K.now S h2 _))
theorem y5{r:Nat}{i:IE}(el:s.get r=some (.list l))(e:(getIdx l i s).leaf C.ν=some (v,s'))(V:ao C J M st.heap (.ref r) rv)(W:ao C J M st.heap (.int i) rw)(S:aq C J M s st.heap)(K:KV C Z J M st v s' Q):ab (Md C) A (subscriptTail value slice rv rw) Q E st:=by
 refine V.listE S el fun a vs n ha ea Va=>?_
 refine W.eK fun u=>?_
 obtain⟨hl,c2,c3,k,d2,I⟩:=gS S.rg e
 refine aC (Va.get d2:) fun y hy Vy=>?_
 rw [Va.length]at hl I;have KK:=K.now (S.lP c2 c3) Vy st.toks
 refine d7 ⟨_,ea,rfl⟩ slot_list_getitem.lookup ?_
 by_cases h0:0≤i.eval C.ν
 ·exact lf<|wpAny_getItem_list (cM ea) h0 (by have:=I.hi;lia) (by rw [I.nn h0];simpa using hy) KK
 ·refine lf<|wpAny_getItem_list_neg (cM ea) (by lia) (by rw [List.size_toArray];have:=I.lo;lia) (by have:=I.lo;lia) ?_ KK
  rw [List.size_toArray,I.ng (by lia)];simpa using hy
end
theorem Gk{i:AV}{slice:Expr}{rw:Value}(e:(item a i s).leaf C.ν=some (v,s'))(V:ao C J M st.heap a rv)(W:ao C J M st.heap i rw)(S:aq C J M s st.heap)(K:KV C Z J M st v s' Q):ab (Md C) A (subscriptTail value slice rv rw) Q E st:=by
 cases a with
 |t l=>
  obtain⟨x,rfl,e⟩:=aX e
  exact A3 e V W S K
 |str l=>
  obtain⟨x,rfl,e⟩:=aX e
  exact A5 e V W S K
 |bytes l=>
  obtain⟨x,rfl,e⟩:=aX e
  have e:(match tY l x s with|some r=>r|none=>C4 l x s).leaf C.ν=some (v,s'):=e
  cases q:tY l x s with
  |none=>rw [q]at e;exact zU e V W S K
  |some r=>rw [q]at e;exact A4 q e V W S K
 |eD l=>
  obtain⟨k,rfl,e⟩:=dB e
  refine aC (aI e:) fun w q e=>?_
  injection e with e;injection e with e aN;subst e aN;exact C3 q V W S K
 |ref r=>
  obtain⟨x,rfl,e⟩:=aX e
  refine aC (cS e:) fun l el e=>?_
  exact y5 el e V W S K
 |_=>exact no e
theorem Nz(H:gk C ih d){a b:CE}(e:(cF P N ih (.idx a b) ρ s).leaf C.ν=some (v,s')){y:Expr}(h1:aW C kd a x)(h2:aW C kd b y)(F:fm C Z J M kd env ρ st.heap)(S:aq C J M s st.heap)(R:bu A d)(z:cm C Z J st.heap)(K:KV C Z J M st v s' Q):
  ab (Md C) A (eval (.Subscript x y pos) env) Q E st:=by
 exact ka (BZ H (op:=item) (t:=subscriptTail x y) e h1 h2 F S R z K fun e V W S Y K=>Gk e V W S K)
end
theorem jh(lo hi:Option Int)(n:Nat):Builtin.Str.strSliceIndices lo hi 1 n=(List.range (hi.elim n (clipAt n) - lo.elim 0 (clipAt n))).map (lo.elim 0 (clipAt n)+·):=by
 have h:Builtin.Str.strSliceIndices lo hi 1 n=sliceRange (sliceBounds lo hi none n).1 (sliceBounds lo hi none n).2.1 1:=by
  cases lo<;>cases hi<;>simp[Builtin.Str.strSliceIndices,sliceBounds]
 rw [h,sliceBounds_plain,sliceRange_one]
theorem uJ(v:Int)(n:Nat):(if v<0 then max (v+(n:Int)) 0 else min v (n:Int))=((clipAt n v:Nat):Int):=by
 rw [clipAt_cast];refine(Decidable.em (v<0)).elim (fun c=>?_) fun c=>?_
 ·rw [if_pos c,if_pos c,Int.min_eq_left (Int.le_trans (Int.add_le_add_right (Int.le_of_lt c) n) (Int.le_of_eq (Int.zero_add _))),Int.max_comm]
 ·rw [if_neg c,if_neg c,Int.max_eq_right (Int.le_min.mpr ⟨Int.not_lt.mp c,Int.natCast_nonneg n⟩)]
theorem AK(lo hi:Option Int)(n:Nat):Builtin.Slice.sliceAdjust lo hi 1 (n:Int)=(((lo.elim 0 (clipAt n):Nat):Int),((hi.elim n (clipAt n):Nat):Int)):=by
 unfold Builtin.Slice.sliceAdjust;have h1:¬((1:Int)<0):=by decide
 simp only[h1,if_false]
 refine Prod.ext ?_ ?_
 ·cases lo with
  |none=>rfl
  |some v=>exact uJ v n
 ·cases hi with
  |none=>rfl
  |some v=>exact uJ v n
set_option tactic.hygienic true in
theorem zv(a b:Nat):Builtin.Slice.slicePlaces (a:Int) (b:Int) 1=b - a:=by
 unfold Builtin.Slice.slicePlaces;rw [if_pos (by decide)]
 split
 ·rename_i c
  rw [Int.ediv_one];show((b:Int) - a - 1+1).toNat=_;rw [Int.sub_add_cancel,Int.toNat_sub]
 ·rename_i c
  exact(Nat.sub_eq_zero_of_le (Int.ofNat_le.mp (Int.not_lt.mp c))).symm
noncomputable def cH(l:List α)(lo hi:Option Int):List α:=(l.drop (lo.elim 0 (clipAt l.length))).take (hi.elim l.length (clipAt l.length) - lo.elim 0 (clipAt l.length))
theorem p9(l:List α)(lo hi:Option Int):(cH l lo hi).length≤l.length:=by
 exact((List.take_sublist _ _).trans (List.drop_sublist _ _)).length_le
theorem tl(l:List α)(lo hi:Option Int)(h:(cH l lo hi).length=l.length):cH l lo hi=l:=by
 unfold cH at h⊢;rw [List.length_take,List.length_drop]at h;cases l with
 |nil=>rw [List.drop_nil,List.take_nil]
 |cons x r=>
  have h0:lo.elim 0 (clipAt (x::r).length)=0:=by
   generalize lo.elim 0 (clipAt (x::r).length)=a at h
   cases a with
   |zero=>rfl
   |succ a=>exact absurd (Nat.le_trans (Nat.le_of_eq h.symm) (Nat.min_le_right _ _)) (Nat.not_le.mpr (Nat.sub_lt (Nat.succ_pos r.length) (Nat.succ_pos a)))
  rw [h0]at h⊢;rw [List.drop_zero,List.take_of_length_le (Nat.le_trans (Nat.le_of_eq h.symm) (Nat.min_le_left _ _))]
section
variable{ex:Expr}
noncomputable def lD(C:Cx)(J:List Addr)(M:Addr→Prop)(h:Heap):Option AV→Value→Prop
 |none,rv=>rv=.none
 |some v,rv=>ao C J M h v rv
theorem kA{dd:Nat}(R:cg C.ν s.rg)(e:(bound dd n (some v) s).leaf C.ν=some (k,s'))(V:ao C J M h v rv):∃j,IsPart rv (some j)∧k=clipAt n j∧SameBut s s'∧cg C.ν s'.rg:=by
 obtain⟨y,rfl,e⟩:=aX e
 refine aH.cL e fun j ag e1 e=>?_
 refine dJ (fc 40 R e1:) fun c1 c2 c3=>?_
 injection e with e;injection e with e aN;subst e aN;refine V.eK fun t=>?_
 exact⟨j,by rw [c1];exact .int _ _,oN _ _,c2,c3⟩
theorem oP{dd:Nat}{x:Option AV}(R:cg C.ν s.rg)(e:(bound dd n x s).leaf C.ν=some (k,s'))(V:lD C J M h x rv):∃lo,IsPart rv lo∧k=lo.elim dd (clipAt n)∧SameBut s s'∧cg C.ν s'.rg:=by
 cases x with
 |none=>
  injection e with e;injection e with e aN;subst e aN;have V:rv=.none:=V
  subst V;exact⟨none,.none,rfl,.refl _,R⟩
 |some v=>
  refine lI (kA R e V:) fun j h1 h2 h3=>?_
  exact⟨some j,h1,h2,h3⟩
theorem eN{l:List α}{x y:Option AV}{rw:Value}{r:List α}(R:cg C.ν s.rg)(e:(sliceOf l x y s).leaf C.ν=some (r,s'))(V:lD C J M h x rv)(W:lD C J M h y rw):
  l.length≤100000∧∃lo hi,IsPart rv lo∧IsPart rw hi∧r=cH l lo hi∧SameBut s s'∧cg C.ν s'.rg:=by
 unfold sliceOf at e;refine aw (bC e:) fun hl e=>?_
 refine aH.cL e fun a ag e1 e=>?_
 refine aH.cL e fun b aK e2 e=>?_
 obtain⟨lo,p1,rfl,c2,c3⟩:=oP R e1 V
 obtain⟨hi,p2,rfl,d2,d3⟩:=oP c3 e2 W
 injection e with e;injection e with e aN;subst e aN;refine⟨hl,lo,hi,p1,p2,?_,c2.trans d2,d3⟩;unfold cut cH;rw [List.drop_take]
theorem mA{sl:Addr}{vl vu:Value}{lo:Option Int}{Q:Int×Int×Nat→Shared→Prop}(hs:st.heap.IsSliceOf sl vl vu .none)(pl:IsPart vl lo)(pu:IsPart vu hi)(h:Q (((lo.elim 0 (clipAt n):Nat):Int),1,hi.elim n (clipAt n) - lo.elim 0 (clipAt n)) st):
  ab (Md C) A (Builtin.Slice.sliceApplied (.ref sl) (pure (n:Int))) Q E st:=by
 refine lI (id hs:) fun os hos hcs hds=>?_
 unfold Builtin.Slice.sliceApplied Builtin.Slice.sliceFields;refine aa (aa (lf<|wpAny_field hos hds (x:=vl) rfl (aa (lf<|wpAny_field hos hds (x:=vu) rfl (aa (lf<|wpAny_field hos hds (x:=.none) rfl (af ?_)))))))
 refine aa (lf<|slicePart_none ?_)
 show ab _ _ (if((1:Int)==0)=true then _ else _) _ _ st;rw [if_neg (by decide)]
 have sp:∀{v:Value}{k:Option Int}{Q:Option Int→Shared→Prop},IsPart v k→Q k st→ab (Md C) A (Builtin.Slice.slicePartIndex v) Q E st:=fun p q=>by
  cases p with
  |none=>exact lf<|slicePart_none q
  |int i t=>exact lf<|slicePart_int q
 refine aa (sp pl (aa (sp pu (aa (af ?_)))))
 show ab _ _ (match Builtin.Slice.sliceAdjust lo hi 1 (n:Int)with|(lo,hi)=>pure (lo,(1:Int),Builtin.Slice.slicePlaces lo hi 1)) _ _ st
 rw [AK];show ab _ _ (pure (((lo.elim 0 (clipAt n):Nat):Int),(1:Int),Builtin.Slice.slicePlaces ((lo.elim 0 (clipAt n):Nat):Int) ((hi.elim n (clipAt n):Nat):Int) 1)) _ _ st;rw [zv];exact af h
theorem FQ(xs:List Value)(a k:Nat):((List.range k).filterMap fun(j:Nat)=>xs.toArray[((a:Int)+(j:Int)*1).toNat]?).toArray=((xs.drop a).take k).toArray:=by
 have e:(fun(j:Nat)=>xs.toArray[((a:Int)+(j:Int)*1).toNat]?)=fun j=>xs.toArray[a+j]?:=by
  funext j
  have:((a:Int)+(j:Int)*1).toNat=a+j:=by lia
  rw [this]
 rw [e];have:=pick_run xs.toArray a k
 rw [List.filterMap_map]at this;have e2:((fun x=>xs.toArray[x]?)∘fun x=>a+x)=fun k=>xs.toArray[a+k]?:=rfl
 rw [e2]at this;rw [this]
theorem jU{t sl:Addr}{vl vu:Value}{lo:Option Int}(ht:IsTup st.heap t vs.toArray)(hs:st.heap.IsSliceOf sl vl vu .none)(pl:IsPart vl lo)(pu:IsPart vu hi)(hz:vs.length≤100000)
  (h0:(cH vs lo hi)=vs→Q (.ref t) st)(h:Q (.ref st.heap.objs.size) {st with heap:=st.heap.push (fM (cH vs lo hi) 0)}):ab (Md C) A (getItem (.ref t) (.ref sl)) Q E st:=by
 have hdrop:sizeOk (.seq (cH vs lo hi).toArray):=by
  show(cH vs lo hi).toArray.size≤sizeLine;rw [List.size_toArray];exact Nat.le_trans (p9 _ _ _) (bN hz)
 refine lI (id hs:) fun os hos hcs hds=>?_
 have W7:st.TypeIs (.ref sl) "slice":=⟨os,hos,hcs⟩
 unfold getItem
 try with_reducible refine aj ?_
 first|refine aa (af ?_)|skip
 refine aa (lf<|wpAny_sequenceKey ht.typeIs (by decide) ?_)
 refine aa (bA (name:=Str.ofString "__getitem__") ht.typeIs slot_tuple_getitem
  (cf slot_tuple_getitem ht.typeIs entry_tuple_getitem ?_ (args_tuple_getitem _ _)))
 show ab _ _ (Builtin.Tuple.tupleItemsOf (.ref t)>>=_) _ _ st;refine aa (lf<|tupleItemsOf_ ht ?_);refine aa (lf<|wpAny_typeOf W7 ?_);rw [if_pos (by decide)]
 refine aa (mA (n:=vs.toArray.size) hs pl pu ?_)
 have hn:vs.toArray.size=vs.length:=by simp
 rw [hn]
 generalize ha:lo.elim 0 (clipAt vs.length)=a
 generalize hb:hi.elim vs.length (clipAt vs.length)=b
 have hp:cH vs lo hi=(vs.drop a).take (b - a):=by unfold cH;rw [ha,hb]
 show ab _ _ (if((a:Int)==0&&(1:Int)==1&&(b - a)==vs.toArray.size)=true then _ else _) _ _ st;rw [FQ vs a (b - a),←hp]
 by_cases hw:((a:Int)==0&&(1:Int)==1&&(b - a)==vs.toArray.size)=true
 ·rw [if_pos hw]
  simp only[Bool.and_eq_true,beq_iff_eq]at hw
  obtain⟨⟨w1,_⟩,w2⟩:=hw
  have WL:ab (Md C) A.in1 (Builtin.Tuple.tupleIsExact (.ref t)) (fun r s'=>r=true∧s'=st) (fun Y Y=>False) st:=by
   unfold Builtin.Tuple.tupleIsExact;exact aa (lf<|wpAny_typeOf ht.typeIs (af ⟨by decide,rfl⟩))
  refine aa (aG WL (fun r s' hr=>?_) fun Y Y x=>x.elim)
  obtain⟨rfl,rfl⟩:=hr
  refine aa (dj ?_)
  refine af ⟨_,rfl,af (h0 ?_)⟩
  have:a=0:=by lia
  subst this;rw [hp,List.drop_zero,List.take_of_length_le (by lia)]
 ·rw [if_neg hw]
  first
   |exact aa (m:=Builtin.Tuple.tupleExact _) (lf<|wpAny_newObj_type (af ⟨_,rfl,af h⟩) hdrop)
   |exact aa (m:=Builtin.Tuple.tupleExact _) (lf<|wpAny_newObj_type (aa (af (af ⟨_,rfl,af h⟩))) hdrop)
   |exact aa (aa (m:=Builtin.Tuple.tupleExact _) (lf<|wpAny_newObj_type (af (af ⟨_,rfl,af h⟩)) hdrop))
   |exact aa (aa (m:=Builtin.Tuple.tupleExact _) (lf<|wpAny_newObj_type (af ⟨_,rfl,af h⟩) hdrop))
end
section
variable{ex:Expr}
theorem gy{rvs:List Value}{a:Addr}(e:(newList s l).leaf C.ν=some (v,s'))(S:aq C J M s st.heap)(V:ay C J M st.heap l rvs)(K:KV C Z J M st v s' Q)(tk:Tok)
  (hk:∀b o,st.heap.get? b=some o→h'.get? b=some o)(ha:st.heap.get? a=none)(hg:h'.get? a=some (bZ rvs n)):Q (.ref a) {st with heap:=h',toks:=tk}:=by
 unfold newList at e;refine aw (bC e:) fun hl e=>?_
 refine aH.cL e fun i ag e1 e=>?_
 injection e with e;injection e with e aN;subst e aN;obtain⟨hb,rfl,rfl⟩:=ff e1
 have G:aJ Z J M st.heap (J++[a]) (fun b=>M b∨b=a) h':=
  ⟨⟨[a],rfl,fun b m=>by rw [List.mem_singleton]at m;rw [m];exact ha⟩,⟨fun b o e=>⟨o,hk _ _ e⟩,fun b o Y e=>hk _ _ e⟩,fun Y x=>.inl x,fun b x=>x.elim .inl fun q=>.inr (q▸ha)⟩
 refine dJ (S.alloc (Z:=Z) hb hk ha (.list l) (.list l _ rvs n hg (V.grow G)):) fun S' G' he=>?_
 exact K _ _ _ tk _ G' S' (.ref _ _ he)
theorem mf(e:(newList s l).leaf ν=some (v,s')):l.length≤100000:=by
 unfold newList at e;exact(bC e).1
theorem nV{l:List IE}{a:Addr}(e:(s.alloc (.cu l)).leaf C.ν=some (i,s'))(B:bq C.ν l)(S:aq C J M s st.heap)(K:KV C Z J M st (.ref i) s' Q)(tk:Tok)
  (hk:∀b o,st.heap.get? b=some o→h'.get? b=some o)(ha:st.heap.get? a=none)(hg:h'.get? a=some (c0 (aS C.ν l))):Q (.ref a) {st with heap:=h',toks:=tk}:=by
 obtain⟨hb,rfl,rfl⟩:=ff e
 refine dJ (S.alloc (Z:=Z) hb hk ha (.cu l) (.cu l _ hg B):) fun S' G' he=>?_
 exact K _ _ _ tk _ G' S' (.ref _ _ he)
theorem jg(l:List Nat):(aR l).length=l.length:=by simp[aR,Str.length]
theorem B8(l:List Nat)(lo hi:Option Int):(Builtin.Str.strSliceIndices lo hi 1 l.length).filterMap ((aR l).cps[·]?)=cH l lo hi:=by
 rw [jh];exact pick_run (aR l).cps _ _
theorem Gw(l:List Nat)(lo hi:Option Int)(h:(Builtin.Str.strSliceIndices lo hi 1 l.length).length=l.length):cH l lo hi=l:=by
 apply tl
 rw [jh,List.length_map,List.length_range]at h;have hb:hi.elim l.length (clipAt l.length)≤l.length:=by
  cases hi with
  |none=>exact Nat.le_refl _
  |some j=>exact qE _ _
 unfold cH;rw [List.length_take,List.length_drop];exact(Nat.min_eq_left (Nat.sub_le_sub_right hb _)).trans h
noncomputable abbrev pY(vl vu:Value):Obj:={cls:=.type "slice",data:=.fields #[vl,vu,.none]}
theorem bq.sub{l m:List IE}(B:bq ν l)(h:∀e∈m,e∈l):bq ν m:=fun e he=>B e (h e he)
theorem p8{l:List α}{lo:Option Int}{x:α}(h:x∈cH l lo hi):x∈l:=List.mem_of_mem_drop (List.mem_of_mem_take h)
theorem kZ(ν:Nat→Int)(l:List IE)(lo hi:Option Int):KBy.picked (aS ν l) lo hi=aS ν (cH l lo hi):=by
 rw [KBc.picked_eq,cJ];unfold aS cH;rw [List.toList_toArray,List.map_take,List.map_drop]
theorem lD.grow(G:aJ Z J M h σ' M' h'):∀{x:Option AV}{rv:Value},lD C J M h x rv→lD C σ' M' h' x rv
 |none,_,e=>e
 |some _,_,V=>ao.grow G V
def jQ(C:Cx):Prop:=∀(A:Around)(st:Shared)(E:Value→Shared→Prop)(a sl:Addr)(b:Array UInt8)(vl vu:Value)(lo hi:Option Int)(Q:Value→Shared→Prop),st.heap.get? a=some (c0 b)→st.heap.IsSliceOf sl vl vu .none→IsPart vl lo→IsPart vu hi→b.size≤100000→
 (∀tk,Q (.ref st.heap.objs.size) {st with heap:=st.heap.push (c0 (KBy.picked b lo hi)),toks:=tk})→ab (Md C) A (getItem (.ref a) (.ref sl)) Q E st
theorem lA:typeLookup (.type "bytearray") "__getitem__"=pure (some (.builtin "bytearray.__getitem__")):=by rw [typeLookup_type,builtinLookup_eq_fast];kernel_rfl
section
variable{sx:Expr}{vl vu:Value}{sl:Addr}{li:Option Int}
theorem zq(hl:l.length≤100000)(p1:IsPart vl li)(p2:IsPart vu hi)(hS:st.heap.IsSliceOf sl vl vu .none)(V:ao C J M st.heap (.t l) rv)(S:aq C J M s st.heap)(K:KV C Z J M st (.t (cH l li hi)) s Q):ab (Md C) A (subscriptTail value sx rv (.ref sl)) Q E st:=by
 refine V.kO fun a vs n ha ea Va=>?_
 have ht:IsTup st.heap a vs.toArray:=⟨_,ea,rfl,n,rfl⟩
 have hlen:=Va.length
 have hc:ay C J M st.heap (cH l li hi) (cH vs li hi):=by
  unfold cH;rw [←hlen];exact Va.cut _ _
 refine d7 ht.typeIs slot_tuple_getitem.lookup (jU ht hS p1 p2 (hlen▸hl) (fun hw=>?_) ?_)
 ·exact K.now S (.t _ a vs n ha ea (by rw [←hw];exact hc)) st.toks
 ·have G2:=aJ.push Z J M st.heap (fM (cH vs li hi) 0)
  exact K _ _ _ st.toks _ G2 (S.push _) (.t _ _ _ 0 (S.nU (Heap.bc _)) (Heap.get?_push_size _ rfl) (hc.grow G2))
theorem qN(p:IsPart vl li):∃p:Option (Int×Tok),PySem.partValue p=vl∧p.map (·.1)=li:=by
 cases p with
 |none=>exact⟨none,rfl,rfl⟩
 |int i t=>exact⟨some (i,t),rfl,rfl⟩
set_option tactic.hygienic true in
theorem zr{l:List Nat}(hl:l.length≤100000)(p1:IsPart vl li)(p2:IsPart vu hi)(hS:st.heap.IsSliceOf sl vl vu .none)(V:ao C J M st.heap (.str l) rv)(S:aq C J M s st.heap)(K:KV C Z J M st (.str (cH l li hi)) s Q):ab (Md C) A (subscriptTail value sx rv (.ref sl)) Q E st:=by
 refine V.gK fun t=>?_
 obtain⟨pl,rfl,hpl⟩:=qN p1
 obtain⟨pu,rfl,hpu⟩:=qN p2
 refine d7 (typeIs_str _ _ t) F.slot_str_getitem.lookup (lf<|getItem_meets (typeIs_str _ _ t) (by decide) F.slot_str_getitem F.entry_str_getitem (F.args_str_getitem_2 _ _) (meets_str_getitem_slice (aR l) t _ pl pu none (by decide)) ⟨hS,?_⟩)
 have hI:slicePicked (aR l) pl pu none=Builtin.Str.strSliceIndices li hi 1 l.length:=by
  unfold slicePicked;rw [hpl,hpu,jg];rfl
 unfold sliceMade;rw [hI,jg];split
 ·rename_i hw
  simp only[Bool.and_eq_true,beq_iff_eq]at hw
  rw [Gw l li hi hw.2]at K;exact K.now S (.str l t) st.toks
 ·rw [B8]
  exact⟨by show(aR (cH l li hi)).length≤sizeLine;rw [jg];exact Nat.le_trans (p9 _ _ _) (bN hl),K.now S (.str _ _) _⟩
theorem sU{l:List IE}(hl:l.length≤100000)(p1:IsPart vl li)(p2:IsPart vu hi)(hS:st.heap.IsSliceOf sl vl vu .none)(V:ao C J M st.heap (.bytes l) rv)(S:aq C J M s st.heap)(K:KV C Z J M st (.bytes (cH l li hi)) s Q):ab (Md C) A (subscriptTail value sx rv (.ref sl)) Q E st:=by
 refine V.eF fun B t=>?_
 refine d7 (typeIs_bytes _ _ t) FB.slot_bytes_getitem.lookup (lf<|getItem_meets (typeIs_bytes _ _ t) (by decide) FB.slot_bytes_getitem FB.entry_bytes_getitem (FB.args_bytes_getitem_2 _ _) (KBc.meets_slice2 (aS C.ν l) t _ p1 p2)
  ⟨hS,Nat.le_trans (KBc.size_picked_le _ _ _) (by rw [cJ];exact bN hl),fun t' k=>?_⟩)
 rw [kZ];exact K.now S (.bytes _ t' (B.sub fun e he=>p8 he)) k
theorem vj(hl:l.length≤100000)(p1:IsPart vl li)(p2:IsPart vu hi)(hS:st.heap.IsSliceOf sl vl vu .none)(el:s.get i=some (.list l))(V:ao C J M st.heap (.ref i) rv)(S:aq C J M s st.heap){ag:AS}(c2:SameBut s ag)(c3:cg C.ν ag.rg)(e:(newList ag (cH l li hi)).leaf C.ν=some (v,s'))(K:KV C Z J M st v s' Q):ab (Md C) A (subscriptTail value sx rv (.ref sl)) Q E st:=by
 refine V.listE S el fun a vs n ha ea Va=>?_
 have hlen:=Va.length
 have hc:ay C J M st.heap (cH l li hi) (cH vs li hi):=by
  unfold cH;rw [←hlen];exact Va.cut _ _
 have hp:slicePick vs.toArray li hi none=(cH vs li hi).toArray:=by
  unfold slicePick;rw [sliceBounds_plain,sliceRange_one,pick_run];unfold cH;simp
 refine d7 ⟨_,ea,rfl⟩ slot_list_getitem.lookup (lf<|wpAny_getItem_list_slice (cM ea) hS p1 p2 .none (by simp) ?_ (by rw [List.size_toArray,←hlen];exact bN hl))
 rw [hp];exact gy e (S.lP c2 c3) hc K st.toks (fun Y Y e=>Heap.get?_push_of_some _ e) (Heap.bc _) (Heap.get?_push_size _ rfl)
theorem vC(HB:jQ C){l:List IE}(hl:l.length≤100000)(p1:IsPart vl li)(p2:IsPart vu hi)(hS:st.heap.IsSliceOf sl vl vu .none)(el:s.get i=some (.cu l))(V:ao C J M st.heap (.ref i) rv)(S:aq C J M s st.heap){ag:AS}(c2:SameBut s ag)(c3:cg C.ν ag.rg)
  (e:((ag.alloc (.cu (cH l li hi))).bind fun(i,s)=>aH.ok (AV.ref i,s)).leaf C.ν=some (v,s'))(K:KV C Z J M st v s' Q):ab (Md C) A (subscriptTail value sx rv (.ref sl)) Q E st:=by
 refine aH.cL e fun j aK e2 e=>?_
 injection e with e;injection e with e aN;subst e aN;obtain⟨a,rfl,q⟩:=V.inv
 exact aw (S.obj _ _ a el q).jE fun ea B=>by
  refine d7 ⟨_,ea,rfl⟩ lA (HB _ _ _ _ _ _ _ _ _ _ _ ea hS p1 p2 (by rw [cJ];exact hl) fun tk=>?_)
  rw [kZ];exact nV e2 (B.sub fun e he=>p8 he) (S.lP c2 c3) K tk (fun Y Y e=>Heap.get?_push_of_some _ e) (Heap.bc _) (Heap.get?_push_size _ rfl)
end
theorem BW(HB:jQ C){lo hi:Option AV}{sl:Expr}{vl vu:Value}(e:(slice a lo hi s).leaf C.ν=some (v,s'))(V:ao C J M st.heap a rv)(VL:lD C J M st.heap lo vl)(VU:lD C J M st.heap hi vu)(S:aq C J M s st.heap)(K:KV C Z J M st v s' Q):
  ab (Md C) A (subscriptTail value sl rv (.ref st.heap.objs.size)) Q E {st with heap:=st.heap.push (pY vl vu)}:=by
 have G:=aJ.push Z J M st.heap (pY vl vu)
 have S1:=S.push (pY vl vu)
 have hS:(st.heap.push (pY vl vu)).IsSliceOf st.heap.objs.size vl vu .none:=Heap.IsSliceOf.new ..
 have V1:=V.grow G
 have K1:=K.after (tk:=st.toks) G
 cases a with
 |t l=>
  refine aH.cL e fun x ag e1 e=>?_
  obtain⟨hl,li,Lo,p1,p2,rfl,c2,c3⟩:=eN S.rg e1 VL VU
  injection e with e;injection e with e aN;subst e aN;exact zq hl p1 p2 hS V1 (S1.lP c2 c3) K1
 |str l=>
  refine aH.cL e fun x ag e1 e=>?_
  obtain⟨hl,li,Lo,p1,p2,rfl,c2,c3⟩:=eN S.rg e1 VL VU
  injection e with e;injection e with e aN;subst e aN;exact zr hl p1 p2 hS V1 (S1.lP c2 c3) K1
 |bytes l=>
  refine aH.cL e fun x ag e1 e=>?_
  obtain⟨hl,li,Lo,p1,p2,rfl,c2,c3⟩:=eN S.rg e1 VL VU
  injection e with e;injection e with e aN;subst e aN;exact sU hl p1 p2 hS V1 (S1.lP c2 c3) K1
 |ref r=>
  have e:(rk (.ref r) lo hi s).leaf C.ν=some (v,s'):=e
  refine aC (ig e:) fun i q h=>?_
  injection q with q;subst q;rcases h with⟨l,el,e⟩|⟨l,el,e⟩
  ·refine aH.cL e fun x ag e1 e=>?_
   obtain⟨hl,li,Lo,p1,p2,rfl,c2,c3⟩:=eN S.rg e1 VL VU
   exact vj hl p1 p2 hS el V1 S1 c2 c3 e K1
  ·refine aH.cL e fun x ag e1 e=>?_
   obtain⟨hl,li,Lo,p1,p2,rfl,c2,c3⟩:=eN S.rg e1 VL VU
   exact vC HB hl p1 p2 hS el V1 S1 c2 c3 e K1
 |_=>exact no e
end
structure EF(C:Cx)(c f:Nat)(ms:List (Nat×Nat)):Prop where
 cd:∃cd,clsIn C.K (C.dm c)=some cd∧cd.hasDict=true
 ga:findIn C.K (.ref (C.dm c)) "__getattribute__"=some (some (.builtin "object.__getattribute__"))
 gt:findIn C.K (.ref (C.dm c)) "__getattr__"=some none
 own:∀n∈C.attrs,gA ms n=none→findIn C.K (.ref (C.dm c)) (C.nm n)=some none
 Wr:∀n k,gA ms n=some k→findIn C.K (.ref (C.dm c)) (C.nm n)=some (some (.ref (C.mH k)))∧typeIn C.K (.ref (C.mH k))=some (.type "function")
 Uv:makesIn C.K (C.dm c)=true
 UB:findIn C.K (.ref (C.dm c)) "__init__"=some (some (.ref (C.mH f)))∧typeIn C.K (.ref (C.mH f))=some (.type "function")
 over:plainOver C.K (C.dm c)=true
 sa:findIn C.K (.ref (C.dm c)) "__setattr__"=some (some (.builtin "object.__setattr__"))
structure Wd(C:Cx)(P:Pg):Prop where
 inj:∀x y,C.nm x=C.nm y→x=y
 glob:∀x v,P.gl.get x=some v→sf C x v
 Uy:C.K.In C.hb
 cls:∀c f ms,P.cs.get c=some (f,ms)→EF C c f ms
 nf:P.nf=C.nf
 mods:∃o,C.hb.get? sysModules=some o
 cu:jQ C
section
variable{ex:Expr}
theorem qy(H:gk C ih d){x:Option CE}{l:Option Expr}{w:Option AV}(e:(S8 ih x ρ s).leaf C.ν=some (w,s'))(hf:yT C kd x l)(F:fm C Z J M kd env ρ st.heap)(S:aq C J M s st.heap)(R:bu A d)(z:cm C Z J st.heap)
  (K:∀σ' M' h' tk rv,aJ Z J M st.heap σ' M' h'→aq C σ' M' s' h'→lD C σ' M' h' w rv→Q rv {st with heap:=h',toks:=tk}):ab (Md C) A (evalPart l env) Q E st:=by
 cases x with
 |none=>(injection e with e;injection e with e aN;subst e aN);exact hf.Wn▸lf (wpAny_evalPart_none (K _ _ _ st.toks _ (aJ.refl _ _ _ _) S rfl))
 |some x=>
  refine aC hf.Nj fun y q h=>q▸aH.cL e fun av ag e1 e=>?_
  injection e with e;injection e with e aN;subst e aN;exact dM (H _ ρ s av _ e1 kd _ h Z J M env A st F S R z _ _ K)
theorem Nu(W:Wd C P)(H:gk C ih d){a:CE}{lo hi:Option CE}(e:(cF P N ih (.iB a lo hi) ρ s).leaf C.ν=some (v,s')){l1 u1:Option Expr}{RI:Pos}(h1:aW C kd a x1)(h2:yT C kd lo l1)(h3:yT C kd hi u1)(F:fm C Z J M kd env ρ st.heap)(S:aq C J M s st.heap)(R:bu A d)(z:cm C Z J st.heap)(K:KV C Z J M st v s' Q):
  ab (Md C) A (eval (.Subscript x1 (.Slice l1 u1 none RI) pos) env) Q E st:=by
  unfold cF at e;refine aH.cL e fun av ag e1 e=>?_
  refine aH.cL e fun al aK e2 e=>?_
  refine aH.cL e fun ah bM e3 e=>?_
  refine ka (H _ ρ s av ag e1 kd _ h1 Z J M env A st F S R z _ _ fun aA aP h₁ aU rv aF aD cb=>?_)
  refine jc (qy H e2 h2 (F.grow aF) aD R (z.grow aF) fun cy dR br bf vl bb bT dY=>?_)
  have Qs:=aF.trans bb
  refine qy (st:={st with heap:=br,toks:=bf}) H e3 h3 (F.grow Qs) bT R (z.grow Qs) fun kK r9 dP ib vu dn fD xg=>?_
  rw [evalPart_none];refine af ?_;exact BW (st:={st with heap:=dP,toks:=ib}) W.cu e ((cb.grow bb).grow dn) (dY.grow dn) xg fD (K.after (Qs.trans dn))
theorem ay.reverse(V:ay C J M h l vs):ay C J M h l.reverse vs.reverse:=
 V.ind .nil fun Y Y Y Y x Y ih=>by rw [List.reverse_cons,List.reverse_cons];exact ih.append (.cons x .nil)
theorem B4{slice:Expr}{sl:Addr}{t:Tok}(e:(newList s l.reverse).leaf C.ν=some (v,s'))(el:s.get i=some (.list l))(V:ao C J M st.heap (.ref i) rv)(S:aq C J M s st.heap)(hS:st.heap.IsSliceOf sl .none .none (.int (-1) t))(K:KV C Z J M st v s' Q):
  ab (Md C) A (subscriptTail value slice rv (.ref sl)) Q E st:=by
 refine V.listE S el fun a vs n ha ea Va=>?_
 have hll:=mf e
 rw [List.length_reverse,Va.length]at hll;refine d7 ⟨_,ea,rfl⟩ slot_list_getitem.lookup (lf<|wpAny_getItem_list_slice (cM ea) hS .none .none (.int (-1) t) (by simp) ?_ (by rw [List.size_toArray];exact bN hll))
 rw [krv_pick,List.toList_toArray];exact gy e S Va.reverse K st.toks (fun Y Y e=>Heap.get?_push_of_some _ e) (Heap.bc _) (Heap.get?_push_size _ rfl)
theorem Nv(H:gk C ih d){a:CE}(e:(cF P N ih (.rev a) ρ s).leaf C.ν=some (v,s')){kk:Nat}{p1 p2 p3 p4:Pos}(h1:aW C kd a x1)(F:fm C Z J M kd env ρ st.heap)(S:aq C J M s st.heap)(R:bu A d)(z:cm C Z J st.heap)(K:KV C Z J M st v s' Q):
  ab (Md C) A (eval (.Subscript x1 (.Slice none none (some (.UnaryOp .USub (.Constant (.int 1) kk p1) p2)) p3) p4) env) Q E st:=by
  refine aH.cL e fun av ag e1 e=>?_
  refine ka (H _ ρ s av ag e1 kd _ h1 Z J M env A st F S R z _ _ fun aA aP h₁ aU rv aF aD cb=>?_)
  obtain⟨i,l,rfl,el,e⟩:=eQ e
  refine jc ?_
  rw [evalPart_none];refine af (af ?_);rw [evalPart_some];refine lf<|lit_neg _ fun w tk hw=>?_
  have hw:=hw h₁
  cases hw with
  |int _ t=>
   have G:=aJ.push Z aA aP h₁ {cls:=.type "slice",data:=.fields #[.none,.none,.int (-1) t]}
   exact B4 (st:={st with heap:=h₁.push {cls:=.type "slice",data:=.fields #[.none,.none,.int (-1) t]},toks:=tk}) e el (cb.grow G) (aD.push _) (Heap.IsSliceOf.new ..) (K.after (aF.trans G))
theorem A2(hi:∀x y,C.nm x=C.nm y→x=y)(k' k:Nat)(t:Tok):Value.isStr (.str (C.nm k') t) (C.nm k)=Nat.beq k' k:=by
 show(C.nm k'==C.nm k)=_;rw [Bool.eq_iff_iff,beq_iff_eq];exact⟨fun q=>by rw [hi _ _ q];exact Nat.beq_refl k,fun q=>by rw [aL q]⟩
theorem cj.find(hi:∀x y,C.nm x=C.nm y→x=y)(k:Nat){l:List (Nat×AV)}(V:cj C J M h l es):Jv C J M h (az l k) (es.find? (fun e=>e.key.isStr (C.nm k))):=
 V.ind rfl fun p l v t es x Y ih=>by
  have hk:=A2 hi p.1 k t
  unfold az;cases q:Nat.beq p.1 k with
  |true=>exact⟨_,uh (hk.trans q),x⟩
  |false=>exact(qq (p:=fun e:DictEntry=>e.key.isStr (C.nm k)) (a:=⟨PyData.keyHash C.w.params (C.nm p.1),.str (C.nm p.1) t,v⟩) (hk.trans q)).symm▸ih
theorem cj.noRef{l:List (Nat×AV)}(V:cj C J M h l es):es.any (·.refKey)=false:=
 V.ind rfl fun Y Y Y Y Y Y Y ih=>by rw [List.any_cons,ih];rfl
theorem cj.len{l:List (Nat×AV)}(V:cj C J M h l es):l.length=es.length:=
 V.ind rfl fun Y Y Y Y Y Y Y ih=>congrArg Nat.succ ih
theorem cj.put(hi:∀x y,C.nm x=C.nm y→x=y)(k:Nat)(V:ao C J M h v rv)(t:Tok){l:List (Nat×AV)}:∀{es:List DictEntry},cj C J M h l es→
  cj C J M h (bU l k v) (nsPutIn (C.nm k).cps.size (C.nm k).cps.toList (fun|some e=>{e with val:=rv}|none=>⟨PyData.keyHash C.w.params (C.nm k),.str (C.nm k) t,rv⟩) es).1:=by
 induction l with
 |nil=>exact fun W=>W.nl▸.cons V .nil
 |cons p l ih=>
  intro es W;refine W.oU fun w t' es W r=>?_
  unfold bU nsPutIn
  dsimp only
  rw [show(Value.str (C.nm p.1) t').isStrByCps (C.nm k).cps.size (C.nm k).cps.toList=Nat.beq p.1 k from(Value.isStrByCps_eq ..).trans (A2 hi p.1 k t')]
  cases q:Nat.beq p.1 k with
  |true=>exact aL q▸.cons V r
  |false=>exact .cons W (ih r)
theorem instOf_inv(S:aq C J M s st.heap){c dd:Nat}{l:List (Nat×AV)}(V:ao C J M st.heap a rv)(e:instOf s a=some (c,dd,l)):∃x dx es n,rv=.ref x∧st.heap.get? x=some (zX (C.dm c) dx)∧J[dd]?=some dx∧s.hp.get dd=some (.ns l)∧
  st.heap.get? dx=some (bK es n)∧cj C J M st.heap l es:=by
 refine lI (instOf_eq e) fun i z q q'=>aC (z▸V:ao C J M st.heap (.ref i) rv).inv fun x e hx=>aC (S.obj _ _ x q hx).instI fun dx h1 h2=>eJ (S.obj _ _ dx q' h2).QJ fun es n h3 h4=>⟨x,dx,es,n,e,h1,h2,q',h3,h4⟩
theorem inst_at{x cA dx:Addr}(h1:h.get? x=some (zX cA dx))(h3:h.get? dx=some (bK es n)):InstAt h x (zX cA dx) cA (some (bK es n)):=⟨h1,rfl,rfl,h3⟩
theorem lookIn_dict{nm:Str}(hr:es.any (·.refKey)=false):lookIn nm (bK es n)=some ((es.find? (fun e=>e.key.isStr nm)).map (·.val)):=by
 unfold lookIn;simp only;cases q:es.find? (fun e=>e.key.isStr nm)with
 |some e=>rfl
 |none=>simp only[hr];rfl
theorem ao.handed(V:ao C J M h a rv)(hp:jk a=true):handedIn rv=true:=by
 cases a with
 |bi _=>exact absurd hp Bool.false_ne_true
 |mC _=>exact absurd hp Bool.false_ne_true
 |none=>exact V.inv▸rfl
 |bool x=>exact V.inv▸rfl
 |int x=>exact V.eK fun Y=>rfl
 |str x=>exact V.gK fun Y=>rfl
 |bytes x=>exact V.eF fun Y Y=>rfl
 |t x=>exact V.kO fun Y Y Y Y Y Y=>rfl
 |eD x=>exact V.wR fun Y Y Y Y Y Y Y=>rfl
 |ref x=>exact dC V.inv fun Y q=>q.1▸rfl
 |fn _=>exact V.inv▸rfl
 |cls _=>exact V.inv▸rfl
 |vd _ _=>exact dC V.inv fun Y q=>q.1▸rfl
 |xM _ _=>exact RO V.inv fun Y Y Y Y q Y Y=>q▸rfl
end
theorem uR{nm:Str}{whole:Sem Value}(h:∀id p q,x≠.Call (.Name id p) [] [] q):attributeBase x nm env whole=whole:=by
 cases x with
 |Call f as kw p=>cases f with
  |Name id q=>cases as with
   |nil=>cases kw with
    |nil=>exact absurd rfl (h _ _ _)
    |cons=>rfl
   |cons=>rfl
  |_=>rfl
 |_=>rfl
section
variable{ex:Expr}
theorem OF(W:Wd C P)(S:aq C J M s st.heap):C.K.In st.heap:=fun a o e=>(S.base a o (W.Uy a o e)).2
theorem findObj_own{c f:Nat}{ms:List (Nat×Nat)}(O:EF C c f ms)(hn:n∈C.attrs)(hm:gA ms n=none){e:DictEntry}(hr:es.any (·.refKey)=false)(h:es.find? (fun e=>e.key.isStr (C.nm n))=some e):
  findObj C.K (C.dm c) (some (bK es k)) (C.nm n)=some (.value e.val):=by
 refine aC (O.cd:) fun cd h1 h2=>?_
 unfold findObj;rw [h1,Option.bind_some,O.own n hn hm];show(PySem.W.ownOf cd (some (bK es k)) (C.nm n)).bind _=_;rw [show PySem.W.ownOf cd (some (bK es k)) (C.nm n)=some (some e.val)from(if_pos h2).trans ((lookIn_dict hr).trans (by rw [h];rfl))]
 rfl
theorem uf(W:Wd C P){c f dd:Nat}{ms:List (Nat×Nat)}{l:List (Nat×AV)}{w:AV}(S:aq C J M s st.heap)(V:ao C J M st.heap a rv)(hi:instOf s a=some (c,dd,l))(hc:P.cs.get c=some (f,ms))(hn:n∈C.attrs)(hm:gA ms n=none)(hg:az l n=some w)(hp:jk w=true)
  (K:KV C Z J M st w s Q):PySem.wpAny (Md C) A (getAttr rv (C.nm n) b) Q E st:=by
 obtain⟨x,dx,es,k,rfl,h1,h2,h3,h4,h5⟩:=instOf_inv S V hi
 have O:=W.cls _ _ _ hc
 have hf:=h5.find W.inj n
 rw [hg]at hf;refine aC (hf:) fun en e1 e2=>?_
 refine get_value (OF W S) (inst_at h1 h4) O.ga (findObj_own O hn hm h5.noRef e1) (e2.handed hp) (K.now S e2 _)
theorem Kl(W:Wd C P)(H:gk C ih d){o:CE}(e:(cF P N ih (.attr o n) ρ s).leaf C.ν=some (v,s')){sN:Str}(h1:sN=C.nm n)(h2:n∈C.attrs)(h3:∀id p q,x1≠.Call (.Name id p) [] [] q)(h4:aW C kd o x1)(F:fm C Z J M kd env ρ st.heap)(S:aq C J M s st.heap)(R:bu A d)(z:cm C Z J st.heap)(K:KV C Z J M st v s' Q):
  ab (Md C) A (eval (.Attribute x1 sN pos) env) Q E st:=by
  subst h1;unfold cF at e;refine aH.cL e fun av ag e1 e=>?_
  rw [arm_eval_Attribute,uR h3];refine aa (aG (H _ ρ s av ag e1 kd _ h4 Z J M env A st F S R z (fun o ag=>ab (Md C) A (getAttr o (C.nm n) true) Q E ag) _ fun aA aP h₁ aU rv aF aD cb=>?_) (fun o ag h₁=>aa (au (aa (aj (aG h₁ (fun r aK br=>aa (lf<|wpAny_letTemporaryGo (af br))) fun Y Y x=>x))))) fun Y Y x=>x)
  refine aC (aI e:) fun q hi e=>?_
  refine aC (aI e:) fun p hc e=>?_
  obtain⟨hm,e⟩:=tK e
  refine aC (aI e:) fun w hg e=>?_
  obtain⟨hp,e⟩:=cN e
  injection e with e;injection e with e aN;subst e aN;exact lf<|uf W (st:={st with heap:=h₁,toks:=aU}) aD cb hi hc h2 hm hg hp (K.after aF)
set_option tactic.hygienic true in
theorem putName_dict{nm:Str}{hash:Int}{key:Value}:∃k',Obj.putName nm hash key rv (bK es k)=bK (nsPutIn nm.cps.size nm.cps.toList (fun|some e=>{e with val:=rv}|none=>⟨hash,key,rv⟩) es).1 k':=by
 unfold Obj.putName
 dsimp only[bK]
 split
 ·rename_i lu q;exact⟨k,congrArg (fun p:List DictEntry×Bool=>bK p.1 k) q.symm⟩
 ·rename_i lu q;exact⟨k+1,congrArg (fun p:List DictEntry×Bool=>bK p.1 (k+1)) q.symm⟩
theorem oD(x:Nat)(v:AV):∀l:List (Nat×AV),(bU l x v).length≤l.length+1
 |[]=>Nat.le_refl _
 |p::r=>by
  unfold bU;split
  ·simp
  ·simp only[List.length_cons];have:=oD x v r;lia
theorem BY(W:Wd C P){c f dd:Nat}{ms:List (Nat×Nat)}{l:List (Nat×AV)}{w:AV}{rw:Value}{Q:Unit→Shared→Prop}(S:aq C J M s st.heap)(z:cm C Z J st.heap)(V:ao C J M st.heap a rv)(Vw:ao C J M st.heap w rw)(hi:instOf s a=some (c,dd,l))(hc:P.cs.get c=some (f,ms))(hn:n∈C.attrs)(hm:gA ms n=none)
  (hnf:C.nf≤dd)(hl:l.length≤500)(K:∀σ' M' h' tk,aJ Z J M st.heap σ' M' h'→aq C σ' M' (s.upd dd (.ns (bU l n w))) h'→Q () {st with heap:=h',toks:=tk}):ab (Md C) A (setAttr rv (C.nm n) rw) Q E st:=by
 obtain⟨x,dx,es,k,rfl,h1,h2,h3,h4,h5⟩:=instOf_inv S V hi
 have O:=W.cls _ _ _ hc
 have X:=OF W S
 have I:=inst_at h1 h4
 refine lf (set_plain (C:=C.dm c) X I O.sa ?_)
 have ht:takerIn C.K (C.dm c) (C.nm n)=some none:=by
  unfold takerIn;rw [O.own n hn hm];rfl
 refine osa_open (s:={st with toks:=st.toks+1}) X I O.over ht fun b=>?_
 refine aC (O.cd:) fun cd hcd Dl=>?_
 refine dC (putName_dict (nm:=C.nm n) (hash:=PyData.keyHash C.w.params (C.nm n)) (key:=.str (C.nm n) (st.toks+1)) (rv:=rw) (es:=es) (k:=k):) fun k' hput=>?_
 have hlen:=h5.len
 have hN:=h5.put W.inj n Vw (st.toks+1)
 have hU:=S.update (f:=Obj.putName (C.nm n) (PyData.keyHash C.w.params (C.nm n)) (.str (C.nm n) (st.toks+1)) rw) (o:=.ns (bU l n w)) h2 hnf z h3 h4 (by rw [hput];rfl) fun G hg=>by
  rw [hput]at hg;exact .ns _ _ _ _ hg (hN.grow G)
 have D':(st.heap.update dx (Obj.putName (C.nm n) (PyData.keyHash C.w.params (C.nm n)) (.str (C.nm n) (st.toks+1)) rw)).get? dx=some (bK _ k'):=(Heap.get?_update_self _ h4 (by rw [hput];rfl)).trans (congrArg some hput)
 refine PySem.wpAny_bind (PySem.wpAny_pure (PySem.wpAny_bind (PySem.wpAny_bind (PySem.wpAny_loadPart h1 (PySem.wpAny_bind ((looks_clsIn X hcd).here (s:={st with toks:=st.toks+1}) ?_))))))
 rw [Dl];refine PySem.wpAny_pure (a:=some dx) (PySem.wpAny_bind (PySem.wpAny_pure (PySem.wpAny_bind ?_)))
 unfold nsSet;refine PySem.wpAny_bind (PySem.wpAny_bind (PySem.wpAny_askSetting (PySem.wpAny_pure (PySem.wpAny_bind (PySem.wpAny_mkText (PySem.wpAny_bind (PySem.wpAny_loadPart h4 ?_)))))));have W3:(!es.toArray.any (·.key.isStr (C.nm n))&&es.toArray.any (·.refKey))=false:=by
  have:=h5.noRef
  rw [List.any_toArray,List.any_toArray,this,Bool.and_false]
 dsimp only[bK]
 rw [aRefKeyMayBeTheName_at,W3];refine PySem.wpAny_updatePart h4 ?_;refine PySem.wpAny_bind (PySem.wpAny_lookBehind D' (pastItsLine_dict ?_) ?_)
 ·rw [List.size_toArray]
  have h7:=oD n w l
  refine Nat.le_trans (Nat.le_of_eq hN.len.symm) ?_
  rw [sizeLine_eq]
  lia
 ·exact PySem.wpAny_pure (K _ _ _ _ hU.2 hU.1)
end
noncomputable def qH(sl:List (Str×Value))(x:Str×Value):List (Str×Value):=if(sl.lookup x.1).isNone=true then sl++[(x.1,x.2)]else sl
theorem Eo:∀(l sl:List (Str×Value)),(forIn l sl fun x __s=>if(List.lookup x.fst __s).isNone=true then pure (ForInStep.yield (__s++[(x.fst,x.snd)]))else pure (ForInStep.yield __s):Sem (List (Str×Value)))=pure (l.foldl qH sl)
 |[],sl=>rfl
 |x::l,sl=>by
  rw [List.forIn_cons,List.foldl_cons];unfold qH;split
  ·rw [pure_bind];exact Eo l _
  ·rw [pure_bind];exact Eo l _
theorem v8(n:Str)(a b:List (Str×Value)):(a++b).lookup n=(a.lookup n).or (b.lookup n):=by
 induction a with
 |nil=>rfl
 |cons p a ih=>
  rw [List.cons_append,List.lookup_cons,List.lookup_cons];split
  ·rfl
  ·exact ih
set_option tactic.hygienic true in
theorem P4(n:Str)(l sl:List (Str×Value)):(l.foldl qH sl).lookup n=(sl.lookup n).or (l.lookup n):=by
 induction l generalizing sl with
 |nil=>exact(Option.or_none ..).symm
 |cons x l ih=>
  rw [List.foldl_cons,ih];unfold qH;rw [List.lookup_cons];split
  ·rename_i h
   rw [v8]
   by_cases q:n=x.1
   ·subst q
    rw [Option.isNone_iff_eq_none.mp h];simp
   ·have:(n==x.1)=false:=beq_eq_false_iff_ne.mpr q
    simp[List.lookup_cons,this]
  ·rename_i h
   by_cases q:n=x.1
   ·subst q
    cases e:sl.lookup x.1 with
    |none=>rw [e]at h;simp at h
    |some v=>simp
   ·have:(n==x.1)=false:=beq_eq_false_iff_ne.mpr q
    simp[this]
theorem k8:∀{names:List Str}(vals:List Value),names.Nodup→∀(i:Nat)(h:i<names.length),(names.zip vals).lookup names[i]=vals[i]?
 |[],_,_,i,h=>absurd h (Nat.not_lt_zero _)
 |n::ns,[],_,i,h=>by simp
 |n::ns,v::vs,nd,0,h=>by simp[List.lookup_cons]
 |n::ns,v::vs,nd,i+1,h=>by
  rw [List.nodup_cons]at nd;rw [List.zip_cons_cons,List.lookup_cons];have hi:i<ns.length:=by simpa using h
  have:(ns[i]==n)=false:=beq_eq_false_iff_ne.mpr fun e=>nd.1 (e▸List.getElem_mem hi)
  simp only[List.getElem_cons_succ,this]
  rw [k8 vs nd.2 i hi];simp
theorem Dy{L:Str→Option Value}:∀{names:List Str}{tgt:List Value},names.length=tgt.length→(∀(i:Nat)(h:i<names.length),L names[i]=tgt[i]?)→names.filterMap (fun n=>(L n).map fun x=>(n,x))=names.zip tgt
 |[],[],_,_=>rfl
 |[],_::_,h,_=>by simp at h
 |_::_,[],h,_=>by simp at h
 |n::ns,v::vs,h,hl=>by
  have h0:=hl 0 (by simp)
  simp only[List.getElem_cons_zero,List.getElem?_cons_zero]at h0
  rw [List.filterMap_cons,h0];simp only[Option.map_some,List.zip_cons_cons];rw [Dy (by simpa using h) fun i hi=>hl (i+1) (by simpa using hi)]
theorem vm{M:Model}{c:Prop} [Decidable c]{a b:Sem α}{Q:α→Shared→Prop}{s:Shared}(h:¬c)(k:PySem.wpAny M A b Q E s):PySem.wpAny M A (if c then a else b) Q E s:=by
 rw [if_neg h];exact k
section
variable{names:List Str}{vals ds dd:List Value}(h1:vals.length≤names.length)(h2:names.length≤vals.length+ds.length)(h3:ds.length≤names.length)(nd:names.Nodup)
include h1 h2 nd
theorem y6(hdd:dd=ds):(names.take (names.length - dd.length)).filter (fun n=>(List.lookup n (names.zip vals)).isNone)=[]:=by
 subst hdd;rw [List.filter_eq_nil_iff];intro n hn;obtain⟨i,hi,rfl⟩:=List.getElem_of_mem hn
 rw [List.length_take]at hi;have hn:i<names.length:=Nat.lt_of_lt_of_le hi (Nat.min_le_right _ _)
 rw [List.getElem_take,k8 vals nd i hn,List.getElem?_eq_getElem (Nat.lt_of_lt_of_le hi (Nat.le_trans (Nat.min_le_left _ _) (Nat.sub_le_of_le_add h2)))];exact Bool.false_ne_true
include h3
theorem ET(hdd:dd=ds):(names++[]).filterMap (fun n=>((((names.drop (names.length - dd.length)).zip dd).foldl qH (names.zip vals)).lookup n).map fun x=>(n,x))=names.zip (vals++ds.drop (vals.length+ds.length - names.length)):=by
 subst hdd;rw [List.append_nil];have e1:vals.length+dd.length - names.length+(names.length - dd.length)=vals.length:=by rw [←Nat.add_sub_assoc h3,Nat.sub_add_cancel h2,Nat.add_sub_cancel]
 refine Dy (L:=fun n=>List.lookup n (((names.drop (names.length - dd.length)).zip dd).foldl qH (names.zip vals))) (by rw [List.length_append,List.length_drop,←Nat.add_sub_assoc (Nat.sub_le_of_le_add (Nat.add_comm _ names.length▸Nat.add_le_add_right h1 _)),Nat.sub_sub_self h2]) fun i hi=>?_
 rw [P4,k8 vals nd i hi];refine(Nat.lt_or_ge i vals.length).elim (fun q=>?_) fun q=>?_
 ·rw [List.getElem?_append_left q,List.getElem?_eq_getElem q];rfl
 ·have c1:names.length - dd.length≤i:=Nat.le_trans (Nat.le_add_left _ _) (e1.symm▸q)
  rw [List.getElem?_eq_none q,Option.none_or,List.getElem?_append_right q];have Dl:i - (names.length - dd.length)<(names.drop (names.length - dd.length)).length:=by rw [List.length_drop];exact Nat.sub_lt_sub_right c1 hi
  have e:names[i]=(names.drop (names.length - dd.length))[i - (names.length - dd.length)]:=by
   rw [List.getElem_drop]
   congr 1
   exact(Nat.add_sub_cancel' c1).symm
  rw [e,k8 dd (nd.sublist (List.drop_sublist _ _)) _ Dl,List.getElem?_drop];refine congrArg (dd[·]?) ?_;have e2:i - vals.length=i - (names.length - dd.length) - (vals.length+dd.length - names.length):=by rw [←Nat.sub_add_eq,Nat.add_comm,e1]
  rw [e2,Nat.add_sub_cancel' (Nat.le_sub_of_add_le (e1.symm▸q))]
end
theorem mx{s:Shared}{fd:FuncData}{names:List Str}{vals ds:List Value}(hp:fd.params.posonlyargs=[])(hn:fd.params.args.map (·.arg)=names)(hv:fd.params.vararg=none)(hk:fd.params.kwonlyargs=[])(QM:fd.params.kwarg=none)
  (hd:∀(M:Model)(A:Around)(E:Value→Shared→Prop)(Q:Option (Array Value)→Shared→Prop),(∀x:Option (Array Value),(x.getD #[]).toList=ds→Q x s)→PySem.wpAny M A (seqItems? fd.defaults) Q E s)
  (h1:vals.length≤names.length)(h2:names.length≤vals.length+ds.length)(h3:ds.length≤names.length)(nd:names.Nodup):BindsTo s fd ⟨vals,[]⟩ (names.zip (vals++ds.drop (vals.length+ds.length - names.length))):=by
 intro M A E Q hq;obtain⟨fname,fqual,⟨po,as,va,ko,kd,kw,df⟩,r1,r2,r3,r4,r5,r6,r7⟩:=fd
 dsimp only at hp hn hv hk QM hd
 subst hp hn hv hk QM;unfold PySem.bindArgs;refine PySem.wpAny_bind (PySem.wpAny_pure ?_);refine PySem.wpAny_bind (hd _ _ _ _ fun x hx=>?_)
 have hdd:List.drop ((x.getD #[]).toList.length - (as.map (·.arg)).length) (x.getD #[]).toList=ds:=by
  rw [hx,Nat.sub_eq_zero_of_le h3,List.drop_zero]
 refine vm (fun c=>?_) ?_
 ·exact absurd (of_decide_eq_true (Bool.and_eq_true_iff.mp c).1) (Nat.not_lt.mpr h1)
 refine vm (fun c=>?_) ?_
 ·have c:(!(List.filter (fun n=>(List.lookup n ((as.map fun x:Arg=>x.arg).zip vals)).isNone) (List.take ((as.map fun x:Arg=>x.arg).length - (List.drop ((x.getD #[]).toList.length - (as.map fun x:Arg=>x.arg).length) (x.getD #[]).toList).length) (as.map fun x:Arg=>x.arg))).isEmpty)=true:=c
  rw [y6 h1 h2 nd hdd]at c;exact Bool.false_ne_true c
 refine PySem.wpAny_bind (PySem.wpAny_of_eq (Eo _ _) ?_)
 refine PySem.wpAny_bind (PySem.wpAny_pure ?_)
 refine vm Bool.false_ne_true ?_
 exact PySem.wpAny_pure ((congrArg (fun l=>Q l s) (ET h1 h2 h3 nd hdd)).mpr hq)
def d9(kd:Kd)(cs:Bool)(s:Str):Prop:=kd.k s=some .local∨(kd.k s=some .cell∧cs=true)
abbrev Ey(C:Tx)(kd:Kd)(cs:Bool):List Nat→List Expr→Prop:=cw C (d9 kd cs)
abbrev Ez(C:Tx)(kd:Kd)(cs:Bool):List Nat→Bool→Expr→Prop:=eU C (d9 kd cs)
def lG(C:Tx)(kd:Kd)(k:Nat)(e:CE)(x:Expr):Prop:=(k=0∧ak C kd e x)∨(k=1∧∃x0 p pos,x=.Call (.Name "enumerate" p) [x0] [] pos∧kd.k "enumerate"=some .globalImplicit∧ak C kd e x0∧(∀y p,x0≠.Starred y p))∨
 (k=2∧∃a b x0 y0,e=.t [a,b]∧∃p pos,x=.Call (.Name "zip" p) [x0,y0] [] pos∧kd.k "zip"=some .globalImplicit∧ak C kd a x0∧ak C kd b y0∧(∀y p,x0≠.Starred y p)∧(∀z p,y0≠.Starred z p))
theorem lG.plain{C:Tx}(h:ak C kd e x):lG C kd 0 e x:=.inl ⟨rfl,h⟩
theorem lG.enum{C:Tx}{p:Pos}(h1:kd.k "enumerate"=some .globalImplicit)(h2:ak C kd e x)(h3:∀y p,x≠.Starred y p):lG C kd 1 e (.Call (.Name "enumerate" p) [x] [] pos):=.inr (.inl ⟨rfl,x,p,pos,rfl,h1,h2,h3⟩)
theorem lG.zip{C:Tx}{a b:CE}{y:Expr}{p:Pos}(h1:kd.k "zip"=some .globalImplicit)(h2:ak C kd a x)(h3:ak C kd b y)(h4:∀y p,x≠.Starred y p)(h5:∀z p,y≠.Starred z p):lG C kd 2 (.t [a,b]) (.Call (.Name "zip" p) [x,y] [] pos):=.inr (.inr ⟨rfl,a,b,x,y,rfl,p,pos,rfl,h1,h2,h3,h4,h5⟩)
def bV(x:Expr):Prop:=Nat.beq x.ctorIdx 8=false∧Nat.beq x.ctorIdx 9=false∧Nat.beq x.ctorIdx 10=false
def xj(C:Tx)(kd:Kd)(xs:List Nat)(ts:List Expr)(ex:Expr):Prop:=∀env:PySem.Env,(∀x,env.kindOf x=kd.k x)→env.scope.kind=.function→
 swappedStores ts ex env=pure none∨(swappedStores ts ex env=pure (some (xs.map C.nm))∧xs.Nodup)
abbrev FX:=Stmt→Prop
abbrev Jy:=List Stmt→Prop
section
section
variable(C:Tx)(kd:Kd)(cs:Bool)
def H0(s:Str)(e:CE)(ex:Expr):Prop:=∃elt tg flat it ifs,e=.comp elt tg flat it ifs∧∃xe xt xi xs sc,∃lpos,ex=.ListComp xe [⟨xt,xi,xs,0⟩] sc lpos∧∀y∈sc.names,y.1≠s
noncomputable def xD(x:Nat)(e:CE):FX:=fun st=>∃s p pos ex,st=.Assign [.Name s p] ex pos∧s=C.nm x∧d9 kd cs s∧ak C kd e ex∧(bV ex∨H0 s e ex)
noncomputable def qT(xs:List Nat)(e:CE):FX:=fun st=>∃ts k p ex pos,st=.Assign [.Tuple ts k p] ex pos∧Ey C kd cs xs ts∧ak C kd e ex∧bV ex∧xj C kd xs [.Tuple ts k p] ex
noncomputable def qW(o:CE)(n:Nat)(e:CE):FX:=fun st=>∃s xo p ex pos,st=.Assign [.Attribute xo s p] ex pos∧s=C.nm n∧n∈C.attrs∧ak C kd o xo∧ak C kd e ex∧bV ex
noncomputable def qV(o i e:CE):FX:=fun st=>∃xo xi p ex pos,st=.Assign [.Subscript xo xi p] ex pos∧ak C kd o xo∧ak C kd i xi∧ak C kd e ex∧bV ex
noncomputable def qU(o lo hi e:CE):FX:=fun st=>∃xo xl xh q p,∃ex pos,st=.Assign [.Subscript xo (.Slice (some xl) (some xh) none q) p] ex pos∧ak C kd o xo∧ak C kd lo xl∧ak C kd hi xh∧ak C kd e ex∧bV ex
noncomputable def mN(o i:CE)(x:Nat)(e:CE):FX:=fun st=>∃xo xi p s q,∃k r ex pos,st=.Assign [.Tuple [.Subscript xo xi p,.Name s q] k r] ex pos∧s=C.nm x∧d9 kd cs s∧ak C kd o xo∧ak C kd i xi∧ak C kd e ex∧bV ex∧∀es k p,ex≠.Tuple es k p
noncomputable def E5(e:CE):FX:=fun st=>∃ex pos,st=.Expr ex pos∧ak C kd e ex∧bV ex
noncomputable def xA(e:CE):FX:=fun st=>(∃ex pos,st=.Return (some ex) pos∧ak C kd e ex)∨(e=.val .none∧∃pos,st=.Return none pos)
noncomputable def xB(t:CE)(a b:Jy):FX:=fun st=>∃x ys zs pos,st=.If x ys zs pos∧ak C kd t x∧a ys∧b zs
noncomputable def xC(tg:List Nat)(flat:Bool)(kind:Nat)(it:CE)(b:Jy):FX:=fun st=>∃xt xi ys pos,st=.For xt xi ys [] pos∧Ez C kd cs tg flat xt∧(kind=0∨flat=false)∧lG C kd kind it xi∧b ys
noncomputable def mM(t:CE)(b:Jy):FX:=fun st=>∃x ys pos,st=.While x ys [] pos∧ak C kd t x∧b ys
noncomputable def xy(b:Jy):FX:=fun st=>∃ys h hs pos,st=.Try ys (h::hs) [] [] pos∧b ys
noncomputable def qS:FX:=fun st=>∃pos,st=.Pass pos
noncomputable def Bj(a:FX)(l:Jy):Jy:=fun ys=>∃x xs,ys=x::xs∧a x∧l xs
def bg(c:CS):Stmt→Prop:=CS.rec (motive_1:=fun Y=>FX) (motive_2:=fun Y=>Jy) (xD C kd cs) (qT C kd cs) (qW C kd) (qV C kd) (qU C kd) (mN C kd cs) (E5 C kd) (xA C kd) (fun t Y Y=>xB C kd t) (fun tg flat kind it Y=>xC C kd cs tg flat kind it) (fun Y Y Y Y Y Y Y Y=>False) (fun t Y=>mM C kd t) (fun Y=>xy) qS (fun Y Y=>True) (fun xs=>xs=[]) (fun Y Y=>Bj) c
def cn(c:List CS):List Stmt→Prop:=CS.rec_1 (motive_1:=fun Y=>FX) (motive_2:=fun Y=>Jy) (xD C kd cs) (qT C kd cs) (qW C kd) (qV C kd) (qU C kd) (mN C kd cs) (E5 C kd) (xA C kd) (fun t Y Y=>xB C kd t) (fun tg flat kind it Y=>xC C kd cs tg flat kind it) (fun Y Y Y Y Y Y Y Y=>False) (fun t Y=>mM C kd t) (fun Y=>xy) qS (fun Y Y=>True) (fun xs=>xs=[]) (fun Y Y=>Bj) c
end
end
section
variable{C:Tx}{cs:Bool}
namespace bg
section
variable{x:Nat}{xs:List Nat}{flat:Bool}{o i lo hi t:CE}{a b:List CS}{st:Stmt}
theorem Qg(h:bg C kd cs (.b8 x e) st):xD C kd cs x e st:=h
theorem Qa(h:bg C kd cs (.cP xs e) st):qT C kd cs xs e st:=h
theorem Qi(h:bg C kd cs (.aT o n e) st):qW C kd o n e st:=h
theorem Qf(h:bg C kd cs (.jW o i e) st):qV C kd o i e st:=h
theorem Qc(h:bg C kd cs (.i0 o lo hi e) st):qU C kd o lo hi e st:=h
theorem Mj(h:bg C kd cs (.iS o i x e) st):mN C kd cs o i x e st:=h
theorem Xk(h:bg C kd cs (.ex e) st):E5 C kd e st:=h
theorem RD(h:bg C kd cs (.ret e) st):xA C kd e st:=h
theorem Gm(h:bg C kd cs (.ite t a b) st):xB C kd t (cn C kd cs a) (cn C kd cs b) st:=h
theorem GF(h:bg C kd cs (.for tg flat kind e b) st):xC C kd cs tg flat kind e (cn C kd cs b) st:=h
theorem JS(h:bg C kd cs (.while t b) st):mM C kd t (cn C kd cs b) st:=h
theorem Rf(h:bg C kd cs (.try b) st):xy (cn C kd cs b) st:=h
theorem NR(h:bg C kd cs .pass st):qS st:=h
theorem Qd(h:xD C kd cs x e st):bg C kd cs (.b8 x e) st:=h
theorem P9(h:qT C kd cs xs e st):bg C kd cs (.cP xs e) st:=h
theorem Qh(h:qW C kd o n e st):bg C kd cs (.aT o n e) st:=h
theorem Qe(h:qV C kd o i e st):bg C kd cs (.jW o i e) st:=h
theorem Qb(h:qU C kd o lo hi e st):bg C kd cs (.i0 o lo hi e) st:=h
theorem Mi(h:mN C kd cs o i x e st):bg C kd cs (.iS o i x e) st:=h
theorem Xj(h:E5 C kd e st):bg C kd cs (.ex e) st:=h
theorem NK(h:xA C kd e st):bg C kd cs (.ret e) st:=h
theorem K9(h:xB C kd t (cn C kd cs a) (cn C kd cs b) st):bg C kd cs (.ite t a b) st:=h
theorem SW(h:xC C kd cs tg flat kind e (cn C kd cs b) st):bg C kd cs (.for tg flat kind e b) st:=h
theorem JR(h:mM C kd t (cn C kd cs b) st):bg C kd cs (.while t b) st:=h
theorem Rd(h:xy (cn C kd cs b) st):bg C kd cs (.try b) st:=h
theorem NQ(h:qS st):bg C kd cs .pass st:=h
theorem bad:bg C kd cs (.bad n) st:=trivial
section
variable{s:Str}{p q r:Pos}{eX xo xi xl xh X xt:Expr}{ts:List Expr}{ys zs:List Stmt}
theorem b8(h1:s=C.nm x)(h2:d9 kd cs s)(h3:ak C kd e eX)(h4:bV eX):bg C kd cs (.b8 x e) (.Assign [.Name s p] eX pos):=Qd ⟨s,p,pos,eX,rfl,h1,h2,h3,.inl h4⟩
theorem TG{elt it:CE}{ifs:List CE}{xe xt:Expr}{xs:List Expr}{sc:Scope}{lpos:Pos}(h1:s=C.nm x)(h2:d9 kd cs s)(h3:ak C kd (.comp elt tg flat it ifs) (.ListComp xe [⟨xt,xi,xs,0⟩] sc lpos))(h4:∀y∈sc.names,y.1≠s):bg C kd cs (.b8 x (.comp elt tg flat it ifs)) (.Assign [.Name s p] (.ListComp xe [⟨xt,xi,xs,0⟩] sc lpos) pos):=Qd ⟨s,p,pos,_,rfl,h1,h2,h3,.inr ⟨elt,tg,flat,it,ifs,rfl,xe,xt,xi,xs,sc,lpos,rfl,h4⟩⟩
theorem cP(h1:Ey C kd cs xs ts)(h2:ak C kd e eX)(h3:bV eX)(h4:xj C kd xs [.Tuple ts k p] eX):bg C kd cs (.cP xs e) (.Assign [.Tuple ts k p] eX pos):=P9 ⟨ts,k,p,eX,pos,rfl,h1,h2,h3,h4⟩
theorem iS(h1:s=C.nm x)(h2:d9 kd cs s)(h3:ak C kd o xo)(h4:ak C kd i xi)(h5:ak C kd e eX)(h6:bV eX)(h7:∀es k p,eX≠.Tuple es k p):bg C kd cs (.iS o i x e) (.Assign [.Tuple [.Subscript xo xi p,.Name s q] k r] eX pos):=Mi ⟨xo,xi,p,s,q,k,r,eX,pos,rfl,h1,h2,h3,h4,h5,h6,h7⟩
theorem aT(h1:s=C.nm n)(h2:n∈C.attrs)(h3:ak C kd o xo)(h4:ak C kd e eX)(h5:bV eX):bg C kd cs (.aT o n e) (.Assign [.Attribute xo s p] eX pos):=Qh ⟨s,xo,p,eX,pos,rfl,h1,h2,h3,h4,h5⟩
theorem jW(h1:ak C kd o xo)(h2:ak C kd i xi)(h3:ak C kd e eX)(h4:bV eX):bg C kd cs (.jW o i e) (.Assign [.Subscript xo xi p] eX pos):=Qe ⟨xo,xi,p,eX,pos,rfl,h1,h2,h3,h4⟩
theorem i0(h1:ak C kd o xo)(h2:ak C kd lo xl)(h3:ak C kd hi xh)(h4:ak C kd e eX)(h5:bV eX):bg C kd cs (.i0 o lo hi e) (.Assign [.Subscript xo (.Slice (some xl) (some xh) none q) p] eX pos):=Qb ⟨xo,xl,xh,q,p,eX,pos,rfl,h1,h2,h3,h4,h5⟩
theorem ex(h1:ak C kd e eX)(h2:bV eX):bg C kd cs (.ex e) (.Expr eX pos):=Xj ⟨eX,pos,rfl,h1,h2⟩
theorem ret(h:ak C kd e eX):bg C kd cs (.ret e) (.Return (some eX) pos):=NK (.inl ⟨eX,pos,rfl,h⟩)
theorem RE:bg C kd cs (.ret (.val .none)) (.Return none pos):=NK (.inr ⟨rfl,pos,rfl⟩)
theorem ite(h1:ak C kd t X)(h2:cn C kd cs a ys)(h3:cn C kd cs b zs):bg C kd cs (.ite t a b) (.If X ys zs pos):=K9 ⟨X,ys,zs,pos,rfl,h1,h2,h3⟩
theorem «for»(h1:Ez C kd cs tg flat xt)(h2:kind=0∨flat=false)(h3:lG C kd kind e xi)(h4:cn C kd cs b ys):bg C kd cs (.for tg flat kind e b) (.For xt xi ys [] pos):=SW ⟨xt,xi,ys,pos,rfl,h1,h2,h3,h4⟩
theorem «while»(h1:ak C kd t X)(h2:cn C kd cs b ys):bg C kd cs (.while t b) (.While X ys [] pos):=JR ⟨X,ys,pos,rfl,h1,h2⟩
theorem «try»{h:ExceptHandler}{hs:List ExceptHandler}(h1:cn C kd cs b ys):bg C kd cs (.try b) (.Try ys (h::hs) [] [] pos):=Rd ⟨ys,h,hs,pos,rfl,h1⟩
theorem pass:bg C kd cs .pass (.Pass pos):=NQ ⟨pos,rfl⟩
end
end
end bg
theorem cn.nil:cn C kd cs [] []:=rfl
theorem cn.nl{xs:List Stmt}(h:cn C kd cs [] xs):xs=[]:=h
theorem cn.of{c:CS}{r:List CS}{xs:List Stmt}(h:∃x ys,xs=x::ys∧bg C kd cs c x∧cn C kd cs r ys):cn C kd cs (c::r) xs:=h
theorem cn.un{c:CS}{r:List CS}{xs:List Stmt}(h:cn C kd cs (c::r) xs):∃x ys,xs=x::ys∧bg C kd cs c x∧cn C kd cs r ys:=h
theorem cn.cons{c:CS}{x:Stmt}{r:List CS}{xs:List Stmt}(h1:bg C kd cs c x)(h2:cn C kd cs r xs):cn C kd cs (c::r) (x::xs):=.of ⟨x,xs,rfl,h1,h2⟩
end
abbrev pK(C:Cx):=Ey C.toTx
abbrev mJ(C:Cx):=Ez C.toTx
abbrev HW(C:Cx):=lG C.toTx
abbrev yO(C:Cx):=xj C.toTx
abbrev fS(C:Cx):=bg C.toTx
abbrev cZ(C:Cx):=cn C.toTx
structure di(C:Cx)(Z:Addr→Prop)(J:List Addr)(M own:Addr→Prop)(kd:Kd)(cs:Bool)(env:PySem.Env)(ρ:Env)(h:Heap):Prop where
 f:fm C (fun a=>Z a∨own a) J M kd env ρ h
 eO:∀a,own a→M a∧¬Z a
 gw:cm C own J h
 lo:own env.locals
 ns:∃m,h.Ns env.locals m
 ce:cs=true→∀x,kd.k x=some .cell→∃c v,env.cells.lookup x=some c∧h.IsCell c v∧own c
 lc:∀x c,env.cells.lookup x=some c→c≠env.locals
 ap:cs=true→∀x y c,env.cells.lookup x=some c→env.cells.lookup y=some c→x=y
 fY:env.scope.kind=.function
noncomputable def u5(C:Cx)(J:List Addr)(M:Addr→Prop)(h:Heap):Fl→Flow→Prop
 |.nx,f=>f=.next
 |.rt v,f=>∃rv,f=.ret rv∧ao C J M h v rv
def KX(C:Cx)(Z:Addr→Prop)(J:List Addr)(M own:Addr→Prop)(kd:Kd)(cs:Bool)(env:PySem.Env)(st:Shared)(f:Fl)(ρ':Env)(s':AS)(Q:Flow→Shared→Prop):Prop:=
 ∀σ' M' h' tk fl,aJ Z J M st.heap σ' M' h'→aq C σ' M' s' h'→di C Z σ' M' own kd cs env ρ' h'→u5 C σ' M' h' f fl→Q fl {st with heap:=h',toks:=tk}
theorem KX.ok{own:Addr→Prop}{cs:Bool}{f:Fl}{ρ':Env}{Q:Flow→Shared→Prop}(K:KX C Z J M own kd cs env st f ρ' s' Q){a:Fl}{b:Env}{c:AS}(e:(aH.ok (a,b,c)).leaf ν=some (f,ρ',s')):KX C Z J M own kd cs env st a b c Q:=by
 injection e with e;injection e with e aN;subst e;injection aN with aN nk;subst aN nk;exact K
def vf(C:Cx)(ih:Ih)(d:Nat):Prop:=∀cl ρ s f ρ' s',(ih.xs cl ρ s).leaf C.ν=some (f,ρ',s')→∀kd cs xs,cZ C kd cs cl xs→∀Z J M own env A st,di C Z J M own kd cs env ρ st.heap→aq C J M s st.heap→bu A d→cm C Z J st.heap→
 ∀Q E,KX C Z J M own kd cs env st f ρ' s' Q→ab (Md C) A (execs xs env) Q E st
section
variable{own:Addr→Prop}{cs:Bool}
theorem cm.bJ{Z':Addr→Prop}(z:cm C Z' J h)(G:aJ Z J M h σ' M' h'):cm C Z' σ' h':=fun a q=>by
 obtain⟨l,rfl,f⟩:=G.pre
 obtain⟨⟨o,z1⟩,z2,z3⟩:=z a q
 exact⟨G.ext.live a o z1,fun m=>(List.mem_append.mp m).elim z2 fun m=>aO z1 (f a m),z3⟩
theorem di.z(F:di C Z J M own kd cs env ρ h)(z:cm C Z J h):cm C (fun a=>Z a∨own a) J h:=fun a q=>q.elim (z a) (F.gw a)
theorem di.grow(F:di C Z J M own kd cs env ρ h)(G:aJ (fun a=>Z a∨own a) J M h σ' M' h'):di C Z σ' M' own kd cs env ρ h':=
 ⟨F.f.grow G,fun a q=>⟨G.more a (F.eO a q).1,(F.eO a q).2⟩,F.gw.bJ G,F.lo,let⟨m,o,es,ep,e,r⟩:=F.ns;⟨m,o,es,ep,G.dz (.inr F.lo) e,r⟩,
  fun k x q=>by
   obtain⟨c,v,h1,⟨o,h2,h3⟩,h5⟩:=F.ce k x q
   exact⟨c,v,h1,⟨o,G.dz (.inr h5) h2,h3⟩,h5⟩,
  F.lc,F.ap,F.fY⟩
theorem KX.after{f:Fl}{ρ':Env}{Q:Flow→Shared→Prop}{tk:Tok}(K:KX C Z J M own kd cs env st f ρ' s' Q)(G:aJ Z J M st.heap σ' M' h'):KX C Z σ' M' own kd cs env {st with heap:=h',toks:=tk} f ρ' s' Q:=
 fun cy dR br bf fl bb S F R=>K cy dR br bf fl (G.trans bb) S F R
theorem tu(S:aq C J M s h){a:Addr}(hm:M a)(hz:¬Z a)(ho:a∉J)(ht:∀p∈C.tabs,a≠p.2)(hs:Heap.SameBut a h h')(hl:∃o,h'.get? a=some o):aq C J M s h'∧aJ Z J M h J M h':=by
 have hv:∀b o,h.get? b=some o→∃o',h'.get? b=some o':=fun b o e=>by
  by_cases hb:b=a
  ·subst hb;exact hl
  ·exact⟨o,(hs.2 b hb).trans e⟩
 have G:aJ Z J M h J M h':=⟨⟨[],by simp,fun Y m=>nomatch m⟩,⟨hv,fun b o hb e=>(hs.2 b fun q=>hb (by rw [q];exact⟨hm,hz⟩)).trans e⟩,fun Y x=>x,fun Y x=>.inl x⟩
 refine⟨⟨S.len,S.lim,S.gL,S.nodup,S.low,?_,S.jq,S.yu,fun b m=>let⟨o,e⟩:=S.there b m;hv b o e,fun b m=>let⟨o,e⟩:=S.mlt b m;hv b o e,?_,?_,S.rg⟩,G⟩
 ·intro i o b e q
  have hb:b≠a:=fun z=>ho (z▸bO q)
  exact(S.obj i o b e q).grow G fun x hx=>(hs.2 b hb).trans hx
 ·intro b o e
  refine aw (S.base b o e:) fun n y=>?_
  exact⟨n,(hs.2 b fun z=>n (z▸hm)).trans y⟩
 ·intro p hp
  obtain⟨⟨ps,a1,a2,a3,a4⟩,a5⟩:=S.tab p hp
  refine⟨⟨ps,a1,(hs.2 _ fun z=>ht p hp z.symm).trans a2,a3,fun pos cv e=>?_⟩,a5⟩
  refine vc (a4 pos cv e:) fun c oc vs t e1 e2 e3 e4=>?_
  exact⟨c,oc,vs,t,e1,e2,(hs.2 _ fun z=>e2 (by rw [z];exact hm)).trans e3,e4⟩
theorem cX(x y:Nat)(v:AV):∀ρ:Env,az (bU ρ x v) y=if y=x then some v else az ρ y
 |[]=>by
  unfold bU az
  by_cases h:y=x
  ·subst h;simp[Nat.beq_refl]
  ·have:Nat.beq x y=false:=by cases q:Nat.beq x y with|false=>rfl|true=>exact absurd (aL q).symm h
   simp[this,h,az]
 |(k,w)::r=>by
  unfold bU
  by_cases hk:k=x
  ·subst hk
   simp only[Nat.beq_refl]
   unfold az
   by_cases h:y=k
   ·subst h;simp[Nat.beq_refl]
   ·have:Nat.beq k y=false:=by cases q:Nat.beq k y with|false=>rfl|true=>exact absurd (aL q).symm h
    simp[this,h]
  ·have hb:Nat.beq k x=false:=by cases q:Nat.beq k x with|false=>rfl|true=>exact absurd (aL q) hk
   simp only[hb]
   unfold az;have ih:=cX x y v r
   cases q:Nat.beq k y with
   |true=>
    have:=aL q
    subst this;simp[hk]
   |false=>exact ih
theorem gq(inj:∀x y,C.nm x=C.nm y→x=y){x:Nat}{Q:Unit→Shared→Prop}(hk:d9 kd cs (C.nm x))(F:di C Z J M own kd cs env ρ st.heap)(S:aq C J M s st.heap)(V:ao C J M st.heap v rv)
  (K:∀h' tk,aJ Z J M st.heap J M h'→aq C J M s h'→(∀Z₀ gQ,di C Z₀ J M own kd cs env gQ st.heap→di C Z₀ J M own kd cs env (bU gQ x v) h')→Q () {st with heap:=h',toks:=tk}):ab (Md C) A (storeName env (C.nm x) rv) Q E st:=by
 have kk:=F.f.kinds
 have fin:∀(a:Addr)(h':Heap)(tk:Tok),own a→Heap.SameBut a st.heap h'→(∃o,h'.get? a=some o)→(∃m,h'.Ns env.locals m)→(∀y c,env.cells.lookup y=some c→c=a→∃v,h'.IsCell c v)→
   (∀(Z₀:Addr→Prop) y w rw,C.nm y≠C.nm x→dI (fun a=>Z₀ a∨own a) M env st.heap (C.nm y) rw→ao C J M st.heap w rw→dI (fun a=>Z₀ a∨own a) M env h' (C.nm y) rw)→(∀Z₀:Addr→Prop,dI (fun a=>Z₀ a∨own a) M env h' (C.nm x) rv)→Q () {st with heap:=h',toks:=tk}:=by
  intro a h' tk ha hs hl hn hca hold hnew;refine aw (F.eO a ha:) fun hm hz=>?_
  refine dJ (F.gw a ha:) fun XG ho ht=>?_
  refine aw (tu (Z:=Z) S hm hz ho ht hs hl:) fun S' G=>?_
  refine K h' tk G S' fun Z₀ gQ F=>⟨⟨F.f.glob,F.f.iZ,F.f.kind,kk,F.f.D5,(fun y c q=>let⟨o,e⟩:=F.f.w5 y c q;G.ext.live c o e),F.f.code,fun y w e q=>?_⟩,F.eO,fun b q=>?_,F.lo,hn,fun k y q=>?_,F.lc,F.ap,F.fY⟩
  ·rw [cX]at e
   by_cases hy:y=x
   ·subst hy
    rw [if_pos rfl]at e;injection e with e;subst e;exact⟨rv,hnew Z₀,V.grow G⟩
   ·rw [if_neg hy]at e
    refine aC (F.f.vars y w e q:) fun QF R V'=>?_
    exact⟨QF,hold Z₀ y w QF (fun q=>hy (inj _ _ q)) R V',V'.grow G⟩
  ·refine dJ (F.gw b q:) fun b1 b2 b3=>?_
   refine dC (b1:) fun o e=>?_
   exact⟨G.ext.live b o e,b2,b3⟩
  ·refine jZ (F.ce k y q:) fun c v' h1 h2 h4=>?_
   by_cases hc:c=a
   ·refine dC (hca y c h1 hc:) fun Uh q=>?_
    exact⟨c,Uh,h1,q,h4⟩
   ·exact⟨c,v',h1,h2.sameBut hs hc,h4⟩
 refine dC (F.ns:) fun m N=>?_
 rcases hk with hk|⟨hk,hc⟩
 ·refine lf<|wpAny_storeName_local ((kk _).trans hk) N (fun h' hn hs=>?_) (by rw [F.f.kind];rfl)
  refine fin env.locals h' _ F.lo hs ?_ ⟨_,hn⟩ (fun y c e q=>absurd q (F.lc y c e)) ?_ fun Z₀=>(.loc _ ((kk _).trans hk) (.inr F.lo) hn (by simp))
  ·refine mR (hn:) fun o es ep e Y=>?_;exact⟨o,e⟩
  ·intro Z₀ y w QF hy R V'
   cases R with
   |loc m' a b c d=>
    refine .loc _ a b hn ?_
    refine oW (c:) fun o es ep e1 e2 e3 e4=>?_
    refine oW (N:) fun o' lu XJ f1 f2 f3 f4=>?_
    rw [e1]at f1;injection f1 with f1;subst f1;rw [e2]at f2;injection f2 with f2 sF;subst f2 sF;simp only[if_neg hy];rw [←f4,e4];exact d
   |cell c o a b e f g=>exact .cell c o a b e ((hs.2 c (F.lc _ _ b)).trans f) g
 ·refine jZ (F.ce hc _ hk:) fun c VE h1 h2 h4=>?_
  have hL:=F.lc _ _ h1
  refine lf<|wpAny_storeName_cell F.f.kind ((kk _).trans hk) h1 h2 fun h' hn hs=>?_
  refine aC (hn:) fun o' e' d'=>?_
  refine fin c h' st.toks h4 hs ⟨o',e'⟩ ⟨m,N.sameBut hs (Ne.symm hL)⟩ (fun y c' Y q=>⟨some rv,by subst q;exact⟨o',e',d'⟩⟩) ?_ fun Z₀=>(.cell c o' (.inl ((kk _).trans hk)) h1 (.inl (.inr h4)) e' d')
  intro Z₀ y w QF hy R V';cases R with
  |loc m' a b c' d=>exact .loc m' a b (c'.sameBut hs (Ne.symm hL)) d
  |cell c' o a b e f g=>exact .cell c' o a b e ((hs.2 c' fun q=>hy (F.ap hc _ _ c (q▸b) h1)).trans f) g
end
def Qm(C:Cx)(ih:Ih)(d:Nat):Prop:=∀g as s v s',(ih.ca g as s).leaf C.ν=some (v,s')→∀Z J M A st rg ras,aq C J M s st.heap→bu A d→cm C Z J st.heap→ao C J M st.heap g rg→ay C J M st.heap as ras→
 (∀Q E,(∀k,Q k st)→ab (Md C) A (keeperOf rg) Q E st)∧∀Q E,KV C Z J M st v s' Q→ab (Md C) A (call rg ras []) Q E st
structure FnAt(C:Cx)(k:Nat)(f:Fn)(o:Obj)(fd:FuncData)(body:List Stmt)(cs:Bool)(ds:List Value)(kd:Kd):Prop where
 at_:C.hb.get? (C.mH k)=some o
 data:o.data=.func fd
 code:C.hb.CodeRec fd.code fd.qualname
 n4:fd.body=.stmts body
 vd:fd.closure=[]
 glob:fd.globals=mainGlobals
 iZ:fd.builtins=builtinsNs
 kind:fd.scope.kind=.function
 co:fd.scope.isCoroutine=false
 gen:fd.scope.isGenerator=false
 pos:fd.params.posonlyargs=[]
 args:fd.params.args.map (·.arg)=f.ps.map C.nm
 vararg:fd.params.vararg=none
 OC:fd.params.kwonlyargs=[]
 kwarg:fd.params.kwarg=none
 nd:(f.ps.map C.nm).Nodup
 PI:ds.length≤f.ps.length
 dflt:(fd.defaults=.none∧ds=[])∨∃T o n,fd.defaults=.ref T∧C.hb.get? T=some o∧o.data=.seq ds.toArray n
 PF:∀J M h,(∀b o,C.hb.get? b=some o→¬M b∧h.get? b=some o)→ay C J M h f.df ds
 rB:∀x,fd.scope.names.lookup x≠some .free
 kinds:∀x∈f.ps,fd.scope.names.lookup (C.nm x)=some .local∨fd.scope.names.lookup (C.nm x)=some .cell
 EM:kd.k=fun x=>fd.scope.names.lookup x
 lh:∀c,kd.code=some c→fd.code=.ref c∧fd.qualname++".<locals>."=kd.qual∧cs=false
 fits:cZ C kd cs f.body body
def u4(C:Cx)(k:Nat)(f:Fn):Prop:=∃o fd body cs ds kd,FnAt C k f o fd body cs ds kd
theorem hG:∀(names:List (Str×NameKind))(n:Nat)(acc:List (Str×Addr))(x:Str),(acc.lookup x).isSome=true→((cellsFrom n names acc).lookup x).isSome=true
 |[],_,_,_,h=>h
 |(y,k)::r,n,acc,x,h=>by
  unfold cellsFrom;split
  ·refine hG r _ _ x ?_
   rw [List.lookup_cons];split
   ·rfl
   ·exact h
  ·exact hG r _ _ x h
theorem du:∀(names:List (Str×NameKind))(n:Nat)(acc:List (Str×Addr))(x:Str),names.lookup x=some .cell→((cellsFrom n names acc).lookup x).isSome=true
 |[],_,_,_,h=>by simp at h
 |(y,k)::r,n,acc,x,h=>by
  rw [List.lookup_cons]at h;unfold cellsFrom;cases q:x==y with
  |true=>
   rw [q]at h;injection h with h;subst h;rw [if_pos (by rfl)]
   refine hG r _ _ x ?_
   rw [List.lookup_cons,q];rfl
  |false=>
   rw [q]at h;split
   ·exact du r _ _ x h
   ·exact du r _ _ x h
theorem Ay{kd:Str→Option NameKind}{n:Str}(l:List (Str×Value)):∀(m:Str→Option Value),n∉l.map (·.1)→bindL kd l m n=m n:=by
 induction l with
 |nil=>exact fun Y Y=>rfl
 |cons p r ih=>
  intro m h;rw [List.map_cons,List.mem_cons,not_or]at h;unfold bindL;rw [ih _ h.2];split
  ·show(if n=p.1 then some p.2 else m n)=m n
   rw [if_neg h.1]
  ·rfl
theorem Az{kd:Str→Option NameKind}{n:Str}(l:List (Str×Value)):∀(m:Str→Option Value),n∉l.map (·.1)→bindC kd l m n=m n:=by
 induction l with
 |nil=>exact fun Y Y=>rfl
 |cons p r ih=>
  intro m h;rw [List.map_cons,List.mem_cons,not_or]at h;unfold bindC;rw [ih _ h.2];split
  ·rfl
  ·show(if n=p.1 then some p.2 else m n)=m n
   rw [if_neg h.1]
theorem Ei{kd:Str→Option NameKind}{n:Str}{v:Value}(hk:kd n=some .local)(l:List (Str×Value)):∀(m:Str→Option Value),(l.map (·.1)).Nodup→(n,v)∈l→bindL kd l m n=some v:=by
 induction l with
 |nil=>exact fun Y Y h=>nomatch h
 |cons p r ih=>
  intro m nd h;rw [List.map_cons,List.nodup_cons]at nd;unfold bindL;rcases cO h with e|h
  ·subst e
   rw [Ay r _ nd.1,if_pos hk];simp
  ·exact ih _ nd.2 h
theorem Ej{kd:Str→Option NameKind}{n:Str}{v:Value}(hk:kd n≠some .local)(l:List (Str×Value)):∀(m:Str→Option Value),(l.map (·.1)).Nodup→(n,v)∈l→bindC kd l m n=some v:=by
 induction l with
 |nil=>exact fun Y Y h=>nomatch h
 |cons p r ih=>
  intro m nd h;rw [List.map_cons,List.nodup_cons]at nd;unfold bindC;rcases cO h with e|h
  ·subst e
   rw [Az r _ nd.1,if_neg hk];simp
  ·exact ih _ nd.2 h
section
theorem oE{nm:Nat→Str}{x:Nat}{ps:List Nat}:∀{as:List AV}{rs:List Value},ay C J M h as rs→az (ps.zip as) x=some v→∃rv,ao C J M h v rv∧(nm x,rv)∈(ps.map nm).zip rs∧x∈ps:=by
 induction ps with
 |nil=>exact fun Y e=>no e
 |cons p ps ih=>
  intro as rs V e;cases as with
  |nil=>exact no e
  |cons a as=>
   refine V.oU fun w rs V r=>?_
   cases q:Nat.beq p x with
   |true=>
    have e:=(oF (p:=(p,a)) (r:=ps.zip as) q).symm.trans e
    cases aL q
    exact⟨w,bh e▸V,bW,bW⟩
   |false=>exact lI (ih r ((mr (p:=(p,a)) (r:=ps.zip as) q).symm.trans e)) fun rv h1 h2 h3=>⟨rv,h1,cq _ h2,cq _ h3⟩
theorem aq.uT(S:aq C J M s st.heap){h₁:Heap}{own:Addr→Prop}(hk:∀b o,st.heap.get? b=some o→h₁.get? b=some o)(hn:∀a,own a→st.heap.get? a=none)(hl:∀a,own a→∃o,h₁.get? a=some o):
  aq C J (fun a=>M a∨own a) s h₁∧aJ Z J M st.heap J (fun a=>M a∨own a) h₁:=by
 have G:aJ Z J M st.heap J (fun a=>M a∨own a) h₁:=⟨⟨[],by simp,fun Y m=>nomatch m⟩,⟨fun b o e=>⟨o,hk b o e⟩,fun b o Y e=>hk b o e⟩,fun Y x=>.inl x,fun a x=>x.imp id (hn a)⟩
 refine⟨⟨S.len,S.lim,S.gL,S.nodup,S.low,fun i o a e q=>(S.obj i o a e q).grow G fun x=>hk a x,fun i a q hi=>.inl (S.jq i a q hi),fun i a q hi=>fun x=>x.elim (S.yu i a q hi) fun x=>?_,fun a m=>let⟨o,e⟩:=S.there a m;⟨o,hk _ _ e⟩,fun a m=>m.elim (fun m=>let⟨o,e⟩:=S.mlt a m;⟨o,hk _ _ e⟩) (hl a),fun b o e=>⟨fun x=>x.elim (S.base b o e).1 fun x=>aO (S.base b o e).2 (hn b x),hk b o (S.base b o e).2⟩,fun p hp=>?_,S.rg⟩,G⟩
 ·refine dC (S.there a (bO q):) fun o e=>?_
  exact aO e (hn a x)
 ·obtain⟨⟨ps,a1,a2,a3,a4⟩,a5⟩:=S.tab p hp
  refine⟨⟨ps,.inl a1,hk _ _ a2,a3,fun pos cv e=>?_⟩,a5⟩
  refine vc (a4 pos cv e:) fun c oc vs t e1 e2 e3 e4=>?_
  exact⟨c,oc,vs,t,e1,G.notM e2 e3,hk _ _ e3,e4⟩
theorem lC{ps:List Nat}{df:List AV}(e:bindArgs ps df as=some ρ):as.length≤ps.length∧ps.length≤as.length+df.length∧ρ=ps.zip (as++df.drop (as.length+df.length - ps.length)):=by
 exact aw (aB e) fun q e=>⟨bF (ae q).1,bF (ae q).2,(bh e).symm⟩
def uY(A:Around)(d:Nat):Prop:=A.handled=none∧A.depth+2*d+5<recursionLimit∧A.units+12*d+43<cLine
theorem bu.c(R:bu A (d+1)):uY A d:=⟨R.1,by have:=R.2.1;lia,by have:=R.2.2;lia⟩
theorem uY.deeper(R:uY A d)(env:PySem.Env):bu (A.deeper env) d:=by
 refine dJ (R:) fun h1 h2 h3=>?_
 refine⟨h1,?_,?_⟩
 ·show A.depth+1+2*d+4<_
  lia
 ·show A.units+3+12*d+40<_
  lia
theorem Dt{r:Nat}(h1:r≤n)(h2:n≤r+d):n≤r+(d - (r+d - n)):=by
 obtain⟨a,rfl⟩:=Nat.exists_eq_add_of_le h1
 rw [Nat.add_sub_add_left,Nat.sub_sub_self (Nat.le_of_add_le_add_left h2)];exact Nat.le_refl _
def FU(h:Heap)(cs:Bool)(sc:Scope)(a:Addr):Prop:=a=h.objs.size∨(cs=true∧∃n,(cellsFrom (h.objs.size+1) sc.names []).lookup n=some a)
noncomputable def AJ(ns:List Str)(ras ds:List Value):List Value:=ras++ds.drop (ras.length+ds.length - ns.length)
theorem yw(hlim:C.hb.NoLimit)(H:vf C ih d){f:Fn}(hf:P.fs.get k=some f)(O:u4 C k f)(e:(nK P ih k as s).leaf C.ν=some (v,s'))(S:aq C J M s st.heap)(R:uY A d)(z:cm C Z J st.heap)(V:ay C J M st.heap as ras){T:Result→Shared→Prop}(K:KV C Z J M st v s' fun rv s'=>T (.ok (.ret rv)) s'):
  ba (Md C) A (.call (.ref (C.mH k)) ⟨ras,[]⟩) T st:=by
 obtain⟨o,fd,body,cs,ds,kd,O⟩:=O
 refine aC (aI e) fun f' QN e=>?_
 cases bh (hf.symm.trans QN)
 refine aC (aI e) fun ρ hb e=>?_
 refine aH.U4 e fun fl ρ' ag e1 e=>?_
 injection e with e;injection e with e aN;subst e aN;obtain⟨b1,b2,rfl⟩:=lC hb
 have hbase:∀b o,C.hb.get? b=some o→st.heap.get? b=some o:=fun b o e=>(S.base b o e).2
 have Vd:=O.PF J M st.heap S.base
 have dl:=Vd.length
 have vl:=V.length
 refine iU (by have:=R.2.1;lia) (hbase _ _ O.at_) O.data O.co O.gen O.n4 (O.code.imp fun c h=>h.imp fun oc h=>h.imp fun vs h=>h.imp fun t h=>⟨h.1,hbase _ _ h.2.1,h.2.2⟩) ?_
 have hB:BindsTo st fd ⟨ras,[]⟩ ((f.ps.map C.nm).zip (AJ (f.ps.map C.nm) ras ds)):=by
  refine mx O.pos O.args O.vararg O.OC O.kwarg (fun M A E Q hq=>?_) (by rw [List.length_map];lia) (by rw [List.length_map];lia) (by rw [List.length_map];exact O.PI) O.nd
  rcases O.dflt with⟨q1,q2⟩|⟨T,o,n,q1,q2,q3⟩
  ·rw [q1]
   refine PySem.wpAny_bind (PySem.wpAny_pure (PySem.wpAny_pure (hq _ ?_)))
   rw [q2];rfl
  ·rw [q1]
   exact wpAny_seqItems (hbase _ _ q2) q3 (hq _ rfl)
 refine lf (hB _ _ _ _ ?_)
 have hkk:∀x∈(f.ps.map C.nm).zip (AJ (f.ps.map C.nm) ras ds),∃y∈f.ps,x.1=C.nm y:=fun x hx=>by
  have:=(List.of_mem_zip (a:=x.1) (b:=x.2) hx).1
  refine aC (List.mem_map.mp this:) fun y h1 h2=>?_
  exact⟨y,h1,h2.symm⟩
 rw [O.vd];refine lf<|wpAny_newFunctionEnv_cells O.kind (fun x hx=>?_) fun env he aK I=>?_
 ·refine aC (hkk x hx:) fun y h1 h2=>?_
  rw [h2];exact(O.kinds y h1).imp id fun q=>⟨q,du _ _ _ _ q⟩
 ·subst he
  have hlk:=I.toInCall.keep
  obtain⟨h₁,tk,rfl⟩:=I.toInCall.same
  refine⟨(hlim.keeps hbase).keeps hlk,qR ?_⟩
  have hzip:=Vd.drop (ras.length+ds.length - (f.ps.map C.nm).length)
  have hV:ay C J M st.heap (as++f.df.drop (as.length+f.df.length - f.ps.length)) (AJ (f.ps.map C.nm) ras ds):=by
   unfold AJ;rw [vl,dl,←List.length_map (f:=C.nm) (as:=f.ps)]
   exact V.append hzip
  have hnd:(((f.ps.map C.nm).zip (AJ (f.ps.map C.nm) ras ds)).map (·.1)).Nodup:=by
   rw [List.map_fst_zip (by unfold AJ;rw [List.length_append,List.length_drop,List.length_map];exact Dt (vl▸b1) (vl▸dl▸b2))]
   exact O.nd
  have hdead:∀c,st.heap.objs.size≤c→st.heap.get? c=none:=fun c hc=>by
   cases q:st.heap.get? c with
   |none=>rfl
   |some o=>exact absurd (Heap.lt_size q) (Nat.not_lt.mpr hc)
  have hup:∀n c,(cellsFrom (st.heap.objs.size+1) fd.scope.names []).lookup n=some c→st.heap.objs.size<c:=fun n c q=>I.above n c (mem_of_lookup q)
  have hce:=I.cell
  have hns:=I.toInCall.ns
  have odead:∀a,FU st.heap cs fd.scope a→st.heap.get? a=none:=fun a q=>Or.elim q (fun q=>hdead a (Nat.le_of_eq q.symm)) fun q=>q.2.elim fun n q=>hdead a (Nat.le_of_lt (hup n a q))
  have olive:∀a,FU st.heap cs fd.scope a→∃o,h₁.get? a=some o:=fun a q=>Or.elim q (fun q=>by refine mR (hns:) fun o es ep e Y=>?_;exact⟨o,q▸e⟩) fun q=>q.2.elim fun n q=>(hce n a q).imp fun o e=>e.1
  have hA:=aq.uT (Z:=Z) (h₁:=h₁) (own:=FU st.heap cs fd.scope) S hlk
   odead olive
  obtain⟨aD,aF⟩:=hA
  refine H f.body _ s fl ρ' _ e1 kd cs body O.fits Z J _ (FU st.heap cs fd.scope) _ _ _ ⟨⟨O.glob,O.iZ,O.kind,fun Y=>by rw [O.EM];rfl,fun x q=>by
   rw [O.EM]at q;exact q.elim (fun q=>Option.isSome_iff_exists.mp (du _ _ _ _ q)) fun q=>absurd q (O.rB x),(fun x c q=>let⟨o,e,_⟩:=hce x c q;⟨o,e⟩),(fun c q=>⟨(O.lh c q).1,(O.lh c q).2.1,fun x a q0=>by
   rintro(q'|q'|q')
   ·refine dC (S.mlt a q':) fun o e=>?_
    exact aO e (hdead a (Nat.le_of_lt (hup x a q0)))
   ·exact Nat.ne_of_gt (hup x a q0) q'
   ·rw [(O.lh c q).2.2]at q';cases q'.1⟩),fun x w q hm=>?_⟩,?_,?_,.inl rfl,⟨_,hns⟩,?_,fun n c q=>Nat.ne_of_gt (hup n c q),fun Y x y c q q'=>name_of_addr I.apart (mem_of_lookup q) (mem_of_lookup q'),O.kind⟩ aD (R.deeper _) (z.bJ aF) _ _ fun σ' M' h' Ik O4 G S' F' r=>?_
  ·refine lI (oE (nm:=C.nm) hV q:) fun rv V1 h1 h2=>?_
   refine⟨rv,?_,V1.grow aF⟩
   rcases O.kinds x h2 with hk|hk
   ·exact .loc _ hk (.inr (.inl rfl)) hns (Ei hk _ _ hnd h1)
   ·refine dC (Option.isSome_iff_exists.mp (du fd.scope.names (st.heap.objs.size+1) [] (C.nm x) hk):) fun c hc=>?_
    refine aC (hce _ _ hc:) fun oc c1 c2=>?_
    rw [Ej (by show fd.scope.names.lookup (C.nm x)≠_;rw [hk];exact fun q=>by(injection q with q;injection q)) _ _ hnd h1]at c2
    refine .cell c oc (.inl hk) hc ?_ c1 c2
    cases cs with
    |true=>exact .inl (.inr (.inr ⟨rfl,_,hc⟩))
    |false=>
     refine .inr fun q=>q.elim (fun q=>let⟨o,e⟩:=S.mlt c q;aO e (hdead c (Nat.le_of_lt (hup _ c hc)))) fun q=>q.elim (fun q=>?_) fun q=>by cases q.1
     exact absurd q (Nat.ne_of_gt (hup _ c hc))
  ·intro a q
   refine⟨.inr q,fun hz=>?_⟩
   obtain⟨⟨o,e⟩,_⟩:=z a hz
   exact aO e (odead a q)
  ·intro a q
   have hd:=odead a q
   refine⟨olive a q,fun m=>?_,fun p hp q=>?_⟩
   ·refine dC (S.there a m:) fun o e=>?_
    exact aO e hd
   ·obtain⟨⟨ps,a1,a2,a3,a4⟩,a5⟩:=S.tab p hp
    rw [←q]at a2;exact aO a2 hd
  ·intro hcs x hk
   rw [O.EM]at hk;refine dC (Option.isSome_iff_exists.mp (du fd.scope.names (st.heap.objs.size+1) [] x hk):) fun c hc=>?_
   exact⟨c,_,hc,hce _ _ hc,.inr ⟨hcs,_,hc⟩⟩
  ·cases fl with
   |nx=>
    have:O4=.next:=r
    subst this;exact K σ' M' h' Ik .none (aF.trans G) S' .none
   |rt w=>
    obtain⟨rv,rfl,V'⟩:=r
    exact K σ' M' h' Ik rv (aF.trans G) S' V'
theorem yx(hlim:C.hb.NoLimit)(H:vf C ih d){f:Fn}(hf:P.fs.get k=some f)(O:u4 C k f)(e:(nK P ih k as s).leaf C.ν=some (v,s'))(S:aq C J M s st.heap)(R:uY A d)(z:cm C Z J st.heap)(V:ay C J M st.heap as ras)(K:KV C Z J M st v s' Q):
  ab (Md C) A (call (.ref (C.mH k)) ras []) Q E st:=dA (yw hlim H hf O e S R z V K)
end
section
variable{ex:Expr}
theorem rN{f:Value}{Q:Args→Shared→Prop}(h:ab (Md C) A (spliced []) (fun vs s'=>Q ⟨vs,[]⟩ s') E st):ab (Md C) A (evalArgs f true [] []) Q E st:=by
 unfold evalArgs;show ab _ A (spliced []>>=_) Q E st;exact aa (aG h (fun vs s' h'=>aj (aa (af (aa (af (af h')))))) fun Y Y x=>x)
theorem dW{f:Value}{es:List CE}(hf:cY C kd es xs)(pos:Pos){Q:Args→Shared→Prop}(h:ab (Md C) A (spliced (backTo pos (starEach xs env))) (fun vs s'=>Q ⟨vs,[]⟩ s') E st):
  ab (Md C) A (evalArgs f true (backTo pos (starEach xs env)) []) Q E st:=by
 cases es with
 |nil=>
  rw [hf.nl]at h⊢;exact rN h
 |cons a es=>
  refine KL hf.un fun x r q h1 h2 h3=>?_
  rw [q,dU h2]at h⊢;exact evalArgs_plain h
theorem gu{es:List CE}(hf:cY C kd es xs)(pos:Pos):(backTo pos (starEach xs env)).any (·.1)=false:=by
 induction es generalizing xs with
 |nil=>exact hf.nl▸rfl
 |cons a es ih=>exact hf.oU fun x r Y h2 h3=>dU h2▸ih h3
theorem eS{f:Value}{first:List Value}{args:List (Bool×Sem Value)}(hp:args.any (·.1)=false)
  (h:ab (Md C) A (evalArgs f true args []) (fun x ag=>(∀Q E,(∀k,Q k ag)→ab (Md C) A (keeperOf f) Q E ag)∧ab (Md C) A (call f (first++x.pos) x.kw) Q E ag) E st):ab (Md C) A (callWith pos f first args []) Q E st:=by
 unfold callWith;refine aa (aj (aG h (fun x ag h₁=>aa (au ?_)) fun Y Y x=>x))
 have tail:∀{t:Sem Value},ab (Md C) A t Q E ag→ab (Md C) A (t>>=fun r=>holding [r] point>>=fun Y=>pure r) Q E ag:=
  fun ht=>aa (aG ht (fun r aK hr=>aa (aj (gN (af hr)))) fun Y Y x=>x)
 rw [hp];have mk:∀m,ab (Md C) A (callMarked m f (first++x.pos) x.kw) Q E ag:=fun m=>by unfold callMarked;exact vh h₁.2
 refine aa (h₁.1 _ _ fun k=>?_)
 cases k with
 |machine=>exact tail h₁.2
 |frame=>
  show ab (Md C) A (if _ then _ else _) Q E ag;exact fG (fun Y=>tail h₁.2) fun Y=>tail (mk _)
 |boundFrame=>
  show ab (Md C) A (if _ then _ else _) Q E ag;exact fG (fun Y=>tail h₁.2) fun Y=>tail (mk _)
 |caller=>exact tail (cB h₁.2)
theorem JC(H:gk C ih d)(HC:Qm C ih d){f:CE}{es:List CE}(e:(cF P N ih (.call f es) ρ s).leaf C.ν=some (v,s'))(h1:aW C kd f x)(h2:∀o n p,x≠.Attribute o n p)(h3:cY C kd es xs)(F:fm C Z J M kd env ρ st.heap)(S:aq C J M s st.heap)(R:bu A d)(z:cm C Z J st.heap)(K:KV C Z J M st v s' Q):
  ab (Md C) A (eval (.Call x xs [] pos) env) Q E st:=by
  unfold cF at e;refine aH.cL e fun g ag e1 e=>?_
  refine aH.cL e fun vs aK e2 e=>?_
  have q:eval (.Call x xs [] pos) env=(eval x env>>=fun f=>callWith pos f [] (backTo pos (starEach xs env)) []):=by
   cases x<;>first|rfl|exact absurd rfl (h2 _ _ _)
  rw [q];refine aa (H f ρ s g ag e1 kd _ h1 Z J M env A st F S R z _ _ fun aA aP h₁ aU rg aF aD cb=>?_)
  refine eS (gu h3 pos) (dW h3 pos (gh H e2 h3 pos (st:={st with heap:=h₁,toks:=aU}) (F.grow aF) aD R (z.grow aF) fun cy dR br bf rvs bb bT dY=>?_))
  have G:=aF.trans bb
  have c:=HC g vs aK v s' e Z cy dR A {st with heap:=br,toks:=bf} rg rvs bT R (z.grow G) (cb.grow bb) dY
  exact⟨c.1,c.2 _ _ (K.after G)⟩
theorem vr(A:Around)(c:Addr)(rest:List Value)(kw:List (Str×Value)):(A.under (.builtin "type.__call__" ⟨.ref c::rest,kw⟩)).handled=A.handled∧(A.under (.builtin "type.__call__" ⟨.ref c::rest,kw⟩)).depth=A.depth+1∧(A.under (.builtin "type.__call__" ⟨.ref c::rest,kw⟩)).units=A.units+1:=by
 refine⟨rfl,?_,?_⟩
 ·show A.depth+Code.weight _=_
  rfl
 ·show A.units+Code.cUnits _=_
  rfl
theorem zO{f:Fn}(O:u4 C k f)(S:aq C J M s st.heap){Q:Keeper→Shared→Prop}(K:∀k,Q k st):ab (Md C) A (keeperOf (.ref (C.mH k))) Q E st:=by
 obtain⟨o,fd,body,cs,ds,kd,O⟩:=O
 unfold keeperOf;refine aa (lf<|wpAny_load (S.base _ _ O.at_).2 ?_);rw [O.data];exact af (K _)
theorem wg(W:Wd C P){c f:Nat}{ms:List (Nat×Nat)}(hc:P.cs.get c=some (f,ms))(S:aq C J M s st.heap){Q:Keeper→Shared→Prop}(K:∀k,Q k st):ab (Md C) A (keeperOf (.ref (C.dm c))) Q E st:=by
 have Y1:=makes_of (M:=Md C) (OF W S) (W.cls _ _ _ hc).Uv
 refine IA (Y1.obj:) fun oc od cd sl h1 Y=>?_
 unfold keeperOf;refine aa (lf<|wpAny_load h1 ?_);refine aa (lf (Y1.call.here ?_));exact af (K _)
theorem C6(h:IS v=true):v=.none:=by cases v<;>first|rfl|exact Bool.noConfusion h
theorem KQ{hh:Heap}{c:Nat}(S:aq C J M s hh)(Sz:Nat.blt s.n 1000000=true)(Sy:Nat.blt (s.new (.ns [])).2.n 1000000=true):
  ((hh.push emptyDict).push (instObj (C.dm c) hh.objs.size)).get? (hh.objs.size+1)=some (instObj (C.dm c) hh.objs.size)∧aq C (J++[hh.objs.size]++[hh.objs.size+1]) (fun b=>(M b∨b=hh.objs.size)∨b=hh.objs.size+1) ((s.new (.ns [])).2.new (.inst c s.n)).2 ((hh.push emptyDict).push (instObj (C.dm c) hh.objs.size))∧
  aJ Z J M hh (J++[hh.objs.size]++[hh.objs.size+1]) (fun b=>(M b∨b=hh.objs.size)∨b=hh.objs.size+1) ((hh.push emptyDict).push (instObj (C.dm c) hh.objs.size))∧(J++[hh.objs.size]++[hh.objs.size+1])[(s.new (.ns [])).2.n]?=some (hh.objs.size+1)∧True∧True:=by
 have k1:∀b o,hh.get? b=some o→(hh.push emptyDict).get? b=some o:=fun b o e=>Heap.get?_push_of_some _ e
 have k2:∀b o,(hh.push emptyDict).get? b=some o→((hh.push emptyDict).push (instObj (C.dm c) hh.objs.size)).get? b=some o:=fun b o e=>Heap.get?_push_of_some _ e
 refine dJ (S.alloc (Z:=Z) Sz k1 (Heap.bc _) (.ns []) (.ns [] _ [] 0 (Heap.get?_push_size _ rfl) .nil)) fun aD aF OG=>?_
 have hd2:(hh.push emptyDict).get? (hh.objs.size+1)=none:=Heap.size_push (h:=hh) (o:=emptyDict)▸Heap.bc (hh.push emptyDict)
 have g2:((hh.push emptyDict).push (instObj (C.dm c) hh.objs.size)).get? (hh.objs.size+1)=some (instObj (C.dm c) hh.objs.size):=by
  have:=Heap.get?_push_size (hh.push emptyDict) (o:=instObj (C.dm c) hh.objs.size) rfl
  rwa[Heap.size_push]at this
 refine dJ (aD.alloc (Z:=Z) Sy k2 hd2 (.inst c s.n) (.inst c s.n _ hh.objs.size g2 ((List.getElem?_append_left (List.getElem?_eq_some_iff.mp OG).1).trans OG))) fun bT bb Gi=>⟨g2,bT,aF.trans bb,Gi,trivial,trivial⟩
theorem uH(W:Wd C P)(hlim:C.hb.NoLimit)(hfn:∀k f,P.fs.get k=some f→u4 C k f)(H:vf C ih d){ok:Bool}{c:Nat}(e:(xJ P ih ok (.cls c) as s).leaf C.ν=some (v,s'))(S:aq C J M s st.heap)(R:bu A (d+1))(z:cm C Z J st.heap)(V:ay C J M st.heap as ras)(K:KV C Z J M st v s' Q):
  (∀Q E,(∀k,Q k st)→ab (Md C) A (keeperOf (.ref (C.dm c))) Q E st)∧ab (Md C) A (call (.ref (C.dm c)) ras []) Q E st:=by
 refine aC (aI e) fun p hc e=>⟨fun Q E K=>wg W hc S K,?_⟩
 refine aH.cL e fun i ag e1 e=>aH.cL e fun j aK e2 e=>aH.cL e fun w bM e3 e4=>aw (cN e4) fun hw e5=>?_
 obtain⟨Sz,rfl,rfl⟩:=ff e1
 obtain⟨Sy,rfl,rfl⟩:=ff e2
 refine aC (aI e3) fun fn hfs Y=>?_
 rw [C6 hw]at e3;have O:=W.cls _ _ _ hc
 have X:=OF W S
 obtain⟨hh,g,dr,t,os⟩:=st
 refine RQ (KQ (Z:=Z) (c:=c) (hh:=hh) S Sz Sy) fun g2 bT G Gi wy Y=>?_
 refine dA (y4 (makes_of X O.Uv) (looks_findIn X O.UB.1) (fun self=>bind_fn X self O.UB.2) (.inl rfl) ?_)
 refine dJ (vr A (C.dm c) ras []) fun u1 u2 u3=>?_
 refine yw hlim H (k:=p.1) (f:=fn) hfs (hfn _ _ hfs) (ras:=.ref (hh.objs.size+1)::ras) e3 bT ⟨u1.trans R.1,by rw [u2];have:=R.2.1;lia,by rw [u3];have:=R.2.2;lia⟩ (z.grow G) (.cons (.ref _ _ Gi) (V.grow G)) fun σ' M' h' tk rv G' S' V'=>?_
 exact(ao.inv V':rv=.none)▸⟨rfl,K.of e5 σ' M' h' tk _ (G.trans G') S' ((ao.ref _ _ Gi).grow G')⟩
end
section
variable{ex:Expr}
theorem yZ{es:List CE}(hf:cY C kd es xs)(pos:Pos):(backTo pos (starEach xs env)).all (!·.1)=true:=by
 induction es generalizing xs with
 |nil=>exact hf.nl▸rfl
 |cons a es ih=>exact hf.oU fun x r Y h2 h3=>dU h2▸ih h3
theorem zG{es:List CE}{nm:Str}{apos:Pos}(h3:∀id p q,x≠.Call (.Name id p) [] [] q)(hf:cY C kd es xs)(hl:xs.length<30)(hp:(apos.endLine==pos.line)=true)
  (h:ab (Md C) A (eval x env) (fun ov ag=>ab (Md C) A (getMethod ov nm (do return (←importBound x env).getD true)) (fun fx aK=>ab (Md C) A (callWith pos fx.1 fx.2 (backTo pos (starEach xs env)) []) Q E aK) E ag) E st):
  ab (Md C) A (eval (.Call (.Attribute x nm apos) xs [] pos) env) Q E st:=by
 have q:eval (.Call (.Attribute x nm apos) xs [] pos) env=(do
   let ov←attributeBase x nm env (eval x env)
   standAt apos.atName
   methodCall x nm apos pos env ov (xs.length+0) (backTo pos (starEach xs env)) []):=rfl
 rw [q,uR h3];have hm:methodCallForm (xs.length+0) (backTo pos (starEach xs env)) []=true:=by
  unfold methodCallForm;rw [yZ hf pos]
  simpa using hl
 refine aa (aG h (fun ov ag h₁=>aa (au ?_)) fun Y Y x=>x)
 unfold methodCall calleeOf methodCallPos;rw [hm];refine aa (aj (aG (by simpa using h₁) (fun fx aK br=>?_) fun Y Y x=>x))
 simp only[hp,Bool.not_true,Bool.false_or,if_true]
 exact aa (af br)
theorem pN(H:gk C ih d)(HC:Qm C ih d){g:AV}{first:List AV}{rg:Value}{rf:List Value}{es:List CE}(e:((qw ih es ρ s).bind fun(vs,s)=>ih.ca g (first++vs) s).leaf C.ν=some (v,s'))(h3:cY C kd es xs)(F:fm C Z J M kd env ρ st.heap)
  (S:aq C J M s st.heap)(R:bu A d)(z:cm C Z J st.heap)(Vg:ao C J M st.heap g rg)(Vf:ay C J M st.heap first rf)(K:KV C Z J M st v s' Q):ab (Md C) A (callWith pos rg rf (backTo pos (starEach xs env)) []) Q E st:=by
 refine aH.cL e fun vs aK e2 e=>?_
 refine eS (gu h3 pos) (dW h3 pos (gh H e2 h3 pos F S R z fun cy dR br bf rvs bb bT dY=>?_))
 have c:=HC g (first++vs) aK v s' e Z cy dR A {st with heap:=br,toks:=bf} rg (rf++rvs) bT R (z.grow bb) (Vg.grow bb) ((Vf.grow bb).append dY)
 exact⟨c.1,c.2 _ _ (K.after bb)⟩
theorem sW{l:List (Nat×AV)}(inj:∀x y,C.nm x=C.nm y→x=y)(R:cj C J M h l es)(e:az l n=none):shadowIn (some (bK es k)) (C.nm n)=some false:=by
 have:=R.find inj n
 rw [e]at this;show(lookIn (C.nm n) (bK es k)).map (·.isSome)=some false;rw [lookIn_dict R.noRef,show es.find? _=none from this];rfl
end
end
end Mine.Internal
namespace Mine.Internal
open PySem PySem.W PyProof.Rows PySem.SeqAt PySem.Builtin.Str
noncomputable section
variable{Q:Value→Shared→Prop}{h:Heap}{i:Nat}{l vZ:List AV}{vs:List Value}
structure Mt(C:Cx)(N:oZ):Prop where
 append:C.nm N.append="append"
 extend:C.nm N.extend="extend"
 pop:C.nm N.pop="pop"
 split:C.nm N.split="split"
 find:C.nm N.find="find"
 join:C.nm N.join="join"
 get:C.nm N.get="get"
theorem pk{a b:Nat}(h:Nat.beq a b=true):a=b:=aL h
theorem ic(t:Str):aR t.cps.toList=t:=by cases t;simp[aR]
section
variable{C:Cx}{P:Pg}{N:oZ}{ih:Ih}{d:Nat}{ρ:Env}{s s':AS}{v w:AV}{kd:Kd}{Z:Addr→Prop}{J:List Addr}{M:Addr→Prop}{env:PySem.Env}{A:Around}{st:Shared}{ex:Expr}{E:Value→Shared→Prop}
theorem sT:∀(l:List (Str×Tok)),ay C J M h ((l.map (·.1)).map fun t=>AV.str t.cps.toList) (strValues l)
 |[]=>.nil
 |(t,k)::r=>by
  refine .cons (v:=.str t k) ?_ (sT r)
  have q:ao C J M h (.str t.cps.toList) (.str (aR t.cps.toList) k):=ao.str t.cps.toList k
  rwa[ic]at q
theorem fB(f:Array Value→Array Value)(vs ws:List Value)(n:Nat)(h:f vs.toArray=ws.toArray):∃n',Obj.mapSeq f (bZ vs n)=bZ ws n':=by
 refine⟨if(f vs.toArray).size==vs.toArray.size then n else n+1,?_⟩
 show({cls:=.type "list",data:=.seq (f vs.toArray) _}:Obj)=_
 rw [h]
set_option tactic.hygienic true in
theorem ER{x y:List Nat}{t u:Tok}(e:((match Nat.ble 1 y.length with
    |true=>jN x.length (jN (Txt.split ⟨x.toArray⟩ ⟨y.toArray⟩).length (newList s ((Txt.split ⟨x.toArray⟩ ⟨y.toArray⟩).map fun(t:Str)=>AV.str t.cps.toList)))
    |false=>.bad 42).leaf C.ν)=some (v,s'))(S:aq C J M s st.heap)(K:KV C Z J M st v s' Q):ab (Md C) A (call (.builtin "str.split") [.str (aR x) t,.str (aR y) u] []) Q E st:=by
 split at e
 ·rename_i hy
  refine aw (bC e:) fun hx e=>?_
  refine aw (bC e:) fun hn e=>?_
  have hy:((aR y).length==0)=false:=by
   rw [beq_eq_false_iff_ne,jg];have:=bF hy
   lia
  have Sq:(aR x).length≤sizeLine:=by rw [jg];exact bN hx
  have key:∀(l:List (Str×Tok)) tk,l.map (·.1)=Txt.split (aR x) (aR y)→Q (.ref st.heap.objs.size) {st with heap:=st.heap.push (bZ (strValues l) 0),toks:=tk}:=fun l tk hl=>by
   refine gy e S ?_ K tk (fun Y Y e=>Heap.get?_push_of_some _ e) (Heap.bc _) (Heap.get?_push_size _ rfl)
   show ay C J M st.heap ((Txt.split (aR x) (aR y)).map _) _;rw [←hl];exact sT l
  cases h1:(decide ((aR x).length<(aR y).length)||decide (PySem.Builtin.Str.strKind (aR x)<PySem.Builtin.Str.strKind (aR y)))
  ·cases hf:(occurrences (aR x) (aR y) 0 (aR x).length ((aR x).length+1)).isEmpty
   ·have hsp:Txt.split (aR x) (aR y)=partsBetween (aR x) (occurrences (aR x) (aR y) 0 (aR x).length ((aR x).length+1)) (aR y).length:=(if_neg (ne_true_of_eq_false h1)).trans (if_neg (ne_true_of_eq_false hf))
    have WS:(partsBetween (aR x) (occurrences (aR x) (aR y) 0 (aR x).length ((aR x).length+1)) (aR y).length).length≤sizeLine:=by
     rw [←hsp];exact bN hn
    refine lf<|call_meets PySem.F.slot_str_split (typeIs_str _ _ _) PySem.F.entry_str_split (PySem.F.args_str_split_2 _ _) (meets_str_split_sep (aR x) (aR y) t u h1 hy hf Sq WS) ?_
    show wants Q E _ {st with toks:=_,heap:=st.heap.push {cls:=.type "list",data:=.seq (strsFrom st.toks (partsBetween (aR x) (occurrences (aR x) (aR y) 0 (aR x).length ((aR x).length+1)) (aR y).length)).toArray}}
    rw [strsFrom_eq];exact key (numbered st.toks _) _ ((numbered_texts _ _).trans hsp.symm)
   ·exact lf<|call_meets PySem.F.slot_str_split (typeIs_str _ _ _) PySem.F.entry_str_split (PySem.F.args_str_split_2 _ _) (meets_str_split_not_found (aR x) (aR y) t u h1 hy hf)
     (key [(aR x,t)] st.toks ((if_neg (ne_true_of_eq_false h1)).trans (if_pos hf)).symm)
  ·exact lf<|call_meets PySem.F.slot_str_split (typeIs_str _ _ _) PySem.F.entry_str_split (PySem.F.args_str_split_2 _ _) (meets_str_split_cannot_occur (aR x) (aR y) t u h1)
    (key [(aR x,t)] st.toks (if_pos h1).symm)
 ·injection e
theorem l3{α γ:Type}{f:AV→Option α}(g:γ→Value)(T:α→γ→Prop)(hf:∀{a x v},f a=some x→ao C J M h a v→∃c,v=g c∧T x c):∀{xs:List α}{vs:List Value},allOf f l=some xs→ay C J M h l vs→∃m:List (α×γ),xs=m.map (·.1)∧vs=m.map (fun p=>g p.2)∧∀p∈m,T p.1 p.2:=by
 induction l with
 |nil=>exact fun e R=>⟨[],(bh e).symm,R.nl,fun Y m=>nomatch m⟩
 |cons a l ih=>
  exact fun e R=>aC (aM e) fun x hx e=>aC (aM e) fun ys hy e=>jZ R.un fun v vb ev V R=>aC (hf hx V) fun c hc hT=>lI (ih hy R) fun m h1 h2 h3=>
   ⟨(x,c)::m,(bh e).symm.trans (congrArg (x::·) h1),ev.trans (hc▸h2▸rfl),fun p hp=>(cO hp).elim (fun q=>q▸hT) (h3 p)⟩
theorem BQ{xs:List (List Nat)}(e:allOf strOf l=some xs)(R:ay C J M h l vs):∃m:List (Str×Tok),vs=strValues m∧m.map (·.1)=xs.map aR:=
 lI (l3 (γ:=Str×Tok) (fun p=>.str p.1 p.2) (fun x c=>c.1=aR x) (fun e V=>dC (zj e▸V:ao C J M h (.str _) _).str_inv fun t q=>⟨(_,t),q,rfl⟩) e R) fun m h1 h2 h3=>
  ⟨m.map (·.2),h2.trans (by unfold strValues;rw [List.map_map];rfl),by rw [h1,List.map_map,List.map_map];exact List.map_congr_left h3⟩
theorem En{a rv:Value}(S:aq C J M s st.heap)(z:cm C Z J st.heap)(hnf:C.nf≤i)(el:s.get i=some (.list l))(hl:l.length+1≤100000)(Va:ao C J M st.heap (.ref i) a)(Vw:ao C J M st.heap w rv)(K:KV C Z J M st .none (s.upd i (.list (l++[w]))) Q):
  ab (Md C) A (call (.builtin "list.append") [a,rv] []) Q E st:=by
 refine Va.listE S el fun x vs n hx ex Vs=>?_
 have hlen:=Vs.length
 refine lf<|call_meets PySem.F.slot_list_append ⟨_,ex,rfl⟩ PySem.F.entry_list_append (PySem.F.args_list_append_2 _ _) (list_append x vs.toArray n rv (by rw [List.size_toArray,←hlen];exact bN (by lia))) ⟨ex,?_⟩
 have U:=S.update (Z:=Z) (f:=Obj.mapSeq fun q=>q.push rv) (o:=.list (l++[w])) hx hnf z el ex rfl fun G hg=>by
  refine dC (fB (fun q=>q.push rv) vs (vs++[rv]) n (by simp):) fun n' q=>?_
  exact .list _ _ (vs++[rv]) n' (hg.trans (congrArg some q)) ((Vs.append (.cons Vw .nil)).grow G)
 exact K J M _ _ .none U.2 U.1 .none
theorem Em{j:Nat}{m:List AV}{a b:Value}(S:aq C J M s st.heap)(z:cm C Z J st.heap)(hnf:C.nf≤i)(el:s.get i=some (.list l))(em:s.get j=some (.list m))(hl:l.length+m.length≤100000)(Va:ao C J M st.heap (.ref i) a)(Vb:ao C J M st.heap (.ref j) b)(K:KV C Z J M st .none (s.upd i (.list (l++m))) Q):
  ab (Md C) A (call (.builtin "list.extend") [a,b] []) Q E st:=by
 refine Va.listE S el fun x vs n hx ex Vs=>?_
 refine Vb.listE S em fun y ws k hy ey Ws=>?_
 have hlen:=Vs.length
 have Dh:=Ws.length
 have hs:vs.toArray.size+ws.toArray.size≤sizeLine:=by rw [List.size_toArray,List.size_toArray,←hlen,←Dh];exact bN hl
 refine lf<|call_meets PySem.F.slot_list_extend ⟨_,ex,rfl⟩ PySem.F.entry_list_extend (PySem.F.args_list_extend_2 _ _) (AutoSeq1.list_extend_list_list_0 x vs.toArray n y ws.toArray k (extend_door hs) (Nat.le_trans (Nat.le_add_right _ _) hs) (Nat.le_succ_of_le hs)) ⟨ex,ey,?_⟩
 have U:=S.update (Z:=Z) (f:=Obj.mapSeq fun q=>q++ws.toArray) (o:=.list (l++m)) hx hnf z el ex rfl fun G hg=>by
  refine dC (fB (fun q=>q++ws.toArray) vs (vs++ws) n (by simp):) fun n' q=>?_
  exact .list _ _ (vs++ws) n' (hg.trans (congrArg some q)) ((Vs.append Ws).grow G)
 exact K J M _ _ .none U.2 U.1 .none
theorem ay.dropLast(V:ay C J M h l vs):ay C J M h l.dropLast vs.dropLast:=by
 rw [List.dropLast_eq_take,List.dropLast_eq_take,V.length];exact V.take _
theorem ay.last{w:AV}(V:ay C J M h l vs)(e:l.getLast?=some w):∃rv,vs[vs.length - 1]?=some rv∧ao C J M h w rv:=
 V.get (V.length▸List.getLast?_eq_getElem?.symm.trans e)
theorem P1{a:Value}(S:aq C J M s st.heap)(z:cm C Z J st.heap)(hnf:C.nf≤i)(el:s.get i=some (.list l))(hl:l.length≤100000)(hw:l.getLast?=some w)(Va:ao C J M st.heap (.ref i) a)(K:KV C Z J M st w (s.upd i (.list l.dropLast)) Q):
  ab (Md C) A (call (.builtin "list.pop") [a] []) Q E st:=by
 refine Va.listE S el fun x vs n hx ex Vs=>?_
 have hlen:=Vs.length
 refine aC (Vs.last hw:) fun rv h1 h2=>?_
 refine lf<|call_meets PySem.F.slot_list_pop ⟨_,ex,rfl⟩ PySem.F.entry_list_pop (PySem.F.args_list_pop_1 _) (MeetsSeq.list_pop_last x vs.toArray n rv (by simpa using h1) (by rw [List.size_toArray,←hlen];exact bN hl)) ⟨ex,?_⟩
 have U:=S.update (Z:=Z) (f:=Obj.mapSeq fun q=>q.eraseIdxIfInBounds (vs.toArray.size - 1)) (o:=.list l.dropLast) hx hnf z el ex rfl fun G hg=>by
  obtain⟨n',q⟩:=fB (fun q=>q.eraseIdxIfInBounds (vs.toArray.size - 1)) vs vs.dropLast n (by
   rcases List.eq_nil_or_concat vs with rfl|⟨p,y,rfl⟩
   ·rfl
   ·unfold Array.eraseIdxIfInBounds
    simp only[List.concat_eq_append,List.size_toArray,List.length_append,List.length_singleton,Nat.add_sub_cancel,List.dropLast_concat]
    rw [dif_pos (Nat.lt_succ_self _)];apply Array.toList_inj.mp;rw [Array.toList_eraseIdx,List.eraseIdx_append_of_length_le (Nat.le_refl _)];simp)
  exact .list _ _ vs.dropLast n' (hg.trans (congrArg some q)) (Vs.dropLast.grow G)
 exact K J M _ _ rv U.2 U.1 (h2.grow U.2)
end
def ix(C:Cx):Prop:=(∀(A:Around)(st:Shared)(E:Value→Shared→Prop)(a:Array UInt8)(t:Tok)(pl:Sem Bool)(Q:Value×List Value→Shared→Prop),Q (.builtin "bytes.join",[.bytes a t]) st→ab (Md C) A (getMethod (.bytes a t) "join" pl) Q E st)∧
 ∀(A:Around)(st:Shared)(E:Value→Shared→Prop)(t:Tok)(x:Addr)(bs:List (Array UInt8×Tok))(n:Nat)(Q:Value→Shared→Prop),st.heap.get? x=some (bZ (bs.map fun p=>.bytes p.1 p.2) n)→2≤bs.length→(bs.map fun p=>p.1.toList).flatten.length≤100000→bs.length≤100000→
  (∀tk t',Q (.bytes (bs.map fun p=>p.1.toList).flatten.toArray t') {st with toks:=tk})→ab (Md C) A (call (.builtin "bytes.join") [.bytes #[] t,.ref x] []) Q E st
section
variable{C:Cx}{P:Pg}{N:oZ}{ih:Ih}{d:Nat}{ρ:Env}{s s':AS}{v w:AV}{kd:Kd}{Z:Addr→Prop}{J:List Addr}{M:Addr→Prop}{env:PySem.Env}{A:Around}{st:Shared}{ex:Expr}{E:Value→Shared→Prop}
theorem An{xs:List (List IE)}(e:allOf L0 l=some xs)(R:ay C J M h l vs):∃m:List (Array UInt8×Tok),vs=m.map (fun p=>Value.bytes p.1 p.2)∧m.map (fun p=>p.1.toList)=xs.map (fun l=>l.map (cz C.ν))∧∀l∈xs,bq C.ν l:=
 lI (l3 (γ:=Array UInt8×Tok) (fun p=>.bytes p.1 p.2) (fun x c=>c.1.toList=x.map (cz C.ν)∧bq C.ν x) (fun e V=>aw (Ec e▸V:ao C J M h (.bytes _) _).inv fun b q=>dC q fun t q=>⟨(_,t),q,rfl,b⟩) e R) fun m h1 h2 h3=>
  ⟨m.map (·.2),h2.trans (by rw [List.map_map];rfl),by rw [h1,List.map_map,List.map_map];exact List.map_congr_left fun p hp=>(h3 p hp).1,fun l hl=>aC (List.mem_map.mp (h1▸hl):∃p,p∈m∧p.1=l) fun p hp q=>q▸(h3 p hp).2⟩
theorem ao.Fm(t:Str)(k:Tok):ao C J M h (.str t.cps.toList) (.str t k):=by
 have q:ao C J M h (.str t.cps.toList) (.str (aR t.cps.toList) k):=ao.str t.cps.toList k
 rwa[ic]at q
theorem zP{id:String}{Q:Keeper→Shared→Prop}(K:∀k,Q k st):ab (Md C) A (keeperOf (.builtin id)) Q E st:=af (K _)
structure AM(C:Cx)(A:Around)(E:Value→Shared→Prop)(v:AV)(nm:Str)(cK s:AS)(vs:List AV)(w:AV)(s':AS)(id:String):Prop where
 get:∀J M st rv pl(Q:Value×List Value→Shared→Prop),aq C J M cK st.heap→ao C J M st.heap v rv→Q (.builtin id,[rv]) st→ab (Md C) A (getMethod rv nm pl) Q E st
 call:∀Z J M st rv rvs(Q:Value→Shared→Prop),aq C J M s st.heap→cm C Z J st.heap→ao C J M st.heap v rv→ay C J M st.heap vs rvs→KV C Z J M st w s' Q→ab (Md C) A (call (.builtin id) (rv::rvs) []) Q E st
section
variable{cK:AS}{vs:List AV}
theorem A0{x:List Nat}(e:(CK x vs s).leaf C.ν=some (w,s')):AM C A E (.str x) "split" cK s vs w s' "str.split":=by
 obtain⟨a,rfl,e⟩:=ie e
 obtain⟨y,rfl,e⟩:=dB e
 refine⟨fun J M st rv pl Q S V q=>?_,fun Z J M st rv rvs Q S z V Vs K=>?_⟩
 ·revert q
  exact V.gK fun t q=>lf (PySem.GM.split q)
 ·refine V.gK fun t=>?_
  obtain⟨_,rfl,V'⟩:=Vs.one
  refine V'.gK fun u=>?_
  exact ER e S K
theorem F9{x:List Nat}(e:(IM x vs s).leaf C.ν=some (w,s')):AM C A E (.str x) "find" cK s vs w s' "str.find":=by
 obtain⟨a,b,rfl,e⟩:=kN e
 obtain⟨y,rfl,e⟩:=dB e
 obtain⟨i,rfl,e⟩:=aX e
 cases i with
 |c k=>
  injection e with e;injection e with e aN;subst e aN;refine⟨fun J M st rv pl Q S V q=>?_,fun Z J M st rv rvs Q S z V Vs K=>?_⟩
  ·revert q
   exact V.gK fun t q=>lf (PySem.GM.find q)
  ·refine V.gK fun t=>?_
   obtain⟨_,_,rfl,V',W'⟩:=Vs.two
   refine V'.gK fun u=>?_
   refine W'.eK fun u'=>?_
   exact lf<|PySem.SC.find3 (K.now S (.int _ _ _ rfl) _)
 |_=>exact no e
theorem F8{x:List Nat}(e:(IL x vs s).leaf C.ν=some (w,s')):AM C A E (.str x) "join" cK s vs w s' "str.join":=by
 obtain⟨a,rfl,e⟩:=ie e
 obtain⟨i,l,rfl,el,e⟩:=eQ e
 refine aC (aI e:) fun xs hx e=>?_
 rcases dD e with⟨hj,e⟩|⟨_,e⟩
 ·injection e with e;injection e with e aN;subst e aN
  refine⟨fun J M st rv pl Q S V q=>?_,fun Z J M st rv rvs Q S z V Vs K=>?_⟩
  ·revert q
   exact V.gK fun t q=>lf (PySem.GM.join q)
  ·refine V.gK fun t=>?_
   obtain⟨_,rfl,V'⟩:=Vs.one
   refine V'.listE S el fun y vs k hy ey Vl=>?_
   obtain⟨m,rfl,hm⟩:=BQ hx Vl
   refine lf<|PySem.SC.join (l:=m) ⟨_,ey,rfl,k,rfl⟩ hm hj fun t' k'=>?_
   exact K.now S (ao.Fm _ t') _
 ·exact no e
theorem CJ(HJ:ix C){x:List IE}(e:(CM x vs s).leaf C.ν=some (w,s')):AM C A E (.bytes x) "join" cK s vs w s' "bytes.join":=by
 obtain⟨a,rfl,e⟩:=ie e
 obtain⟨i,l,rfl,el,e⟩:=eQ e
 refine aC (aI e) fun xs hx e=>aw (cN e) fun hb e=>aw (bC e) fun c1 e=>aw (bC e) fun c2 e=>?_
 refine⟨fun J M st rv pl Q S V q=>aw V.inv fun Y z=>dC z fun t z=>by rw [z]at q⊢;exact HJ.1 _ _ _ _ _ _ _ q,fun Z J M st rv rvs Q S z V Vs K=>?_⟩
 have WI:x=[]:=List.eq_nil_of_length_eq_zero (aL (ae hb).2)
 refine V.eF fun Y t=>aC Vs.one fun r q V'=>q▸V'.listE S el fun y vs k hy ey Vl=>lI (An hx Vl) fun m q hm hB=>?_
 have hq:(m.map fun p=>p.1.toList).flatten=xs.flatten.map (cz C.ν):=by rw [hm,List.map_flatten]
 have hn:l.length=m.length:=by rw [Vl.length,q,List.length_map]
 rw [q]at ey;rw [WI];refine HJ.2 _ _ _ _ _ m k _ ey (hn▸bF (ae hb).1) (by rw [hq,List.length_map];exact c1) (hn▸c2) fun tk t'=>?_
 rw [hq];exact(K.of e).now S (.bytes _ t' fun e he=>aC (List.mem_flatten.mp he) fun z h1 h2=>hB z h1 e h2) tk
theorem K2{l:List (List Nat×AV)}(e:(Oj l vs s).leaf C.ν=some (w,s')):AM C A E (.eD l) "get" cK s vs w s' "dict.get":=by
 obtain⟨a,d,rfl,e⟩:=kN e
 obtain⟨k,rfl,e⟩:=dB e
 injection e with e;injection e with e aN;subst e aN;refine⟨fun J M st rv pl Q S V q=>?_,fun Z J M st rv rvs Q S z V Vs K=>?_⟩
 ·revert q
  exact V.wR fun a es n ha hs ea Ra q=>lf<|getMethod_builtin (T:="dict") ⟨_,ea,rfl⟩ PySem.F.plainAttrs_dict PySem.F.slot_dict_get PySem.F.type_dict_get (fun a q=>by injection q with q;subst q;exact⟨_,ea,rfl⟩) q
 ·refine V.wR fun a es n ha hs ea Ra=>?_
  obtain⟨_,_,rfl,V',W'⟩:=Vs.two
  refine V'.gK fun u=>?_
  refine lf<|call_meetsIn PySem.F.slot_dict_get ⟨_,ea,rfl⟩ PySem.F.entry_dict_get (PySem.F.args_dict_get_3 _ _ _) (meets_dict_get_default (PySem.strKind C.prog C.w) a (strKind_is _ _ _ _) hs _) ⟨_,rS ea Ra,?_⟩
  have hf:=Ra.find k
  cases q:gG l k with
  |none=>rw [q]at hf K;rw [show es.find? _=none from hf];exact K.now S W' _
  |some w=>rw [q]at hf K;refine aC (hf:) fun en h1 h2=>?_;rw [h1];exact K.now S h2 _
theorem AM.list(jA:cK.get i=some (.list vZ)){id:String}{nm:Str}(slot:Slot "list" nm id)(ty:typeOf (.builtin id)=pure (.type "method_descriptor"))
  (H:∀Z J M st rv rvs(Q:Value→Shared→Prop),aq C J M s st.heap→cm C Z J st.heap→ao C J M st.heap (.ref i) rv→ay C J M st.heap vs rvs→KV C Z J M st w s' Q→ab (Md C) A (PySem.call (.builtin id) (rv::rvs) []) Q E st):AM C A E (.ref i) nm cK s vs w s' id:=
 ⟨fun J M st rv pl Q S V q=>by
  revert q
  exact V.listE S jA fun x vs n hx ex Vs q=>lf<|getMethod_builtin (T:="list") ⟨_,ex,rfl⟩ PySem.F.plainAttrs_list slot ty (fun a q=>by injection q with q;subst q;exact⟨_,ex,rfl⟩) q,H⟩
theorem K4(jA:cK.get i=some (.list vZ))(hnf:C.nf≤i)(el:s.get i=some (.list l))(e:(Oo i l vs s).leaf C.ν=some (w,s')):AM C A E (.ref i) "append" cK s vs w s' "list.append":=by
 obtain⟨a,rfl,e⟩:=ie e
 refine aw (bC e:) fun c1 e=>?_
 injection e with e;injection e with e aN;subst e aN;refine .list jA PySem.F.slot_list_append PySem.F.type_list_append fun Z J M st rv rvs Q S z V Vs K=>?_
 obtain⟨_,rfl,V'⟩:=Vs.one
 exact En S z hnf el c1 V V' K
theorem K3(jA:cK.get i=some (.list vZ))(hnf:C.nf≤i)(el:s.get i=some (.list l))(e:(Ol i l vs s).leaf C.ν=some (w,s')):AM C A E (.ref i) "extend" cK s vs w s' "list.extend":=by
 obtain⟨a,rfl,e⟩:=ie e
 obtain⟨j,m,rfl,em,e⟩:=eQ e
 refine aw (bC e:) fun c1 e=>?_
 injection e with e;injection e with e aN;subst e aN;refine .list jA PySem.F.slot_list_extend PySem.F.type_list_extend fun Z J M st rv rvs Q S z V Vs K=>?_
 obtain⟨_,rfl,V'⟩:=Vs.one
 exact Em S z hnf el em c1 V V' K
theorem KZ(jA:cK.get i=some (.list vZ))(hnf:C.nf≤i)(el:s.get i=some (.list l))(e:(Oh i l vs s).leaf C.ν=some (w,s')):AM C A E (.ref i) "pop" cK s vs w s' "list.pop":=by
 cases vs with
 |nil=>
  refine aC (aI e:) fun u hu e=>?_
  refine aw (bC e:) fun c1 e=>?_
  injection e with e;injection e with e aN;subst e aN;refine .list jA PySem.F.slot_list_pop PySem.F.type_list_pop fun Z J M st rv rvs Q S z V Vs K=>?_
  subst Vs;exact P1 S z hnf el c1 hu V K
 |cons _ _=>exact no e
theorem uM{a:AV}{o:Option AV}{m:Option Nat}{g:AV}{first:List AV}(e:jO a o m=.own g first):(first=[]∧o=some g∧m=none∧jk g=true)∨∃k,g=.fn k∧first=[a]∧o=none∧m=some k:=by
 cases o with
 |none=>cases m with
  |none=>injection e
  |some k=>(injection e with e sF;subst e sF);exact .inr ⟨k,rfl,rfl,rfl,rfl⟩
 |some x=>cases m with
  |some _=>injection e
  |none=>
   unfold jO at e
   dsimp only at e
   cases q:jk x with
   |true=>rw [q]at e;injection e with e sF;subst e sF;exact .inl ⟨rfl,rfl,rfl,q⟩
   |false=>rw [q]at e;injection e
theorem rT{a:AV}{o:Option AV}{m:Option Nat}(e:jO a o m=.kind):False:=by
 cases o with
 |none=>cases m<;>injection e
 |some x=>cases m with
  |some _=>injection e
  |none=>
   unfold jO at e
   dsimp only at e
   cases q:jk x<;>(rw [q]at e;injection e)
theorem mv{n:Nat}{c:Callee}(e:lz P cK v n=c):(∃q p,instOf cK v=some q∧P.cs.get q.1=some p∧jO v (az q.2.2 n) (gA p.2 n)=c)∨(∃k,c=.no k)∨(∃l,listOf cK v=some l)∧c=.kind:=by
 unfold lz at e;cases q:instOf cK v with
 |some q'=>
  rw [q]at e
  dsimp only[yH]at e
  cases z:P.cs.get q'.1 with
  |none=>rw [z]at e;exact .inr (.inl ⟨_,e.symm⟩)
  |some p=>rw [z]at e;exact .inl ⟨q',p,rfl,z,e⟩
 |none=>
  rw [q]at e
  dsimp only at e
  cases z:listOf cK v with
  |none=>rw [z]at e;exact .inr (.inl ⟨_,e.symm⟩)
  |some l=>rw [z]at e;exact .inr (.inr ⟨⟨l,rfl⟩,e.symm⟩)
theorem uL{n:Nat}(hk:callee P cK (.ref i) n=.kind):∃vZ,cK.get i=some (.list vZ):=by
 have hk:lz P cK (.ref i) n=.kind:=hk
 rcases mv hk with⟨_,_,_,_,h⟩|⟨k,h⟩|⟨⟨l,h⟩,_⟩
 ·exact(rT h).elim
 ·injection h
 ·refine aC (qh h:) fun j q h=>?_
  injection q with q;subst q;exact⟨l,h⟩
set_option tactic.hygienic true in
theorem K0(W:Mt C N)(Wd:Wd C P)(HJ:ix C){n:Nat}(hk:callee P cK v n=.kind)(e:(x8 P N v n vs s).leaf C.ν=some (w,s')):∃id:String,AM C A E v (C.nm n) cK s vs w s' id:=by
 have at':∀{k:Nat}{nm:Str}{id:String},Nat.beq n k=true→C.nm k=nm→AM C A E v nm cK s vs w s' id→∃id:String,AM C A E v (C.nm n) cK s vs w s' id:=fun h q H=>⟨_,by rw [pk h,q];exact H⟩
 cases v with
 |str x=>
  rcases dD e with⟨h,e⟩|⟨_,e⟩
  ·exact at' h W.split (A0 e)
  rcases dD e with⟨h,e⟩|⟨_,e⟩
  ·exact at' h W.find (F9 e)
  rcases dD e with⟨h,e⟩|⟨_,e⟩
  ·exact at' h W.join (F8 e)
  exact no e
 |bytes x=>
  rcases dD e with⟨h,e⟩|⟨_,e⟩
  ·exact at' h W.join (CJ HJ e)
  exact no e
 |eD l=>
  rcases dD e with⟨h,e⟩|⟨_,e⟩
  ·exact at' h W.get (K2 e)
  exact no e
 |ref i=>
  refine dC (uL hk:) fun vZ jA=>?_
  unfold x8 at e
  dsimp only at e
  split at e
  ·rename_i l el
   rcases dD e with⟨hnf,e⟩|⟨_,e⟩
   ·have hnf:C.nf≤i:=by rw [←Wd.nf];exact bF hnf
    rcases dD e with⟨h,e⟩|⟨_,e⟩
    ·exact at' h W.append (K4 jA hnf el e)
    rcases dD e with⟨h,e⟩|⟨_,e⟩
    ·exact at' h W.extend (K3 jA hnf el e)
    rcases dD e with⟨h,e⟩|⟨_,e⟩
    ·exact at' h W.pop (KZ jA hnf el e)
    exact no e
   ·exact no e
  ·exact no e
 |_=>exact no e
end
end
end
end Mine.Internal
namespace Mine.Internal
open PySem PySem.W PyProof.Rows PySem.SeqAt
noncomputable section
variable{A:Around}{C:Cx}{E:Value→Shared→Prop}{M M' M₀ T Z Z' own:Addr→Prop}{N:oZ}{P:Pg}{Q:Flow→Shared→Prop}{a:Addr}{b:List CS}{cs flat:Bool}{d k kind n:Nat}{elt:CE}{env:PySem.Env}{ex xe xi xt:Expr}{f:Fl}{h h':Heap}{ifs:List CE}{ih:Ih}{kd:Kd}{ks:List (List Nat)}{l:List AV}{m:Str→Option Value}{p pos:Pos}{ras:List Value}{rv:Value}{s s':AS}{sc:Scope}{src v w:AV}{st:Shared}{tg:List Nat}{x:Stmt}{xs:List Expr}{ys:List Stmt}{ρ ρ':Env}{J σ' dS:List Addr}
section
theorem w8{g:AV}{first:List AV}(e:callee P s v n=.own g first):∃c dd l f ms,instOf s v=some (c,dd,l)∧P.cs.get c=some (f,ms)∧
  ((first=[]∧az l n=some g∧gA ms n=none∧jk g=true)∨∃k,g=.fn k∧first=[v]∧az l n=none∧gA ms n=some k):=by
 have key:lz P s v n=.own g first:=by
  cases v<;>first|exact e|injection e
 rcases mv key with⟨q,p,h1,h2,h⟩|⟨k,h⟩|⟨_,h⟩
 ·exact⟨_,_,_,_,_,h1,h2,uM h⟩
 ·injection h
 ·injection h
theorem Kj(W:Wd C P)(WN:Mt C N)(HJ:ix C)(H:gk C ih d)(HC:Qm C ih d){o:CE}{es:List CE}{Q:Value→Shared→Prop}(e:(cF P N ih (.bG o n es) ρ s).leaf C.ν=some (v,s')){x1:Expr}{sN:Str}{apos:Pos}(h1:sN=C.nm n)(h2:n∈C.attrs)(h3:∀id p q,x1≠.Call (.Name id p) [] [] q)(h4:aW C kd o x1)(h5:cY C kd es xs)(h6:xs.length<30)(h7:(apos.endLine==pos.line)=true)(F:fm C Z J M kd env ρ st.heap)(S:aq C J M s st.heap)(R:bu A d)(z:cm C Z J st.heap)(K:KV C Z J M st v s' Q):
  ab (Md C) A (eval (.Call (.Attribute x1 sN apos) xs [] pos) env) Q E st:=by
  subst h1;unfold cF at e;refine aH.cL e fun av ag e1 e=>?_
  refine zG h3 h5 h6 h7 (H _ ρ s av ag e1 kd _ h4 Z J M env A st F S R z _ _ fun aA aP h₁ aU rv aF aD cb=>?_)
  have e:(match callee P ag av n with
   |.own g first=>(qw ih es ρ ag).bind fun(vs,s)=>ih.ca g (first++vs) s
   |.kind=>(qw ih es ρ ag).bind fun(vs,s)=>x8 P N av n vs s
   |.no k=>.bad k).leaf C.ν=some (v,s'):=e
  cases hq:callee P ag av n with
  |own g first=>
   rw [hq]at e;refine Wc (w8 hq:) fun c dd l f ms hi hc hh=>?_
   have O:=W.cls _ _ _ hc
   have X:=OF (st:={st with heap:=h₁,toks:=aU}) W aD
   rcases hh with⟨rfl,hg,hm,hp⟩|⟨k,rfl,rfl,hg,hm⟩
   ·obtain⟨x,dx,lu,k,hx,i1,i2,i3,i4,i5⟩:=instOf_inv (st:={st with heap:=h₁,toks:=aU}) aD cb hi
    subst hx;refine lf (method_usual X (inst_at i1 i4) O.ga O.gt (O.own n h2 hm) rfl ?_);refine uf W (Z:=Z) (st:={st with heap:=h₁,toks:=aU}) aD cb hi hc h2 hm hg hp fun cy dR br bf rg bb bT dY=>?_
    have G:=aF.trans bb
    exact pN (st:={st with heap:=br,toks:=bf}) H HC e h5 (F.grow G) bT R (z.grow G) dY .nil (K.after G)
   ·obtain⟨x,dx,lu,k',hx,i1,i2,i3,i4,i5⟩:=instOf_inv (st:={st with heap:=h₁,toks:=aU}) aD cb hi
    subst hx;obtain⟨m1,m2⟩:=O.Wr n k hm
    refine lf<|method_fn X (inst_at i1 i4) O.ga O.gt m1 m2 (sW W.inj i5 hg) ?_
    exact pN (st:={st with heap:=h₁,toks:=aU}) H HC e h5 (F.grow aF) aD R (z.grow aF) (.fn k) (.cons cb .nil) (K.after aF)
  |kind=>
   rw [hq]at e;refine aH.cL e fun vs aK e2 e=>?_
   obtain⟨id,m1,m2⟩:=K0 WN W HJ hq e
   refine m1 _ _ {st with heap:=h₁,toks:=aU} _ _ _ aD cb ?_
   refine eS (gu h5 _) (dW h5 _ (gh H e2 h5 _ (st:={st with heap:=h₁,toks:=aU}) (F.grow aF) aD R (z.grow aF) fun cy dR br bf rvs bb bT dY=>?_))
   have G:=aF.trans bb
   exact⟨fun Q E K=>zP K,m2 _ _ _ {st with heap:=br,toks:=bf} _ _ _ bT (z.grow G) (cb.grow bb) dY (K.after G)⟩
  |no k=>rw [hq]at e;exact no e
end
section
def KS(C:Cx)(Z:Addr→Prop)(J:List Addr)(M own:Addr→Prop)(kd:Kd)(cs:Bool)(env:PySem.Env)(st:Shared)(f:Env→Option Env)(s:AS)(Q:Unit→Shared→Prop):Prop:=
 ∀h' tk,aJ Z J M st.heap J M h'→aq C J M s h'→(∀Z₀ gQ b7,f gQ=some b7→di C Z₀ J M own kd cs env gQ st.heap→di C Z₀ J M own kd cs env b7 h')→Q () {st with heap:=h',toks:=tk}
theorem BS(h:pK C kd cs tg xs):(assignEach xs env).length=tg.length∧(assignEach xs env).findIdx? (·.1)=none:=by
 refine h.ind ⟨rfl,rfl⟩ fun Y sN Y Y Y h1 h2 h3 ih=>?_
 ·refine⟨by rw [List.length_cons,←ih.1];rfl,?_⟩
  show List.findIdx? _ ((false,_)::_)=none;rw [List.findIdx?_cons,ih.2];rfl
theorem Fo(inj:∀x y,C.nm x=C.nm y→x=y)(h:pK C kd cs tg xs):∀{l:List AV}{vs:List Value}{ρ:Env}{st:Shared}{Q:Unit→Shared→Prop},tg.length=l.length→ay C J M st.heap l vs→di C Z J M own kd cs env ρ st.heap→aq C J M s st.heap→
  KS C Z J M own kd cs env st (fun ρ=>some ((tg.zip l).foldl (fun ρ p=>bU ρ p.1 p.2) ρ)) s Q→ab (Md C) A (assignInOrder ((assignEach xs env).map (·.2)) vs) Q E st:=by
 refine fun{l}{vs}{ρ}{st}{Q}=>cw.ind (P:=fun tg xs=>∀(l:List AV)(vs:List Value)(ρ:Env)(st:Shared)(Q:Unit→Shared→Prop),tg.length=l.length→ay C J M st.heap l vs→di C Z J M own kd cs env ρ st.heap→aq C J M s st.heap→
  KS C Z J M own kd cs env st (fun ρ=>some ((tg.zip l).foldl (fun ρ p=>bU ρ p.1 p.2) ρ)) s Q→ab (Md C) A (assignInOrder ((assignEach xs env).map (·.2)) vs) Q E st) h ?_ ?_ l vs ρ st Q
 ·intro l vs ρ st Q hl V F S K
  cases l with
  |nil=>exact V.nl▸lf (assignInOrder_nil (K _ st.toks (aJ.refl _ _ _ _) S fun Y Y Y q F=>by injection q with q;subst q;exact F))
  |cons a r=>injection hl
 ·intro x sN pos tg xs h1 h2 h3 ih l vs ρ st Q hl V F S K
  cases l with
  |nil=>injection hl
  |cons a l=>
   subst h1;refine V.oU fun v r V r=>assignInOrder_cons (dw (gq inj h2 F S V fun h' tk G S' F'=>?_))
   refine ih _ _ _ {st with heap:=h',toks:=tk} _ (by simpa using hl) (r.grow G) (F' _ _ F) S' fun qk Ik G' uX Qz=>?_
   exact K qk Ik (G.trans G') uX fun Z₀ gQ b7 q xn=>Qz Z₀ _ _ q (F' Z₀ gQ xn)
theorem lB(h:Nat.beq tg.length l.length=true):iu tg false (.t l) ρ=some ((tg.zip l).foldl (fun ρ p=>bU ρ p.1 p.2) ρ):=by
 show ck (Nat.beq tg.length l.length) _=_;rw [h];rfl
theorem qF(e:iu tg false v ρ=some ρ'):∃l,v=.t l∧Nat.beq tg.length l.length=true∧ρ'=(tg.zip l).foldl (fun ρ p=>bU ρ p.1 p.2) ρ:=by
 cases v with
 |t l=>
  refine aw (aB e:) fun h e=>?_
  injection e with e;subst e;exact⟨l,rfl,h,rfl⟩
 |_=>exact no e
theorem Aw(e:iu tg true v ρ=some ρ'):∃x,tg=[x]∧ρ'=bU ρ x v:=by
 cases tg with
 |nil=>exact no e
 |cons x r=>cases r with
  |nil=>(injection e with e;subst e);exact⟨x,rfl,rfl⟩
  |cons _ _=>exact no e
theorem q8(inj:∀x y,C.nm x=C.nm y→x=y)(h:mJ C kd cs tg flat xt){Q:Unit→Shared→Prop}(hh:A.handled=none)(e:iu tg flat v ρ=some ρ')(V:ao C J M st.heap v rv)(F:di C Z J M own kd cs env ρ st.heap)(S:aq C J M s st.heap)
  (K:KS C Z J M own kd cs env st (iu tg flat v) s Q):ab (Md C) A (assign xt env rv) Q E st:=by
 cases flat with
 |true=>
  refine oW h.NW fun y sN pos q1 q2 h1 h2=>?_
  rw [q1]at e K;rw [h1]at q2 h2;rw [q2];injection e with e;subst e;exact dw (gq inj h2 F S V fun h' tk G S' F'=>K h' tk G S' fun Z₀ gQ b7 q xn=>by injection q with q;subst q;exact F' Z₀ gQ xn)
 |false=>
  refine mR h.CI fun xs Y Y q h1=>?_
  rw [q];obtain⟨l,rfl,hlb,rfl⟩:=qF e
  have hl:=pk hlb
  refine V.kO fun a vs n ha ea Va=>?_
  have ht:IsTup st.heap a vs.toArray:=⟨_,ea,rfl,n,rfl⟩
  have hlen:=Va.length
  refine aw (BS (env:=env) h1:) fun l1 l2=>?_
  refine gn hh ht (by rw [l1,hl,hlen,List.size_toArray]) l2 fun h' he=>?_
  have hk:∀b o,st.heap.get? b=some o→h'.get? b=some o:=fun b o e=>he b o (Nat.ne_of_lt (Heap.lt_size e)) e
  rw [List.toList_toArray];refine Fo (st:={st with heap:=h'}) inj h1 hl (Va.grow (aJ.heap Z J M hk)) (F.grow (aJ.heap _ J M hk)) (S.heap hk) fun qk Ik G' uX Qz=>?_
  exact K qk Ik ((aJ.heap Z J M hk).trans G') uX fun Z₀ gQ b7 q xn=>Qz Z₀ gQ b7 ((lB hlb).symm.trans q) (xn.grow (aJ.heap _ J M hk))
structure jG(C:Cx)(kind:Nat)(src:AV)(I:Addr)(T:Addr→Prop)(St:List Addr→(Addr→Prop)→Nat→Heap→Prop):Prop where
 keep:∀{Z:Addr→Prop}{J:List Addr}{M:Addr→Prop}{h:Heap}{σ':List Addr}{M':Addr→Prop}{h':Heap}{k:Nat},(∀a,T a→Z a)→aJ Z J M h σ' M' h'→St J M k h→St σ' M' k h'
 self:∀{J:List Addr}{M:Addr→Prop}{k:Nat}{A:Around}{st:Shared}{Q E:Value→Shared→Prop},A.handled=none→St J M k st.heap→Q (.ref I) st→ab (Md C) A (pyIter (.ref I)) Q E st
 next:∀{Z:Addr→Prop}{J:List Addr}{M:Addr→Prop}{s:AS}{st:Shared}{k:Nat}{A:Around}{E:Value→Shared→Prop}{r:Option AV}{Q:Option Value→Shared→Prop},A.handled=none→aq C J M s st.heap→(∀a,T a→M a∧¬Z a∧a∉J∧∀p∈C.tabs,a≠p.2)→St J M k st.heap→(iN s kind src k).leaf C.ν=some r→
  (r=none→∀h' tk,(∀b o,¬T b→st.heap.get? b=some o→h'.get? b=some o)→Q none {st with heap:=h',toks:=tk})→
  (∀v,r=some v→∀h' tk rv,aJ Z J M st.heap J M h'→aq C J M s h'→ao C J M h' v rv→
   (∀(target:Expr)(A:Around)(Q:Unit→Shared→Prop)(E:Value→Shared→Prop),(kind=0∨∃xs k pos,target=.Tuple xs k pos)→(∀qk,aJ Z J M h' J M qk→aq C J M s qk→St J M (k+1) qk→Q () {st with heap:=qk,toks:=tk})→ab (Md C) A (letOwnedTupleGo target (.ref I) rv) Q E {st with heap:=h',toks:=tk})→
   Q (some rv) {st with heap:=h',toks:=tk})→
  ab (Md C) A (pyNext (.ref I)) Q E st
def Made(C:Cx)(kind:Nat)(src:AV)(s:AS)(J:List Addr)(M:Addr→Prop)(st:Shared)(A:Around)(t:Sem Value):Prop:=∀(Q E:Value→Shared→Prop),
 (∀I T St h' tk,jG C kind src I T St→T I→(∀a,T a→st.heap.get? a=none∧∃o,h'.get? a=some o)→(∀b o,st.heap.get? b=some o→h'.get? b=some o)→(∀aP:Addr→Prop,(∀a,aP a→M a∨st.heap.get? a=none)→(∀a,M a→aP a)→aq C J aP s h'→St J aP 0 h')→Q (.ref I) {st with heap:=h',toks:=tk})→
 ab (Md C) A t Q E st
def iK(C:Cx):Prop:=∀(src:AV)(rv:Value)(s:AS)(J:List Addr)(M:Addr→Prop)(st:Shared)(A:Around),aq C J M s st.heap→ao C J M st.heap src rv→(∃r,(iN s 0 src 0).leaf C.ν=some r)→Made C 0 src s J M st A (pyIter rv)
def m5(C:Cx):Prop:=∀(src:AV)(rv:Value)(s:AS)(J:List Addr)(M:Addr→Prop)(st:Shared)(A:Around),A.handled=none→A.units+20<cLine→aq C J M s st.heap→ao C J M st.heap src rv→(∃r,(iN s 1 src 0).leaf C.ν=some r)→Made C 1 src s J M st A (call (.type "enumerate") [rv] [])
def r8(C:Cx):Prop:=∀(x y:AV)(rx ry:Value)(s:AS)(J:List Addr)(M:Addr→Prop)(st:Shared)(A:Around),A.handled=none→A.units+20<cLine→aq C J M s st.heap→ao C J M st.heap x rx→ao C J M st.heap y ry→(∃r,(iN s 2 (.t [x,y]) 0).leaf C.ν=some r)→Made C 2 (.t [x,y]) s J M st A (call (.type "zip") [rx,ry] [])
end
set_option tactic.hygienic true in
theorem kz:∀(l:List (Str×NameKind))(acc:List (Str×Addr)),(∀y∈l,y.2=.free→∃c,env.cells.lookup y.1=some c)→(∀x c,acc.lookup x=some c→env.cells.lookup x=some c)→
  ∃cl,(forIn l acc fun x r=>(if(x.2==NameKind.free)=true then(do let a←cellOf env x.1;pure (ForInStep.yield ((x.1,a)::r)))else pure (ForInStep.yield r)):Sem (List (Str×Addr)))=pure cl∧(∀x c,cl.lookup x=some c→env.cells.lookup x=some c)∧(∀y∈l,y.2=.free→(cl.lookup y.1).isSome=true)∧(∀x,(acc.lookup x).isSome=true→(cl.lookup x).isSome=true)∧(∀x,(cl.lookup x).isSome=true→(acc.lookup x).isSome=true∨∃y∈l,y.1=x∧y.2=.free)
 |[],acc,_,ha=>⟨acc,rfl,ha,(fun Y m=>nomatch m),(fun Y h=>h),fun Y h=>.inl h⟩
 |(n,k)::r,acc,hl,ha=>by
  by_cases hk:k=.free
  ·subst hk
   obtain⟨c,hc⟩:=hl (n,.free) bW rfl
   obtain⟨cl,h1,h2,h3,h4,h5⟩:=kz r ((n,c)::acc) (fun y m=>hl y (cq _ m)) (fun x c' e=>by
    rw [List.lookup_cons]at e;split at e
    ·rename_i q;injection e with e;subst e;rw [beq_iff_eq.mp q];exact hc
    ·exact ha x c' e)
   refine⟨cl,?_,h2,fun y m hy=>?_,fun x h=>h4 x ?_,fun x h=>?_⟩
   ·have hq:(cellOf env n:Sem Addr)=pure c:=by unfold cellOf;rw [hc]
    have hb:(NameKind.free==NameKind.free)=true:=rfl
    rw [List.forIn_cons];simp only[hb,if_true,hq,pure_bind];exact h1
   ·rcases cO m with rfl|m
    ·exact h4 _ (by rw [List.lookup_cons];simp)
    ·exact h3 y m hy
   ·rw [List.lookup_cons]
    split
    ·rfl
    ·exact h
   ·rcases h5 x h with q|⟨y,m,q⟩
    ·rw [List.lookup_cons]at q
     split at q
     ·rename_i hx;exact .inr ⟨(n,.free),bW,(beq_iff_eq.mp hx).symm,rfl⟩
     ·exact .inl q
    ·exact .inr ⟨y,cq _ m,q⟩
  ·refine QI (kz r acc (fun y m=>hl y (cq _ m)) ha:) fun cl h1 h2 h3 h4 h5=>?_
   refine⟨cl,?_,h2,fun y m hy=>?_,h4,fun x h=>(h5 x h).imp id fun⟨y,m,q⟩=>⟨y,cq _ m,q⟩⟩
   ·have:(k==NameKind.free)=false:=beq_eq_false_iff_ne.mpr hk
    rw [List.forIn_cons];simp only[this,Bool.false_eq_true,if_false,pure_bind];exact h1
   ·rcases cO m with rfl|m
    ·exact absurd hy hk
    ·exact h3 y m hy
theorem mu{scope:Scope}(hl:∀y∈scope.names,y.2=.free→∃c,env.cells.lookup y.1=some c):∃cl,closureFor scope env=pure cl∧(∀x c,cl.lookup x=some c→env.cells.lookup x=some c)∧(∀y∈scope.names,y.2=.free→(cl.lookup y.1).isSome=true)∧(∀x,(cl.lookup x).isSome=true→∃y∈scope.names,y.1=x∧y.2=.free):=by
 refine QI (kz scope.names [] hl (fun x c e=>by simp at e):) fun cl h1 h2 h3 Y h5=>?_
 refine⟨cl,?_,h2,h3,fun x h=>(h5 x h).elim (fun q=>by simp at q) id⟩
 unfold closureFor;refine Eq.trans (congrArg (·>>=fun r=>pure r) ?_) (pure_bind cl _)
 refine Eq.trans ?_ h1
 rfl
theorem iO{f:Str×NameKind→NameKind}:∀(l:List (Str×NameKind))(x:Str),(l.map fun p=>(p.1,f p)).lookup x=(l.find? fun p=>x==p.1).map f
 |[],x=>rfl
 |(n,k)::r,x=>by
  rw [List.map_cons,List.lookup_cons,List.find?_cons];cases q:x==n with
  |true=>rfl
  |false=>exact iO r x
theorem jC(kd:Kd)(sc:Scope)(x:Str):(cC kd sc).k x=(sc.names.find? fun p=>x==p.1).map fun p=>if(p.2==NameKind.free&&kd.k p.1==some NameKind.cell)=true then NameKind.cell else p.2:=by
 rw [←iO];show List.lookup x _=List.lookup x _
 congr 1
 refine List.map_congr_left fun p Y=>?_
 split<;>rfl
theorem lT:∀(l:List (Str×NameKind))(x:Str),l.lookup x=(l.find? fun p=>x==p.1).map (·.2)
 |[],x=>rfl
 |(n,k)::r,x=>by
  rw [List.lookup_cons,List.find?_cons];cases q:x==n with
  |true=>rfl
  |false=>exact lT r x
noncomputable def pG(tg:List Nat):Env→Env
 |[]=>[]
 |p::r=>if p.1∈tg then pG tg r else p::pG tg r
set_option tactic.hygienic true in
theorem dk(tg:List Nat)(y:Nat):∀ρ:Env,az (pG tg ρ) y=if y∈tg then none else az ρ y
 |[]=>by simp[pG,az]
 |p::r=>by
  unfold pG;split
  ·rename_i hp
   rw [dk tg y r];split
   ·rfl
   ·rename_i hy
    have:Nat.beq p.1 y=false:=by cases q:Nat.beq p.1 y with|false=>rfl|true=>exact absurd (pk q▸hp) hy
    conv=>rhs;unfold az
    rw [this]
  ·rename_i hp
   unfold az;cases q:Nat.beq p.1 y with
   |true=>rw [if_neg (pk q▸hp)]
   |false=>exact dk tg y r
set_option tactic.hygienic true in
theorem qn:∀(tg:List Nat)(l:List AV)(ρ ρ':Env),tg.length=l.length→(∀y,y∉tg→az ρ y=az ρ' y)→∀y,az ((tg.zip l).foldl (fun ρ p=>bU ρ p.1 p.2) ρ) y=az ((tg.zip l).foldl (fun ρ p=>bU ρ p.1 p.2) ρ') y
 |[],l,ρ,ρ',_,h,y=>h y (by simp)
 |t::tg,[],ρ,ρ',hl,_,_=>by simp at hl
 |t::tg,a::l,ρ,ρ',hl,h,y=>by
  rw [List.zip_cons_cons,List.foldl_cons,List.foldl_cons];refine qn tg l _ _ (by simpa using hl) (fun z hz=>?_) y
  rw [cX,cX];split
  ·rfl
  ·rename_i q;exact h z (by simp[q,hz])
theorem qm:∀(tg:List Nat)(l:List AV)(ρ:Env)(y:Nat),y∉tg→az ((tg.zip l).foldl (fun ρ p=>bU ρ p.1 p.2) ρ) y=az ρ y
 |[],_,_,_,_=>rfl
 |_::_,[],_,_,_=>rfl
 |t::tg,a::l,ρ,y,h=>by
  rw [List.zip_cons_cons,List.foldl_cons,qm tg l _ y (fun q=>h (cq _ q)),cX]
  exact if_neg fun q=>h (by rw [q];exact bW)
set_option tactic.hygienic true in
theorem Ax(e:iu tg flat v ρ=some ρ'):∃b7,iu tg flat v (pG tg ρ)=some b7∧(∀y,az ρ' y=az b7 y)∧∀y w,az (pG tg ρ) y=some w→az b7 y=some w:=by
 cases flat with
 |true=>
  obtain⟨x,rfl,rfl⟩:=Aw e
  refine⟨_,rfl,fun y=>?_,fun y w q=>?_⟩
  ·rw [cX,cX]
   split
   ·rfl
   ·rename_i hy;rw [dk,if_neg (by simpa using hy)]
  ·rw [dk]at q
   split at q
   ·injection q
   ·rename_i hy
    rw [cX,if_neg (by simpa using hy),dk,if_neg hy];exact q
 |false=>
  obtain⟨l,rfl,hl,rfl⟩:=qF e
  refine⟨_,lB hl,fun y=>qn _ _ _ _ (pk hl) (fun y hy=>by rw [dk,if_neg hy]) y,fun y w q=>?_⟩
  rw [dk]at q;split at q
  ·injection q
  ·rename_i hy
   rw [qm _ _ _ _ hy,dk,if_neg hy];exact q
section
theorem fm.sub(F:fm C Z J M kd env ρ h)(hs:∀y w,az ρ' y=some w→az ρ y=some w):fm C Z J M kd env ρ' h:=
 ⟨F.glob,F.iZ,F.kind,F.kinds,F.D5,F.w5,F.code,fun x v e k=>F.vars x v (hs x v e) k⟩
theorem di.sub(F:di C Z J M own kd cs env ρ h)(hs:∀y w,az ρ' y=some w→az ρ y=some w):di C Z J M own kd cs env ρ' h:=
 ⟨F.f.sub hs,F.eO,F.gw,F.lo,F.ns,F.ce,F.lc,F.ap,F.fY⟩
theorem dI.more{x:Str}(R:dI Z M env h x rv)(hz:∀a,Z a→Z' a):dI Z' M env h x rv:=by
 cases R with
 |loc m a b c d=>exact .loc m a (hz _ b) c d
 |cell c o a b e f g=>exact .cell c o a b (e.imp (hz _) id) f g
theorem aq.fk(S:aq C J M s h)(hT:∀a,T a→M a∧a∉J∧∀p∈C.tabs,a≠p.2)(hk:∀b o,¬T b→h.get? b=some o→h'.get? b=some o):aq C J (fun b=>M b∧¬T b) s h'∧u9 J M h J (fun b=>M b∧¬T b) h':=by
 have X:u9 J M h J (fun b=>M b∧¬T b) h':=⟨⟨[],by simp⟩,fun b o hn e=>⟨fun q=>hn q.1,hk b o (fun q=>hn (hT b q).1) e⟩⟩
 refine⟨⟨S.len,S.lim,S.gL,S.nodup,S.low,fun i o b e q=>?_,fun i b q hi=>⟨S.jq i b q hi,fun z=>(hT b z).2.1 (bO q)⟩,fun i b q hi=>fun x=>S.yu i b q hi x.1,fun b m=>?_,fun b m=>?_,fun b o e=>?_,fun p hp=>?_,S.rg⟩,X⟩
 ·have hb:¬T b:=fun z=>(hT b z).2.1 (bO q)
  exact(S.obj i o b e q).chg X fun x hx=>hk b x hb hx
 ·obtain⟨o,e⟩:=S.there b m
  exact⟨o,hk b o (fun z=>(hT b z).2.1 m) e⟩
 ·obtain⟨o,e⟩:=S.mlt b m.1
  exact⟨o,hk b o m.2 e⟩
 ·refine aw (S.base b o e:) fun n y=>?_
  exact⟨fun q=>n q.1,hk b o (fun z=>n (hT b z).1) y⟩
 ·obtain⟨⟨ps,a1,a2,a3,a4⟩,a5⟩:=S.tab p hp
  have Lk:¬T p.2:=fun z=>(hT _ z).2.2 p hp rfl
  refine⟨⟨ps,⟨a1,Lk⟩,hk _ _ Lk a2,a3,fun pos cv e=>?_⟩,a5⟩
  refine vc (a4 pos cv e:) fun c oc vs t e1 e2 e3 e4=>?_
  exact⟨c,oc,vs,t,e1,fun q=>e2 q.1,hk _ _ (fun z=>e2 (hT c z).1) e3,e4⟩
theorem aJ.fk{h₀:Heap}(G:aJ Z dS M₀ h₀ J M h)(hd:∀a,T a→h₀.get? a=none)(hm:∀b,M₀ b→∃o,h₀.get? b=some o)(hk:∀b o,¬T b→h.get? b=some o→h'.get? b=some o):aJ Z dS M₀ h₀ J (fun b=>M b∧¬T b) h':=by
 have ne:∀b o,h₀.get? b=some o→¬T b:=fun b o e q=>aO e (hd b q)
 refine⟨G.pre,⟨fun b o e=>?_,fun b o hn e=>hk b o (ne b o e) (G.ext.keep b o hn e)⟩,fun b m=>⟨G.more b m,let⟨o,e⟩:=hm b m;ne b o e⟩,fun b m=>G.fresh b m.1⟩
 obtain⟨o',e'⟩:=G.ext.live b o e
 exact⟨o',hk b o' (ne b o e) e'⟩
theorem aq.forget(S:aq C J M s h)(ha:M a)(Dd:a∉J)(ht:∀p∈C.tabs,a≠p.2)(hs:Heap.SameBut a h h'):aq C J (fun b=>M b∧b≠a) s h'∧u9 J M h J (fun b=>M b∧b≠a) h':=
 S.fk (T:=fun b=>b=a) (fun b q=>q▸⟨ha,Dd,ht⟩) fun b o hb e=>(hs.2 b hb).trans e
theorem aJ.forget{h₀:Heap}(G:aJ Z dS M₀ h₀ J M h)(hd:h₀.get? a=none)(hm:∀b,M₀ b→∃o,h₀.get? b=some o)(hs:Heap.SameBut a h h'):aJ Z dS M₀ h₀ J (fun b=>M b∧b≠a) h':=
 G.fk (T:=fun b=>b=a) (fun b q=>q▸hd) hm fun b o hb e=>(hs.2 b hb).trans e
theorem di.fk(F:di C Z J M own kd cs env ρ h)(hM:∀a,T a→M a)(h1:∀a,T a→¬own a)(h2:∀x c,env.cells.lookup x=some c→¬T c)(hs:∀b o,¬T b→h.get? b=some o→h'.get? b=some o):di C Z J (fun b=>M b∧¬T b) own kd cs env ρ h':=by
 have X:u9 J M h J (fun b=>M b∧¬T b) h':=⟨⟨[],by simp⟩,fun b o hn e=>⟨fun q=>hn q.1,hs b o (fun q=>hn (hM b q)) e⟩⟩
 have lo:¬T env.locals:=fun q=>h1 _ q F.lo
 have ns:∀m,h.Ns env.locals m→h'.Ns env.locals m:=fun m⟨o,es,ep,e,r⟩=>⟨o,es,ep,hs _ _ lo e,r⟩
 refine⟨⟨F.f.glob,F.f.iZ,F.f.kind,F.f.kinds,F.f.D5,fun x c q=>?_,(fun c q=>let⟨a1,a2,a3⟩:=F.f.code c q;⟨a1,a2,fun x a q z=>a3 x a q z.1⟩),fun x v e k=>?_⟩,fun a q=>⟨⟨(F.eO a q).1,fun z=>h1 a z q⟩,(F.eO a q).2⟩,fun a q=>?_,F.lo,let⟨m,N⟩:=F.ns;⟨m,ns m N⟩,fun k x q=>?_,F.lc,F.ap,F.fY⟩
 ·obtain⟨o,e⟩:=F.f.w5 x c q
  exact⟨o,hs c o (h2 x c q) e⟩
 ·refine aC (F.f.vars x v e k:) fun rv Rr V=>?_
  refine⟨rv,?_,V.chg X⟩
  cases Rr with
  |loc m a b c d=>exact .loc m a b (ns m c) d
  |cell c o a b e f g=>exact .cell c o a b (e.imp id fun n q=>n q.1) (hs c o (h2 _ c b) f) g
 ·obtain⟨⟨o,e⟩,b,c⟩:=F.gw a q
  exact⟨⟨o,hs a o (fun z=>h1 a z q) e⟩,b,c⟩
 ·obtain⟨c,v,q1,⟨o,q2,VY⟩,q3⟩:=F.ce k x q
  exact⟨c,v,q1,⟨o,hs c o (h2 _ _ q1) q2,VY⟩,q3⟩
theorem aq.adopt(S:aq C J M s h)(Lm:Nat.blt s.n 1000000=true)(hm:M a)(Dd:a∉J)(ht:∀p∈C.tabs,a≠p.2)(o:AO)(ho:cQ C J M h o a):aq C (J++[a]) M (s.new o).2 h∧u9 J M h (J++[a]) M h∧(J++[a])[s.n]?=some a:=by
 have X:u9 J M h (J++[a]) M h:=⟨⟨[a],rfl⟩,fun b o hn e=>⟨hn,e⟩⟩
 have ON:s.n<1000000:=bF Lm
 have hroom:s.n<2^40 - 1:=Nat.lt_trans ON (by decide)
 have he:(J++[a])[s.n]?=some a:=by rw [S.len,List.getElem?_append_right (Nat.le_refl _),Nat.sub_self];rfl
 refine⟨⟨?_,ON,⟨Nat.le_succ_of_le S.gL.1,fun i hi=>(AS.bB s.hp 40 s.n i o (by have:=S.gL.1;lia)).trans (S.gL.2 i hi)⟩,?_,?_,?_,?_,?_,?_,S.mlt,S.base,fun p hp=>⟨(S.tab p hp).1,fun m=>?_⟩,S.rg⟩,X,he⟩
 ·show s.n+1=_
  rw [S.len];simp
 ·rw [List.nodup_append]
  exact⟨S.nodup,by simp,fun x hx y hy=>by rw [List.mem_singleton]at hy;subst hy;rintro rfl;exact Dd hx⟩
 ·intro i o' e
  show i<s.n+1
  by_cases hi:s.n=i
  ·lia
  ·have:(aE.put 40 s.hp s.n o).get i=some o':=e
   rw [AS.bB _ _ _ _ _ hi]at this;have:=S.low i o' this
   lia
 ·intro i o' b e q
  by_cases hi:s.n=i
  ·subst hi
   have e':(aE.put 40 s.hp s.n o).get s.n=some o':=e
   rw [AS.cp _ _ _ _ hroom]at e';injection e' with e';subst e';rw [he]at q;injection q with q;subst q;exact ho.chg X fun Y e=>e
  ·have e':(aE.put 40 s.hp s.n o).get i=some o':=e
   rw [AS.bB _ _ _ _ _ hi]at e';have hl:=S.low i o' e'
   rw [S.len]at hl;rw [List.getElem?_append_left hl]at q;exact(S.obj i o' b e' q).chg X fun x y=>y
 ·intro i b q hle
  rcases Nat.lt_or_ge i J.length with hl|hl
  ·rw [List.getElem?_append_left hl]at q
   exact S.jq i b q hle
  ·rw [List.getElem?_append_right hl]at q
   have:b∈[a]:=bO q
   exact(List.mem_singleton.mp this)▸hm
 ·intro i b q Dg
  have hl:i<J.length:=by rw [←S.len];exact Nat.lt_of_lt_of_le Dg S.gL.1
  rw [List.getElem?_append_left hl]at q;exact S.yu i b q Dg
 ·intro b m
  rcases List.mem_append.mp m with m|m
  ·exact S.there b m
  ·rw [List.mem_singleton]at m;subst m;exact S.mlt b hm
 ·rcases List.mem_append.mp m with m|m
  ·exact(S.tab p hp).2 m
  ·rw [List.mem_singleton]at m
   exact ht p hp m.symm
theorem aJ.adopt{h₀:Heap}(G:aJ Z dS M₀ h₀ J M h)(hd:h₀.get? a=none):aJ Z dS M₀ h₀ (J++[a]) M h:=by
 obtain⟨l,rfl,f⟩:=G.pre
 exact⟨⟨l++[a],by simp,fun b m=>(List.mem_append.mp m).elim (f b) fun m=>by rw [List.mem_singleton]at m;rw [m];exact hd⟩,G.ext,G.more,G.fresh⟩
end
section
variable{prog:Program}{w:World}{R:Result→Shared→Prop}{s:Shared}
def BE(prog:Program)(w:World)(A:Around)(elt target:Expr)(ifs:List Expr)(it acc:Value)(env:PySem.Env)(R:Result→Shared→Prop)(J1:Shared→Prop)(E:Value→Shared→Prop)(r:Option Value)(ag:Shared):Prop:=match r with
 |none=>R (.ok .next) ag
 |some v=>ab (model prog w) A (letOwnedTupleGo target it v) (fun Y sO=>ab (model prog w) A (assign target env v) (fun Y aK=>
   ab (model prog w) A (forIn ifs true fun c r=>if r=true then do let ok←isTrue c env (eval c env);pure (ForInStep.yield ok)else pure (ForInStep.yield r)) (fun ok bM=>
    if ok=true then ab (model prog w) A (eval elt env) (fun x kQ=>ab (model prog w) A (call (.builtin "list.append") [acc,x]) (fun Y nE=>J1 nE) E kQ) E bM
    else J1 bM) E aK) E sO) E ag
theorem wV{elt target iter:Expr}{ifs:List Expr}{scope:Scope}{it acc:Value}(I:Nat→Shared→Prop)
  (turn:∀n s,I n s→∀E,ab (model prog w) A (pyNext it) (BE prog w A elt target ifs it acc env R (fun s=>∃m,m<n∧I m s) E) E s)
  (n:Nat)(h:I n s):ba (model prog w) A (.compLoop (.ListComp elt [⟨target,iter,ifs,0⟩] scope pos) 0 it acc env) R s:=by
 refine kI rfl I (fun n s hI=>?_) n h
 show ab _ A ((compTurn (.ListComp elt [⟨target,iter,ifs,0⟩] scope pos) 0 it acc env).onRaise (fun x=>do noteFrame x env;theTreesLotGoes x)) _ _ s
 refine gO ?_
 rw [compTurn_list];refine aa (au (aa (aG (turn n s hI _) (fun r ag h₁=>?_) fun Y Y h'=>h')))
 cases r with
 |none=>exact af h₁
 |some v=>
  refine aa (aG h₁ (fun Y sO OK=>?_) fun Y Y h'=>h')
  refine aa (aG OK (fun Y aK br=>aa (aG br (fun ok bM dP=>?_) fun Y Y h'=>h')) fun Y Y h'=>h')
  cases ok with
  |false=>exact af ⟨rfl,dP⟩
  |true=>exact aa (aa (aG dP (fun x kQ iH=>aa (aG iH (fun Y nE wo=>af (af ⟨rfl,wo⟩)) fun Y Y h'=>h')) fun Y Y h'=>h'))
end
section
theorem F3(l:List Expr):(forIn l false fun c r=>if r=true then do let ok←isTrue c env (eval c env);pure (ForInStep.yield ok)else pure (ForInStep.yield r):Sem Bool)=pure false:=by
 induction l with
 |nil=>rfl
 |cons c l ih=>rw [List.forIn_cons];simp only[Bool.false_eq_true,if_false,pure_bind];exact ih
theorem BL(HT:vg C ih d):∀{xs:List Expr}{s:AS}{b:Bool}{s':AS}{J:List Addr}{M:Addr→Prop}{st:Shared}{Q:Bool→Shared→Prop},(xF ih ifs ρ s).leaf C.ν=some (b,s')→cY C kd ifs xs→fm C Z J M kd env ρ st.heap→aq C J M s st.heap→bu A d→cm C Z J st.heap→KB C Z J M st b s' Q→
  ab (Md C) A (forIn xs true fun c r=>if r=true then do let ok←isTrue c env (eval c env);pure (ForInStep.yield ok)else pure (ForInStep.yield r)) Q E st:=by
 induction ifs with
 |nil=>
  intro xs s b s' J M st Q e hl F S R z K;rw [hl.nl,List.forIn_nil];exact af ((K.of e).now S st.toks)
 |cons a l Dc=>
  intro xs s b s' J M st Q e hl F S R z K;refine hl.oU fun x xs h1 Y h4=>aH.cL e fun q aK e2 e=>?_
  rw [List.forIn_cons];show ab (Md C) A ((isTrue x env (eval x env)>>=fun ok=>pure (ForInStep.yield ok))>>=_) Q E st
  refine aa (aa (HT a ρ s q aK e2 kd _ h1 Z J M env A st F S R z _ _ fun cy dR br bf G bT=>af ?_))
  cases q with
  |true=>exact Dc (st:={st with heap:=br,toks:=bf}) e h4 (F.grow G) bT R (z.grow G) (K.after G)
  |false=>
   show ab _ A (forIn _ false _) Q E _;rw [F3];exact af (K.of e _ _ _ _ G bT)
theorem fm.more(F:fm C Z J M kd env ρ h)(hz:∀a,Z a→Z' a):fm C Z' J M kd env ρ h:=
 ⟨F.glob,F.iZ,F.kind,F.kinds,F.D5,F.w5,F.code,fun x v e k=>let⟨rv,a,b⟩:=F.vars x v e k;⟨rv,a.more hz,b⟩⟩
set_option tactic.hygienic true in
theorem wX{cl:List (Str×Addr)}{L:Addr}(hk:sc.kind=.function)(hcell:∀y∈sc.names,y.2≠.cell)(hfree:∀y∈sc.names,y.2=.free→kd.k y.1=some .cell∨kd.k y.1=some .free)(htg:∀x,sc.names.lookup (C.nm x)=some .local→x∈tg)
  (hcl:∀x c,cl.lookup x=some c→env.cells.lookup x=some c)(Dm:∀y∈sc.names,y.2=.free→(cl.lookup y.1).isSome=true)(F:fm C Z J M kd env ρ h)(hn:h.Ns L m)(hm:M L)(hz:¬Z L)(zL:cm C (fun a=>a=L) J h)(hL:∀x c,env.cells.lookup x=some c→c≠L):
  di C Z J M (fun a=>a=L) (cC kd sc) false (compEnvC sc cl L env) (pG tg ρ) h:=by
 have hkinds:∀x,(compEnvC sc cl L env).kindOf x=(cC kd sc).k x:=fun x=>by
  show List.lookup x (relabel sc env).names=_;show List.lookup x _=List.lookup x _;unfold relabel
  congr 1
  refine List.map_congr_left fun p Y=>?_
  obtain⟨n,k⟩:=p
  have EM:env.kindOf n=kd.k n:=F.kinds n
  show(if(k==NameKind.free&&env.scope.kind==.function&&env.kindOf n==some NameKind.cell)=true then(n,NameKind.cell)else(n,k))=if(k==NameKind.free&&kd.k n==some NameKind.cell)=true then(n,NameKind.cell)else(n,k);have hb:(ScopeKind.function==ScopeKind.function)=true:=rfl
  rw [F.kind,EM,hb,Bool.and_true]
 have hfind:∀x k,(cC kd sc).k x=some k→k≠.local→∃y∈sc.names,y.1=x∧(k=.cell∨k=.free→y.2=.free):=by
  intro x k hk hne;rw [jC]at hk;refine aC (Option.map_eq_some_iff.mp hk:) fun y h1 h2=>?_
  refine⟨y,List.mem_of_find?_eq_some h1,(beq_iff_eq.mp (List.find?_some (p:=fun p:Str×NameKind=>x==p.1) h1)).symm,fun hcf=>?_⟩
  split at h2
  ·rename_i q
   have:=(Bool.and_eq_true_iff.mp q).1
   exact beq_iff_eq.mp this
  ·subst h2
   rcases hcf with q|q
   ·exact absurd q (hcell y (List.mem_of_find?_eq_some h1))
   ·exact q
 have hcel:∀x,(cC kd sc).k x=some .cell∨(cC kd sc).k x=some .free→∃c,cl.lookup x=some c∧env.cells.lookup x=some c∧(kd.k x=some .cell∨kd.k x=some .free):=by
  intro x hx;have:∃k,(cC kd sc).k x=some k∧(k=.cell∨k=.free):=hx.elim (fun q=>⟨_,q,.inl rfl⟩) fun q=>⟨_,q,.inr rfl⟩
  refine aC (this:) fun k h1 h2=>?_
  obtain⟨y,h3,h4,h5⟩:=hfind x k h1 (by rcases h2 with rfl|rfl<;>exact fun q=>by injection q)
  have h6:=h5 h2
  obtain⟨c,hc⟩:=Option.isSome_iff_exists.mp (Dm y h3 h6)
  rw [h4]at hc;exact⟨c,hc,hcl _ _ hc,h4▸hfree y h3 h6⟩
 refine⟨⟨F.glob,F.iZ,hk,hkinds,(fun x hx=>let⟨c,h1,_⟩:=hcel x hx;⟨c,h1⟩),(fun x c q=>F.w5 x c (hcl x c q)),(fun c q=>let⟨a1,a2,a3⟩:=F.code c q;⟨a1,a2,fun x a q=>a3 x a (hcl x a q)⟩),fun x v e hq=>?_⟩,fun a q=>by subst q;exact⟨hm,hz⟩,zL,rfl,⟨m,hn⟩,(fun q=>by injection q),fun x c q=>hL x c (hcl x c q),(fun q=>by injection q),hk⟩
 rw [dk]at e;split at e
 ·injection e
 ·rename_i hx
  have hnl:(cC kd sc).k (C.nm x)≠some .local:=fun q=>by
   rw [jC]at q;refine aC (Option.map_eq_some_iff.mp q:) fun y h1 h2=>?_
   split at h2
   ·injection h2
   ·exact hx (htg x (by rw [lT,h1];exact congrArg some h2))
  rcases hq with hq|hq
  ·exact absurd hq hnl
  ·refine lI (hcel _ hq:) fun c h1 h2 h3=>?_
   refine aC (F.vars x v e (.inr h3):) fun rv Rr V=>?_
   refine⟨rv,?_,V⟩
   cases Rr with
   |loc m' a b c' d=>rw [F.kinds]at a;rw [a]at h3;rcases h3 with q|q<;>(injection q with q;injection q)
   |cell c' o a b e' f g=>
    rw [b]at h2;cases (h2);exact .cell c o (by rw [hkinds];exact hq) h1 (e'.imp .inl id) f g
end
section
theorem di.x5(F:di C Z J M own kd cs env ρ h)(hz:∀a,Z a→Z' a)(hn:∀a,own a→¬Z' a):di C Z' J M own kd cs env ρ h:=
 ⟨F.f.more fun a q=>q.imp (hz a) id,fun a q=>⟨(F.eO a q).1,hn a q⟩,F.gw,F.lo,F.ns,F.ce,F.lc,F.ap,F.fY⟩
theorem DA(h:u6 C (fun n=>sc.names.lookup n) tg flat xt):mJ C (cC kd sc) false tg flat xt:=by
 have key:∀s,sc.names.lookup s=some .local→(cC kd sc).k s=some .local:=fun s hs=>by
  rw [lT]at hs;rw [jC];refine aC (Option.map_eq_some_iff.mp hs:) fun y h1 h2=>?_
  rw [h1,Option.map_some,h2]
  rfl
 exact eU.mono h fun s h2=>.inl (key s h2)
theorem A8{vs:List Value}{Q:Value→Shared→Prop}(ex:st.heap.get? a=some (bZ vs n))(hl:vs.length≤100000)(K:∀h' n',Heap.SameBut a st.heap h'→h'.get? a=some (bZ (vs++[rv]) n')→Q .none {st with heap:=h'}):
  ab (Md C) A (call (.builtin "list.append") [.ref a,rv] []) Q E st:=by
 refine lf<|call_meets PySem.F.slot_list_append ⟨_,ex,rfl⟩ PySem.F.entry_list_append (PySem.F.args_list_append_2 _ _) (list_append a vs.toArray n rv (by rw [List.size_toArray];exact bN hl)) ⟨ex,?_⟩
 refine dC (fB (fun q=>q.push rv) vs (vs++[rv]) n (by simp):) fun n' q=>?_
 exact K _ n' (Heap.SameBut.update ..) ((Heap.get?_update_self _ ex rfl).trans (congrArg some q))
structure sh(C:Cx)(Z T:Addr→Prop)(M:Addr→Prop)(env:PySem.Env)(D L:Addr):Prop where
 ne:D≠L
 z:∀a,Z a→a≠D∧a≠L
 t:∀a,T a→a≠D∧a≠L
 tm:∀a,T a→M a∧¬Z a
 tc:∀x c,env.cells.lookup x=some c→¬T c
structure l8(C:Cx)(P:Pg)(N:oZ)(d n:Nat)(elt:CE)(tg:List Nat)(flat:Bool)(ifs:List CE)(src:AV)(ρ:Env)(v:AV)(s':AS)(kd:Kd)(sc:Scope)(cl:List (Str×Addr))(env:PySem.Env)(Z T:Addr→Prop)(St:List Addr→(Addr→Prop)→Nat→Heap→Prop)(D L:Addr)(J:List Addr)(M:Addr→Prop)(h:Heap)
  (m:Nat)(h':Heap)(σ':List Addr)(M':Addr→Prop)(ag:AS)(k:Nat)(acc:List AV)(ys:List Value)(nD:Nat):Prop where
 e:((run P N m d).ev (.gH elt tg flat ifs src k acc) ρ ag).leaf C.ν=some (v,s')
 G:aJ Z J M h σ' M' h'
 hM:∀a,(T a∨(a=D∨a=L))→M' a
 S:aq C σ' M' ag h'
 FX:di C Z σ' M' (fun a=>a=L) (cC kd sc) false (compEnvC sc cl L env) (pG tg ρ) h'
 st:St σ' M' k h'
 hD:h'.get? D=some (bZ ys nD)
 Vy:ay C σ' M' h' acc.reverse ys
 zW:cm C (fun a=>T a∨(a=D∨a=L)) σ' h'
 zZ:cm C Z σ' h'
 len:acc.length+m≤n
def CompEnd(C:Cx)(s':AS)(v:AV)(st:Shared)(dS:List Addr)(M₀ Z:Addr→Prop)(h₀:Heap)(RR:Value→Addr→Result→Shared→Prop):Prop:=∀D L h' tk σ' M',aJ Z dS M₀ h₀ σ' M' h'→aq C σ' M' s' h'→ao C σ' M' h' v (.ref D)→h₀.get? L=none→M' L→cm C (fun a=>a=L) σ' h'→(∃m,h'.Ns L m)→RR (.ref D) L (.ok .next) {st with heap:=h',toks:=tk}
section
variable{cl:List (Str×Addr)}{St:List Addr→(Addr→Prop)→Nat→Heap→Prop}{D L:Addr}{m nD:Nat}{ag:AS}{acc:List AV}{ys:List Value}{h₀:Heap}{RR:Value→Addr→Result→Shared→Prop}
theorem DW(Fx:sh C Z T M env D L)(H:l8 C P N d n elt tg flat ifs src ρ v s' kd sc cl env Z T St D L J M h m h' σ' M' ag k acc ys nD)(hcl:∀x c,cl.lookup x=some c→env.cells.lookup x=some c)(oK:h.get? D=none)(iq:h.get? L=none)
  (i6:aJ Z dS M₀ h₀ J M h)(dT:∀a,T a→h₀.get? a=none)(lg:∀b,M₀ b→∃o,h₀.get? b=some o)(Ls:CompEnd C s' v st dS M₀ Z h₀ RR)(ku:(newList ag acc.reverse).leaf C.ν=some (v,s')){br:Heap}{bf:Tok}(jw:∀b o,¬T b→h'.get? b=some o→br.get? b=some o):RR (.ref D) L (.ok .next) {st with heap:=br,toks:=bf}:=by
 refine aw (bC ku:) fun hl ku=>?_
 refine aH.cL ku fun i bM S6 ku=>?_
 injection ku with ku;injection ku with ku aN;subst ku aN;obtain⟨hb,rfl,rfl⟩:=ff S6
 refine aw (H.S.fk (T:=T) (fun a q=>⟨H.hM a (.inl q),(H.zW a (.inl q)).2⟩) jw:) fun bT TK=>?_
 have Ut:¬T D:=fun q=>(Fx.t D q).1 rfl
 have R3:¬T L:=fun q=>(Fx.t L q).2 rfl
 refine dJ (H.zW D (.inr (.inl rfl)):) fun VD Rb Q9=>?_
 refine dJ (bT.adopt hb ⟨H.hM D (.inr (.inl rfl)),Ut⟩ Rb Q9 (.list acc.reverse) (.list _ _ ys nD (jw _ _ Ut H.hD) (H.Vy.chg TK)):) fun fD X he=>?_
 have bb:=(i6.trans H.G).fk dT lg jw
 have Qv:=H.FX.fk (T:=T) (fun a q=>H.hM a (.inl q)) (fun a q q'=>R3 (q'▸q)) (fun x c q=>Fx.tc x c (hcl x c q)) jw
 obtain⟨⟨oL,eL⟩,b2,b3⟩:=H.zW L (.inr (.inr rfl))
 refine Ls D L br bf (σ'++[D]) _ (bb.adopt (i6.ext.dead oK)) fD (.ref _ _ he) (i6.ext.dead iq) ⟨H.hM L (.inr (.inr rfl)),R3⟩ (fun a q=>?_) Qv.ns
 rw [q];exact⟨⟨oL,jw _ _ R3 eL⟩,fun m=>(List.mem_append.mp m).elim b2 fun m=>Fx.ne (List.mem_singleton.mp m).symm,b3⟩
theorem MS(zW:cm C (fun a=>T a∨(a=D∨a=L)) J h)(zZ:cm C Z J h):cm C (fun a=>(Z a∨a=L)∨(T a∨a=D)) J h:=fun a q=>q.elim (fun q=>q.elim (zZ a) fun q=>zW a (.inr (.inr q))) fun q=>q.elim (fun q=>zW a (.inl q)) fun q=>zW a (.inr (.inl q))
theorem Ai(inj:∀x y,C.nm x=C.nm y→x=y)(HE:gk C (run P N m d) d)(HT:vg C (run P N m d) d){I:Addr}{x:AV}(Fx:sh C Z T M env D L)(H:l8 C P N d n elt tg flat ifs src ρ v s' kd sc cl env Z T St D L J M h (m+1) h' σ' M' ag k acc ys nD)
  (hn:n≤100000)(It:jG C 0 src I T St)(R:bu A d)(fT:u6 C (fun n=>sc.names.lookup n) tg flat xt)(fE:aW C (cC kd sc) elt xe)(fI:cY C (cC kd sc) ifs xs)(hb:iu tg flat x ρ=some ρ')
  (e':((xF (run P N m d) ifs ρ' ag).bind fun(b,s)=>match b with
    |false=>(run P N m d).ev (.gH elt tg flat ifs src (k+1) acc) ρ s
    |true=>((run P N m d).ev elt ρ' s).bind fun(w,s)=>(run P N m d).ev (.gH elt tg flat ifs src (k+1) (w::acc)) ρ s).leaf C.ν=some (v,s'))
  {dP:Heap}{bf:Tok}{rv:Value}(dn:aJ (fun a=>(Z a∨a=L)∨a=D) σ' M' h' σ' M' dP)(fD:aq C σ' M' ag dP)(V:ao C σ' M' dP x rv)(sP:St σ' M' (k+1) dP){J1:Shared→Prop}
  (K:∀h' tk σ' M' ag acc ys nD,l8 C P N d n elt tg flat ifs src ρ v s' kd sc cl env Z T St D L J M h m h' σ' M' ag (k+1) acc ys nD→J1 {st with heap:=h',toks:=tk}){E:Value→Shared→Prop}:
  ab (Md C) A (assign xt (compEnvC sc cl L env) rv) (fun Y aK=>ab (Md C) A (forIn xs true fun c r=>if r=true then do let ok←isTrue c (compEnvC sc cl L env) (eval c (compEnvC sc cl L env));pure (ForInStep.yield ok)else pure (ForInStep.yield r)) (fun ok bM=>
    if ok=true then ab (Md C) A (eval xe (compEnvC sc cl L env)) (fun x kQ=>ab (Md C) A (call (.builtin "list.append") [.ref D,x]) (fun Y nE=>J1 nE) E kQ) E bM
    else J1 bM) E aK) E {st with heap:=dP,toks:=bf}:=by
 refine lI (Ax hb:) fun b7 IY WM UG=>?_
 have Jx:=H.FX.grow (dn.less fun a q=>.inl q)
 refine q8 (Z:=fun a=>Z a∨(T a∨a=D)) (st:={st with heap:=dP,toks:=bf}) inj (DA (kd:=kd) fT) R.1 IY V (Jx.x5 (fun Y q=>.inl q) fun a q=>by
  rw [q];exact fun x=>x.elim (fun x=>(Fx.z _ x).2 rfl) fun x=>x.elim (fun x=>(Fx.t _ x).2 rfl) fun x=>Fx.ne x.symm) fD fun iH fU dZ lE mL=>?_
 have Jw:=mL Z _ _ IY Jx
 have BP:=It.keep (Z:=fun a=>Z a∨(T a∨a=D)) (fun a q=>.inr (.inl q)) dZ sP
 have OV:=dZ.dz (.inr (.inr rfl)) (dn.dz (.inr rfl) H.hD)
 have Jp:=(H.Vy.grow dn).grow dZ
 have H7:=(H.zW.bJ dn).bJ dZ
 have H5:=(H.zZ.bJ dn).bJ dZ
 have sd:=(H.G.trans (dn.less fun a q=>.inl (.inl q))).trans (dZ.less fun a q=>.inl q)
 refine aH.cL e' fun b nE S5 e'=>?_
 have fr:∀{J M h},di C Z J M (fun a=>a=L) (cC kd sc) false (compEnvC sc cl L env) b7 h→fm C (fun a=>(Z a∨a=L)∨(T a∨a=D)) J M (cC kd sc) (compEnvC sc cl L env) ρ' h:=fun FX=>(FX.f.sub fun y w q=>(WM y)▸q).more fun a q=>.inl q
 refine BL HT (st:={st with heap:=iH,toks:=fU}) S5 fI (fr Jw) lE R (MS H7 H5) fun xv EA wo pT l6 HM=>?_
 have EC:=Jw.grow (l6.less fun a q=>.inl q)
 have Im:=It.keep (fun a q=>.inr (.inl q)) l6 BP
 have I3:=l6.dz (.inr (.inr rfl)) OV
 have Bg:=H7.bJ l6
 have Bf:=H5.bJ l6
 have yS:=sd.trans (l6.less fun a q=>.inl (.inl q))
 have I0:∀a,(T a∨(a=D∨a=L))→EA a:=fun a q=>l6.more a (H.hM a q)
 have hlen:=H.len
 cases b with
 |false=>
  rw [if_neg Bool.false_ne_true];exact K wo pT xv EA nE acc ys nD ⟨e',yS,I0,HM,EC.sub UG,Im,I3,Jp.grow l6,Bg,Bf,by lia⟩
 |true=>
  rw [if_pos rfl];refine aH.cL e' fun w J5 S4 e'=>?_
  refine HE elt ρ' nE w J5 S4 _ xe fE _ xv EA _ A {st with heap:=wo,toks:=pT} (fr EC) HM R (MS Bg Bf) _ _ fun nq uZ rK kP rw iL uW TL=>?_
  have OU:=iL.dz (.inr (.inr rfl)) I3
  have Jo:=(Jp.grow l6).grow iL
  have H6:=Bg.bJ iL
  have IZ:∀a,(T a∨(a=D∨a=L))→uZ a:=fun a q=>iL.more a (I0 a q)
  have hy:=Jo.length
  rw [List.length_reverse]at hy;refine A8 (st:={st with heap:=rK,toks:=kP}) OU (by lia) fun Sm n' OM I2=>?_
  refine dJ (H6 D (.inr (.inl rfl)):) fun VD Rb Q9=>?_
  refine aw (tu (Z:=fun a=>(Z a∨a=L)∨T a) uW (IZ D (.inr (.inl rfl))) (fun q=>q.elim (fun q=>q.elim (fun q=>(Fx.z D q).1 rfl) Fx.ne) fun q=>(Fx.t D q).1 rfl) Rb Q9 OM ⟨_,I2⟩:) fun TM xm=>?_
  have HR:=(iL.less fun a q=>.inl (.inl q)).trans (xm.less fun a q=>.inl (.inl q))
  refine K Sm kP nq uZ J5 (w::acc) (ys++[rw]) n' ⟨e',yS.trans HR,IZ,TM,((EC.grow (iL.less fun a q=>.inl q)).grow (xm.less fun a q=>.inl q)).sub UG,It.keep (fun a q=>.inr q) xm (It.keep (fun a q=>.inr (.inl q)) iL Im),I2,?_,H6.bJ xm,(Bf.bJ iL).bJ xm,by rw [List.length_cons];lia⟩
  rw [List.reverse_cons];exact(Jo.grow xm).append (.cons (TL.grow xm) .nil)
theorem DV(inj:∀x y,C.nm x=C.nm y→x=y)(HB:∀m,m≤n→gk C (run P N m d) d∧vg C (run P N m d) d){I:Addr}(Fx:sh C Z T M env D L)
  (hn:n≤100000)(It:jG C 0 src I T St)(R:bu A d)(fT:u6 C (fun n=>sc.names.lookup n) tg flat xt)(fE:aW C (cC kd sc) elt xe)(fI:cY C (cC kd sc) ifs xs)
  (hcl:∀x c,cl.lookup x=some c→env.cells.lookup x=some c)(oK:h.get? D=none)(iq:h.get? L=none)(i6:aJ Z dS M₀ h₀ J M h)(dT:∀a,T a→h₀.get? a=none)(lg:∀b,M₀ b→∃o,h₀.get? b=some o)(Ls:CompEnd C s' v st dS M₀ Z h₀ RR)
  {tk:Tok}(H:l8 C P N d n elt tg flat ifs src ρ v s' kd sc cl env Z T St D L J M h n h' σ' M' ag k acc ys nD):ba (Md C) A (.compLoop (.ListComp xe [⟨xt,xi,xs,0⟩] sc pos) 0 (.ref I) (.ref D) (compEnvC sc cl L env)) (RR (.ref D) L) {st with heap:=h',toks:=tk}:=by
 refine wV (fun m nJ=>∃h' tk σ' M' ag k acc ys nD,nJ={st with heap:=h',toks:=tk}∧l8 C P N d n elt tg flat ifs src ρ v s' kd sc cl env Z T St D L J M h m h' σ' M' ag k acc ys nD) ?_ n ⟨h',tk,σ',M',ag,k,acc,ys,nD,rfl,H⟩
 rintro m nJ ⟨h',tk,σ',M',ag,k,acc,ys,nD,rfl,H⟩ E
 have e:=H.e
 cases m with
 |zero=>exact no e
 |succ m=>
  refine aH.bd e fun r er e'=>?_
  refine It.next (Z:=fun a=>(Z a∨a=L)∨a=D) (st:={st with heap:=h',toks:=tk}) R.1 H.S (fun a q=>⟨H.hM a (.inl q),fun x=>x.elim (fun x=>x.elim (Fx.tm a q).2 (Fx.t a q).2) (Fx.t a q).1,(H.zW a (.inl q)).2⟩) H.st er (fun hr br bf jw=>?_) fun x hx br bf rv bb bT dY own=>?_
  ·rw [hr]at e'
   exact DW Fx H hcl oK iq i6 dT lg Ls e' jw
  ·rw [hx]at e'
   exact aC (aI e') fun ρ' hb e'=>by
    have hm:m≤n:=by have:=H.len;lia
    refine own _ A _ E (.inl rfl) fun dP dn fD sP=>?_
    exact Ai inj (HB m hm).1 (HB m hm).2 Fx H hn It R fT fE fI hb e' (bb.trans dn) fD (dY.grow dn) sP fun h' tk σ' M' ag acc ys nD H'=>⟨m,Nat.lt_succ_self _,h',tk,σ',M',ag,k+1,acc,ys,nD,rfl,H'⟩
end
theorem wW(inj:∀x y,C.nm x=C.nm y→x=y)(hn:n≤100000)(HB:∀m,m≤n→gk C (run P N m d) d∧vg C (run P N m d) d){cl:List (Str×Addr)}
  (e:((run P N n d).ev (.gH elt tg flat ifs src 0 []) ρ s).leaf C.ν=some (v,s'))(fT:u6 C (fun n=>sc.names.lookup n) tg flat xt)(fE:aW C (cC kd sc) elt xe)(fI:cY C (cC kd sc) ifs xs)
  (hk:sc.kind=.function)(hcell:∀y∈sc.names,y.2≠.cell)(hfree:∀y∈sc.names,y.2=.free→kd.k y.1=some .cell∨kd.k y.1=some .free)(htg:∀x,sc.names.lookup (C.nm x)=some .local→x∈tg)
  (hcl:∀x c,cl.lookup x=some c→env.cells.lookup x=some c)(Dm:∀y∈sc.names,y.2=.free→(cl.lookup y.1).isSome=true)
  {I:Addr}{T:Addr→Prop}{St:List Addr→(Addr→Prop)→Nat→Heap→Prop}(It:jG C 0 src I T St)(F:fm C Z J M kd env ρ h)(S:aq C J M s h)(R:bu A d)(z:cm C Z J h)(hT:∀a,T a→M a∧¬Z a)(MG:∀x c,env.cells.lookup x=some c→¬T c)(zT:cm C T J h)(GA:St J M 0 h)
  {dS:List Addr}{M₀:Addr→Prop}{h₀:Heap}(i6:aJ Z dS M₀ h₀ J M h)(dT:∀a,T a→h₀.get? a=none)(lg:∀b,M₀ b→∃o,h₀.get? b=some o)
  {RR:Value→Addr→Result→Shared→Prop}(Ls:CompEnd C s' v st dS M₀ Z h₀ RR){D L:Addr}{h₁:Heap}{tk:Tok}(QO:D≠L)(oK:h.get? D=none)(iq:h.get? L=none)(old:∀b o,h.get? b=some o→h₁.get? b=some o)(I4:h₁.get? D=some (bZ [] 0)){Wt:Str→Option Value}(n5:h₁.Ns L Wt):
  ba (Md C) A (.compStart (.ListComp xe [⟨xt,xi,xs,0⟩] sc pos) 0 (.ref I) (.ref D) (compEnvC sc cl L env)) (RR (.ref D) L) {st with heap:=h₁,toks:=tk}:=by
 have OT:∃o,h₁.get? L=some o:=let⟨o,es,ep,e,_⟩:=n5;⟨o,e⟩
 have dead:∀a,(a=D∨a=L)→h.get? a=none:=fun a q=>q.elim (fun q=>q▸oK) fun q=>q▸iq
 have live:∀a,(a=D∨a=L)→∃o,h₁.get? a=some o:=fun a q=>q.elim (fun q=>q▸⟨_,I4⟩) fun q=>q▸OT
 have off:∀{b:Addr},(∃o,h.get? b=some o)→b≠D∧b≠L:=fun⟨o,e⟩=>⟨fun x=>aO (x▸e) oK,fun x=>aO (x▸e) iq⟩
 have Fx:sh C Z T M env D L:=⟨QO,fun a q=>off (z a q).1,fun a q=>off (zT a q).1,hT,MG⟩
 obtain⟨aD,aF⟩:=aq.uT (st:={st with heap:=h}) (Z:=Z) (h₁:=h₁) (own:=fun a=>a=D∨a=L) S old dead live
 have H8:cm C (fun a=>T a∨(a=D∨a=L)) J h₁:=fun a q=>by
  rcases q with q|q
  ·obtain⟨⟨o,e⟩,b,c⟩:=zT a q
   exact⟨⟨o,old a o e⟩,b,c⟩
  ·refine⟨live a q,fun m=>let⟨o,e⟩:=S.there a m;aO e (dead a q),fun p hp q'=>?_⟩
   obtain⟨⟨ps,a1,a2,a3,a4⟩,a5⟩:=S.tab p hp
   exact aO (q'▸a2) (dead a q)
 have Qw:di C Z J _ (fun a=>a=L) (cC kd sc) false (compEnvC sc cl L env) (pG tg ρ) h₁:=
  wX hk hcell hfree htg hcl Dm (F.grow aF) n5 (.inr (.inr rfl)) (fun q=>(Fx.z L q).2 rfl) (fun a q=>H8 a (.inr (.inr q))) fun x c q=>(off (F.w5 _ c q)).2
 have sR:=It.keep (Z:=T) (fun Y q=>q) (aq.uT (st:={st with heap:=h}) (Z:=T) (h₁:=h₁) (own:=fun a=>a=D∨a=L) S old dead live).2 GA
 have H:l8 C P N d n elt tg flat ifs src ρ v s' kd sc cl env Z T St D L J M h n h₁ J _ s 0 [] [] 0:=⟨e,aF,fun a q=>q.imp (fun q=>(hT a q).1) id,aD,Qw,sR,I4,.nil,H8,z.bJ aF,by simp⟩
 have key:∀tk,ba (Md C) A (.compLoop (.ListComp xe [⟨xt,xi,xs,0⟩] sc pos) 0 (.ref I) (.ref D) (compEnvC sc cl L env)) (RR (.ref D) L) {st with heap:=h₁,toks:=tk}:=fun tk=>DV inj HB Fx hn It R fT fE fI hcl oK iq i6 dT lg Ls H
 exact iA (key _) (It.self R.1 sR (key _))
theorem Aj(inj:∀x y,C.nm x=C.nm y→x=y)(hn:n≤100000)(HB:∀m,m≤n→gk C (run P N m d) d∧vg C (run P N m d) d){cl:List (Str×Addr)}
  (e:((run P N n d).ev (.gH elt tg flat ifs src 0 []) ρ s).leaf C.ν=some (v,s'))(fT:u6 C (fun n=>sc.names.lookup n) tg flat xt)(fE:aW C (cC kd sc) elt xe)(fI:cY C (cC kd sc) ifs xs)
  (hk:sc.kind=.function)(hcell:∀y∈sc.names,y.2≠.cell)(hfree:∀y∈sc.names,y.2=.free→kd.k y.1=some .cell∨kd.k y.1=some .free)(htg:∀x,sc.names.lookup (C.nm x)=some .local→x∈tg)
  (hcl:∀x c,cl.lookup x=some c→env.cells.lookup x=some c)(Dm:∀y∈sc.names,y.2=.free→(cl.lookup y.1).isSome=true)
  {I:Addr}{T:Addr→Prop}{St:List Addr→(Addr→Prop)→Nat→Heap→Prop}(It:jG C 0 src I T St)(F:fm C Z J M kd env ρ st.heap)(S:aq C J M s st.heap)(R:bu A d)(z:cm C Z J st.heap)(hT:∀a,T a→M a∧¬Z a)(MG:∀x c,env.cells.lookup x=some c→¬T c)(zT:cm C T J st.heap)(GA:St J M 0 st.heap)
  {dS:List Addr}{M₀:Addr→Prop}{h₀:Heap}(i6:aJ Z dS M₀ h₀ J M st.heap)(dT:∀a,T a→h₀.get? a=none)(lg:∀b,M₀ b→∃o,h₀.get? b=some o)
  {RR:Value→Addr→Result→Shared→Prop}
  (Ls:CompEnd C s' v st dS M₀ Z h₀ RR):
  ab (Md C) A (PySem.newList []) (fun acc bM=>ab (Md C) A (newFunctionEnv sc env.globals cl [] env.qual none .none (some env)) (fun cenv kQ=>
   ba (Md C) A (.compStart (.ListComp xe [⟨xt,xi,xs,0⟩] sc pos) 0 (.ref I) acc {cenv with scope:=relabel sc env}) (RR acc cenv.locals) kQ) E bM) E st:=by
 refine lf<|wpAny_newObj_type (lf<|wpAny_newFunctionEnv hcell (by intro y hy;simp at hy) (fun h₁ n5 wt=>?_) hk)
 dsimp only at n5 wt⊢
 have dead:∀a,st.heap.objs.size≤a→st.heap.get? a=none:=fun a ha=>by
  cases q:st.heap.get? a with
  |none=>rfl
  |some o=>exact absurd (Heap.lt_size q) (Nat.not_lt.mpr ha)
 have hC:∀o:Obj,(st.heap.push o).objs.size=st.heap.objs.size+1:=fun o=>Heap.size_push ..
 have iq:st.heap.get? (st.heap.push {cls:=.type "list",dict:=none,data:=.seq ([]:List Value).toArray}).objs.size=none:=dead _ (by rw [hC];exact Nat.le_succ _)
 have QO:st.heap.objs.size≠(st.heap.push {cls:=.type "list",dict:=none,data:=.seq ([]:List Value).toArray}).objs.size:=by rw [hC];exact Nat.ne_of_lt (Nat.lt_succ_self _)
 exact wW inj hn HB e fT fE fI hk hcell hfree htg hcl Dm It F S R z hT MG zT GA i6 dT lg Ls QO (dead _ (Nat.le_refl _)) iq (fun b o e=>wt.extBut b o (fun q=>aO e (q▸iq)) (Heap.get?_push_of_some _ (Heap.get?_push_of_some _ e))) (wt.extBut _ _ QO (Heap.get?_push_of_some _ (Heap.get?_push_size _ rfl))) n5
end
section
theorem qo(h:∀x k p,xi≠.Set x k p)(x:Value):foldedSetIterable xi env x=pure x:=by
 unfold foldedSetIterable;cases xi<;>first|rfl|exact absurd rfl (h _ _ _)
theorem Ak(e:((run P N n d).ev (.gH elt tg flat ifs src 0 []) ρ s).leaf C.ν=some (v,s')):∃r,(iN s 0 src 0).leaf C.ν=some r:=by
 cases n with
 |zero=>injection e
 |succ m=>
  have e':(cF P N (run P N m d) (.gH elt tg flat ifs src 0 []) ρ s).leaf C.ν=some (v,s'):=e
  unfold cF at e';refine aC (aH.jJ e':) fun r er Y=>?_
  exact⟨r,er⟩
abbrev EE(C:Cx)(kd:Kd)(elt:CE)(tg:List Nat)(flat:Bool)(it:CE)(ifs:List CE)(xe xt xi:Expr)(xs:List Expr)(sc:Scope):Prop:=ED C.toTx (FS C.toTx elt) tg flat (FS C.toTx it) (u7 C.toTx ifs) kd xe xt xi xs sc
theorem qp{it:CE}(h:aW C kd (.comp elt tg flat it ifs) (.ListComp xe [⟨xt,xi,xs,0⟩] sc pos)):EE C kd elt tg flat it ifs xe xt xi xs sc:=by
 obtain⟨_,_,_,_,_,_,q,f⟩:=ak.DZ h
 injection q with q sF aN;subst q;injection sF with sF Vi;injection sF with sF Vh QY;subst sF Vh QY;cases Vi;subst aN;exact f
theorem uG(HI:iK C)(inj:∀x y,C.nm x=C.nm y→x=y)(hn:n≤100000)(HB:∀m,m≤n→gk C (run P N m d) d∧vg C (run P N m d) d){it:CE}{use:Option (Value→Sem Unit)}{Q:Value→Shared→Prop}
  (e:(cF P N (run P N n d) (.comp elt tg flat it ifs) ρ s).leaf C.ν=some (v,s'))(hf:EE C kd elt tg flat it ifs xe xt xi xs sc)(F:fm C Z J M kd env ρ st.heap)(S:aq C J M s st.heap)(R:bu A d)(z:cm C Z J st.heap)
  (K:∀D L h' tk σ' M',aJ Z J M st.heap σ' M' h'→aq C σ' M' s' h'→ao C σ' M' h' v (.ref D)→st.heap.get? L=none→M' L→cm C (fun a=>a=L) σ' h'→(∃m,h'.Ns L m)→compPost (Md C) A E use Q (.ref D) L (.ok .next) {st with heap:=h',toks:=tk})(pos':Pos):
  ab (Md C) A (comprehension (.ListComp xe [⟨xt,xi,xs,0⟩] sc pos) sc env pos' (PySem.newList []) false (eval xi env) use) Q E st:=by
 obtain⟨f1,f2,f3,f4,f5,f6,f7,f8,f9,Xi,_,_⟩:=hf
 refine aH.cL e fun src ag e1 e=>?_
 refine AR (mu (scope:=sc) (env:=env) fun y hy hfr=>F.D5 y.1 (f8 y hy hfr):) fun cl c1 c2 c3 Y=>?_
 refine gW (use:=use) (Q:=Q) rfl (qo Xi) c1 f5 f7 ((HB n (Nat.le_refl _)).1 _ ρ s src ag e1 kd _ f2 Z J M env A st F S R z _ _ fun aA aP h₁ aU rv aF aD cb=>?_)
 refine HI src rv ag aA aP {st with heap:=h₁,toks:=aU} A aD cb (Ak e) _ _ fun I T St br bf It XH oY hk GA=>?_
 have hA:=aq.uT (Z:=Z) (st:={st with heap:=h₁,toks:=aU}) (h₁:=br) (own:=T) aD hk (fun a q=>(oY a q).1) (fun a q=>(oY a q).2)
 refine aw (hA:) fun bT bb=>?_
 have pe:=z.grow aF
 have G:=aF.trans bb
 refine Aj (st:={st with heap:=br,toks:=bf}) inj hn HB e f1 f3 f4 f5 f6 f8 f9 c2 c3 It (F.grow G) bT R (z.grow G) (fun a q=>⟨.inr q,fun hz=>let⟨⟨o,e⟩,_⟩:=pe a hz;aO e (oY a q).1⟩) (fun x c q hc=>let⟨o,e⟩:=(F.grow aF).w5 x c q;aO e (oY c hc).1) (fun a q=>⟨(oY a q).2,fun m=>let⟨o,e⟩:=aD.there a m;aO e (oY a q).1,fun p hp q'=>?_⟩) (GA _ (fun a q=>q.imp id fun q=>(oY a q).1) (fun a q=>.inl q) bT) G (fun a q=>aF.ext.dead (oY a q).1) (fun b m=>S.mlt b m) fun D L h' tk σ' M' G' S' V' hL MH zL hns=>?_
 ·obtain⟨⟨ps,a1,a2,a3,a4⟩,a5⟩:=aD.tab p hp
  exact aO (q'▸a2) (oY a q).1
 ·exact K D L h' tk σ' M' G' S' V' hL MH zL hns
theorem B0(HI:iK C)(inj:∀x y,C.nm x=C.nm y→x=y)(hn:n≤100000)(HB:∀m,m≤n→gk C (run P N m d) d∧vg C (run P N m d) d){it:CE}{Q:Value→Shared→Prop}
  (e:(cF P N (run P N n d) (.comp elt tg flat it ifs) ρ s).leaf C.ν=some (v,s')){xe xt xi:Expr}{xs:List Expr}{sc:Scope}{pos:Pos}(hf:EE C kd elt tg flat it ifs xe xt xi xs sc)(F:fm C Z J M kd env ρ st.heap)(S:aq C J M s st.heap)(R:bu A d)(z:cm C Z J st.heap)(K:KV C Z J M st v s' Q):
  ab (Md C) A (eval (.ListComp xe [⟨xt,xi,xs,0⟩] sc pos) env) Q E st:=by
 rw [eval_ListComp];refine uG HI inj hn HB (use:=none) e hf F S R z (fun D L h' tk σ' M' G S' V hL MH zL hns=>?_) _
 refine dC (hns:) fun m hns=>?_
 refine⟨m,hns,fun qk hs=>?_⟩
 refine dJ (zL L rfl:) fun b1 b2 b3=>?_
 refine aw (S'.forget MH b2 b3 hs:) fun uX X=>?_
 exact K σ' _ qk tk _ (G.forget hL (fun b m=>S.mlt b m) hs) uX (V.chg X)
end
theorem lj:∀(ps:List (Nat×AV))(ρ:Env)(y:Nat),y∉ps.map (·.1)→az (ps.foldl (fun ρ p=>bU ρ p.1 p.2) ρ) y=az ρ y
 |[],_,_,_=>rfl
 |p::r,ρ,y,h=>by
  rw [List.map_cons,List.mem_cons,not_or]at h;rw [List.foldl_cons,lj r _ y h.2,cX,if_neg h.1]
theorem rL:∀(ps:List (Nat×AV))(ρ:Env)(y:Nat)(a:AV),(ps.map (·.1)).Nodup→(y,a)∈ps→az (ps.foldl (fun ρ p=>bU ρ p.1 p.2) ρ) y=some a
 |p::r,ρ,y,a,nd,h=>by
  rw [List.map_cons,List.nodup_cons]at nd;rw [List.foldl_cons];rcases cO h with e|h
  ·subst e
   rw [lj r _ _ nd.1,cX,if_pos rfl]
  ·exact rL r _ y a nd.2 h
theorem Dw(ps:List (Nat×AV))(ρ:Env)(nd:(ps.map (·.1)).Nodup)(y:Nat):az (ps.foldl (fun ρ p=>bU ρ p.1 p.2) ρ) y=az (ps.reverse.foldl (fun ρ p=>bU ρ p.1 p.2) ρ) y:=by
 have Wq:(ps.reverse.map (·.1)).Nodup:=by rw [List.map_reverse];exact List.pairwise_reverse.mpr (List.Pairwise.imp (fun h=>Ne.symm h) nd)
 by_cases hy:y∈ps.map (·.1)
 ·obtain⟨⟨y',a⟩,h1,h2⟩:=List.mem_map.mp hy
  simp only at h2
  subst h2;rw [rL ps ρ _ a nd h1,rL ps.reverse ρ _ a Wq (List.mem_reverse.mpr h1)]
 ·rw [lj ps ρ y hy,lj ps.reverse ρ y (by rw [List.map_reverse,List.mem_reverse];exact hy)]
theorem xN{α β:Type}:∀(a:List α)(b:List β),a.length=b.length→a.reverse.zip b.reverse=(a.zip b).reverse
 |[],b,_=>by simp
 |x::a,[],h=>by simp at h
 |x::a,y::b,h=>by
  have h':a.length=b.length:=by simpa using h
  rw [List.reverse_cons,List.reverse_cons,List.zip_cons_cons,List.reverse_cons,←xN a b h',List.zip_append (by simp[h'])]
  rfl
theorem pU(h:bV ex)(t:Option Expr)(n:Nat)(env:PySem.Env):swapsWith ex t n env=pure false:=by
 cases ex<;>first|rfl|exact Bool.noConfusion (show true=false from h.1)|exact Bool.noConfusion (show true=false from h.2.1)|exact Bool.noConfusion (show true=false from h.2.2)
section
theorem Cp(F:fm C Z J M kd env ρ h):interactive env=false:=by unfold interactive;rw [F.kind];rfl
theorem KX.ev{tk:Tok}(K:KX C Z J M own kd cs env st f ρ' s' Q)(G:aJ (fun a=>Z a∨own a) J M st.heap σ' M' h'):KX C Z σ' M' own kd cs env {st with heap:=h',toks:=tk} f ρ' s' Q:=K.after (G.less fun Y q=>.inl q)
theorem MX(inj:∀x y,C.nm x=C.nm y→x=y)(H:gk C ih d){y:Nat}{a:CE}(e:(bX P ih (.b8 y a) ρ s).leaf C.ν=some (f,ρ',s')){nm:Str}(h1:nm=C.nm y)(h2:d9 kd cs nm)(h3:aW C kd a ex)(h4:bV ex)
  (F:di C Z J M own kd cs env ρ st.heap)(S:aq C J M s st.heap)(R:bu A d)(z:cm C Z J st.heap)(K:KX C Z J M own kd cs env st f ρ' s' Q):ab (Md C) A (exec (.Assign [.Name nm p] ex pos) env) Q E st:=by
 subst h1;refine aH.cL e fun av ag e1 e=>?_
 injection e with e;injection e with e aN;subst e;injection aN with aN nk;subst aN nk;refine gP (H a ρ s av _ e1 kd _ h3 _ J M env A st F.f S R (F.z z) _ _ fun aA aP h₁ aU rv aF aD cb=>?_) (pU h4 _ _ _)
 refine gq (st:={st with heap:=h₁,toks:=aU}) inj h2 (F.grow aF) aD cb fun br bf bb bT eY=>?_
 exact(K.ev (tk:=aU) aF) aA aP br bf .next bb bT (eY _ _ (F.grow aF)) rfl
theorem oB{ts:List Expr}(h4:bV ex){sw:Option (List Str)}(hs:swappedStores [.Tuple ts k p] ex env=pure sw)(h:ab (Md C) A (eval ex env) (fun v ag=>ab (Md C) A (assignStores env v sw [assign (.Tuple ts k p) env]) Q E ag) E st):
  ab (Md C) A (exec (.Assign [.Tuple ts k p] ex pos) env) Q E st:=by
 rw [arm_exec_Assign];refine aa (au (aa ?_));show ab _ _ (swapsWith ex (some (.Tuple ts k p)) pos.line env) _ _ _;rw [pU h4];refine af ?_;simp only[Bool.false_eq_true,if_false];refine aa (aG h (fun v ag h₁=>?_) fun Y Y x=>x)
 rw [hs];exact aa (af h₁)
theorem Eh(inj:∀x y,C.nm x=C.nm y→x=y)(tg:List Nat):∀{l:List AV}{vs:List Value}{ρ:Env}{st:Shared}{Q:Unit→Shared→Prop},(∀y∈tg,d9 kd cs (C.nm y))→tg.length=l.length→ay C J M st.heap l vs→di C Z J M own kd cs env ρ st.heap→aq C J M s st.heap→
  KS C Z J M own kd cs env st (fun ρ=>some ((tg.zip l).foldl (fun ρ p=>bU ρ p.1 p.2) ρ)) s Q→ab (Md C) A (assignInOrder (tg.map fun y=>bindName env (C.nm y)) vs) Q E st:=by
 induction tg with
 |nil=>
  intro l vs ρ st Q _ hl V F S K;cases l with
  |nil=>exact V.nl▸lf (assignInOrder_nil (K _ st.toks (aJ.refl _ _ _ _) S fun Y Y Y q F=>by injection q with q;subst q;exact F))
  |cons a r=>injection hl
 |cons y tg ih=>
  intro l vs ρ st Q hk hl V F S K;cases l with
  |nil=>injection hl
  |cons a l=>
   refine V.oU fun v vs V r=>assignInOrder_cons (gm (gq inj (hk y bW) F S V fun h' tk G S' F'=>?_))
   exact ih (st:={st with heap:=h',toks:=tk}) (fun y m=>hk y (cq _ m)) (Nat.succ.inj hl) (r.grow G) (F' _ _ F) S' fun qk Ik G' uX Qz=>K qk Ik (G.trans G') uX fun Z₀ gQ b7 q xn=>Qz Z₀ _ _ q (F' Z₀ gQ xn)
theorem vA(h:pK C kd cs tg xs):∀y∈tg,d9 kd cs (C.nm y):=by
 exact h.ind (fun Y m=>nomatch m) fun Y Y Y Y Y h1 h2 h3 ih y m=>(cO m).elim (fun q=>by rw [q,←h1];exact h2) (ih y)
theorem JK(inj:∀x y,C.nm x=C.nm y→x=y)(H:gk C ih d){a:CE}(e:(bX P ih (.cP tg a) ρ s).leaf C.ν=some (f,ρ',s')){ts:List Expr}(h1:pK C kd cs tg ts)(h2:aW C kd a ex)(h3:bV ex)(h4:yO C kd tg [.Tuple ts k p] ex)
  (F:di C Z J M own kd cs env ρ st.heap)(S:aq C J M s st.heap)(R:bu A d)(z:cm C Z J st.heap)(K:KX C Z J M own kd cs env st f ρ' s' Q):ab (Md C) A (exec (.Assign [.Tuple ts k p] ex pos) env) Q E st:=by
 refine aH.cL e fun av ag e1 e=>?_
 obtain⟨l,rfl,e⟩:=iC e
 obtain⟨hl,e⟩:=cN e
 injection e with e;injection e with e aN;subst e;injection aN with aN nk;subst aN nk;rcases h4 env F.f.kinds F.f.kind with hs|⟨hs,nd⟩
 ·refine oB h3 hs (H a ρ s _ _ e1 kd _ h2 _ J M env A st F.f S R (F.z z) _ _ fun aA aP h₁ aU rv aF aD cb=>?_)
  unfold assignStores;have cR:=F.grow aF
  refine aa (q8 (st:={st with heap:=h₁,toks:=aU}) inj (.many h1) R.1 (ρ':=(tg.zip l).foldl (fun ρ p=>bU ρ p.1 p.2) ρ) (lB hl) cb cR aD fun br bf bb bT eY=>af ?_)
  exact(K.ev (tk:=aU) aF) aA aP br bf .next bb bT (eY _ _ _ (lB hl) cR) rfl
 ·refine oB h3 hs (H a ρ s _ _ e1 kd _ h2 _ J M env A st F.f S R (F.z z) _ _ fun aA aP h₁ aU rv aF aD cb=>?_)
  unfold assignStores;have cR:=F.grow aF
  refine cb.kO fun t vs n ht et Vt=>?_
  have hlen:=Vt.length
  have hl:=pk hl
  have Dh:(tg.map C.nm).length=vs.toArray.size:=by rw [List.length_map,List.size_toArray,hl,hlen]
  refine aa (dj (aa ?_))
  rw [Dh];refine lf<|unpackItems_tuple (s:={st with heap:=h₁,toks:=aU}) R.1 ⟨_,et,rfl,n,rfl⟩ fun br he=>?_
  have hk:∀b o,h₁.get? b=some o→br.get? b=some o:=fun b o e=>he b o (Nat.ne_of_lt (Heap.lt_size e)) e
  have bb:=aJ.heap Z aA aP hk
  have eY:=cR.grow (aJ.heap _ aA aP hk)
  rw [List.toList_toArray,←List.map_reverse,List.map_map];refine aa (Eh (st:={st with heap:=br,toks:=aU}) inj tg.reverse (l:=l.reverse) (fun y m=>vA h1 y (List.mem_reverse.mp m)) (by rw [List.length_reverse,List.length_reverse,hl]) (Vt.grow bb).reverse eY (aD.heap hk) fun dP ib dn fD i8=>af ?_)
  have mL:=i8 _ _ _ rfl eY
  refine(K.ev (tk:=aU) aF) aA aP dP ib .next (bb.trans dn) fD (mL.sub fun y w q=>?_) rfl
  have hz:tg.reverse.zip l.reverse=(tg.zip l).reverse:=xN tg l hl
  rw [hz,←Dw (tg.zip l) ρ (by rw [List.map_fst_zip (Nat.le_of_eq hl)];exact nd)]
  exact q
end
def lH(C:Cx):Prop:=∀(A:Around)(st:Shared)(E:Value→Shared→Prop)(a sl:Addr)(b x:Array UInt8)(t:Tok)(vl vu:Value)(lo hi:Option Int)(Q:Unit→Shared→Prop),A.handled=none→A.units+20<cLine→st.heap.get? a=some (c0 b)→st.heap.IsSliceOf sl vl vu .none→IsPart vl lo→IsPart vu hi→b.size≤100000→
 lo.elim 0 (clipAt b.size)≤hi.elim b.size (clipAt b.size)→x.size=hi.elim b.size (clipAt b.size) - lo.elim 0 (clipAt b.size)→
 (∀h' tk,(∀c o,c≠a→st.heap.get? c=some o→h'.get? c=some o)→h'.get? a=some (c0 (b.extract 0 (lo.elim 0 (clipAt b.size))++x++b.extract (hi.elim b.size (clipAt b.size)) b.size))→Q () {st with heap:=h',toks:=tk})→ab (Md C) A (setItem (.ref a) (.ref sl) (.bytes x t)) Q E st
section
theorem Fu{l:Addr}{items:Array Value}{k:Int}{t:Tok}{v:Value}{Q:Unit→Shared→Prop}(ho:st.heap.get? l=some ({cls:=.type "list",data:=.seq items n}:Obj))(h0:k<0)(h1: -(items.size:Int)≤k)(hfit: -(2^63)≤k)
  (hQ:Q () {st with heap:=st.heap.update l (Obj.mapSeq (·.setIfInBounds (k+items.size).toNat v))}):ab (Md C) A (setItem (.ref l) (.int k t) v) Q E st:=by
 have hl:st.heap.IsList l items:=PySem.IsL.isList (n:=n) ho
 unfold setItem
 try with_reducible refine aj ?_
 first|refine aa (af ?_)|skip
 refine aa (lf<|wpAny_sequenceKey hl.typeIs (by decide) ?_)
 refine aa (bA (name:=Str.ofString "__setitem__") hl.typeIs slot_list_setitem
  (cf slot_list_setitem hl.typeIs entry_list_setitem ?_ (args_list_setitem _ _ _)))
 show ab _ _ (Builtin.List.listSubscript? (.int k t)>>=_) _ _ st;refine aa (lf<|wpAny_listSubscript_int (fitsIndex_neg h0 hfit) ?_);clear hfit;have hidx:=PySem.seqIndex_neg h0 h1
 have hj:(k+items.size).toNat<items.size:=by lia
 obtain⟨j,rfl⟩:∃j:Nat,k=Int.negSucc j:=by
  cases k with
  |ofNat n=>exact absurd h0 (Int.not_lt.mpr (Int.natCast_nonneg n))
  |negSucc n=>exact⟨n,rfl⟩
 have Sq:=Array.getElem?_eq_getElem hj
 show ab _ _ ((Builtin.List.listItems (.ref l)>>=fun xs=>pure ((seqIndex? (Int.negSucc j) xs.size).bind fun i=>xs[i]?.map (i,·)))>>=_) _ _ st
 refine aa (aa ?_)
 show ab _ _ (seqItems? (.ref l)>>=_) _ _ st;refine aa (lf<|wpAny_seqItems ho rfl (af (af ?_)));rw [hidx];simp only[Option.bind_some,Sq,Option.map_some];show ab _ _ (setSeqItemAt l _ v>>=_) _ _ st;refine aa (lf<|wpAny_setSeqItemAt ho rfl ?_)
 first
  |exact aa (af (af ⟨.none,rfl,af hQ⟩))
  |exact af ⟨.none,rfl,af hQ⟩
theorem ay.set{a:AV}(V:ao C J M h a rv){vs:List Value}(k:Nat)(W:ay C J M h l vs):ay C J M h (setAt l k a) (vs.set k rv):=
 W.ind (P:=fun l vs=>∀k,ay C J M h (setAt l k a) (vs.set k rv)) (fun Y=>.nil) (fun Y Y Y Y W r ih k=>Nat.casesOn k (.cons V r) fun k=>.cons W (ih k)) k
theorem BX(Sv:P.nf=C.nf){i:Nat}{j:IE}{jj:Int}{aK:AS}{a rj:Value}{Q:Unit→Shared→Prop}(S:aq C J M s st.heap)(z:cm C Z J st.heap)(hnf:Nat.ble P.nf i=true)(el:s.get i=some (.list l))(hl:l.length≤100000)(ec:(oM 40 j s).leaf C.ν=some (jj,aK))(hk:index l.length jj=some k)
  (Va:ao C J M st.heap (.ref i) a)(Vj:ao C J M st.heap (.int j) rj)(V:ao C J M st.heap v rv)(K:∀h',aJ Z J M st.heap J M h'→aq C J M (aK.upd i (.list (setAt l k v))) h'→Q () {st with heap:=h'}):ab (Md C) A (setItem a rj rv) Q E st:=by
 refine Va.listE S el fun y vs n hy ey Vs=>?_
 refine Vj.eK fun t=>?_
 refine dJ (fc 40 S.rg ec:) fun c1 c2 c3=>?_
 obtain⟨d1,d2,d3,d4,d5,d6⟩:=t8 hk
 rw [←c1]at d1 d2 d3 d5 d6;have hlen:=Vs.length
 have hnf:C.nf≤i:=by rw [←Sv];exact bF hnf
 have bT:=S.lP c2 c3
 have PE:aK.hp.get i=some (.list l):=by
  rw [c2.1];exact el
 have fin:∀(kk:Nat),kk=k→Q () {st with heap:=st.heap.update y (Obj.mapSeq (·.setIfInBounds kk rv))}:=by
  intro kk q;subst q;have U:=bT.update (Z:=Z) (f:=Obj.mapSeq (·.setIfInBounds kk rv)) (o:=.list (setAt l kk v)) hy hnf z PE ey rfl fun G hg=>by
   refine dC (fB (·.setIfInBounds kk rv) vs (vs.set kk rv) n (by apply Array.toList_inj.mp;simp):) fun n' q=>?_
   exact .list _ _ _ n' (hg.trans (congrArg some q)) ((ay.set V kk Vs).grow G)
  exact K _ U.2 U.1
 by_cases h0:0≤j.eval C.ν
 ·exact lf<|ki_setAt (items:=vs.toArray) ey h0 (by lia) (by rw [List.size_toArray];lia) (fin _ (d5 h0))
 ·have UL:j.eval C.ν<0:=by lia
  refine Fu (items:=vs.toArray) ey UL (by rw [List.size_toArray];lia) (by lia) (fin _ ?_)
  rw [List.size_toArray,←hlen];exact d6 UL
end
section
theorem E7{b x:List UInt8}{lo hi:Nat}(h:lo≤hi):b.toArray.extract 0 lo++x.toArray++b.toArray.extract hi b.toArray.size=(b.take lo++x++b.drop hi).toArray:=by
 apply Array.toList_inj.mp
 simp
 exact List.take_of_length_le (by simp)
theorem aq.turned(S:aq C J M s h){i:Nat}{o o':AO}(hi:J[i]?=some a)(hn:C.nf≤i)(hz:cm C Z J h)(he:s.hp.get i=some o')(hs:∀b x,b≠a→h.get? b=some x→h'.get? b=some x)(hu:∃x,h'.get? a=some x)
  (ho:aJ Z J M h J M h'→cQ C J M h' o a):aq C J M (s.upd i o) h'∧aJ Z J M h J M h':=by
 have hm:=S.jq i a hi hn
 have nz:¬Z a:=fun q=>(hz a q).2.1 (bO hi)
 have hv:∀b o,h.get? b=some o→∃o',h'.get? b=some o':=fun b o e=>by
  by_cases hb:b=a
  ·subst hb;exact hu
  ·exact⟨o,hs b o hb e⟩
 have G:aJ Z J M h J M h':=⟨⟨[],by simp,fun Y m=>nomatch m⟩,⟨hv,fun b o hb e=>hs b o (fun q=>hb (by rw [q];exact⟨hm,nz⟩)) e⟩,fun Y x=>x,fun Y x=>.inl x⟩
 have hl:=S.low i o' he
 have hr:s.n<2^40 - 1:=Nat.lt_of_le_of_lt S.lim (by decide)
 refine⟨⟨S.len,S.lim,⟨S.gL.1,fun j hj=>(AS.bB s.hp 40 i j o (by lia)).trans (S.gL.2 j hj)⟩,S.nodup,?_,?_,S.jq,S.yu,fun b m=>let⟨o,e⟩:=S.there b m;hv b o e,fun b m=>let⟨o,e⟩:=S.mlt b m;hv b o e,?_,?_,S.rg⟩,G⟩
 ·intro j tG e
  by_cases hj:i=j
  ·subst hj;exact hl
  ·have e':(aE.put 40 s.hp i o).get j=some tG:=e
   rw [AS.bB _ _ _ _ _ hj]at e';exact S.low j tG e'
 ·intro j tG b e q
  by_cases hj:i=j
  ·subst hj
   have e':(aE.put 40 s.hp i o).get i=some tG:=e
   rw [AS.cp _ _ _ _ (Nat.lt_trans hl hr)]at e';injection e' with e';subst e';rw [hi]at q;injection q with q;subst q;exact ho G
  ·have e':(aE.put 40 s.hp i o).get j=some tG:=e
   rw [AS.bB _ _ _ _ _ hj]at e';have hb:b≠a:=fun z=>hj (S.inj hi (z▸q))
   exact(S.obj j tG b e' q).grow G fun y hy=>hs b y hb hy
 ·intro b tG e
  refine aw (S.base b tG e:) fun n y=>?_
  exact⟨n,hs b _ (fun z=>n (z▸hm)) y⟩
 ·intro p hp
  obtain⟨⟨ps,a1,a2,a3,a4⟩,a5⟩:=S.tab p hp
  refine⟨⟨ps,a1,hs _ _ (fun z=>a5 (by rw [z];exact bO hi)) a2,a3,fun pos cv e=>?_⟩,a5⟩
  refine vc (a4 pos cv e:) fun c oc vs t e1 e2 e3 e4=>?_
  exact⟨c,oc,vs,t,e1,e2,hs _ _ (fun z=>e2 (by rw [z];exact hm)) e3,e4⟩
theorem w9{ν:Nat→Int}{l x:List IE}{lo hi:Nat}(h:lo≤hi):(aS ν l).extract 0 lo++aS ν x++(aS ν l).extract hi l.length=aS ν (l.take lo++x++l.drop hi):=by
 have:=E7 (b:=l.map (cz ν)) (x:=x.map (cz ν)) h
 rw [List.size_toArray,List.length_map]at this;unfold aS;rw [this,List.map_append,List.map_append,List.map_take,List.map_drop]
def Mq(C:Cx)(Z:Addr→Prop)(J:List Addr)(M:Addr→Prop)(A:Around)(st:Shared)(f:Fl)(ρ ρ':Env)(s':AS)(t:Sem Unit):Prop:=f=.nx∧ρ'=ρ∧∀(Q:Unit→Shared→Prop)(E:Value→Shared→Prop),
 (∀σ' M' h' tk,aJ Z J M st.heap σ' M' h'→aq C σ' M' s' h'→Q () {st with heap:=h',toks:=tk})→ab (Md C) A t Q E st
section
variable{rw rj:Value}
theorem xK(W:Wd C P){j:AV}(S:aq C J M s st.heap)(z:cm C Z J st.heap)(e:(Ki P w j v ρ s).leaf C.ν=some (f,ρ',s'))(V:ao C J M st.heap w rw)(J1:ao C J M st.heap j rj)(X:ao C J M st.heap v rv):Mq C Z J M A st f ρ ρ' s' (setItem rw rj rv):=by
 obtain⟨i,rfl,e⟩:=nP e
 obtain⟨y,rfl,e⟩:=aX e
 refine aC (cS e:) fun l el e=>?_
 refine aw (cN e:) fun hnf e=>?_
 refine aw (bC e:) fun hl e=>?_
 refine aH.cL e fun jj ag e1 e=>?_
 refine aC (aI e:) fun k hk e=>?_
 injection e with e;injection e with e aN;subst e;injection aN with aN nk;subst aN nk;exact⟨rfl,rfl,fun Q E K=>BX W.nf S z hnf el hl e1 hk V J1 X fun h' G S'=>K _ _ _ st.toks G S'⟩
theorem Fy(W:Wd C P)(hn:n∈C.attrs)(S:aq C J M s st.heap)(z:cm C Z J st.heap)(e:(Nq P w n v ρ s).leaf C.ν=some (f,ρ',s'))(V:ao C J M st.heap w rw)(X:ao C J M st.heap v rv):Mq C Z J M A st f ρ ρ' s' (setAttr rw (C.nm n) rv):=by
 refine aC (aI e:) fun q hi e=>?_
 refine aC (aI e:) fun p hc e=>?_
 refine aw (tK e:) fun hm e=>?_
 refine aw (cN e:) fun hb e=>?_
 injection e with e;injection e with e aN;subst e;injection aN with aN nk;subst aN nk;exact⟨rfl,rfl,fun Q E K=>BY W S z V X hi hc hn hm (by rw [←W.nf];exact bF (ae hb).1) (bF (ae hb).2) K⟩
theorem rU{ν:Nat→Int}{l x:List IE}(B:bq ν l)(X:bq ν x)(m n:Nat):bq ν (l.take m++x++l.drop n):=fun y hy=>
 (List.mem_append.mp hy).elim (fun hy=>(List.mem_append.mp hy).elim (fun hy=>B y (List.mem_of_mem_take hy)) (X y)) fun hy=>B y (List.mem_of_mem_drop hy)
theorem Fw(HS:lH C)(hA:A.handled=none)(hu:A.units+20<cLine){i:Nat}{l xb:List IE}{ra rb:Value}{sl:Addr}{li hi:Int}{ag:AS}{Q:Unit→Shared→Prop}(hS:st.heap.IsSliceOf sl ra rb .none)(S:aq C J M s st.heap)(z:cm C Z J st.heap)(el:s.get i=some (.cu l))(hnf:C.nf≤i)(hl:l.length≤100000)(p1:IsPart ra (some li))(p2:IsPart rb (some hi))(h1:clipAt l.length li≤clipAt l.length hi)(h2:xb.length=clipAt l.length hi - clipAt l.length li)(hs:SameBut s ag)(R:cg C.ν ag.rg)
  (V:ao C J M st.heap (.ref i) rw)(X:ao C J M st.heap (.bytes xb) rv)(K:∀σ' M' h' tk,aJ Z J M st.heap σ' M' h'→aq C σ' M' (ag.upd i (.cu (l.take (clipAt l.length li)++xb++l.drop (clipAt l.length hi)))) h'→Q () {st with heap:=h',toks:=tk}):ab (Md C) A (setItem rw (.ref sl) rv) Q E st:=
 X.eF fun hb t=>aC V.inv fun ad q hq=>q▸aw (S.obj _ _ ad el hq).jE fun ea B=>by
  have sz:=cJ C.ν l
  refine HS A st E ad sl (aS C.ν l) (aS C.ν xb) t ra rb (some li) (some hi) _ hA hu ea hS p1 p2 (sz▸hl) (by rw [sz];exact h1) (by rw [sz,cJ];exact h2) fun wo pT OO ua=>?_
  rw [sz]at ua;have ua:=ua.trans (congrArg (fun b=>some (c0 b)) (w9 h1))
  exact aw ((S.lP hs R).turned (Z:=Z) hq hnf z ((congrArg (fun t:aE AO=>t.get i) hs.1).trans el) OO ⟨_,ua⟩ fun Y=>.cu _ _ ua (rU B hb _ _)) fun S' G=>K _ _ _ pT G S'
theorem Fv(HS:lH C)(W:Wd C P)(hA:A.handled=none)(hu:A.units+20<cLine){a b:AV}{ra rb:Value}{sl:Addr}(hS:st.heap.IsSliceOf sl ra rb .none)(S:aq C J M s st.heap)(z:cm C Z J st.heap)(e:(Np P w a b v ρ s).leaf C.ν=some (f,ρ',s'))(V:ao C J M st.heap w rw)(La:ao C J M st.heap a ra)(Lb:ao C J M st.heap b rb)(X:ao C J M st.heap v rv):
  Mq C Z J M A st f ρ ρ' s' (setItem rw (.ref sl) rv):=by
 obtain⟨i,rfl,e⟩:=nP e
 obtain⟨xb,rfl,e⟩:=lQ e
 refine aC (aI e) fun l q e=>aw (cN e) fun hnf e=>aw (bC e) fun hl e=>aH.cL e fun a0 nE e5 e=>aH.cL e fun b0 J5 e6 e=>AR (kA S.rg e5 La) fun li p1 ea c2 c3=>AR (kA c3 e6 Lb) fun hi p2 eb d2 d3=>?_
 rw [ea,eb]at e;refine aw (cN e) fun hab e=>?_
 injection e with e;injection e with e aN;subst e;injection aN with aN nk;subst aN nk;exact⟨rfl,rfl,fun Q E K=>Fw HS hA hu hS S z (qG q) (W.nf▸bF hnf) hl p1 p2 (bF (ae hab).1) (pk (ae hab).2) (c2.trans d2) d3 V X K⟩
end
theorem JM(W:Wd C P)(H:gk C ih d){o i a:CE}(e:(bX P ih (.jW o i a) ρ s).leaf C.ν=some (f,ρ',s')){xo:Expr}(h1:aW C kd o xo)(h2:aW C kd i xi)(h3:aW C kd a ex)(h4:bV ex)
  (F:di C Z J M own kd cs env ρ st.heap)(S:aq C J M s st.heap)(R:bu A d)(z:cm C Z J st.heap)(K:KX C Z J M own kd cs env st f ρ' s' Q):ab (Md C) A (exec (.Assign [.Subscript xo xi p] ex pos) env) Q E st:=by
 refine aH.cL e fun av ag e1 e=>?_
 refine aH.cL e fun ow aK e2 e=>?_
 refine aH.cL e fun jv bM e3 e=>?_
 refine eM (H a ρ s av ag e1 kd _ h3 _ J M env A st F.f S R (F.z z) _ _ fun aA aP h₁ aU rv aF aD cb=>?_) (pU h4 _ _ _)
 have cR:=F.grow aF
 have pe:=z.bJ aF
 refine H o ρ ag ow aK e2 kd _ h1 _ aA aP env A {st with heap:=h₁,toks:=aU} cR.f aD R (cR.z pe) _ _ fun cy dR br bf ro bb bT dY=>?_
 have eY:=cR.grow bb
 have nr:=pe.bJ bb
 refine H i ρ aK jv bM e3 kd _ h2 _ cy dR env A {st with heap:=br,toks:=bf} eY.f bT R (eY.z nr) _ _ fun kK r9 dP ib rj dn fD xg=>?_
 have i8:=eY.grow dn
 obtain⟨q1,q2,hset⟩:=xK (A:=A) (st:={st with heap:=dP,toks:=ib}) W fD (i8.z (nr.bJ dn)) e (dY.grow dn) xg ((cb.grow bb).grow dn)
 exact hset _ _ fun ma u0 iH fU dZ lE=>(K.ev (tk:=ib) ((aF.trans bb).trans dn)) ma u0 iH fU .next (dZ.less fun Y q=>.inl q) lE (q2▸i8.grow dZ) (q1▸rfl)
theorem JO(W:Wd C P)(H:gk C ih d){o a:CE}(e:(bX P ih (.aT o n a) ρ s).leaf C.ν=some (f,ρ',s')){xo:Expr}{nm:Str}(h0:nm=C.nm n)(hn:n∈C.attrs)(h1:aW C kd o xo)(h3:aW C kd a ex)(h4:bV ex)
  (F:di C Z J M own kd cs env ρ st.heap)(S:aq C J M s st.heap)(R:bu A d)(z:cm C Z J st.heap)(K:KX C Z J M own kd cs env st f ρ' s' Q):ab (Md C) A (exec (.Assign [.Attribute xo nm p] ex pos) env) Q E st:=by
 subst h0;refine aH.cL e fun av ag e1 e=>?_
 refine aH.cL e fun ow aK e2 e=>?_
 refine plainObj_wpAny_Assign_Attribute (H a ρ s av ag e1 kd _ h3 _ J M env A st F.f S R (F.z z) _ _ fun aA aP h₁ aU rv aF aD cb=>?_) (pU h4 _ _ _)
 have cR:=F.grow aF
 have pe:=z.bJ aF
 refine H o ρ ag ow aK e2 kd _ h1 _ aA aP env A {st with heap:=h₁,toks:=aU} cR.f aD R (cR.z pe) _ _ fun cy dR br bf ro bb bT dY=>?_
 have eY:=cR.grow bb
 obtain⟨q1,q2,hset⟩:=Fy (A:=A) (st:={st with heap:=br,toks:=bf}) W hn bT (eY.z (pe.bJ bb)) e dY (cb.grow bb)
 exact hset _ _ fun kK r9 dP ib dn fD=>(K.ev (tk:=bf) (aF.trans bb)) kK r9 dP ib .next (dn.less fun Y q=>.inl q) fD (q2▸eY.grow dn) (q1▸rfl)
theorem E9{u x y:AV}(V:ao C J M h (.t [x,y]) rv):∃t r1 r2,rv=.ref t∧(∃n,h.get? t=some (fM [r1,r2] n))∧ao C J M h x r1∧ao C J M h y r2:=by
 refine V.kO fun t vs n ht et Vt=>?_
 obtain⟨r1,r2,rfl,V1,V2⟩:=Vt.two
 exact⟨t,r1,r2,rfl,⟨n,et⟩,V1,V2⟩
theorem vz{xo:Expr}{nm:Str}{q r:Pos}(h6:∀es k p,ex≠.Tuple es k p):swappedStores [.Tuple [.Subscript xo xi p,.Name nm q] k r] ex env=pure none:=by
 cases ex<;>first|rfl|exact absurd rfl (h6 _ _ _)
theorem EY(inj:∀x y,C.nm x=C.nm y→x=y)(W:Wd C P)(H:gk C ih d){o i a:CE}{y:Nat}(e:(bX P ih (.iS o i y a) ρ s).leaf C.ν=some (f,ρ',s')){xo:Expr}{nm:Str}{q r:Pos}(h0:nm=C.nm y)(h5:d9 kd cs nm)(h1:aW C kd o xo)(h2:aW C kd i xi)(h3:aW C kd a ex)(h4:bV ex)(h6:∀es k p,ex≠.Tuple es k p)
  (F:di C Z J M own kd cs env ρ st.heap)(S:aq C J M s st.heap)(R:bu A d)(z:cm C Z J st.heap)(K:KX C Z J M own kd cs env st f ρ' s' Q):ab (Md C) A (exec (.Assign [.Tuple [.Subscript xo xi p,.Name nm q] k r] ex pos) env) Q E st:=by
 subst h0;refine aH.cL e fun av ag e1 e=>?_
 obtain⟨l,rfl,e⟩:=iC e
 obtain⟨va,vu,rfl,e⟩:=kN e
 refine aH.cL e fun ow aK e2 e=>?_
 refine aH.cL e fun jv bM e3 e=>?_
 refine oB h4 (vz h6) (H a ρ s _ ag e1 kd _ h3 _ J M env A st F.f S R (F.z z) _ _ fun aA aP h₁ aU rv aF aD cb=>?_)
 obtain⟨t,r1,r2,rfl,⟨n,et⟩,Va,Vu⟩:=E9 (u:=va) cb
 refine aa (gn (s:={st with heap:=h₁,toks:=aU}) R.1 ⟨_,et,rfl,n,rfl⟩ rfl rfl fun br he=>?_)
 have hk:∀b o,h₁.get? b=some o→br.get? b=some o:=fun b o e=>he b o (Nat.ne_of_lt (Heap.lt_size e)) e
 have bb:=aJ.heap (fun a=>Z a∨own a) aA aP hk
 have eY:=(F.grow aF).grow bb
 have nr:=(z.bJ aF).bJ bb
 refine assignInOrder_cons ?_
 show ab _ _ (assign (.Subscript xo xi p) env r1) _ _ _;rw [assign_Subscript];refine aa (aj (H o ρ ag ow aK e2 kd _ h1 _ aA aP env A {st with heap:=br,toks:=aU} eY.f (aD.heap hk) R (eY.z nr) _ _ fun kK r9 dP ib ro dn fD xg=>?_))
 have i8:=eY.grow dn
 have Ba:=nr.bJ dn
 refine aa (aj (H i ρ aK jv bM e3 kd _ h2 _ kK r9 env A {st with heap:=dP,toks:=ib} i8.f fD R (i8.z Ba) _ _ fun ma u0 iH fU rj dZ lE Ex=>?_))
 have mL:=i8.grow dZ
 have G:=((aF.trans bb).trans dn).trans dZ
 have Gu:=(bb.trans dn).trans dZ
 refine aa (au (aa (aj ?_)))
 obtain⟨q1,q2,hset⟩:=xK (A:=A) (st:={st with heap:=iH,toks:=fU}) W lE (mL.z (Ba.bJ dZ)) e (xg.grow dZ) Ex (Va.grow Gu)
 refine hset _ _ fun xv EA wo pT l6 HM=>fh ?_
 have EB:=mL.grow l6
 refine assignInOrder_cons ?_
 show ab _ _ (assign (.Name (C.nm y) q) env r2) _ _ _;refine dw (gq (st:={st with heap:=wo,toks:=pT}) inj h5 EB HM (Vu.grow (Gu.trans l6)) fun rK kP iL uW Mv=>?_)
 refine lf<|assignInOrder_nil (af ?_)
 exact(K.ev (tk:=fU) (G.trans l6)) xv EA rK kP .next iL uW (q2▸Mv _ _ EB) (q1▸rfl)
theorem JL(HS:lH C)(W:Wd C P)(H:gk C ih d){o lo hi a:CE}(e:(bX P ih (.i0 o lo hi a) ρ s).leaf C.ν=some (f,ρ',s')){xo xl xh:Expr}{q:Pos}(h1:aW C kd o xo)(h2:aW C kd lo xl)(SK:aW C kd hi xh)(h3:aW C kd a ex)(h4:bV ex)
  (F:di C Z J M own kd cs env ρ st.heap)(S:aq C J M s st.heap)(R:bu A d)(z:cm C Z J st.heap)(K:KX C Z J M own kd cs env st f ρ' s' Q):ab (Md C) A (exec (.Assign [.Subscript xo (.Slice (some xl) (some xh) none q) p] ex pos) env) Q E st:=by
 refine aH.cL e fun av ag e1 e=>?_
 refine aH.cL e fun ow aK e2 e=>?_
 refine aH.cL e fun la bM e3 e=>?_
 refine aH.cL e fun ha kQ e4 e=>?_
 refine eM (H a ρ s av ag e1 kd _ h3 _ J M env A st F.f S R (F.z z) _ _ fun aA aP h₁ aU rv aF aD cb=>?_) (pU h4 _ _ _)
 have cR:=F.grow aF
 have pe:=z.bJ aF
 refine H o ρ ag ow aK e2 kd _ h1 _ aA aP env A {st with heap:=h₁,toks:=aU} cR.f aD R (cR.z pe) _ _ fun cy dR br bf ro bb bT dY=>?_
 have eY:=cR.grow bb
 have nr:=pe.bJ bb
 refine jc (dM (H lo ρ aK la bM e3 kd _ h2 _ cy dR env A {st with heap:=br,toks:=bf} eY.f bT R (eY.z nr) _ _ fun kK r9 dP ib rl dn fD xg=>?_))
 have i8:=eY.grow dn
 have Ba:=nr.bJ dn
 refine dM (H hi ρ bM ha kQ e4 kd _ SK _ kK r9 env A {st with heap:=dP,toks:=ib} i8.f fD R (i8.z Ba) _ _ fun ma u0 iH fU rh dZ lE Ex=>?_)
 rw [evalPart_none];refine af ?_;have GP:=aJ.push (fun a=>Z a∨own a) ma u0 iH (pY rl rh)
 have TX:=dn.trans dZ
 have EB:=(i8.grow dZ).grow GP
 obtain⟨q1,q2,hset⟩:=Fv (A:=A) (st:={st with heap:=iH.push (pY rl rh),toks:=fU}) HS W R.1 (R.u (by decide)) (Heap.IsSliceOf.new ..) (lE.push _) (EB.z ((Ba.bJ dZ).bJ GP)) e ((dY.grow TX).grow GP) ((xg.grow dZ).grow GP) (Ex.grow GP) ((cb.grow (bb.trans TX)).grow GP)
 exact hset _ _ fun nq uZ rK kP iL uW=>(K.ev (tk:=fU) (((aF.trans bb).trans TX).trans GP)) nq uZ rK kP .next (iL.less fun Y q=>.inl q) uW (q2▸EB.grow iL) (q1▸rfl)
end
section
theorem KX.now{fl:Flow}(K:KX C Z J M own kd cs env st f ρ' s' Q)(S:aq C J M s' st.heap)(F:di C Z J M own kd cs env ρ' st.heap)(r:u5 C J M st.heap f fl)(tk:Tok):Q fl {st with toks:=tk}:=
 K J M st.heap tk fl (aJ.refl _ _ _ _) S F r
theorem Q0(H:gk C ih d){a:CE}(e:(bX P ih (.ex a) ρ s).leaf C.ν=some (f,ρ',s'))(h3:aW C kd a ex)(h4:bV ex)
  (F:di C Z J M own kd cs env ρ st.heap)(S:aq C J M s st.heap)(R:bu A d)(z:cm C Z J st.heap)(K:KX C Z J M own kd cs env st f ρ' s' Q):ab (Md C) A (exec (.Expr ex pos) env) Q E st:=by
 unfold bX at e;refine aH.cL e fun av ag e1 e=>?_
 injection e with e;injection e with e aN;subst e;injection aN with aN nk;subst aN nk;refine m8 (H a ρ s av _ e1 kd _ h3 _ J M env A st F.f S R (F.z z) _ _ fun aA aP h₁ aU rv aF aD cb=>?_) (Cp F.f) (pU h4 _ _ _)
 exact K aA aP h₁ aU .next (aF.less fun Y q=>.inl q) aD (F.grow aF) rfl
theorem MU(H:gk C ih d){a:CE}(e:(bX P ih (.ret a) ρ s).leaf C.ν=some (f,ρ',s'))(h3:aW C kd a ex)
  (F:di C Z J M own kd cs env ρ st.heap)(S:aq C J M s st.heap)(R:bu A d)(z:cm C Z J st.heap)(K:KX C Z J M own kd cs env st f ρ' s' Q):ab (Md C) A (exec (.Return (some ex) pos) env) Q E st:=by
 unfold bX at e;refine aH.cL e fun av ag e1 e=>?_
 injection e with e;injection e with e aN;subst e;injection aN with aN nk;subst aN nk;refine kG (H a ρ s av _ e1 kd _ h3 _ J M env A st F.f S R (F.z z) _ _ fun aA aP h₁ aU rv aF aD cb=>?_)
 exact K aA aP h₁ aU (.ret rv) (aF.less fun Y q=>.inl q) aD (F.grow aF) ⟨rv,rfl,cb⟩
theorem MV(HT:vg C ih d)(HX:vf C ih d){t:CE}{a:List CS}(e:(bX P ih (.ite t a b) ρ s).leaf C.ν=some (f,ρ',s')){zs:List Stmt}(h1:aW C kd t ex)(h2:cZ C kd cs a ys)(h3:cZ C kd cs b zs)
  (F:di C Z J M own kd cs env ρ st.heap)(S:aq C J M s st.heap)(R:bu A d)(z:cm C Z J st.heap)(K:KX C Z J M own kd cs env st f ρ' s' Q):ab (Md C) A (exec (.If ex ys zs pos) env) Q E st:=by
 unfold bX at e;refine aH.cL e fun r ag e1 e=>?_
 refine AZ (HT t ρ s r ag e1 kd _ h1 _ J M env A st F.f S R (F.z z) _ _ fun aA aP h₁ aU aF aD=>?_)
 cases r with
 |true=>exact HX a ρ ag f ρ' s' e kd cs ys h2 Z aA aP own env A {st with heap:=h₁,toks:=aU} (F.grow aF) aD R (z.bJ aF) Q E (K.ev aF)
 |false=>exact HX b ρ ag f ρ' s' e kd cs zs h3 Z aA aP own env A {st with heap:=h₁,toks:=aU} (F.grow aF) aD R (z.bJ aF) Q E (K.ev aF)
theorem MT(HX:vf C ih d){a:List CS}(e:(bX P ih (.try a) ρ s).leaf C.ν=some (f,ρ',s')){hd:ExceptHandler}{hs:List ExceptHandler}(h2:cZ C kd cs a ys)
  (F:di C Z J M own kd cs env ρ st.heap)(S:aq C J M s st.heap)(R:bu A d)(z:cm C Z J st.heap)(K:KX C Z J M own kd cs env st f ρ' s' Q):ab (Md C) A (exec (.Try ys (hd::hs) [] [] pos) env) Q E st:=by
 unfold bX at e;refine lL (HX a ρ s f ρ' s' e kd cs ys h2 Z J M own env A st F S R z _ _ fun aA aP h₁ aU fl aF aD cR pj=>?_)
 have q:=K aA aP h₁ aU fl aF aD cR pj
 cases fl with
 |next=>exact lf<|wpAny_execs_nil q
 |_=>exact q
theorem di.forget(F:di C Z J M own kd cs env ρ h){L:Addr}(hM:M L)(h1:¬own L)(h2:∀x c,env.cells.lookup x=some c→c≠L)(hs:Heap.SameBut L h h'):di C Z J (fun b=>M b∧b≠L) own kd cs env ρ h':=by
 have X:u9 J M h J (fun b=>M b∧b≠L) h':=⟨⟨[],by simp⟩,fun b o hn e=>⟨fun q=>hn q.1,(hs.2 b fun q=>hn (q▸hM)).trans e⟩⟩
 have lo:env.locals≠L:=fun q=>h1 (q▸F.lo)
 refine⟨⟨F.f.glob,F.f.iZ,F.f.kind,F.f.kinds,F.f.D5,fun x c q=>?_,(fun c q=>let⟨a1,a2,a3⟩:=F.f.code c q;⟨a1,a2,fun x a q z=>a3 x a q z.1⟩),fun x v e k=>?_⟩,fun a q=>⟨⟨(F.eO a q).1,fun z=>h1 (z▸q)⟩,(F.eO a q).2⟩,fun a q=>?_,F.lo,let⟨m,N⟩:=F.ns;⟨m,N.sameBut hs lo⟩,fun k x q=>?_,F.lc,F.ap,F.fY⟩
 ·refine dC (F.f.w5 x c q:) fun o e=>?_
  exact⟨o,(hs.2 c (h2 x c q)).trans e⟩
 ·refine aC (F.f.vars x v e k:) fun rv Rr V=>?_
  refine⟨rv,?_,V.chg X⟩
  cases Rr with
  |loc m a b c d=>exact .loc m a b (c.sameBut hs lo) d
  |cell c o a b e f g=>exact .cell c o a b (e.imp id fun n q=>n q.1) ((hs.2 c (h2 _ c b)).trans f) g
 ·obtain⟨⟨o,e⟩,b,c⟩:=F.gw a q
  exact⟨⟨o,(hs.2 a fun z=>h1 (z▸q)).trans e⟩,b,c⟩
 ·refine jZ (F.ce k x q:) fun c v q1 q2 q3=>?_
  exact⟨c,v,q1,q2.sameBut hs (h2 _ _ q1),q3⟩
set_option tactic.hygienic true in
theorem JN(HI:iK C)(inj:∀x y,C.nm x=C.nm y→x=y)(hn:n≤100000)(HB:∀m,m≤n→gk C (run P N m d) d∧vg C (run P N m d) d){y:Nat}{it:CE}
  {xe xt xi:Expr}{xs:List Expr}{sc:Scope}{nm:Str}{p pos lpos:Pos}
  (e:((cF P N (run P N n d) (.comp elt tg flat it ifs) ρ s).bind fun(v,s)=>.ok (Fl.nx,bU ρ y v,s)).leaf C.ν=some (f,ρ',s'))(h0:nm=C.nm y)(h5:d9 kd cs nm)(hf:aW C kd (.comp elt tg flat it ifs) (.ListComp xe [⟨xt,xi,xs,0⟩] sc lpos))
  (F:di C Z J M own kd cs env ρ st.heap)(S:aq C J M s st.heap)(R:bu A d)(z:cm C Z J st.heap)(K:KX C Z J M own kd cs env st f ρ' s' Q):ab (Md C) A (exec (.Assign [.Name nm p] (.ListComp xe [⟨xt,xi,xs,0⟩] sc lpos) pos) env) Q E st:=by
 subst h0;refine aH.cL e fun av ag e1 e=>?_
 injection e with e;injection e with e aN;subst e;injection aN with aN nk;subst aN nk;obtain⟨b,hsw⟩:∃b,swapsWith (.ListComp xe [⟨xt,xi,xs,0⟩] sc lpos) (some (.Name (C.nm y) p)) pos.line env=pure b:=⟨_,rfl⟩
 cases b with
 |false=>
  refine gP (B0 HI inj hn HB e1 (qp hf) F.f S R (F.z z) fun aA aP h₁ aU rv aF aD cb=>?_) hsw
  refine gq (st:={st with heap:=h₁,toks:=aU}) inj h5 (F.grow aF) aD cb fun br bf bb bT eY=>?_
  exact(K.ev (tk:=aU) aF) aA aP br bf .next bb bT (eY _ _ (F.grow aF)) rfl
 |true=>
  rw [exec_Assign_Name_used _ _ _ _ hsw];refine aa (au (aa ?_));show ab _ A (do let _←comprehension (.ListComp xe [⟨xt,xi,xs,0⟩] sc lpos) sc env _ (PySem.newList []) false (eval xi env) (some (assign (.Name (C.nm y) p) env))) _ _ st;refine aa (aG (uG HI inj hn HB (use:=some (assign (.Name (C.nm y) p) env)) (Q:=fun Y s'=>Q .next s') e1 (qp hf) F.f S R (F.z z) (fun D L h' tk σ' M' G S' V hL MH zL hns=>?_) _) (fun Y s' hq=>af (af hq)) fun Y Y e=>e)
  refine dC (hns:) fun m hns=>?_
  show ab _ A (assign (.Name (C.nm y) p) env (.ref D)) _ E _;have F':=F.grow G
  have UK:¬own L:=fun q=>let⟨⟨o,e⟩,_⟩:=F.gw L q;aO e hL
  have Xa:∀x c,env.cells.lookup x=some c→c≠L:=fun x c q z=>let⟨o,e⟩:=F.f.w5 x c q;aO (z▸e) hL
  refine dw (gq (Z:=fun a=>Z a∨a=L) (st:={st with heap:=h',toks:=tk}) inj h5 (F'.x5 (fun Y q=>.inl q) fun a q=>fun x=>x.elim (F'.eO a q).2 fun x=>UK (x▸q)) S' V fun br bf bb bT eY=>?_)
  refine mR (hns:) fun o es ep eL er=>?_
  refine⟨m,⟨o,es,ep,bb.dz (.inr rfl) eL,er⟩,fun dP hs=>?_⟩
  refine dJ ((zL.bJ bb) L rfl:) fun b1 b2 b3=>?_
  obtain⟨fD,X⟩:=bT.forget MH b2 b3 hs
  have i6:=(G.less (Z':=Z) fun Y q=>.inl q).trans (bb.less fun Y q=>.inl q)
  exact K σ' _ dP bf .next (i6.forget hL (fun b m=>S.mlt b m) hs) fD ((eY _ _ F').forget MH UK Xa hs) rfl
end
section
theorem N0{ν:Nat→Int}{a:Fl}{b:Env}{c:AS}(e:(aH.ok (a,b,c)).leaf ν=some (f,ρ',s')):a=f∧b=ρ'∧c=s':=by
 injection e with e;injection e with e aN;subst e;injection aN with aN nk;subst aN nk;exact⟨rfl,rfl,rfl⟩
theorem zl{c:CS}(e:(BU P ih [c] ρ s).leaf C.ν=some (f,ρ',s')):(bX P ih c ρ s).leaf C.ν=some (f,ρ',s'):=by
 refine aH.U4 e fun g b7 ag e1 e=>?_
 refine e1.trans ?_
 cases g<;>exact e
theorem rn{m:Nat}{c:CS}(e:((run P N m d).xs [c] ρ s).leaf C.ν=some (f,ρ',s')):∃m',m=m'+1∧(bX P (run P N m' d) c ρ s).leaf C.ν=some (f,ρ',s'):=by
 cases m with
 |zero=>injection e
 |succ m=>exact⟨m,rfl,zl e⟩
inductive Ql(C:Cx)(P:Pg)(N:oZ)(d n:Nat)(t:CE)(b:List CS)(f:Fl)(ρ':Env)(s':AS)(Z:Addr→Prop)(J:List Addr)(M own:Addr→Prop)(kd:Kd)(cs:Bool)(env:PySem.Env)(st:Shared)(m:Nat):Shared→Prop
 |mk (h' tk σ' M' b7 ag):(bX P (run P N m d) (.while t b) b7 ag).leaf C.ν=some (f,ρ',s')→aJ Z J M st.heap σ' M' h'→aq C σ' M' ag h'→di C Z σ' M' own kd cs env b7 h'→cm C Z σ' h'→m≤n→Ql C P N d n t b f ρ' s' Z J M own kd cs env st m {st with heap:=h',toks:=tk}
inductive Qx(C:Cx)(P:Pg)(N:oZ)(d n:Nat)(tg:List Nat)(flat:Bool)(kind:Nat)(src:AV)(b:List CS)(T:Addr→Prop)(St:List Addr→(Addr→Prop)→Nat→Heap→Prop)(f:Fl)(ρ':Env)(s':AS)(Z:Addr→Prop)(J:List Addr)(M own:Addr→Prop)(kd:Kd)(cs:Bool)(env:PySem.Env)(st:Shared)(m:Nat):Shared→Prop
 |mk (h' tk σ' M' b7 ag k):(bX P (run P N m d) (.gZ tg flat kind src k b) b7 ag).leaf C.ν=some (f,ρ',s')→aJ Z J M st.heap σ' M' h'→(∀a,T a→M' a)→aq C σ' M' ag h'→di C Z σ' M' own kd cs env b7 h'→St σ' M' k h'→cm C T σ' h'→cm C Z σ' h'→m≤n→Qx C P N d n tg flat kind src b T St f ρ' s' Z J M own kd cs env st m {st with heap:=h',toks:=tk}
theorem EX(HB:∀m,m≤n→vg C (run P N m d) d∧vf C (run P N m d) d){t:CE}(e:(bX P (run P N n d) (.while t b) ρ s).leaf C.ν=some (f,ρ',s'))(h1:aW C kd t ex)(h2:cZ C kd cs b ys)
  (F:di C Z J M own kd cs env ρ st.heap)(S:aq C J M s st.heap)(R:bu A d)(z:cm C Z J st.heap)(K:KX C Z J M own kd cs env st f ρ' s' Q):ab (Md C) A (exec (.While ex ys [] pos) env) Q E st:=by
 refine su (kH (Ql C P N d n t b f ρ' s' Z J M own kd cs env st) ?_ n
  (.mk st.heap st.toks J M ρ s e (aJ.refl _ _ _ _) S F z (Nat.le_refl _)))
 refine fun m nJ H=>H.rec fun h' tk σ' M' b7 ag e G S' F' z' hm=>?_
 refine eJ (PW e) fun r aK e1 e=>?_
 refine(HB m hm).1 t b7 ag r aK e1 kd _ h1 _ σ' M' env A {st with heap:=h',toks:=tk} F'.f S' R (F'.z z') _ _ fun cy dR br bf bb bT=>?_
 have eY:=F'.grow bb
 have nr:=z'.bJ bb
 have i6:=G.trans (bb.less fun Y q=>.inl q)
 cases r with
 |false=>
  refine dJ (N0 e) fun q1 q2 q3=>?_
  rw [if_neg Bool.false_ne_true];exact lf<|wpAny_execs_nil (K cy dR br bf .next i6 (q3▸bT) (q2▸eY) (q1▸rfl))
 |true=>
  rw [if_pos rfl];refine mR (Ek e) fun O1 H4 bM e3 e=>?_
  refine(HB m hm).2 b b7 aK O1 H4 bM e3 kd cs ys h2 Z cy dR own env A {st with heap:=br,toks:=bf} eY bT R nr _ _ fun ma u0 iH fU fl dZ lE mL NG=>?_
  cases O1 with
  |rt w=>
   refine dJ (N0 e) fun q1 q2 q3=>?_
   refine aC (NG:) fun rv q V=>?_
   subst q;exact K ma u0 iH fU _ (i6.trans dZ) (q3▸lE) (q2▸mL) (q1▸⟨rv,rfl,V⟩)
  |nx=>
   cases (NG:fl=.next)
   refine aC (rn e) fun m' Ll e'=>?_
   exact⟨m',Ll▸Nat.lt_succ_self _,(.mk iH fU ma u0 H4 bM e' (i6.trans dZ) lE mL (nr.bJ dZ) (by subst Ll;lia))⟩
theorem di.Oy(F:di C Z' J M own kd cs env ρ h)(hz:∀a,Z' a→Z a∨T a)(WH:∀a,Z a→Z' a)(hc:∀x c,env.cells.lookup x=some c→¬T c):di C Z J M own kd cs env ρ h:=by
 refine⟨⟨F.f.glob,F.f.iZ,F.f.kind,F.f.kinds,F.f.D5,F.f.w5,F.f.code,fun x v e k=>?_⟩,fun a q=>⟨(F.eO a q).1,fun x=>(F.eO a q).2 (WH a x)⟩,F.gw,F.lo,F.ns,F.ce,F.lc,F.ap,F.fY⟩
 obtain⟨rv,Rr,V⟩:=F.f.vars x v e k
 refine⟨rv,?_,V⟩
 cases Rr with
 |loc m a b c d=>exact .loc m a (.inr F.lo) c d
 |cell c o a b e f g=>exact .cell c o a b (e.imp (fun q=>q.elim (fun q=>.inl ((hz c q).resolve_right (hc _ c b))) .inr) id) f g
theorem Dv(inj:∀x y,C.nm x=C.nm y→x=y)(HB:∀m,m≤n→vf C (run P N m d) d)(e:(bX P (run P N n d) (.gZ tg flat kind src 0 b) ρ s).leaf C.ν=some (f,ρ',s'))(fT:mJ C kd cs tg flat xt)(hfl:kind=0∨flat=false)(h2:cZ C kd cs b ys)
  {I:Addr}{T:Addr→Prop}{St:List Addr→(Addr→Prop)→Nat→Heap→Prop}(It:jG C kind src I T St)(F:di C Z J M own kd cs env ρ st.heap)(S:aq C J M s st.heap)(R:bu A d)(z:cm C Z J st.heap)(hT:∀a,T a→M a∧¬Z a∧¬own a)(MG:∀x c,env.cells.lookup x=some c→¬T c)(zT:cm C T J st.heap)(GA:St J M 0 st.heap)
  {dS:List Addr}{M₀:Addr→Prop}{h₀:Heap}(i6:aJ Z dS M₀ h₀ J M st.heap)(dT:∀a,T a→h₀.get? a=none)(lg:∀b,M₀ b→∃o,h₀.get? b=some o)
  {RR:Result→Shared→Prop}(K:KX C Z dS M₀ own kd cs env {st with heap:=h₀} f ρ' s' fun fl s'=>RR (.ok fl) s'):ba (Md C) A (.forLoop xt (.ref I) ys [] env) RR st:=by
 refine jR (Qx C P N d n tg flat kind src b T St f ρ' s' Z J M own kd cs env st) ?_ n
  (.mk st.heap st.toks J M ρ s 0 e (aJ.refl _ _ _ _) (fun a q=>(hT a q).1) S F GA zT z (Nat.le_refl _))
 refine fun m nJ H=>H.rec fun h' tk σ' M' b7 ag k e G hM S' F' nJ QZ z' hm=>?_
 refine aH.bd e fun r er e=>?_
 refine It.next (Z:=fun a=>Z a∨own a) (st:={st with heap:=h',toks:=tk}) R.1 S' (fun a q=>⟨hM a q,fun x=>x.elim (hT a q).2.1 (hT a q).2.2,(QZ a q).2⟩) nJ er (fun hr br bf jw=>?_) fun x hx br bf rv bb bT dY lot=>?_
 ·rw [hr]at e
  refine dJ (N0 e) fun q1 q2 q3=>?_
  have bT:=(S'.fk (T:=T) (fun a q=>⟨hM a q,(QZ a q).2⟩) jw).1
  exact lf<|wpAny_execs_nil (K σ' _ br bf .next ((i6.trans G).fk dT lg jw) (q3▸bT) (q2▸F'.fk hM (fun a q=>(hT a q).2.2) MG jw) (q1▸rfl))
 ·rw [hx]at e
  exact aC (aI e) fun MP hb e=>by
   refine lot _ A _ _ (hfl.imp id fun q:flat=false=>mR (q▸fT:mJ C kd cs tg false xt).CI fun xs k pos e Y=>⟨xs,k,pos,e⟩) fun dP dn fD sP=>?_
   have m4:=bb.trans dn
   have i8:=F'.grow m4
   refine q8 (Z:=fun a=>Z a∨T a) (st:={st with heap:=dP,toks:=bf}) inj fT R.1 hb (dY.grow dn) (i8.x5 (fun Y q=>.inl q) fun a q=>fun x=>x.elim (i8.eO a q).2 fun x=>(hT a x).2.2 q) fD fun iH fU dZ lE mL=>?_
   have Vc:=mL Z _ _ hb i8
   have Qu:=mL (fun a=>Z a∨T a) _ _ hb (i8.x5 (fun Y q=>.inl q) fun a q=>fun x=>x.elim (i8.eO a q).2 fun x=>(hT a x).2.2 q)
   have BP:=It.keep (fun a q=>.inr q) dZ sP
   have H9:=(QZ.bJ m4).bJ dZ
   have MR:=(z'.bJ m4).bJ dZ
   have sd:=(G.trans (m4.less fun Y q=>.inl q)).trans (dZ.less fun Y q=>.inl q)
   refine mR (Ek e) fun O0 A9 nE e5 e=>?_
   refine HB m hm b MP ag O0 A9 nE e5 kd cs ys h2 (fun a=>Z a∨T a) σ' M' own env A {st with heap:=iH,toks:=fU} Qu lE R (fun a q=>q.elim (MR a) (H9 a)) _ _ fun nq uZ rK kP fl iL uW Mv NF=>?_
   have yR:=sd.trans (iL.less fun Y q=>.inl q)
   have Js:di C Z nq uZ own kd cs env A9 rK:=Mv.Oy (fun Y q=>q) (fun Y q=>.inl q) MG
   cases O0 with
   |rt w=>
    refine dJ (N0 e) fun q1 q2 q3=>?_
    refine aC (NF:) fun rv q V=>?_
    subst q;exact K nq uZ rK kP _ (i6.trans yR) (q3▸uW) (q2▸Js) (q1▸⟨rv,rfl,V⟩)
   |nx=>
    cases (NF:fl=.next)
    refine aC (rn e) fun m' Ll e'=>?_
    exact⟨m',Ll▸Nat.lt_succ_self _,(.mk rK kP nq uZ A9 nE (k+1) e' yR (fun a q=>iL.more a (hM a q)) uW Js (It.keep (fun a q=>.inr q) iL BP) (H9.bJ iL) (MR.bJ iL) (by subst Ll;lia))⟩
end
section
theorem bE{x y:Expr}(q:x=y)(h:Nat.beq y.ctorIdx (Expr.Set [] default default).ctorIdx=false):∀xs k p,x≠.Set xs k p:=fun Y Y Y z=>Bool.noConfusion (h.symm.trans (congrArg (fun x=>Nat.beq (Expr.ctorIdx x) (Expr.Set [] default default).ctorIdx) (q.symm.trans z)))
theorem ug{e:CE}{x:Expr}(h:aW C kd e x):∀xs k p,x≠.Set xs k p:=by
 cases e with
 |n _=>exact jZ (ak.RY h) fun Y Y q Y Y=>bE q rfl
 |val _=>exact mR (ak.M8 h) fun Y Y Y q Y=>bE q rfl
 |t _=>exact mR (ak.tupI h) fun Y Y Y q Y=>bE q rfl
 |list _=>exact eJ (ak.listI h) fun Y Y q Y=>bE q rfl
 |eD _ _=>exact mR (ak.PK h) fun Y Y Y q Y=>bE q rfl
 |bin _ _ _=>exact mR (ak.binI h) fun Y Y Y q Y=>bE q rfl
 |cmp _ _ _=>exact mR (ak.LX h) fun Y Y Y q Y=>bE q rfl
 |chain _ _ _ _ _=>exact IA (ak.D3 h) fun Y Y Y Y q Y=>bE q rfl
 |and _=>exact eJ (ak.Mn h) fun Y Y q Y=>bE q rfl
 |or _=>exact eJ (ak.RJ h) fun Y Y q Y=>bE q rfl
 |not _=>exact eJ (ak.N8 h) fun Y Y q Y=>bE q rfl
 |neg _=>exact eJ (ak.Oa h) fun Y Y q Y=>bE q rfl
 |ite _ _ _=>exact IA (ak.Gm h) fun Y Y Y Y q Y=>bE q rfl
 |attr _ _=>exact mR (ak.Er h) fun Y Y Y q Y=>bE q rfl
 |idx _ _=>exact mR (ak.OJ h) fun Y Y Y q Y=>bE q rfl
 |iB _ _ _=>exact RM (ak.Nn h) fun Y Y Y Y Y q Y=>bE q rfl
 |rev _=>exact AQ (ak.NJ h) fun Y Y Y Y Y h=>aC h fun Y q Y=>bE q rfl
 |call _ _=>exact mR (ak.D9 h) fun Y Y Y q Y=>bE q rfl
 |bG _ _ _=>exact RM (ak.CD h) fun Y Y Y Y Y q Y=>bE q rfl
 |comp _ _ _ _ _=>exact AQ (ak.DZ h) fun Y Y Y Y Y h=>aC h fun Y q Y=>bE q rfl
 |gH _ _ _ _ _ _ _=>exact False.elim h
 |lam _ _=>exact IA (ak.OA h) fun Y Y Y Y q Y=>bE q rfl
 |eW _=>exact eJ (ak.OZ h) fun Y Y q Y=>bE q rfl
 |bad _=>exact ak.TC h
theorem oh(inj:∀x y,C.nm x=C.nm y→x=y)(HB:∀m,m≤n→vf C (run P N m d) d){t:Sem Value}(e:(bX P (run P N n d) (.gZ tg flat kind src 0 b) ρ s).leaf C.ν=some (f,ρ',s'))(fT:mJ C kd cs tg flat xt)(hfl:kind=0∨flat=false)(h2:cZ C kd cs b ys)
  (F:di C Z J M own kd cs env ρ st.heap)(S:aq C J M s st.heap)(R:bu A d)(z:cm C Z J st.heap)(mk:Made C kind src s J M st A t)(K:KX C Z J M own kd cs env st f ρ' s' Q):
  ab (Md C) A t (fun it ag=>(∃I,it=.ref I)∧(∀Q',Q' it ag→ab (Md C) A (pyIter it) Q' E ag)∧ab (Md C) A (runOwn (.forLoop xt it ys [] env) env) Q E ag) E st:=by
 refine mk _ _ fun I T St h₁ aU It hI oY hk GA=>?_
 have hA:=aq.uT (Z:=Z) (h₁:=h₁) (own:=T) S hk (fun a q=>(oY a q).1) (fun a q=>(oY a q).2)
 have Xc:=aq.uT (Z:=fun a=>Z a∨own a) (h₁:=h₁) (own:=T) S hk (fun a q=>(oY a q).1) (fun a q=>(oY a q).2)
 refine aw (hA:) fun aD aF=>?_
 have hst:=GA _ (fun a q=>q.imp id fun q=>(oY a q).1) (fun a q=>.inl q) aD
 refine⟨⟨I,rfl⟩,fun Q' q=>It.self R.1 hst q,kF ?_⟩
 refine Dv inj HB (st:={st with heap:=h₁,toks:=aU}) e fT hfl h2 It (F.grow Xc.2) aD R (z.bJ aF) (fun a q=>⟨.inr q,fun hz=>let⟨⟨o,e⟩,_⟩:=z a hz;aO e (oY a q).1,fun hz=>let⟨⟨o,e⟩,_⟩:=F.gw a hz;aO e (oY a q).1⟩)
  (fun x c q hc=>let⟨o,e⟩:=F.f.w5 x c q;aO e (oY c hc).1) (fun a q=>⟨(oY a q).2,fun m=>let⟨o,e⟩:=S.there a m;aO e (oY a q).1,fun p hp q'=>?_⟩) hst aF (fun a q=>(oY a q).1) (fun b m=>S.mlt b m) K
 obtain⟨⟨ps,a1,a2,a3,a4⟩,a5⟩:=S.tab p hp
 exact aO (q'▸a2) (oY a q).1
theorem oi{m:Nat}(e:(bX P (run P N m d) (.gZ tg flat kind src 0 b) ρ s).leaf C.ν=some (f,ρ',s')):∃r,(iN s kind src 0).leaf C.ν=some r:=by
 unfold bX at e;refine aH.bd e fun r er Y=>?_
 exact⟨r,er⟩
structure lF(C:Cx)(P:Pg):Prop where
 enum:∃x,C.nm x="enumerate"∧P.gl.get x=some (.bi 7)
 zip:∃x,C.nm x="zip"∧P.gl.get x=some (.bi 8)
theorem Dr(W:Wd C P){x:Nat}{nm:Str}{Q:Value→Shared→Prop}(h1:C.nm x=nm)(h2:P.gl.get x=some (.bi k))(h3:kd.k nm=some .globalImplicit)(h4:(nm==("__debug__":Str))=false)(F:fm C Z J M kd env ρ st.heap)(S:aq C J M s st.heap)(q:Q (ve k) st):ab (Md C) A (eval (.Name nm p) env) Q E st:=by
 subst h1;obtain⟨rv,V,mg,G,hm⟩:=W.glob x _ h2
 have V:=V J M st.heap S.base
 have hrv:rv=ve k:=V.inv
 subst hrv;have kp:∀b o,C.hb.get? b=some o→st.heap.get? b=some o:=fun b o e=>(S.base b o e).2
 have G':st.heap.Ns env.globals mg:=by rw [F.glob];exact G.keeps kp
 refine fu F.kind ((F.kinds _).trans h3) ?_ h4
 rcases hm with hm|⟨hm,mb,B,hb⟩
 ·exact lf<|Calls.loadGlobal_global G' hm q
 ·exact lf<|Calls.loadGlobal_builtin G' hm (by rw [F.iZ];exact B.keeps kp) hb q
theorem JY{a b:CE}{vs:List AV}(e:(qw ih [a,b] ρ s).leaf C.ν=some (vs,s')):∃x y,vs=[x,y]:=
 aH.cL e fun x Y Y e=>aH.cL e fun ws Y e2 e=>aH.cL e2 fun y Y Y e2=>aH.cL e2 fun XB Y e3 e2=>⟨x,y,by injection e with e;injection e with e aN;subst e aN;injection e2 with e2;injection e2 with e2 aN;subst e2 aN;injection e3 with e3;injection e3 with e3 aN;subst e3 aN;rfl⟩
theorem z8{it:CE}(e:(bX P (run P N n d) (.for tg flat kind it b) ρ s).leaf C.ν=some (f,ρ',s')):∃src ag n',n=n'+1∧((run P N n d).ev it ρ s).leaf C.ν=some (src,ag)∧(bX P (run P N n' d) (.gZ tg flat kind src 0 b) ρ ag).leaf C.ν=some (f,ρ',s'):=by
 unfold bX at e;refine aH.cL e fun src ag e1 e=>?_
 refine aC (rn e:) fun n' h e'=>?_
 exact⟨src,ag,n',h,e1,e'⟩
theorem bu.xE(R:bu A d):A.units+20<cLine:=R.u (by decide)
def HU(C:Cx)(A:Around)(E:Value→Shared→Prop)(Q:Flow→Shared→Prop)(xt:Expr)(ys:List Stmt)(env:PySem.Env)(rv:Value)(sR:Shared):Prop:=ab (Md C) A (pyIter rv) (fun it ag=>ab (Md C) A (runOwn (.forLoop xt it ys [] env) env) Q E ag) E sR
theorem og(hset:∀x k p,xi≠.Set x k p)(h:ab (Md C) A (eval xi env) (HU C A E Q xt ys env) E st):ab (Md C) A (exec (.For xt xi ys [] pos) env) Q E st:=by
 rw [arm_exec_For];refine aa (au (aa (aG h (fun rv sR h=>?_) fun Y Y q=>q)))
 rw [qo hset];exact aa (af (aa (au (aa (aj h)))))
section
variable{it:CE}
theorem z9(inj:∀x y,C.nm x=C.nm y→x=y)(HI:iK C)(HV:gk C (run P N (n+1) d) d)(HB:∀m,m≤n→vf C (run P N m d) d){ag:AS}(e1:((run P N (n+1) d).ev it ρ s).leaf C.ν=some (src,ag))(e':(bX P (run P N n d) (.gZ tg flat 0 src 0 b) ρ ag).leaf C.ν=some (f,ρ',s'))
  (fT:mJ C kd cs tg flat xt)(h1:aW C kd it xi)(h2:cZ C kd cs b ys)(F:di C Z J M own kd cs env ρ st.heap)(S:aq C J M s st.heap)(R:bu A d)(z:cm C Z J st.heap)(K:KX C Z J M own kd cs env st f ρ' s' Q):ab (Md C) A (eval xi env) (HU C A E Q xt ys env) E st:=
 HV it ρ s src ag e1 kd _ h1 _ J M env A st F.f S R (F.z z) _ _ fun aA aP h₁ aU rv aF aD cb=>
  aG (oh (st:={st with heap:=h₁,toks:=aU}) inj HB e' fT (.inl rfl) h2 (F.grow aF) aD R (z.bJ aF) (HI src rv ag aA aP _ A aD cb (oi e')) (K.ev aF)) (fun it aK hq=>hq.2.2) fun Y Y q=>q
theorem Du(inj:∀x y,C.nm x=C.nm y→x=y)(W:Wd C P)(FN:lF C P)(HE:m5 C)(HV:gk C (run P N (n+1) d) d)(HB:∀m,m≤n→vf C (run P N m d) d){ag:AS}{x0:Expr}{p0 fP:Pos}(hk:kd.k "enumerate"=some .globalImplicit)(hst:∀y p,x0≠.Starred y p)(e1:((run P N (n+1) d).ev it ρ s).leaf C.ν=some (src,ag))(e':(bX P (run P N n d) (.gZ tg flat 1 src 0 b) ρ ag).leaf C.ν=some (f,ρ',s'))
  (fT:mJ C kd cs tg flat xt)(hfl:flat=false)(h1:aW C kd it x0)(h2:cZ C kd cs b ys)(F:di C Z J M own kd cs env ρ st.heap)(S:aq C J M s st.heap)(R:bu A d)(z:cm C Z J st.heap)(K:KX C Z J M own kd cs env st f ρ' s' Q):ab (Md C) A (eval (.Call (.Name "enumerate" p0) [x0] [] fP) env) (HU C A E Q xt ys env) E st:=by
 refine aC FN.enum fun gx g1 g2=>?_
 show ab (Md C) A (eval (.Name "enumerate" p0) env>>=fun f=>callWith fP f [] (backTo fP (starEach [x0] env)) []) _ E st
 refine aa (Dr W g1 g2 hk (by decide) F.f S ?_)
 have fl:cY C kd [it] [x0]:=.cons h1 hst .nil
 refine eS (gu fl fP) (dW fl fP ?_)
 refine hK (HV it ρ s src ag e1 kd _ h1 _ J M env A st F.f S R (F.z z) _ _ fun aA aP h₁ aU rv aF aD cb=>?_) (dU hst)
 exact lf<|wpAny_items_nil ⟨fun Q' E' k=>af (k _),aG (oh (st:={st with heap:=h₁,toks:=aU}) inj HB e' fT (.inr hfl) h2 (F.grow aF) aD R (z.bJ aF) (HE src rv ag aA aP _ A R.1 R.xE aD cb (oi e')) (K.ev aF)) (fun it aK hq=>hq.2.1 _ hq.2.2) fun Y Y q=>q⟩
theorem GC(inj:∀x y,C.nm x=C.nm y→x=y)(W:Wd C P)(FN:lF C P)(HZ:r8 C)(TU:gk C (run P N n d) d)(HB:∀m,m≤n→vf C (run P N m d) d){ag:AS}{a0 b0:CE}{x0 y0:Expr}{p0 fP:Pos}(hk:kd.k "zip"=some .globalImplicit)(hst:∀y p,x0≠.Starred y p)(wq:∀y p,y0≠.Starred y p)(e1:((run P N (n+1) d).ev (.t [a0,b0]) ρ s).leaf C.ν=some (src,ag))(e':(bX P (run P N n d) (.gZ tg flat 2 src 0 b) ρ ag).leaf C.ν=some (f,ρ',s'))
  (fT:mJ C kd cs tg flat xt)(hfl:flat=false)(h1:aW C kd a0 x0)(OX:aW C kd b0 y0)(h2:cZ C kd cs b ys)(F:di C Z J M own kd cs env ρ st.heap)(S:aq C J M s st.heap)(R:bu A d)(z:cm C Z J st.heap)(K:KX C Z J M own kd cs env st f ρ' s' Q):ab (Md C) A (eval (.Call (.Name "zip" p0) [x0,y0] [] fP) env) (HU C A E Q xt ys env) E st:=by
 refine aC FN.zip fun gx g1 g2=>?_
 show ab (Md C) A (eval (.Name "zip" p0) env>>=fun f=>callWith fP f [] (backTo fP (starEach [x0,y0] env)) []) _ E st
 refine aa (Dr W g1 g2 hk (by decide) F.f S ?_)
 have fl:cY C kd [a0,b0] [x0,y0]:=.cons h1 hst (.cons OX wq .nil)
 refine aH.cL (show(cF P N (run P N n d) (.t [a0,b0]) ρ s).leaf C.ν=some (src,ag)from e1) fun vs aK e2 e3=>aw (bC e3) fun Y e3=>?_
 cases (e3)
 refine eS (gu fl fP) (dW fl fP (gh TU e2 fl fP F.f S R (F.z z) fun aA aP h₁ aU rvs aF aD cb=>?_))
 obtain⟨u1,u2,rfl⟩:=JY e2
 refine jZ cb.two fun r1 r2 q Va Vb=>q▸⟨fun Q' E' k=>af (k _),?_⟩
 exact aG (oh (st:={st with heap:=h₁,toks:=aU}) inj HB e' fT (.inr hfl) h2 (F.grow aF) aD R (z.bJ aF) (HZ u1 u2 r1 r2 ag aA aP _ A R.1 R.xE aD Va Vb (oi e')) (K.ev aF)) (fun it aK hq=>hq.2.1 _ hq.2.2) fun Y Y q=>q
theorem MW(inj:∀x y,C.nm x=C.nm y→x=y)(W:Wd C P)(FN:lF C P)(HI:iK C)(HE:m5 C)(HZ:r8 C)(HV:gk C (run P N n d) d)(TU:∀m,m≤n→gk C (run P N m d) d)(HB:∀m,m≤n→vf C (run P N m d) d)
  (e:(bX P (run P N n d) (.for tg flat kind it b) ρ s).leaf C.ν=some (f,ρ',s'))(fT:mJ C kd cs tg flat xt)(hfl:kind=0∨flat=false)(hi:HW C kd kind it xi)(h2:cZ C kd cs b ys)(F:di C Z J M own kd cs env ρ st.heap)(S:aq C J M s st.heap)(R:bu A d)(z:cm C Z J st.heap)(K:KX C Z J M own kd cs env st f ρ' s' Q):
  ab (Md C) A (exec (.For xt xi ys [] pos) env) Q E st:=by
 obtain⟨src,ag,n',rfl,e1,e'⟩:=z8 e
 have TV:∀m,m≤n'→vf C (run P N m d) d:=fun m hm=>HB m (Nat.le_succ_of_le hm)
 rcases hi with⟨rfl,h1⟩|⟨rfl,hi⟩|⟨rfl,hi⟩
 ·exact og (ug h1) (z9 inj HI HV TV e1 e' fT h1 h2 F S R z K)
 ·exact oW hi fun x0 p fP q hk h1 hst=>q▸og (fun Y Y Y q=>nomatch q) (Du inj W FN HE HV TV hk hst e1 e' fT (hfl.resolve_left (by decide)) h1 h2 F S R z K)
 ·refine IA hi fun a0 b0 x0 y0 qe hi=>RP hi fun p fP q hk h1 OX hst wq=>?_
  rw [q];rw [qe]at e1;exact og (fun Y Y Y q=>nomatch q) (GC inj W FN HZ (TU n' (Nat.le_succ n')) TV hk hst wq e1 e' fT (hfl.resolve_left (by decide)) h1 OX h2 F S R z K)
end
end
structure Mu(C:Cx):Prop where
 mg:∃mg bm o,C.hb.Ns mainGlobals mg∧mg "__builtins__"=some (.ref bm)∧bm≠builtinsNs∧bm≠mainGlobals∧C.hb.get? bm=some o∧o.cls=.type "module"∧o.dict=some builtinsNs∧o.data=.plain
 hd:∀p∈C.tabs,CodeHd C.hb p.1 p.2
set_option tactic.hygienic true in
theorem xf{pos':Pos}{c cv:Value}(l:List Value)(h:TriplesOk l)(e:codeAmong pos' (l++[rawInt pos.line,rawInt pos.col,c])=some cv):codeAmong pos' l=some cv∨cv=c:=by
 fun_induction TriplesOk l with
 |case1=>
  simp only[List.nil_append,codeAmong,rawInt]at e
  split at e
  ·injection e with e;subst e;exact .inr rfl
  ·injection e
 |case2 a t b u x rest ih=>
  simp only[List.cons_append,codeAmong]at e⊢
  split at e
  ·rename_i hc;rw [if_pos hc];exact .inl e
  ·rename_i hc;rw [if_neg hc];exact ih h e
 |case3 l h1 h2=>exact h.elim
section
theorem BM(S:aq C J M s h){T:Addr}(hm:M T)(Dd:T∉J)(hz:¬Z T)(hk:∀b o,b≠T→h.get? b=some o→h'.get? b=some o)(hT:qL C M h' T):aq C J M s h'∧aJ Z J M h J M h':=by
 have hu:∃o,h'.get? T=some o:=let⟨ps,_,e,_⟩:=hT;⟨_,e⟩
 have hv:∀b o,h.get? b=some o→∃o',h'.get? b=some o':=fun b o e=>by
  by_cases hb:b=T
  ·subst hb;exact hu
  ·exact⟨o,hk b o hb e⟩
 have G:aJ Z J M h J M h':=⟨⟨[],by simp,fun Y m=>nomatch m⟩,⟨hv,fun b o hb e=>hk b o (fun q=>hb (by rw [q];exact⟨hm,hz⟩)) e⟩,fun Y x=>x,fun Y x=>.inl x⟩
 refine⟨⟨S.len,S.lim,S.gL,S.nodup,S.low,fun i o b e q=>?_,S.jq,S.yu,fun b m=>let⟨o,e⟩:=S.there b m;hv b o e,fun b m=>let⟨o,e⟩:=S.mlt b m;hv b o e,fun b o e=>?_,fun p hp=>?_,S.rg⟩,G⟩
 ·have hb:b≠T:=fun z=>Dd (z▸bO q)
  exact(S.obj i o b e q).grow G fun x hx=>hk b x hb hx
 ·refine aw (S.base b o e:) fun n y=>?_
  exact⟨n,hk b o (fun z=>n (z▸hm)) y⟩
 ·by_cases Lk:p.2=T
  ·exact⟨Lk▸hT,(S.tab p hp).2⟩
  ·obtain⟨⟨ps,a1,a2,a3,a4⟩,a5⟩:=S.tab p hp
   refine⟨⟨ps,a1,hk _ _ Lk a2,a3,fun pos cv e=>?_⟩,a5⟩
   refine vc (a4 pos cv e:) fun c oc vs t e1 e2 e3 e4=>?_
   exact⟨c,oc,vs,t,e1,e2,hk _ _ (fun z=>e2 (by rw [z];exact hm)) e3,e4⟩
theorem G9{bR:List Nat}{scope:Scope}{clos:List (Str×Addr)}(c2:∀x c,clos.lookup x=some c→env.cells.lookup x=some c)(c3:∀y∈scope.names,y.2=.free→(clos.lookup y.1).isSome=true)(hfree:∀y∈scope.names,y.2=.free→kd.k y.1=some .cell∨kd.k y.1=some .free)(F:fm C Z J M kd env ρ h)(hM:∀x a,env.cells.lookup x=some a→¬M a):
  ∀{vs:List AV},(∀x∈bR,(C.nm x,NameKind.free)∈scope.names)→w7 ρ bR=some vs→∃cs rvs,dG M h clos C.nm bR cs rvs∧ay C J M h vs rvs:=by
 induction bR with
 |nil=>intro vs _ e;injection e with e;subst e;exact⟨[],[],.nil,.nil⟩
 |cons y r ih=>
  intro vs hh e;refine aC (aM e) fun v h1 e=>aC (aM e) fun ws h2 e=>eJ (ih (fun x m=>hh x (cq _ m)) h2) fun cs rvs R1 R2=>?_
  have hy:=hh y bW
  have hk:=hfree _ hy rfl
  refine aC (F.vars y v h1 (.inr hk)) fun rv Rr V=>dC (Option.isSome_iff_exists.mp (c3 _ hy rfl)) fun c hc=>?_
  rw [←bh e];cases Rr with
  |loc m a b c' d=>rw [F.kinds]at a;rw [a]at hk;rcases hk with q|q<;>(injection q with q;injection q)
  |cell c' o a b e' f g=>exact⟨c::cs,rv::rvs,.cons hc (bh (b.symm.trans (c2 _ _ hc))▸hM _ _ b) (bh (b.symm.trans (c2 _ _ hc))▸f) g R1,.cons V R2⟩
theorem Nx(LW:Mu C){bR:List Nat}{Q:Value→Shared→Prop}(e:(cF P N ih (.lam k bR) ρ s).leaf C.ν=some (v,s')){params:Arguments}{body:Expr}{scope:Scope}(L:Qn C kd k bR params body scope pos)(F:fm C Z J M kd env ρ st.heap)(S:aq C J M s st.heap)(z:cm C Z J st.heap)(K:KV C Z J M st v s' Q):
  ab (Md C) A (eval (.Lambda params body scope pos) env) Q E st:=by
  refine jZ (L.at_:) fun c T h1 h2 h3=>?_
  refine dJ (F.code c h1:) fun f1 f2 f3=>?_
  refine aC (aI e) fun vs j9 e=>?_
  injection e with e;injection e with e aN;subst e aN;refine AR (mu (scope:=scope) (env:=env) fun y hy hfr=>F.D5 y.1 (L.free y hy hfr):) fun clos c1 c2 c3 c4=>?_
  refine eJ (G9 c2 c3 L.free F f3 L.has j9:) fun cs rvs R1 R2=>?_
  have hcl:∀x c,clos.lookup x=some c→∃y∈C.bR k,x=C.nm y:=fun x c q=>by
   refine lI (c4 x (by rw [q];rfl):) fun y m q1 q2=>?_
   rw [L.j9,←q1];exact L.all y m q2
  refine Wf (LW.mg:) fun mg bm ob g1 g2 g3 g4 g5 g6 g7 g8=>?_
  have kp:∀b o,C.hb.get? b=some o→st.heap.get? b=some o:=fun b o e=>(S.base b o e).2
  obtain⟨⟨ps,a1,a2,a3,a4⟩,a5⟩:=S.tab _ h2
  have hB:st.heap.BuiltinsAt mg T:=⟨bm,ob,g2,g3,g4,fun q=>(S.base bm ob g5).1 (q▸a1),kp _ _ g5,g6,g7,g8⟩
  have hC:CodeHd st.heap c T:=(LW.hd _ h2).keeps kp
  have hge:env.globals=mainGlobals:=F.glob
  have hne:mainGlobals≠T:=by
   refine mR (g1:) fun o es ep e Y=>?_
   exact fun q=>(S.base _ _ e).1 (q▸a1)
  have hz:¬Z T:=fun q=>(z T q).2.2 _ h2 rfl
  refine A1 (L.dflt env) ?_
  cases hq:codeAmong pos ps.toList with
  |some cv=>
   refine lf<|kla_makeFunctionHit c1 hge (g1.keeps kp) f1 hC a2 a3 hq hB fun ctv h' tk hk hsz=>?_
   obtain⟨c',oc,ws,t,rfl,b2,b3,b4,b5⟩:=a4 pos cv hq
   have Dl:h'.get? h'.objs.size=none:=Heap.bc _
   have hnew:st.heap.get? h'.objs.size=none:=by
    cases q:st.heap.get? h'.objs.size with
    |none=>rfl
    |some o=>exact(aO (hk _ _ q) Dl).elim
   have kk:∀b o,st.heap.get? b=some o→(h'.push {cls:=.type "function",data:=.func (kla_fn "<lambda>" (env.qual++"<lambda>") params body scope clos ((mg "__name__").getD .none) (.ref c') ctv)}).get? b=some o:=fun b o e=>Heap.get?_push_of_some _ (hk b o e)
   have G:=aJ.heap Z J M kk
   refine K J M _ tk _ G (S.heap kk) ?_
   refine .vd k vs h'.objs.size c' _ oc _ ws t cs rvs (S.nU hnew) (Heap.get?_push_size _ rfl) rfl rfl (L.lam _ _ _ _ _) rfl b2 (kk _ _ b3) b4 ?_ ?_ (R2.grow G) hcl
   ·show ws[1]?=some (.str (env.qual++"<lambda>") t)
    rw [b5,h3,f2]
   ·rw [L.j9];exact R1.chg G.chg
  |none=>
   refine lf<|kla_makeFunction c1 hge (g1.keeps kp) f1 hC a2 a3 hq hne hB fun c' ctv h' tk hs hsz hlt hcr Lr=>?_
   refine vc (hcr:) fun XK oc ws t hcc b3 b4 b5=>?_
   injection hcc with hcc;subst hcc;have dead:∀a,st.heap.objs.size≤a→st.heap.get? a=none:=fun a ha=>by
    cases q:st.heap.get? a with
    |none=>rfl
    |some o=>exact absurd (Heap.lt_size q) (Nat.not_lt.mpr ha)
   have hk:∀b o,b≠T→st.heap.get? b=some o→h'.get? b=some o:=fun b o hb e=>hs b o hb e
   have UJ:¬M c':=fun q=>let⟨o,e⟩:=S.mlt c' q;aO e (dead c' hsz)
   have hql:env.qual++"<lambda>"=C.tV T pos:=by rw [h3,f2]
   have SG:qL C M h' T:=by
    refine⟨ps++#[rawInt pos.line,rawInt pos.col,.ref c'],a1,Lr,?_,fun pos' cv e=>?_⟩
    ·rw [Array.toList_append]
     exact TriplesOk_snoc _ _ _ _ a3
    ·rw [Array.toList_append]at e
     rcases xf _ a3 e with e|rfl
     ·refine N4 (a4 pos' cv e:) fun d1 od wd td e1 e2 e3 e4 e5=>?_
      exact⟨d1,od,wd,td,e1,e2,hk _ _ (fun q=>e2 (q▸a1)) e3,e4,e5⟩
     ·exact⟨c',oc,ws,t,rfl,UJ,b3,b4,by rw [b5,hql,h3,h3]⟩
   refine aw (BM (Z:=Z) S a1 a5 hz hk SG:) fun aD aF=>?_
   have bb:=aJ.push Z J M h' (kla_obj "<lambda>" (env.qual++"<lambda>") params body scope clos ((mg "__name__").getD .none) c' ctv)
   have hnew:h'.get? h'.objs.size=none:=Heap.bc _
   refine K J M _ tk _ (aF.trans bb) (aD.push _) ?_
   refine .vd k vs h'.objs.size c' _ oc _ ws t cs rvs (aD.nU hnew) (Heap.get?_push_size _ rfl) rfl rfl (L.lam _ _ _ _ _) rfl UJ (Heap.get?_push_of_some _ b3) b4 b5 ?_ (R2.grow (aF.trans bb)) hcl
   rw [L.j9];exact R1.chg (aF.trans bb).chg
end
structure oT(C:Cx)(k:Nat)(ps cs:List Nat)(e:CE)(fd:FuncData)(body:Expr)(kd:Kd):Prop where
 n4:fd.body=.expr body
 glob:fd.globals=mainGlobals
 iZ:fd.builtins=builtinsNs
 kind:fd.scope.kind=.function
 co:fd.scope.isCoroutine=false
 gen:fd.scope.isGenerator=false
 pos:fd.params.posonlyargs=[]
 args:fd.params.args.map (·.arg)=ps.map C.nm
 vararg:fd.params.vararg=none
 OC:fd.params.kwonlyargs=[]
 kwarg:fd.params.kwarg=none
 dflt:fd.defaults=.none
 nd:(ps.map C.nm).Nodup
 cell:∀x∈fd.scope.names,x.2≠.cell
 loc:∀x∈ps,fd.scope.names.lookup (C.nm x)=some .local
 free:∀x,fd.scope.names.lookup x=some .free→∃y∈cs,x=C.nm y
 apart:∀x∈cs,fd.scope.names.lookup (C.nm x)=some .free
 EM:kd.k=fun x=>fd.scope.names.lookup x
 lh:kd.code=none
 fits:aW C kd e body
def Jq(C:Cx)(k:Nat)(ps cs:List Nat)(e:CE):Prop:=C.bR k=cs∧∀fd,C.lam k fd→∃body kd,oT C k ps cs e fd body kd
theorem dG.get{cl:List (Str×Addr)}{nm:Nat→Str}{xs:List Nat}:∀{cs:List Addr}{vs:List Value}{as:List AV},dG M h cl nm xs cs vs→ay C J M h as vs→(∀x∈xs,∃c o,cl.lookup (nm x)=some c∧h.get? c=some o)∧
  ∀x v,az (xs.zip as) x=some v→∃rv c o,cl.lookup (nm x)=some c∧¬M c∧h.get? c=some o∧o.data=.cell (some rv)∧ao C J M h v rv∧x∈xs:=by
 induction xs with
 |nil=>exact fun Y Y=>⟨fun Y m=>(nomatch m),fun x v e=>no e⟩
 |cons y xs ih=>
  intro cs vs as V R;refine AQ V.un fun c EP v' vb o f=>?_
  rw [f.2.1]at R;cases as with
  |nil=>exact nomatch (R.nl:v'::vb=[])
  |cons a as=>
   refine jZ R.un fun Uh r q R1 R2=>?_
   injection q with q sF;subst q sF;refine aw (ih f.2.2.2.2.2.2 R2) fun i1 i2=>⟨fun x m=>(cO m).elim (fun q=>⟨c,o,q▸f.2.2.1,f.2.2.2.2.1⟩) (i1 x),fun x v e=>?_⟩
   cases q:Nat.beq y x with
   |true=>exact⟨v',c,o,pk q▸f.2.2.1,f.2.2.2.1,f.2.2.2.2.1,f.2.2.2.2.2.1,bh ((oF (p:=(y,a)) (r:=xs.zip as) q).symm.trans e)▸R1,pk q▸bW⟩
   |false=>exact N5 (i2 x v ((mr (p:=(y,a)) (r:=xs.zip as) q).symm.trans e)) fun rv c' o j1 j2 j3 j4 j5 j6=>⟨rv,c',o,j1,j2,j3,j4,j5,cq _ j6⟩
theorem oG(x:Nat):∀(a b:Env),az (a++b) x=(az a x).or (az b x)
 |[],b=>by simp[az]
 |p::a,b=>by
  have h1:az (p::(a++b)) x=match Nat.beq p.1 x with|true=>some p.2|false=>az (a++b) x:=rfl
  have h2:az (p::a) x=match Nat.beq p.1 x with|true=>some p.2|false=>az a x:=rfl
  rw [List.cons_append,h1,h2];cases q:Nat.beq p.1 x with
  |true=>rfl
  |false=>exact oG x a b
section
theorem B3(l:List (Str×Value)):∀(n:Str)(v:Value),(l.map (·.1)).Nodup→(n,v)∈l→l.reverse.lookup n=some v:=by
 induction l with
 |nil=>exact fun Y Y Y m=>nomatch m
 |cons p r ih=>
  intro n v nd m;rw [List.map_cons,List.nodup_cons]at nd;rw [List.reverse_cons,List.lookup_append];rcases cO m with e|m
  ·have:r.reverse.lookup p.1=none:=by
    cases q:r.reverse.lookup p.1 with
    |none=>rfl
    |some u=>exact absurd (List.mem_map.mpr ⟨(p.1,u),List.mem_reverse.mp (mem_of_lookup q),rfl⟩) nd.1
   rw [←e]at this⊢;rw [this,List.lookup_cons,beq_self_eq_true];rfl
  ·rw [ih n v nd.2 m];rfl
section
variable{ps csn:List Nat}{ce:CE}{fd:FuncData}{body:Expr}
theorem zN(L:oT C k ps csn ce fd body kd)(hl:ras.length=ps.length):BindsTo st fd ⟨ras,[]⟩ ((ps.map C.nm).zip ras):=by
 have hB:=mx (ds:=[]) (s:=st) (vals:=ras) L.pos L.args L.vararg L.OC L.kwarg (fun M A E Q hq=>by rw [L.dflt];exact PySem.wpAny_bind (PySem.wpAny_pure (PySem.wpAny_pure (hq _ rfl)))) (by rw [List.length_map];exact Nat.le_of_eq hl) (by rw [List.length_map,hl];exact Nat.le_add_right _ _) (Nat.zero_le _) L.nd
 rwa[List.drop_nil,List.append_nil]at hB
theorem zM{l:Addr}{q:Str}{cs:List Addr}{as bR:List AV}{rvs:List Value}(L:oT C k ps csn ce fd body kd)(SQ:dG M h fd.closure C.nm csn cs rvs)(SP:ay C J M h bR rvs)(V:ay C J M h as ras)(SN:∀x c,fd.closure.lookup x=some c→∃y∈csn,x=C.nm y)
  (hns:h.Ns l m)(hM:M l)(hm:∀n v,(n,v)∈(ps.map C.nm).zip ras→m n=some v):fm C (fun a=>Z a∨a=l) J M kd (newEnv fd.scope l fd.globals fd.closure q (some a) fd.code none fd.builtins) (ps.zip as++csn.zip bR) h:=by
 refine aw (dG.get SQ SP) fun g1 g2=>?_
 refine⟨L.glob,L.iZ,L.kind,fun x=>by rw [L.EM];rfl,fun x q=>?_,fun x c q=>?_,(fun c q=>by rw [L.lh]at q;exact no q),fun x u q Y=>?_⟩
 ·rw [L.EM]at q
  exact q.elim (fun q=>absurd rfl (L.cell _ (mem_of_lookup q))) fun q=>aC (L.free x q) fun y m e=>F1 (g1 y m) fun c' o' q1=>⟨c',e▸q1.1⟩
 ·refine aC (SN x c q) fun y m e=>eJ (g1 y m) fun c' o' q1 q2=>?_
  rw [e]at q;exact⟨o',bh (q1.symm.trans q)▸q2⟩
 ·rw [oG]at q
  cases hq:az (ps.zip as) x with
  |some u'=>
   rw [hq]at q;exact lI (oE (nm:=C.nm) V hq) fun rv V1 m1 m2=>⟨rv,.loc _ (L.loc x m2) (.inr rfl) hns (hm _ _ m1),bh q▸V1⟩
  |none=>
   rw [hq]at q;exact N5 (g2 x u q) fun rv c' o' q1 q2 q3 q4 q5 q6=>⟨rv,.cell c' o' (.inr (L.apart x q6)) q1 (.inr q2) q3 q4,q5⟩
theorem cm.one(S:aq C J M s st.heap)(z:cm C Z J st.heap){h₁:Heap}(G:aJ Z J M st.heap J M' h₁)(hns:h₁.Ns st.heap.objs.size m):cm C (fun a=>Z a∨a=st.heap.objs.size) J h₁:=fun a q=>q.elim (z.bJ G a) fun q=>by
 rw [q];have iq:st.heap.get? st.heap.objs.size=none:=Heap.bc _
 refine⟨N6 hns fun o es ep e=>⟨o,e.1⟩,fun m=>let⟨o,e⟩:=S.there _ m;aO e iq,fun p hp q=>?_⟩
 exact dC (S.tab p hp).1 fun Y a=>aO (q▸a.2.1) iq
theorem G4(hlim:C.hb.NoLimit)(H:gk C ih d){bR as:List AV}{c:Addr}{o oc:Obj}{vs:Array Value}{t:Tok}{cs:List Addr}{rvs:List Value}{Q:Value→Shared→Prop}(L:oT C k ps csn ce fd body kd)(j9:C.bR k=csn)(X:xq C M st.heap k (ay C J M st.heap bR) a c o oc fd vs t cs rvs)(hl:as.length=ps.length)(e:(ih.ev ce (ps.zip as++csn.zip bR) s).leaf C.ν=some (v,s'))(S:aq C J M s st.heap)(R:bu A (d+1))(z:cm C Z J st.heap)(V:ay C J M st.heap as ras)(K:KV C Z J M st v s' Q):ab (Md C) A (call (.ref a) ras []) Q E st:=by
 have hr:ras.length=ps.length:=V.length.symm.trans hl
 refine dA (qQ (by have:=R.2.1;lia) X.at_ X.dat L.co L.gen L.n4 ⟨c,oc,vs,t,X.code,X.TF,X.PL,X.qual⟩ (lf (zN L hr _ _ _ _ (lf<|wpAny_newFunctionEnv L.cell (fun x hx=>?_) (fun h₁ hns hsb=>?_) L.kind))))
 ·exact aC (List.mem_map.mp (List.of_mem_zip (a:=x.1) (b:=x.2) hx).1) fun y q1 q2=>q2▸L.loc y q1
 ·have IX:∀b o,st.heap.get? b=some o→h₁.get? b=some o:=fun b o e=>hsb.extBut b o (Nat.ne_of_lt (Heap.lt_size e)) (Heap.get?_push_of_some _ e)
  refine⟨(hlim.keeps fun b o e=>(S.base b o e).2).keeps IX,qP ?_⟩
  refine aw (aq.uT (Z:=Z) (h₁:=h₁) (own:=fun a=>a=st.heap.objs.size) S IX (fun a q=>q▸Heap.bc _) (fun a q=>N6 hns fun o Y Y e=>⟨o,q▸e.1⟩)) fun aD aF=>?_
  exact H ce _ s v s' e kd body L.fits _ J _ _ _ _ (zM L (j9▸X.bR.chg aF.chg) (X.vals.grow aF) (V.grow aF) (j9▸X.all) hns (.inr rfl) fun n v m=>B3 _ _ _ (by rw [List.map_fst_zip (by rw [List.length_map,hr];exact Nat.le_refl _)];exact L.nd) m) aD (R.c.deeper _) (z.one S aF hns) _ _ fun σ' M' h' tk rv G S' V'=>K σ' M' h' tk rv (aF.trans (G.less fun Y q=>.inl q)) S' V'
theorem uI(hlim:C.hb.NoLimit)(H:gk C ih d){ok:Bool}{bR as:List AV}{rg:Value}{Q:Value→Shared→Prop}(hlm:∀k ps cs e,P.gB.get k=some (ps,cs,e)→Jq C k ps cs e)(e:(xJ P ih ok (.vd k bR) as s).leaf C.ν=some (v,s'))(S:aq C J M s st.heap)(R:bu A (d+1))(z:cm C Z J st.heap)(Vg:ao C J M st.heap (.vd k bR) rg)(V:ay C J M st.heap as ras)(K:KV C Z J M st v s' Q):
  (∀Q E,(∀k,Q k st)→ab (Md C) A (keeperOf rg) Q E st)∧ab (Md C) A (call rg ras []) Q E st:=by
 refine aC Vg.inv fun a q X=>KJ X fun c o oc fd X=>KJ X fun vs t cs rvs X=>q▸⟨fun Q E K=>?_,?_⟩
 ·unfold keeperOf
  refine aa (lf<|wpAny_load X.at_ ?_)
  rw [X.dat];exact af (K _)
 ·replace e:(bQ (P.gB.get k) fun q=>bQ (bindArgs q.1 [] as) fun ρ=>ih.ev q.2.2 (ρ++q.2.1.zip bR) s).leaf C.ν=some (v,s'):=e
  refine aC (aI e) fun p hl e=>aC (aI e) fun ρ hb e=>aw (hlm k p.1 p.2.1 p.2.2 hl) fun j9 hL=>F1 (hL fd X.lam) fun body kd L=>dJ (lC hb) fun b1 b2 b3=>?_
  have hlen:as.length=p.1.length:=Nat.le_antisymm b1 b2
  rw [b3,List.drop_nil,List.append_nil]at e;exact G4 hlim H L j9 X hlen e S R z V K
end
end
theorem rF{ps:List (Str×Value)}:∀kvs:List (Str×Value),((kvs++ps).map (·.1)).Nodup→merged kvs ps=kvs++ps:=by
 induction ps with
 |nil=>exact fun kvs Y=>(List.append_nil kvs).symm
 |cons p r ih=>
  intro kvs nd;have h1:stored kvs p.1 p.2=kvs++[p]:=by
   unfold stored;rw [if_neg];intro q;refine aC (List.any_eq_true.mp q) fun x hx he=>?_
   rw [List.map_append,List.nodup_append]at nd;exact nd.2.2 x.1 (List.mem_map_of_mem hx) p.1 bW (of_decide_eq_true he)
  show merged (stored kvs p.1 p.2) r=_;rw [h1,ih (kvs++[p]) (by rw [List.append_assoc];exact nd),List.append_assoc]
  rfl
section
noncomputable def NL(env:PySem.Env)(pos:Pos)(kx:List (Option Expr))(xs:List Expr):List (Sem Value×Sem Value):=kx.zipWith (fun k x=>(k.elim (pure .none) fun k=>eval k env,do let v←eval x env;standAt pos;pure v)) xs
theorem Kt(pos:Pos):∀{es:List CE}{kx:List (Option Expr)}{xs:List Expr},i9 ks kx→cY C kd es xs→ks.length=es.length→
  (evalEachOpt kx env).zip ((evalEach xs env).map fun v=>do let x←v;standAt pos;pure x)=(NL env pos kx xs).map (fun p=>(some p.1,p.2))∧(NL env pos kx xs).length=ks.length:=by
 induction ks with
 |nil=>exact fun hk Y Y=>hk.nl▸⟨rfl,rfl⟩
 |cons k ks ih=>
  intro es kx xs hk hf hl;cases es with
  |nil=>injection hl
  |cons a es=>exact hf.oU fun x xs Y Y h3=>mR hk.un fun n p Ux q hk=>aw (ih hk h3 (Nat.succ.inj hl)) fun i1 i2=>q▸⟨congrArg (List.cons (some (eval (.Constant (.str (aR k)) n p) env),(do let v←eval x env;standAt pos;pure v:Sem Value))) i1,congrArg Nat.succ i2⟩
theorem tn(H:gk C ih d)(pos:Pos):∀{es:List CE}{kx:List (Option Expr)}{xs:List Expr}{s:AS}{vs:List AV}{J:List Addr}{M:Addr→Prop}{st:Shared}{Q:List (Value×Value)→Shared→Prop},(qw ih es ρ s).leaf C.ν=some (vs,s')→i9 ks kx→cY C kd es xs→ks.length=es.length→fm C Z J M kd env ρ st.heap→aq C J M s st.heap→bu A d→cm C Z J st.heap→
  (∀σ' M' h' tk(rvs:List Value)(pv:List (Value×Value)),aJ Z J M st.heap σ' M' h'→aq C σ' M' s' h'→ay C σ' M' h' vs rvs→Carries (PySem.strKind C.prog C.w) pv ((ks.map aR).zip rvs)→rvs.length=ks.length→Q pv {st with heap:=h',toks:=tk})→
  ab (Md C) A (evalPairs (NL env pos kx xs)) Q E st:=by
 induction ks with
 |nil=>
  intro es kx xs s vs J M st Q e hk hf hl F S R z K;cases es with
  |cons a b=>injection hl
  |nil=>
   injection e with e;injection e with e aN;subst e aN;rw [hk.nl,hf.nl];exact lf<|evalPairs_nil (K J M st.heap st.toks [] [] (aJ.refl _ _ _ _) S .nil trivial rfl)
 |cons k ks ihk=>
  intro es kx xs s vs J M st Q e hk hf hl F S R z K;cases es with
  |nil=>injection hl
  |cons a es=>
   refine aH.cL e fun v ag e1 e=>aH.cL e fun ws aK e2 e=>hf.oU fun x xs h1 h2 h3=>mR hk.un fun n p Ux q hk=>?_
   injection e with e;injection e with e aN;subst e aN;rw [q];refine evalPairs_cons (k:=eval (.Constant (.str (aR k)) n p) env) (v:=do let v←eval x env;standAt pos;pure v) (rest:=NL env pos Ux xs) (lf<|Calls.Constant_str ?_)
   refine aa (H a ρ s v ag e1 kd x h1 Z J M env A {st with toks:=st.toks+1} F S R z _ _ fun aA aP h₁ aU rv G aD V=>aa (au (af ?_)))
   exact ihk (st:={st with heap:=h₁,toks:=aU}) (Q:=fun vs bM=>Q ((.str (aR k) st.toks,rv)::vs) bM) e2 hk h3 (Nat.succ.inj hl) (F.grow G) aD R (z.grow G) fun cy dR br bf rvs pv bb bT dY Cr hr=>K cy dR br bf (rv::rvs) ((.str (aR k) st.toks,rv)::pv) (G.trans bb) bT (.cons (V.grow bb) dY) ⟨strKind_is _ _ _ _,rfl,Cr⟩ (congrArg Nat.succ hr)
theorem wO{o:Obj}{es:Array DictEntry}{ep:Nat}(h1:o.ExactDict)(h2:o.data=.dict es ep):o=bK es.toList ep:=by
 obtain⟨c,dd,dt,sl⟩:=o
 refine dJ (h1:) fun a b c'=>?_
 simp only at a b c' h2
 subst a b c' h2
 rfl
theorem A7{k:List Nat}{e:DictEntry}{k':Str}(h1:(PySem.strKind C.prog C.w).is k' e.key=true)(h2:e.hash=(PySem.strKind C.prog C.w).hash k')(p1:(PySem.strKind C.prog C.w).is (aR k) e.key=true):∃t,e=⟨PyData.keyHash C.w.params (aR k),.str (aR k) t,e.val⟩:=by
 rw [Value.isStrOf_inj _ _ _ h1 p1]at h2;obtain⟨eh,ek,ev⟩:=e
 exact dC (Value.isStrOf_shape p1) fun t ht=>⟨t,by cases (ht:ek=_);cases (h2:eh=_);rfl⟩
theorem DJ:∀{as:List AV}{rvs:List Value}{es:List DictEntry},ay C J M h as rvs→ks.length=rvs.length→(∀e∈es,∃k,(PySem.strKind C.prog C.w).is k e.key=true∧e.hash=(PySem.strKind C.prog C.w).hash k)→Pairs (PySem.strKind C.prog C.w) es ((ks.map aR).zip rvs)→cV C J M h (ks.zip as) es:=by
 induction ks with
 |nil=>intro as rvs es V hl _ p;cases p;exact .nil
 |cons k ks ih=>
  intro as rvs es V hl hh p;cases as with
  |nil=>rw [V.nl]at hl;injection hl
  |cons a as=>
   revert hl p
   refine V.oU fun rv rvs V r hl p=>?_
   rw [List.map_cons,List.zip_cons_cons]at p;cases p with
   |@cons e _ lu _ p1 p2 p3=>exact aC (hh e bW) fun k' h1 h2=>dC (A7 h1 h2 p1) fun t q=>Eq.mpr (congrArg (fun e=>cV C J M h ((k,a)::ks.zip as) (e::lu)) q) (.cons (t:=t) (p2▸V) (ih r (Nat.succ.inj hl) (fun e m=>hh e (cq _ m)) p3))
theorem DR(H:gk C ih d)(pos:Pos){es:List CE}{vs:List AV}{kx:List (Option Expr)}{D:Addr}{h₁:Heap}{Q:Value→Shared→Prop}(e1:(qw ih es ρ s).leaf C.ν=some (vs,s'))(hk:i9 ks kx)(hl:cY C kd es xs)(hlen:ks.length=es.length)(hnd:(ks.map aR).Nodup)(F:fm C Z J M kd env ρ st.heap)(S:aq C J M s st.heap)(R:bu A d)(z:cm C Z J st.heap)
  (dead:st.heap.get? D=none)(hsys:(D==sysModules)=false)(WV:∀b o,st.heap.get? b=some o→h₁.get? b=some o)(wy:h₁.get? D=some (bK [] 0))(K:KV C Z J M st (.eD (ks.zip vs)) s' Q):
  ab (Md C) A (evalPairs (NL env pos kx xs)) (fun vs ag=>∃kvs,Carries (PySem.strKind C.prog C.w) vs kvs∧ag.heap.DictOf (PySem.strKind C.prog C.w) D []∧
    ∀h',h'.DictOf (PySem.strKind C.prog C.w) D (merged [] kvs)→Heap.SameBut D ag.heap h'→Q (.ref D) {ag with heap:=h',toks:=ag.toks+vs.length}) E {st with heap:=h₁}:=by
 refine aw (aq.uT (Z:=Z) (h₁:=h₁) (own:=fun a=>a=D) S WV (fun a q=>q▸dead) (fun a q=>q▸⟨_,wy⟩)) fun aD aF=>?_
 have zD:cm C (fun a=>a=D) J h₁:=fun a q=>q▸⟨⟨_,wy⟩,fun m=>let⟨o,e⟩:=S.there _ m;aO e dead,fun p hp q=>dC (S.tab p hp).1 fun Y a=>aO (q▸a.2.1) dead⟩
 refine tn (st:={st with heap:=h₁}) H pos e1 hk hl hlen ((F.grow aF).more (Z':=fun a=>Z a∨a=D) fun Y q=>.inl q) aD R (fun a q=>q.elim (z.bJ aF a) (zD a)) fun cy dR br bf rvs pv bb bT dY Cr hr=>?_
 refine⟨(ks.map aR).zip rvs,Cr,⟨_,_,0,bb.dz (.inr rfl) wy,⟨rfl,rfl,rfl⟩,rfl,fun e m=>(nomatch (List.mem_toArray.mp m)),.nil,List.Pairwise.nil⟩,fun dP OW hs=>N5 OW fun o lu ep o1 o2 o3 o4 o5 o6=>?_⟩
 rw [rF [] (by rw [List.nil_append,List.map_fst_zip (Nat.le_of_eq (by rw [List.length_map,hr]))];exact hnd),List.nil_append]at o5
 rw [wO o2 o3]at o1;refine dJ ((zD.bJ bb) D rfl) fun b1 b2 b3=>aw (bT.forget (bb.more D (.inr rfl)) b2 b3 hs) fun fD X=>?_
 exact K cy _ dP _ _ ((aF.trans (bb.less fun Y q=>.inl q)).forget dead (fun b m=>S.mlt b m) hs) fD (.eD _ D lu.toList ep (fun q=>q.2 rfl) hsys o1 (DJ (dY.chg X) hr.symm (fun e m=>o4 e (Array.mem_toList_iff.mp m)) o5))
theorem NB(W:Wd C P)(H:gk C ih d){es:List CE}{Q:Value→Shared→Prop}(e:(cF P N ih (.eD ks es) ρ s).leaf C.ν=some (v,s')){kx:List (Option Expr)}(hk:i9 ks kx)(hl:cY C kd es xs)(hlen:(ks).length=(es).length)(hnd:((ks).map aR).Nodup)(Xd:(ks).length≤15)(F:fm C Z J M kd env ρ st.heap)(S:aq C J M s st.heap)(R:bu A d)(z:cm C Z J st.heap)(K:KV C Z J M st v s' Q):
  ab (Md C) A (eval (.Dict kx xs pos) env) Q E st:=by
 refine aH.cL e fun vs ag e1 e=>aw (bC e) fun Y e=>?_
 have K:=K.of e
 have dead:st.heap.get? st.heap.objs.size=none:=Heap.bc _
 have hsys:(st.heap.objs.size==sysModules)=false:=beq_eq_false_iff_ne.mpr fun q=>dC W.mods fun o e=>aO (q▸(S.base _ _ e).2) dead
 cases ks with
 |nil=>
  cases es with
  |cons a b=>injection hlen
  |nil=>
   injection e1 with e1;injection e1 with e1 aN;subst e1 aN;rw [hk.nl,hl.nl];exact lf<|wpAny_Dict_empty (K J M _ st.toks _ (aJ.push Z J M st.heap (bK [] 0)) (S.push _) (.eD [] _ [] 0 (S.nU dead) hsys (Heap.get?_push_size _ rfl) .nil))
 |cons k ks=>exact aw (Kt (env:=env) pos hk hl hlen) fun p1 p2=>lM (knd:=PySem.strKind C.prog C.w) p1 (fun q=>by rw [q]at p2;injection p2) (by rw [p2];exact Xd) (DR H pos e1 hk hl hlen hnd F S R z dead hsys (fun b o e=>Heap.get?_push_of_some _ e) (Heap.get?_push_size _ rfl) K)
end
def QA(C:Cx):Prop:=∀k as s v s',(builtin k as s).leaf C.ν=some (v,s')→∀Z J M A st ras,aq C J M s st.heap→bu A 0→cm C Z J st.heap→ay C J M st.heap as ras→∀Q E,KV C Z J M st v s' Q→ab (Md C) A (call (ve k) ras []) Q E st
def Ms(C:Cx)(P:Pg):Prop:=∀k as s r v s',P.sm k as s=some r→r.leaf C.ν=some (v,s')→∀Z J M A st ras,aq C J M s st.heap→bu A (P.smd+1)→cm C Z J st.heap→ay C J M st.heap as ras→∀Q E,KV C Z J M st v s' Q→ab (Md C) A (call (.ref (C.mH k)) ras []) Q E st
structure WF(C:Cx)(P:Pg)(N:oZ):Prop where
 wd:Wd C P
 lim:C.hb.NoLimit
 fns:∀k f,P.fs.get k=some f→u4 C k f
 gB:∀k ps cs e,P.gB.get k=some (ps,cs,e)→Jq C k ps cs e
 lw:Mu C
 dh:Mt C N
 bj:ix C
 PV:lH C
 bi:QA C
 it:iK C
 en:m5 C
 zp:r8 C
 UM:lF C P
 sm:Ms C P
def Mr(C:Cx)(P:Pg)(N:oZ)(n:Nat):Prop:=∀d,gk C (run P N n d) d∧vg C (run P N n d) d∧vf C (run P N n d) d∧Qm C (run P N n d) d
theorem bu.mono{d':Nat}(R:bu A d)(h:d'≤d):bu A d':=⟨R.1,Nat.lt_of_le_of_lt (Nat.add_le_add_right (Nat.add_le_add_left (Nat.mul_le_mul_left 2 h) _) 4) R.2.1,Nat.lt_of_le_of_lt (Nat.add_le_add_right (Nat.add_le_add_left (Nat.mul_le_mul_left 12 h) _) 40) R.2.2⟩
section
theorem GR(X:WF C P N)(hn:n≤100000)(HB:∀m,m≤n→Mr C P N m):gk C (run P N (n+1) d) d:=by
 intro e ρ s v s' he kd ex hf Z J M env A st F S R z Q E K;have he:(cF P N (run P N n d) e ρ s).leaf C.ν=some (v,s'):=he
 refine lJ (HB n (Nat.le_refl _) d:) fun H HT HX HC=>?_
 cases e with
 |n _=>exact Un (ak.RY hf) fun s pos q a b c d=>q▸Rt he a b c d F S K
 |val _=>exact mR (ak.M8 hf) fun Y Y Y q a=>q▸Nr he a S K
 |t _=>exact mR (ak.tupI hf) fun Y Y Y q a=>q▸Nt H he a F S R z K
 |list _=>exact eJ (ak.listI hf) fun Y Y q a=>q▸Kk H he a F S R z K
 |eD _ _=>exact N5 (ak.PK hf) fun Y Y Y q a b c d e=>q▸NB X.wd H he a b c d e F S R z K
 |bin _ _ _=>exact F0 (ak.binI hf) fun Y Y Y q a b=>q▸ND H he a b F S R z K
 |cmp _ _ _=>exact oW (ak.LX hf) fun Y Y Y q a b c=>q▸NC H he a b c F S R z K
 |chain _ _ _ _ _=>exact no he
 |and _=>exact eJ (ak.Mn hf) fun Y Y q a=>q▸Mm H _ he a F S R z K
 |or _=>exact eJ (ak.RJ hf) fun Y Y q a=>q▸NV H _ he a F S R z K
 |not _=>exact no he
 |neg _=>exact eJ (ak.Oa hf) fun Y Y q a=>q▸Nw H he a F S R z K
 |ite _ _ _=>exact vc (ak.Gm hf) fun Y Y Y Y q a b c=>q▸Ny H HT he a b c F S R z K
 |attr _ _=>exact QH (ak.Er hf) fun Y Y Y q a b c d=>q▸Kl X.wd H he a b c d F S R z K
 |idx _ _=>exact F0 (ak.OJ hf) fun Y Y Y q a b=>q▸Nz H he a b F S R z K
 |iB _ _ _=>exact Wb (ak.Nn hf) fun Y Y Y Y Y q a b c=>q▸Nu X.wd H he a b c F S R z K
 |rev _=>exact AQ (ak.NJ hf) fun Y Y Y Y Y h=>aC h fun Y q a=>q▸Nv H he a F S R z K
 |call _ _=>exact oW (ak.D9 hf) fun Y Y Y q a b c=>q▸JC H HC he a b c F S R z K
 |bG _ _ _=>exact AQ (ak.CD hf) fun Y Y Y Y Y h=>lJ h fun q a b h=>KN h fun c d e f g=>q▸Kj X.wd X.dh X.bj H HC he a b c d e f g F S R z K
 |comp _ _ _ _ _=>exact AQ (ak.DZ hf) fun Y Y Y Y Y h=>aC h fun Y q f=>q▸B0 X.it X.wd.inj hn (fun m hm=>⟨(HB m hm d).1,(HB m hm d).2.1⟩) he f F S R z K
 |gH _ _ _ _ _ _ _=>exact False.elim hf
 |lam _ _=>exact IA (ak.OA hf) fun Y Y Y Y q a=>q▸Nx X.lw he a F S z K
 |eW _=>exact KL (ak.OZ hf) fun Y Y q a b c=>q▸NA X.wd.glob he a b c F S K
 |bad _=>exact no he
theorem mO(H:gk C ih d){e:CE}{r:Bool}{Q:Bool→Shared→Prop}(he:(plainT ih e ρ s).leaf C.ν=some (r,s'))(hf:aW C kd e ex)(F:fm C Z J M kd env ρ st.heap)(S:aq C J M s st.heap)(R:bu A d)(z:cm C Z J st.heap)(K:KB C Z J M st r s' Q)
  (h1:∀whole:Sem Value,isTrue ex env whole=(do let v←whole;standAt ex.pos;holding [v] (PySem.truthy v))):ab (Md C) A (isTrue ex env (eval ex env)) Q E st:=by
 refine aH.cL he fun v ag e1 e2=>?_
 rw [h1];refine aa (H e ρ s v ag e1 kd _ hf Z J M env A st F S R z _ _ fun aA aP h₁ aU rv aF aD cb=>?_)
 exact aa (au (aj (je (Z:=Z) (st:={st with heap:=h₁,toks:=aU}) e2 cb aD (K.after aF))))
theorem Nd(HT:vg C ih d){e:CE}{r:Bool}{Q:Bool→Shared→Prop}(he:((ih.ts e ρ s).bind fun(b,s)=>.ok (!b,s):aH (Bool×AS)).leaf C.ν=some (r,s'))(hf:aW C kd e ex)(F:fm C Z J M kd env ρ st.heap)(S:aq C J M s st.heap)(R:bu A d)(z:cm C Z J st.heap)(K:KB C Z J M st r s' Q):
  ab (Md C) A (isTrue (.UnaryOp .Not ex pos) env (eval (.UnaryOp .Not ex pos) env)) Q E st:=by
 refine aH.cL he fun b ag e1 e2=>?_
 injection e2 with e2;injection e2 with e2 aN;subst e2 aN;exact isTrue_not (HT _ ρ s b _ e1 kd _ hf Z J M env A st F S R z _ _ fun aA aP h₁ aU aF aD=>K aA aP h₁ aU aF aD)
theorem Fb(HB:Mr C P N n):vg C (run P N (n+1) d) d:=by
 intro e ρ s r s' he kd ex hf Z J M env A st F S R z Q E K;have he:(stepT (run P N n d) e ρ s).leaf C.ν=some (r,s'):=he
 refine lJ (HB d:) fun H HT HX HC=>?_
 cases e with
 |not _=>exact eJ (ak.N8 hf) fun Y Y q a=>q▸Nd HT he a F S R z K
 |and _=>exact eJ (ak.Mn hf) fun Y Y q a=>q▸Fd HT _ _ he a F S R z K
 |or _=>exact eJ (ak.RJ hf) fun Y Y q a=>q▸J4 HT _ _ he a F S R z K
 |cmp _ _ _=>exact oW (ak.LX hf) fun Y Y Y q a b c=>q▸Nf H he a b c F S R z K
 |chain _ _ _ _ _=>exact N4 (ak.D3 hf) fun Y Y Y Y q a b c e=>q▸Fg H he a b c e F S R z K
 |n _=>exact F1 (ak.RY hf) fun Y Y h=>by rw [h.1]at hf⊢;exact mO H he hf F S R z K fun Y=>rfl
 |attr _ _=>exact N6 (ak.Er hf) fun Y Y Y h=>by rw [h.1]at hf⊢;exact mO H he hf F S R z K fun Y=>rfl
 |call _ _=>exact N6 (ak.D9 hf) fun Y Y Y h=>by rw [h.1]at hf⊢;exact mO H he hf F S R z K fun Y=>rfl
 |bG _ _ _=>exact AQ (ak.CD hf) fun Y Y Y Y Y h=>by rw [h.1]at hf⊢;exact mO H he hf F S R z K fun Y=>rfl
 |_=>exact no he
theorem JJ(X:WF C P N)(hn:n≤100000)(HB:∀m,m≤n→Mr C P N m){c:CS}(e:(bX P (run P N n d) c ρ s).leaf C.ν=some (f,ρ',s'))(hf:fS C kd cs c x)(F:di C Z J M own kd cs env ρ st.heap)(S:aq C J M s st.heap)(R:bu A d)(z:cm C Z J st.heap)(K:KX C Z J M own kd cs env st f ρ' s' Q):
  ab (Md C) A (exec x env) Q E st:=by
 refine lJ (HB n (Nat.le_refl _) d:) fun H HT HX HC=>?_
 cases c with
 |b8 y a=>
  exact KJ (bg.Qg hf) fun sN p pos ex h=>lJ h fun q h1 h2 h=>aw h fun h3 h4=>by
   rw [q];rcases h4 with h4|h4
   ·exact MX X.wd.inj H e h1 h2 h3 h4 F S R z K
   ·cases n with
    |zero=>exact no e
    |succ m=>
     refine AQ h4 fun elt tg flat it ifs h4=>aw h4 fun q1 h4=>AQ h4 fun xe xt xi xs sc h4=>aC h4 fun lpos q2 Y=>?_
     rw [q2]at h3⊢;rw [q1]at e h3;exact JN X.it X.wd.inj (Nat.le_of_succ_le hn) (fun k hk=>⟨(HB k (Nat.le_succ_of_le hk) d).1,(HB k (Nat.le_succ_of_le hk) d).2.1⟩) e h1 h2 h3 F S R z K
 |cP _ _=>exact Um (bg.Qa hf) fun Y Y Y Y Y q h1 h2 h3 h4=>q▸JK X.wd.inj H e h1 h2 h3 h4 F S R z K
 |iS _ _ _ _=>exact AQ (bg.Mj hf) fun Y Y Y Y Y h=>KJ h fun Y Y Y Y h=>lJ h fun q h0 h5 h=>KN h fun h1 h2 h3 h4 h6=>q▸EY X.wd.inj X.wd H e h0 h5 h1 h2 h3 h4 h6 F S R z K
 |aT _ _ _=>exact Ul (bg.Qi hf) fun Y Y Y Y Y q h0 hn h1 h3 h4=>q▸JO X.wd H e h0 hn h1 h3 h4 F S R z K
 |jW _ _ _=>exact Um (bg.Qf hf) fun Y Y Y Y Y q h1 h2 h3 h4=>q▸JM X.wd H e h1 h2 h3 h4 F S R z K
 |i0 _ _ _ _=>exact AQ (bg.Qc hf) fun Y Y Y Y Y h=>RP h fun Y Y q h1 h2 SK h3 h4=>q▸JL X.PV X.wd H e h1 h2 SK h3 h4 F S R z K
 |ex _=>exact jZ (bg.Xk hf) fun Y Y q h1 h2=>q▸Q0 H e h1 h2 F S R z K
 |ret _=>
  exact(bg.RD hf).elim (fun h=>eJ h fun Y Y q h1=>q▸MU H e h1 F S R z K) fun h=>aw h fun q h=>dC h fun Y q'=>by
   rw [q]at e;rw [q'];cases n with
   |zero=>exact no e
   |succ m=>exact lf (wpAny_Return_none ((K.ok e).now S F ⟨.none,rfl,.none⟩ st.toks))
 |ite _ _ _=>exact vc (bg.Gm hf) fun Y Y Y Y q h1 h2 h3=>q▸MV HT HX e h1 h2 h3 F S R z K
 |«for» _ _ _ _ _=>exact N4 (bg.GF hf) fun Y Y Y Y q h1 OX h2 h3=>q▸MW X.wd.inj X.wd X.UM X.it X.en X.zp H (fun m hm=>(HB m hm d).1) (fun m hm=>(HB m hm d).2.2.1) e h1 OX h2 h3 F S R z K
 |gZ _ _ _ _ _ _=>exact False.elim hf
 |«while» _ _=>exact F0 (bg.JS hf) fun Y Y Y q h1 h2=>q▸EX (fun m hm=>⟨(HB m hm d).2.1,(HB m hm d).2.2.1⟩) e h1 h2 F S R z K
 |«try» _=>exact IA (bg.Rf hf) fun Y Y Y Y q h1=>q▸MT HX e h1 F S R z K
 |pass=>exact dC (bg.NR hf) fun Y q=>q▸lf (wpAny_Pass ((K.ok e).now S F rfl st.toks))
 |bad _=>exact no e
theorem Bh(e:(aH.ok (Fl.nx,ρ,s)).leaf C.ν=some (f,ρ',s'))(F:di C Z J M own kd cs env ρ st.heap)(S:aq C J M s st.heap)(K:KX C Z J M own kd cs env st f ρ' s' Q):ab (Md C) A (execs [] env) Q E st:=
 lf (wpAny_execs_nil ((K.ok e).now S F rfl st.toks))
set_option tactic.hygienic true in
theorem EW(X:WF C P N)(hn:n≤100000)(HB:∀m,m≤n→Mr C P N m):vf C (run P N (n+1) d) d:=by
 intro cl ρ s f ρ' s' e kd cs xs hf Z J M own env A st F S R z Q E K;have e:(BU P (run P N n d) cl ρ s).leaf C.ν=some (f,ρ',s'):=e
 cases cl with
 |nil=>exact hf.nl▸Bh e F S K
 |cons c cl=>
  refine mR (Ek e) fun SS b7 ag e1 e=>jZ hf.un fun x xs q h1 h2=>?_
  rw [q];refine lK (JJ X hn HB e1 h1 F S R z fun aA aP h₁ aU fl aF aD cR pj=>?_)
  cases SS with
  |rt w=>
   refine dJ (N0 e) fun q1 q2 q3=>?_
   exact aC pj fun rv q V=>q▸K aA aP h₁ aU _ aF (q3▸aD) (q2▸cR) (q1▸⟨rv,rfl,V⟩)
  |nx=>
   rw [show fl=.next from pj]
   cases cl with
   |nil=>exact h2.nl▸Bh e cR aD (K.after aF)
   |cons c' cl=>exact(HB n (Nat.le_refl _) d).2.2.1 _ b7 ag f ρ' s' e kd cs _ h2 Z aA aP own env A {st with heap:=h₁,toks:=aU} cR aD R (z.bJ aF) Q E (K.after aF)
def TP(v:Value):Prop:=∃k,keeperOf v=pure k
theorem wh(k:Nat){Q:Keeper→Shared→Prop}(K:∀k,Q k st):ab (Md C) A (keeperOf (ve k)) Q E st:=
 dC (Ds (P:=TP) ⟨_,rfl⟩ US ⟨⟨_,rfl⟩,⟨_,rfl⟩,⟨_,rfl⟩,⟨_,rfl⟩,⟨_,rfl⟩,⟨_,rfl⟩,⟨_,rfl⟩,⟨_,rfl⟩,⟨_,rfl⟩,⟨_,rfl⟩,⟨_,rfl⟩,⟨_,rfl⟩,⟨_,rfl⟩,⟨_,rfl⟩,⟨_,rfl⟩,⟨_,rfl⟩,⟨_,rfl⟩,trivial⟩ k) fun x q=>(show keeperOf (ve k)=pure x from q)▸af (K x)
theorem Ha(X:WF C P N)(HB:Mr C P N n):Qm C (run P N (n+1) d) d:=by
 intro g as s v s' e Z J M A st rg ras S R z Vg V;cases d with
 |zero=>exact no e
 |succ d=>
  have e:(xJ P (run P N n d) (Nat.ble P.smd d) g as s).leaf C.ν=some (v,s'):=e
  refine lJ (HB d:) fun H HT HX HC=>?_
  cases g with
  |fn k=>
   rw [show rg=_ from Vg.inv]
   refine aC (aI e) fun fn hfs e=>⟨fun Q E K=>zO (X.fns _ _ hfs) S K,fun Q E K=>?_⟩
   cases hs:Nm P (Nat.ble P.smd d) k as s with
   |none=>rw [hs]at e;exact yx X.lim HX hfs (X.fns _ _ hfs) e S R.c z V K
   |some r=>
    rw [hs]at e;cases hb:Nat.ble P.smd d with
    |false=>rw [hb]at hs;exact no hs
    |true=>rw [hb]at hs;exact X.sm k as s r v s' hs e Z J M A st ras S (R.mono (Nat.succ_le_succ (show P.smd≤d from bF hb))) z V Q E K
  |cls c=>
   rw [show rg=_ from Vg.inv]
   exact⟨fun Q E K=>(uH (Q:=fun Y Y=>True) (E:=fun Y Y=>True) X.wd X.lim X.fns HX e S R z V (fun Y Y Y Y Y Y Y Y=>trivial)).1 Q E K,fun Q E K=>(uH X.wd X.lim X.fns HX e S R z V K).2⟩
  |vd k bR=>exact⟨fun Q E K=>(uI (Q:=fun Y Y=>True) (E:=fun Y Y=>True) X.lim H X.gB e S R z Vg V (fun Y Y Y Y Y Y Y Y=>trivial)).1 Q E K,fun Q E K=>(uI X.lim H X.gB e S R z Vg V K).2⟩
  |bi k=>
   rw [show rg=_ from Vg.inv]
   exact⟨fun Q E K=>wh k K,fun Q E K=>X.bi k as s v s' e Z J M A st ras S (R.mono (Nat.zero_le _)) z V Q E K⟩
  |_=>exact no e
theorem sound(X:WF C P N):∀n,n≤100000→Mr C P N n:=by
 intro n
 induction n using Nat.strongRecOn with
 |ind n ih=>
  intro hn d;cases n with
  |zero=>exact⟨(fun Y Y Y Y Y e=>by injection e),(fun Y Y Y Y Y e=>by injection e),(fun Y Y Y Y Y Y e=>by injection e),(fun Y Y Y Y Y e=>by injection e)⟩
  |succ n=>
   have HB:∀m,m≤n→Mr C P N m:=fun m hm=>ih m (Nat.lt_succ_of_le hm) (by lia)
   exact⟨GR X (by lia) HB,Fb (HB n (Nat.le_refl _)),EW X (by lia) HB,Ha X (HB n (Nat.le_refl _))⟩
end
section
theorem aq.mc(S:aq C J M s h)(hT:∀a,T a→M a∧¬Z a∧a∉J∧∀p∈C.tabs,a≠p.2)(hk:∀b o,¬T b→h.get? b=some o→h'.get? b=some o)(hl:∀a,T a→∃o,h'.get? a=some o):aq C J M s h'∧aJ Z J M h J M h':=by
 have hv:∀b o,h.get? b=some o→∃o',h'.get? b=some o':=fun b o e=>by
  by_cases hb:T b
  ·exact hl b hb
  ·exact⟨o,hk b o hb e⟩
 have G:aJ Z J M h J M h':=⟨⟨[],by simp,fun Y m=>nomatch m⟩,⟨hv,fun b o hb e=>hk b o (fun q=>hb ⟨(hT b q).1,(hT b q).2.1⟩) e⟩,fun Y x=>x,fun Y x=>.inl x⟩
 refine⟨⟨S.len,S.lim,S.gL,S.nodup,S.low,fun i o b e q=>?_,S.jq,S.yu,fun b m=>let⟨o,e⟩:=S.there b m;hv b o e,fun b m=>let⟨o,e⟩:=S.mlt b m;hv b o e,fun b o e=>?_,fun p hp=>?_,S.rg⟩,G⟩
 ·have hb:¬T b:=fun z=>(hT b z).2.2.1 (bO q)
  exact(S.obj i o b e q).grow G fun x hx=>hk b x hb hx
 ·refine aw (S.base b o e:) fun n y=>?_
  exact⟨n,hk b o (fun z=>n (hT b z).1) y⟩
 ·obtain⟨⟨ps,a1,a2,a3,a4⟩,a5⟩:=S.tab p hp
  refine⟨⟨ps,a1,hk _ _ (fun z=>(hT _ z).2.2.2 p hp rfl) a2,a3,fun pos cv e=>?_⟩,a5⟩
  refine vc (a4 pos cv e:) fun c oc vs t e1 e2 e3 e4=>?_
  exact⟨c,oc,vs,t,e1,e2,hk _ _ (fun z=>e2 (hT _ z).1) e3,e4⟩
theorem K5{I:Addr}{o:Obj}{T:String}{Q:Unit→Shared→Prop}(e:st.heap.get? I=some o)(hc:o.cls=.type T)(hT:["enumerate","zip","dict_itemiterator","dict_reverseitemiterator","odict_iterator","itertools.zip_longest","itertools.pairwise"].contains T=false)(q:Q () st):ab (Md C) A (letOwnedTupleGo (.Tuple default default default) (.ref I) (.ref a)) Q E st:=by
 refine aa (lf<|wpAny_load e ?_)
 rw [hc];cases o.data<;>first|exact af q|skip
 show ab _ _ (if(_&&_)=true then _ else _) Q E st;rw [hT];exact af q
noncomputable def CP(it v:Value):Sem Unit:=letOwnedTupleGo (.Tuple default default default) it v
theorem Oq{it:Value}(v:Value):(∃r,it=.ref r)∨CP it v=pure ():=by
 cases it<;>first|exact .inr rfl|exact .inl ⟨_,rfl⟩
theorem Ou{v:Value}(r:Addr):(∃a,v=.ref a)∨CP (.ref r) v=pure ():=by
 cases v<;>first|exact .inr rfl|exact .inl ⟨_,rfl⟩
theorem Ot(target:Expr)(it v:Value):letOwnedTupleGo target it v=CP it v∨letOwnedTupleGo target it v=pure ():=by
 cases target<;>first|exact .inr rfl|exact .inl rfl
theorem yb{target:Expr}{it v:Value}{Q:Unit→Shared→Prop}(q:Q () st)(k:∀r a,it=.ref r→v=.ref a→ab (Md C) A (CP it v) Q E st):ab (Md C) A (letOwnedTupleGo target it v) Q E st:=
 (Ot target it v).elim (fun e=>e▸(Oq v).elim (fun⟨r,e1⟩=>(Ou r).elim (fun⟨a,e2⟩=>k r a e1 e2) fun e2=>(e1▸e2:CP it v=pure ())▸af q) fun e1=>e1▸af q) fun e=>e▸af q
theorem rH{target:Expr}{it v:Value}{Q:Unit→Shared→Prop}(hv:∀a,v≠.ref a)(q:Q () st):ab (Md C) A (letOwnedTupleGo target it v) Q E st:=
 yb q fun Y a Y e=>absurd e (hv a)
theorem ya{target:Expr}{I:Addr}{v:Value}{o:Obj}{T:String}{Q:Unit→Shared→Prop}(e:st.heap.get? I=some o)(hc:o.cls=.type T)(hT:["enumerate","zip","dict_itemiterator","dict_reverseitemiterator","odict_iterator","itertools.zip_longest","itertools.pairwise"].contains T=false)(q:Q () st):ab (Md C) A (letOwnedTupleGo target (.ref I) v) Q E st:=
 yb q fun Y Y Y e'=>e'▸K5 e hc hT q
theorem gC{I:Addr}{fp wr:List Addr}{Pn:Nat→Value→Prop}{St:Nat→Heap→Prop}{item:Nat→Option AV}(W:∀A:Around,A.handled=none→Walks C.prog C.w A I fp wr n Pn St)(hI:∀i h,St i h→∀b∈wr,∃o,h.get? b=some o)
  (hsrc:∀s k r,(iN s kind src k).leaf C.ν=some r→r=item k)(hend:item n=none)
  (hlot:∀i h v,St i h→Pn i v→∀(target:Expr)(A:Around)(st:Shared)(Q:Unit→Shared→Prop)(E:Value→Shared→Prop),(∃o T,st.heap.get? I=some o∧o.cls=.type T∧True)∨True→St (i+1) st.heap→Q () st→ab (Md C) A (letOwnedTupleGo target (.ref I) v) Q E st):
  jG C kind src I (fun a=>a∈wr) fun J M k h=>k≤n∧St k h∧(∀b∈fp,b∉wr→¬M b∧∃o,h.get? b=some o)∧∀i v,i<n→Pn i v→∃a,item i=some a∧ao C J M h a v:=by
 have h0:(⟨none,0,none,none,1⟩:Around).handled=none:=rfl
 refine⟨fun{Z J M h σ' M' h' k} hz G⟨h1,h2,h3,h4⟩=>?_,fun{J M k A st Q E} hh⟨h1,h2,h3,h4⟩ q=>lf<|(W A hh).self k st Q E h2 q,fun{Z J M s st k A E r Q} hh S hT⟨h1,h2,h3,h4⟩ er kn ks=>?_⟩
 ·refine⟨h1,(W _ h0).frame k h h' h2 fun b hb o e=>?_,fun b hb hn=>?_,fun i v hi hp=>?_⟩
  ·by_cases hw:b∈wr
   ·exact G.dz (hz b hw) e
   ·exact G.kept (h3 b hb hw).1 e
  ·obtain⟨a,o,e⟩:=h3 b hb hn
   exact⟨G.notM a e,o,G.kept a e⟩
  ·refine aC (h4 i v hi hp:) fun a e V=>?_
   exact⟨a,e,V.grow G⟩
 ·have hr:=hsrc s k r er
  rcases Nat.lt_or_ge k n with hk|hk
  ·refine lf<|(W A hh).item k st Q E hk h2 fun v h' tk hp wq hkp=>?_
   refine aC (h4 k v hk hp:) fun a e V=>?_
   refine aw (S.mc (Z:=Z) hT (fun b o hb e=>hkp b o hb e) (hI _ _ wq):) fun S' G=>?_
   refine ks a (by rw [hr,e]) h' tk v G S' (V.grow G) fun target A Q E Y K=>?_
   refine hlot k _ v h2 hp target A {st with heap:=h',toks:=tk} Q E (.inr trivial) wq (K h' (aJ.refl _ _ _ _) S' ⟨hk,wq,fun b hb hn=>?_,fun i u hi hp=>?_⟩)
   ·obtain⟨m,o,e⟩:=h3 b hb hn
    exact⟨m,o,hkp b o hn e⟩
   ·refine aC (h4 i u hi hp:) fun a e V=>?_
    exact⟨a,e,V.grow G⟩
  ·have:k=n:=by lia
   subst this;refine lf<|(W A hh).done st Q E h2 fun h' tk hkp=>kn (by rw [hr,hend]) h' tk fun b o hb e=>hkp b o hb e
end
section
theorem ay.back{vs:List Value}(V:ay C J M h l vs){y:Value}(e:vs[k]?=some y):∃x,l[k]?=some x∧ao C J M h x y:=
 V.ind (P:=fun l vs=>∀k y,vs[k]?=some y→∃x,l[k]?=some x∧ao C J M h x y) (fun Y Y e=>Mine.Internal.no e) (fun a Y Y Y x Y ih k=>Nat.casesOn k (fun Y e=>⟨a,rfl,bh e▸x⟩) fun k y e=>ih k y e) k y e
theorem G6{aP:Addr→Prop}(hk:∀b o,h.get? b=some o→h'.get? b=some o)(h1:∀a,aP a→M a∨h.get? a=none):u9 J M h J aP h':=
 ⟨⟨[],by simp⟩,fun a o hn e=>⟨fun q=>(h1 a q).elim hn fun q=>aO e q,hk a o e⟩⟩
theorem d8{b:Addr}(h:a∈[b]):a=b:=List.mem_singleton.mp h
theorem BB(x:UInt8)(e:IE)(ν:Nat→Int)(h0:0≤e.eval ν)(h1:e.eval ν<256)(h:cz ν e=x):(x.toNat:Int)=e.eval ν:=by
 subst h;unfold cz;rw [UInt8.toNat_ofNat_of_lt' (by show _<256;lia)]
 lia
theorem ip:st.heap.get? st.heap.objs.size=none:=Heap.bc _
theorem kp(o:Obj)(b:Addr)(o':Obj)(e:st.heap.get? b=some o'):(st.heap.push o).get? b=some o':=Heap.get?_push_of_some o e
theorem gp(o:Obj)(hf:o.isFreed=false):(st.heap.push o).get? st.heap.objs.size=some o:=Heap.get?_push_size _ hf
section
theorem CZ(V:ao C J M st.heap (.t l) rv):Made C 0 (.t l) s J M st A (pyIter rv):=by
 intro Q E K;refine V.kO fun a vs n ha ea Va=>?_
 have ht:st.heap.IsTuple a vs.toArray:=⟨_,ea,rfl,n,rfl⟩
 have hne:a≠st.heap.objs.size:=Nat.ne_of_lt (Heap.lt_size ea)
 have hl:=Va.length
 refine lf<|wpAny_pyIter_tuple ht (K _ _ _ _ _ (gC (item:=fun k=>l[k]?) (fun A hh=>Walks.tuple hh st.heap.objs.size a hne vs.toArray) (fun i h q b hb=>?_) (fun s k r e=>?_) ?_ fun i h v q hp target A st Q E Y q' k=>?_) (List.mem_singleton.mpr rfl) (fun b hb=>?_) (kp _) fun aP h1 h2 aD=>?_)
 ·rw [d8 hb];obtain⟨⟨o,e,_⟩,_⟩:=q;exact⟨o,e⟩
 ·injection e with e;subst e;rfl
 ·rw [List.size_toArray,←hl];exact List.getElem?_eq_none (Nat.le_refl _)
 ·obtain⟨⟨o,e,hc,_⟩,_⟩:=q'
  exact ya e hc (by decide) k
 ·rw [d8 hb];exact⟨ip,_,gp _ rfl⟩
 ·refine⟨Nat.zero_le _,⟨⟨_,gp _ rfl,rfl,rfl⟩,⟨_,kp _ _ _ ea,rfl,n,rfl⟩⟩,fun b hb hn=>?_,fun i v hi hp=>?_⟩
  ·rcases cO hb with q|q
   ·exact absurd (q▸List.mem_singleton.mpr rfl) hn
   ·rw [d8 q];exact⟨fun q=>(h1 a q).elim ha fun q=>aO ea q,_,kp _ _ _ ea⟩
  ·refine aC (Va.back (k:=i) (y:=v) (by simpa using hp):) fun x q1 q2=>?_
   exact⟨x,q1,q2.chg (G6 (kp _) h1)⟩
theorem wi{l:List IE}(V:ao C J M st.heap (.bytes l) rv):Made C 0 (.bytes l) s J M st A (pyIter rv):=by
 intro Q E K;refine V.eF fun hb t=>?_
 refine lf<|KBw.pyIter_bytes (K _ _ _ _ _ (gC (item:=fun k=>l[k]?.map .int) (fun A hh=>KBw.walks hh st.heap.objs.size (aS C.ν l) t) (fun i h q b hb=>?_) (fun s k r e=>?_) ?_ fun i h v q hp target A st Q E Y q' k=>?_) (List.mem_singleton.mpr rfl) (fun b hb=>?_) (kp _) fun aP h1 h2 aD=>?_)
 ·rw [d8 hb];refine aC (q:) fun o e Y=>?_;exact⟨o,e⟩
 ·injection e with e;subst e;rfl
 ·rw [cJ];simp
 ·obtain⟨c,u,_,rfl⟩:=hp
  exact rH (fun a q=>by injection q) k
 ·rw [d8 hb];exact⟨ip,_,gp _ rfl⟩
 ·refine⟨Nat.zero_le _,⟨_,gp _ rfl,rfl,rfl⟩,fun b OS hn=>absurd OS hn,fun i v hi hp=>?_⟩
  obtain⟨c,u,q1,rfl⟩:=hp
  have hq:(l.map (cz C.ν))[i]?=some c:=by
   have:(aS C.ν l)[i]?=some c:=q1
   unfold aS at this
   simpa using this
  rw [List.getElem?_map]at hq;refine aC (Option.map_eq_some_iff.mp hq:) fun x q2 q3=>?_
  have hx:=hb x (bO q2)
  refine⟨.int x,by rw [q2];rfl,.int x _ u (BB c x C.ν hx.1 hx.2 q3).symm⟩
theorem C0{l:List Nat}(V:ao C J M st.heap (.str l) rv):Made C 0 (.str l) s J M st A (pyIter rv):=by
 intro Q E K;refine V.gK fun t=>?_
 have fin:∀(ty:String)(W:∀A:Around,A.handled=none→Walks C.prog C.w A st.heap.objs.size [st.heap.objs.size] [st.heap.objs.size] (aR l).cps.size (SignAt (aR l)) (fun i h=>h.IsStrIter st.heap.objs.size ty (aR l) t i)),
   Q (.ref st.heap.objs.size) {st with heap:=st.heap.push {cls:=.type ty,data:=.fields #[.str (aR l) t,.int 0 0]}}:=by
  intro ty W;refine K _ _ _ _ st.toks (gC (item:=fun k=>l[k]?.map fun c=>.str [c]) W (fun i h q b hb=>?_) (fun s k r e=>?_) ?_ fun i h v q hp target A st Q E Y q' k=>?_) (List.mem_singleton.mpr rfl) (fun b hb=>?_) (kp _) fun aP h1 h2 aD=>?_
  ·rw [d8 hb];refine aC (q:) fun o e Y=>?_;exact⟨o,e⟩
  ·injection e with e;subst e;rfl
  ·simp[aR]
  ·obtain⟨c,u,_,rfl⟩:=hp
   exact rH (fun a q=>by injection q) k
  ·rw [d8 hb];exact⟨ip,_,gp _ rfl⟩
  ·refine⟨Nat.zero_le _,⟨_,gp _ rfl,rfl,rfl⟩,fun b OS hn=>absurd OS hn,fun i v hi hp=>?_⟩
   obtain⟨c,u,q1,rfl⟩:=hp
   have hq:l[i]?=some c:=by simpa[aR]using q1
   exact⟨.str [c],by rw [hq];rfl,.str [c] u⟩
 cases ha:(aR l).cps.all (·<128)
 ·exact lf<|wpAny_pyIter_wide ha (fin "str_iterator" fun A hh=>Walks.strWide hh _ _ _)
 ·exact lf<|wpAny_pyIter_ascii ha (fin "str_ascii_iterator" fun A hh=>Walks.strAscii hh _ _ _)
theorem C2(V:ao C J M st.heap (.eD []) rv):Made C 0 (.eD []) s J M st A (pyIter rv):=by
 intro Q E K;refine V.wR fun a es n ha hs ea Ra=>?_
 subst Ra;have hd:st.heap.DictAt (PySem.strKind C.prog C.w) a [] n:=⟨_,_,ea,⟨rfl,rfl,rfl⟩,rfl,fun e m=>by simp at m,.nil,by simp⟩
 have hne:a≠st.heap.objs.size:=Nat.ne_of_lt (Heap.lt_size ea)
 refine lf<|wpAny_pyIter_dict hs hd (K _ _ _ _ _ (gC (item:=fun Y=>none) (fun A hh=>Walks.dictKeys (knd:=PySem.strKind C.prog C.w) hh st.heap.objs.size a hne [] n) (fun i h q b hb=>?_) (fun s k r e=>?_) rfl fun i h v q hp target A st Q E Y q' k=>?_) (List.mem_singleton.mpr rfl) (fun b hb=>?_) (kp _) fun aP h1 h2 aD=>?_)
 ·rw [d8 hb];obtain⟨⟨o,e,_⟩,_⟩:=q;exact⟨o,e⟩
 ·injection e with e;subst e;rfl
 ·refine eJ (hp:) fun k x q Y=>?_;simp at q
 ·rw [d8 hb];exact⟨ip,_,gp _ rfl⟩
 ·refine⟨Nat.zero_le _,⟨⟨_,gp _ rfl,rfl,rfl⟩,hd.keep (kp _)⟩,fun b hb hn=>?_,fun i v hi hp=>by simp at hi⟩
  rcases cO hb with q|q
  ·exact absurd (q▸List.mem_singleton.mpr rfl) hn
  ·rw [d8 q];exact⟨fun q=>(h1 a q).elim ha fun q=>aO ea q,_,kp _ _ _ ea⟩
theorem ta(a b:Int):Builtin.Range.rangeSize a b 1=((b - a).toNat:Int):=by
 unfold Builtin.Range.rangeSize;simp only[show(1:Int)>0 by decide,if_true,Int.ediv_one]
 split<;>lia
theorem zu{a b:Int}(b1: -1000000≤a)(b2:a≤1000000)(b3: -1000000≤b)(b4:b≤1000000):Builtin.Range.small a b 1=true:=by
 unfold Builtin.Range.small;rw [ta];unfold Builtin.Range.rangeFitsLong;simp only[Bool.and_eq_true,decide_eq_true_eq,Bool.or_eq_true];refine⟨⟨⟨⟨⟨?_,?_⟩,?_,?_⟩,?_⟩,?_,?_⟩,.inr ?_⟩<;>(try simp)<;>lia
theorem C1{a b:Int}(hb:(jM (-1000000) a&&(jM a 1000000&&(jM (-1000000) b&&jM b 1000000)))=true)(V:ao C J M st.heap (.xM a b) rv):Made C 0 (.xM a b) s J M st A (pyIter rv):=by
 intro Q E K;obtain⟨y,t,u,w,rfl,hy,ey⟩:=V.inv
 have hsz:=ta a b
 have hsm:=zu (bI.mp (ae hb).1) (bI.mp (ae (ae hb).2).1) (bI.mp (ae (ae (ae hb).2).2).1) (bI.mp (ae (ae (ae hb).2).2).2)
 refine lf<|wpAny_pyIter_range ey hsm (K _ _ _ _ _ (gC (n:=(b - a).toNat) (item:=fun k=>match iY (a+k) b with|true=>some (.int (.c (a+k)))|false=>none) (fun A hh=>Walks.range hh st.heap.objs.size a 1 (b - a).toNat) (fun i h q b hb=>?_) (fun s k r e=>?_) ?_ fun i h v q hp target A st Q E Y q' k=>?_) (List.mem_singleton.mpr rfl) (fun b hb=>?_) (kp _) fun aP h1 h2 aD=>?_)
 ·rw [d8 hb];exact⟨_,q⟩
 ·refine aw (cN (show(Kc a b k).leaf C.ν=some r from e):) fun Y e=>?_;injection e with e;subst e;rfl
 ·have:iY (a+((b - a).toNat:Nat)) b=false:=by
   cases q:iY (a+((b - a).toNat:Nat)) b with
   |false=>rfl
   |true=>have:=bz.mp q;lia
  rw [this]
 ·obtain⟨t,rfl⟩:=hp
  exact rH (fun a q=>by injection q) k
 ·rw [d8 hb];exact⟨ip,_,gp _ rfl⟩
 ·refine⟨Nat.zero_le _,?_,fun b OS hn=>absurd OS hn,fun i v hi hp=>?_⟩
  ·have:=gp (st:=st) {cls:=.type "range_iterator",data:=.fields #[rawInt a,rawInt (Builtin.Range.rangeSize a b 1),rawInt 1]} rfl
   rw [hsz]at this;simp only[hsz];show(st.heap.push _).get? _=_
   simpa using this
  ·obtain⟨t,rfl⟩:=hp
   have:iY (a+(i:Int)) b=true:=bz.mpr (by lia)
   rw [this];exact⟨_,rfl,.int _ _ t (by simp[IE.eval])⟩
theorem zS{i:Nat}(S:aq C J M s st.heap)(el:s.get i=some (.list l))(V:ao C J M st.heap (.ref i) rv):Made C 0 (.ref i) s J M st A (pyIter rv):=by
 intro Q E K;refine V.listE S el fun a vs n ha ea Va=>?_
 have hne:a≠st.heap.objs.size:=Nat.ne_of_lt (Heap.lt_size ea)
 refine lf<|wpAny_pyIter_list (cM ea) (K st.heap.objs.size (fun b=>b=st.heap.objs.size) (fun J M k h=>∃ax,J[i]?=some ax∧h.IsListIter st.heap.objs.size ax k) _ _ ⟨fun{Z J M h σ' M' h' k} hz G⟨ax,q1,o,q2,q3⟩=>?_,fun{J M k A st Q E} hh⟨ax,q1,q2⟩ q=>lf<|wpAny_pyIter_listiter q2 q,fun{Z J M s nJ k A E r Q} hh S hT⟨ax,q1,q2⟩ er kn ks=>?_⟩ rfl (fun b hb=>?_) (kp _) fun aP h1 h2 aD=>?_)
 ·obtain⟨l,rfl,_⟩:=G.pre
  refine⟨ax,?_,o,G.dz (hz _ rfl) q2,q3⟩
  rw [List.getElem?_append_left]
  ·exact q1
  ·exact(List.getElem?_eq_some_iff.mp q1).1
 ·refine aC (cS (show(kE s (.ref i) fun l=>aH.ok l[k]?).leaf C.ν=some r from er):) fun l' Td er=>?_
  injection er with er;subst er;exact eJ (S.obj i _ ax Td q1).listI fun vb n' e' V'=>by
   cases hq:l'[k]? with
   |some x=>
    refine aC (V'.get hq:) fun y hy Vy=>?_
    refine lf<|wpAny_pyNext_list_item q2 (cM e') (x:=y) (by simpa using hy) fun h' Di qj=>?_
    obtain⟨S',G⟩:=S.mc (Z:=Z) hT (fun b o hb e=>qj.extBut b o hb e) (fun b hb=>by subst hb;obtain⟨o,e,_⟩:=Di;exact⟨o,e⟩)
    refine ks x hq h' nJ.toks y G S' (Vy.grow G) fun target A Q E Y K=>?_
    refine lI (id Di:) fun o e hc hd=>?_
    exact ya e hc (by decide) (K h' (aJ.refl _ _ _ _) S' ⟨ax,q1,Di⟩)
   |none=>
    refine lf<|wpAny_pyNext_list_end hh q2 (cM e') (by
     have:=V'.length
     have hk:l'.length≤k:=List.getElem?_eq_none_iff.mp hq
     simp;lia) fun h' OQ=>kn hq h' nJ.toks fun b o hb e=>OQ b o hb e
 ·rw [hb];exact⟨ip,_,gp _ rfl⟩
 ·exact⟨a,ha,_,gp _ rfl,rfl,rfl⟩
end
theorem Gj:iK C:=by
 intro src rv s J M st A S V ⟨r0,e0⟩;cases src with
 |t l=>exact CZ V
 |bytes l=>exact wi V
 |str l=>exact C0 V
 |eD l=>cases l with
  |nil=>exact C2 V
  |cons=>exact no e0
 |xM a b=>exact C1 (cN (show(Kc a b 0).leaf C.ν=some r0 from e0)).1 V
 |ref i=>
  refine aC (cS (show(kE s (.ref i) fun l=>aH.ok l[0]?).leaf C.ν=some r0 from e0):) fun l el Y=>?_
  exact zS S el V
 |_=>exact no e0
end
end
end Mine.Internal
namespace MineB.Internal
open PySem PySem.W PySem.Calls PyProof.Rows Builtin
open PySem.W.KBw
noncomputable section
namespace KBw
section
variable{prog:Program}{w:World}{A:Around}{E:Value→Shared→Prop}{s:Shared}{b:Array UInt8}{t:Tok}
theorem tQ{it:Addr}{i:Nat}{c:UInt8}{Q:Value→Shared→Prop}(hit:IsBytesIter s.heap it b t i)(hx:b[i]?=some c)
  (hQ:∀h',IsBytesIter h' it b t (i+1)→Heap.SameBut it s.heap h'→Q (.int (c.toNat:Int) s.toks) {s with heap:=h',toks:=s.toks+1}):wpAny (model prog w) A (Builtin.SmallTypes.nextOf (.ref it)) Q E s:=by
 obtain⟨o,ho,hc,hd⟩:=id hit
 unfold Builtin.SmallTypes.nextOf;refine wpAny_bind (wpAny_callSpecial?_slot (name:=PySem.Str.ofString "__next__") (iter_typeIs hit) slot_next
  (wpAny_call_entry slot_next (iter_typeIs hit) entry_next ?_ (args_next _)))
 show wpAny _ _ (field (.ref it) 0>>=_) _ _ s;refine wpAny_bind (wpAny_field ho hd (x:=.bytes b t) rfl ?_)
 show wpAny _ _ (if(Value.bytes b t==Value.none)=true then _ else _) _ _ s;rw [if_neg (show¬((Value.bytes b t==Value.none)=true)from Bool.false_ne_true)]
 show wpAny _ _ (field (.ref it) 1>>=_) _ _ s;refine wpAny_bind (wpAny_field ho hd (x:=.int i 0) rfl ?_)
 refine wpAny_bind (wpAny_of_eq (a:=b) rfl ?_)
 simp only[Int.toNat_natCast,hx]
 refine wpAny_bind (wpAny_setField ho hd (by simp) (wpAny_bind (wpAny_mkInt (wpAny_pure ⟨_,rfl,wpAny_pure (hQ _ ?_ (Heap.SameBut.update ..))⟩))))
 exact⟨_,Heap.get?_update_self _ ho (Obj.isFreed_of_fields (Obj.data_mapFields hd _)),(Obj.cls_mapFields ..).trans hc,by
  rw [Obj.data_mapFields hd];simp[rawInt]⟩
theorem vN{it:Addr}{i:Nat}{Q:Value→Shared→Prop}(hh:A.handled=none)(hit:IsBytesIter s.heap it b t i)(hx:b[i]?=none)
  (hE:∀h' e,Heap.ExtBut it s.heap h'→(∃o,h'.get? e=some o∧o.cls=.type "StopIteration")→E (.ref e) {s with heap:=h'}):wpAny (model prog w) A (Builtin.SmallTypes.nextOf (.ref it)) Q E s:=by
 obtain⟨o,ho,hc,hd⟩:=id hit
 unfold Builtin.SmallTypes.nextOf;refine wpAny_bind (wpAny_callSpecial?_slot (name:=PySem.Str.ofString "__next__") (iter_typeIs hit) slot_next
  (wpAny_call_entry slot_next (iter_typeIs hit) entry_next ?_ (args_next _)))
 show wpAny _ _ (field (.ref it) 0>>=_) _ _ s;refine wpAny_bind (wpAny_field ho hd (x:=.bytes b t) rfl ?_)
 show wpAny _ _ (if(Value.bytes b t==Value.none)=true then _ else _) _ _ s;rw [if_neg (show¬((Value.bytes b t==Value.none)=true)from Bool.false_ne_true)]
 show wpAny _ _ (field (.ref it) 1>>=_) _ _ s;refine wpAny_bind (wpAny_field ho hd (x:=.int i 0) rfl ?_)
 refine wpAny_bind (wpAny_of_eq (a:=b) rfl ?_)
 simp only[Int.toNat_natCast,hx]
 refine wpAny_bind (wpAny_rule (wpAny_bind (wpAny_setField ho hd (by simp) ?_)))
 show wpAny _ _ (newExc (.type "StopIteration") []>>=_) _ _ _;refine wpAny_bind ?_;simp only[newExc,newTuple];refine wpAny_bind (wpAny_newObj_type ?_ (by size_fits))
 refine wpAny_bind (m:=firstArgMember _ _) (wpAny_of_eq (a:=Value.none) (by first|rfl|(simp only[firstArgMember];rfl)) ?_)
 refine wpAny_newObj_type ?_ (by size_fits)
 unfold raiseNew;refine wpAny_bind (wpAny_handled ?_);rw [show A.in1.handled=none from hh]
 refine wpAny_bind (wpAny_pure (wpAny_throw ?_))
 exact hE _ _ (((Heap.SameBut.update ..).extBut.push _).push _) ⟨_,Heap.get?_push_size _ rfl,rfl⟩
end
theorem draws{prog:Program}{w:World}{A:Around}(hh:A.handled=none)(it:Addr)(b:Array UInt8)(t:Tok):
  Draws prog w A it [it] b.size (fun i v=>∃c u,b[i]?=some c∧v=.int (c.toNat:Int) u) (fun i h=>IsBytesIter h it b t i)where
 live:=fun Y Y st=>let⟨o,ho,_⟩:=st;⟨o,ho⟩
 frame:=fun Y Y Y st hk=>let⟨o,ho,r⟩:=st;⟨o,hk it (by simp) o ho,r⟩
 item:=fun i s Q E hi st hQ=>by
  refine tQ st (c:=b[i]) (by simp[hi]) fun h' Di qj=>?_
  exact hQ _ h' (s.toks+1) ⟨_,_,by simp[hi],rfl⟩ Di qj
 done:=fun s Q E st hE=>vN hh st (by simp) hE
theorem js(x:Array UInt8)(t:Tok):
  Meets (Builtin.«enumerate.__new__» ⟨[.type "enumerate",.bytes x t],[]⟩) (fun Y R s=>
   R (.ok (.ret (.ref (s.heap.push {cls:=.type "bytes_iterator",data:=.fields #[.bytes x t,.int 0 0]}).objs.size)))
    {s with heap:=(s.heap.push {cls:=.type "bytes_iterator",data:=.fields #[.bytes x t,.int 0 0]}).push {cls:=.type "enumerate",data:=.fields #[.none,.bool false,.ref s.heap.objs.size,rawInt 0,.none,.none]}}):=
 .of_wp fun prog w A R s h=>by
  obtain⟨hp,g,d,tk,os⟩:=s
  have hsub:=sub_enumerate
  wp_walk
  refine wpAny_stack_any fun st=>wpAny_pure ?_
  refine wpAny_ite_split (fun Y=>?_) fun Y=>?_
  ·wp_walk using pyIter_bytes
   exact⟨_,rfl,h⟩
  ·wp_walk using pyIter_bytes
   exact⟨_,rfl,h⟩
theorem jD{prog:Program}{w:World}{A:Around}{E:Value→Shared→Prop}{s:Shared}{x:Array UInt8}{t:Tok}{Q:Value→Shared→Prop}
  (h:∀h',IsEnum h' (s.heap.objs.size+1) s.heap.objs.size 0 .none→IsBytesIter h' s.heap.objs.size x t 0→
   (∀b o,s.heap.get? b=some o→h'.get? b=some o)→Q (.ref (s.heap.objs.size+1)) {s with heap:=h'}):
  wpAny (model prog w) A (call (.type "enumerate") [.bytes x t]) Q E s:=by
 refine callType_new F.called_enumerate (by decide) (F.typeCall_enumerate_1 _) (F.newCall_enumerate_1 _) (fun obj=>F.args_object_init_2 obj _) F.entry_enumerate_new
  (js x t) ?_
 have hz:(s.heap.push {cls:=.type "bytes_iterator",data:=.fields #[.bytes x t,.int 0 0]}).objs.size=s.heap.objs.size+1:=Heap.size_push ..
 show _∧_;rw [hz];have he:IsEnum ((s.heap.push {cls:=.type "bytes_iterator",data:=.fields #[.bytes x t,.int 0 0]}).push
   {cls:=.type "enumerate",data:=.fields #[.none,.bool false,.ref s.heap.objs.size,rawInt 0,.none,.none]}) (s.heap.objs.size+1) s.heap.objs.size 0 .none:=by
  have:=Heap.get?_push_size (s.heap.push {cls:=.type "bytes_iterator",data:=.fields #[.bytes x t,.int 0 0]})
   (o:={cls:=.type "enumerate",data:=.fields #[.none,.bool false,.ref s.heap.objs.size,rawInt 0,.none,.none]}) rfl
  rw [hz]at this;exact this
 refine⟨⟨_,he,rfl⟩,h _ he ⟨_,Heap.get?_push_of_some _ (Heap.get?_push_size _ rfl),rfl,rfl⟩ fun b o y=>Heap.get?_push_of_some _ (Heap.get?_push_of_some _ y)⟩
end KBw
end
end MineB.Internal
namespace Mine.Internal
open PySem PySem.W PyProof.Rows PySem.SeqAt
noncomputable section
variable{i:Nat}
section
variable{C:Cx}{s s':AS}{v w:AV}{Z:Addr→Prop}{J σ':List Addr}{M M':Addr→Prop}{A:Around}{st:Shared}{h h':Heap}
theorem fb(h:Heap)(k:Nat):h.get? (h.objs.size+k)=none:=by
 cases q:h.get? (h.objs.size+k)with
 |none=>rfl
 |some o=>exact absurd (Heap.lt_size q) (Nat.not_lt_of_le (Nat.le_add_right _ _))
section
variable{rv:Value}
theorem Ad(hh:A.handled=none){l:List AV}(S:aq C J M s st.heap)(el:s.get i=some (.list l))(V:ao C J M st.heap (.ref i) rv):Made C 1 (.ref i) s J M st A (call (.type "enumerate") [rv] []):=by
 intro Q E K;have d0:st.heap.get? st.heap.objs.size=none:=Heap.bc _
 have d1:st.heap.get? (st.heap.objs.size+1)=none:=fb _ 1
 have hne:(st.heap.objs.size+1:Nat)≠st.heap.objs.size:=Nat.succ_ne_self _
 refine V.listE S el fun a vs n ha ea Va=>?_
 refine lf<|call_enumerate_list (cM ea) fun h₁ he hi Y hk=>?_
 refine K (st.heap.objs.size+1) (fun b=>b=st.heap.objs.size+1∨b=st.heap.objs.size) (fun J M k h=>∃ax old,J[i]?=some ax∧h.IsListIter st.heap.objs.size ax k∧IsEnum h (st.heap.objs.size+1) st.heap.objs.size k old) h₁ st.toks ?_ (.inl rfl) (fun b hb=>?_) hk fun aP h1 h2 aD=>⟨a,.none,ha,hi,he⟩
 ·refine⟨fun{Z J M h σ' M' h' k} hz G⟨ax,old,q1,⟨o,q2,q3⟩,q4⟩=>?_,fun{J M k A st Q E} hh⟨ax,old,q1,q2,q3⟩ q=>lf<|wpAny_pyIter_enum q3 q,fun{Z J M s nJ k A E r Q} hh S hT⟨ax,old,q1,q2,q3⟩ er kn ks=>?_⟩
  ·obtain⟨l,rfl,_⟩:=G.pre
   refine⟨ax,old,?_,⟨o,G.dz (hz _ (.inr rfl)) q2,q3⟩,G.dz (hz _ (.inl rfl)) q4⟩
   rw [List.getElem?_append_left]
   ·exact q1
   ·exact(List.getElem?_eq_some_iff.mp q1).1
  ·refine aC (cS (show(kE s (.ref i) fun l=>aH.ok (l[k]?.map fun v=>AV.t [.int (.c k),v])).leaf C.ν=some r from er):) fun l' Td er=>?_
   injection er with er;subst er;exact eJ (S.obj i _ ax Td q1).listI fun vb n' e' V'=>by
    have hax:ax≠st.heap.objs.size:=fun q=>(hT _ (.inr rfl)).2.2.1 (q▸bO q1)
    have W4:ax≠st.heap.objs.size+1:=fun q=>(hT _ (.inl rfl)).2.2.1 (q▸bO q1)
    cases hq:l'[k]? with
    |some x=>
     refine aC (V'.get hq:) fun y hy Vy=>?_
     refine lf<|wpAny_pyNext_enum_item q3 q2 (cM e') (x:=y) (by simpa using hy) hne fun h' hO hI SD Y qj=>?_
     obtain⟨S',G⟩:=S.mc (Z:=Z) hT (fun b o hb e=>qj b o (fun q=>hb (.inl q)) (fun q=>hb (.inr q)) e) (fun b hb=>by
      rcases hb with rfl|rfl
      ·exact⟨_,hO⟩
      ·refine aC (hI:) fun o e Y=>?_;exact⟨o,e⟩)
     have SF:nJ.heap.get? nJ.heap.objs.size=none:=Heap.bc _
     refine ks _ (by rw [hq];rfl) h' _ (.ref nJ.heap.objs.size) G S' (.t _ _ [.int k nJ.toks,y] _ (S.nU SF) SD (.cons (.int _ _ _ rfl) (.cons (Vy.grow G) .nil))) fun target A Q E ht K=>?_
     obtain⟨xs,kk,pos,rfl⟩:=ht.resolve_left (by decide)
     refine lf<|wpAny_letOwnedTupleGo_enum (s:={nJ with heap:=h',toks:=nJ.toks+1}) hO fun br ub iP=>?_
     obtain⟨uX,Qt⟩:=S'.mc (Z:=Z) hT (fun b o hb e=>iP.extBut b o (fun q=>hb (.inl q)) e) (fun b hb=>by
      rcases hb with rfl|rfl
      ·exact⟨_,ub⟩
      ·refine aC (hI.extBut iP.extBut hne.symm:) fun o e Y=>?_;exact⟨o,e⟩)
     refine K br Qt uX ⟨ax,y,q1,hI.extBut iP.extBut hne.symm,?_⟩
     have:((k:Int)+1)=((k+1:Nat):Int):=by lia
     rw [←this];exact ub
    |none=>
     refine lf<|wpAny_pyNext_enum_end hh q3 q2 (cM e') (by
      have:=V'.length
      have hk:l'.length≤k:=List.getElem?_eq_none_iff.mp hq
      simp;lia) fun h' OQ=>kn (by rw [hq];rfl) h' nJ.toks fun b o hb e=>OQ b o (fun q=>hb (.inr q)) e
 ·rcases hb with rfl|rfl
  ·exact⟨d1,_,he⟩
  ·refine aC (hi:) fun o e Y=>?_;exact⟨d0,o,e⟩
theorem wG(hh:A.handled=none){l:List IE}(V:ao C J M st.heap (.bytes l) rv):Made C 1 (.bytes l) s J M st A (call (.type "enumerate") [rv] []):=by
 intro Q E K;have d0:st.heap.get? st.heap.objs.size=none:=Heap.bc _
 have d1:st.heap.get? (st.heap.objs.size+1)=none:=fb _ 1
 have hne:(st.heap.objs.size+1:Nat)≠st.heap.objs.size:=Nat.succ_ne_self _
 refine V.eF fun hb t=>?_
 refine lf<|MineB.Internal.KBw.jD fun h₁ he hi hk=>?_
 refine K (st.heap.objs.size+1) (fun b=>b=st.heap.objs.size+1∨b=st.heap.objs.size) (fun J M k h=>∃old,KBw.IsBytesIter h st.heap.objs.size (aS C.ν l) t k∧k≤(aS C.ν l).size∧IsEnum h (st.heap.objs.size+1) st.heap.objs.size k old) h₁ st.toks ?_ (.inl rfl) (fun b hb=>?_) hk fun aP h1 h2 aD=>⟨.none,hi,Nat.zero_le _,he⟩
 ·refine⟨fun{Z J M h σ' M' h' k} hz G⟨old,⟨o,q2,q3⟩,q5,q4⟩=>?_,fun{J M k A st Q E} hh⟨old,q2,q5,q3⟩ q=>lf<|wpAny_pyIter_enum q3 q,fun{Z J M s nJ k A E r Q} hh S hT⟨old,q2,q5,q3⟩ er kn ks=>?_⟩
  ·exact⟨old,⟨o,G.dz (hz _ (.inr rfl)) q2,q3⟩,q5,G.dz (hz _ (.inl rfl)) q4⟩
  ·injection er with er;subst er
   have D:=MineB.Internal.KBw.draws (prog:=C.prog) (w:=C.w) (A:=A.in1) hh st.heap.objs.size (aS C.ν l) t
   rcases Nat.lt_or_ge k (aS C.ν l).size with hk|hk
   ·refine lf<|wpAny_pyNext_enum_itemD D q3 q2 hk hne (by simp[hne]) fun x h' tk hP hO hI SD Y qj=>?_
    obtain⟨c,u,q1,rfl⟩:=hP
    have hq:(l.map (cz C.ν))[k]?=some c:=by
     have:(aS C.ν l)[k]?=some c:=q1
     unfold aS at this
     simpa using this
    rw [List.getElem?_map]at hq;refine aC (Option.map_eq_some_iff.mp hq:) fun x e2 e3=>?_
    have hx:=hb x (bO e2)
    obtain⟨S',G⟩:=S.mc (Z:=Z) hT (fun b o hb e=>qj b o (fun q=>hb (.inl q)) (fun q=>hb (.inr q)) e) (fun b hb=>by
     rcases hb with rfl|rfl
     ·exact⟨_,hO⟩
     ·refine aC (hI:) fun o e Y=>?_;exact⟨o,e⟩)
    have SF:nJ.heap.get? nJ.heap.objs.size=none:=Heap.bc _
    refine ks _ (by rw [e2];rfl) h' _ (.ref nJ.heap.objs.size) G S' (.t _ _ [.int k tk,.int (c.toNat:Int) u] _ (S.nU SF) SD (.cons (.int _ _ _ rfl) (.cons (.int x _ u (BB c x C.ν hx.1 hx.2 e3).symm) .nil))) fun target A Q E ht K=>?_
    obtain⟨xs,kk,pos,rfl⟩:=ht.resolve_left (by decide)
    refine lf<|wpAny_letOwnedTupleGo_enum (s:={nJ with heap:=h',toks:=tk+1}) hO fun br ub iP=>?_
    have I1:KBw.IsBytesIter br st.heap.objs.size (aS C.ν l) t (k+1):=by
     refine aC (hI:) fun o e r=>?_
     exact⟨o,iP.extBut _ _ hne.symm e,r⟩
    obtain⟨uX,Qt⟩:=S'.mc (Z:=Z) hT (fun b o hb e=>iP.extBut b o (fun q=>hb (.inl q)) e) (fun b hb=>by
     rcases hb with rfl|rfl
     ·exact⟨_,ub⟩
     ·refine aC (I1:) fun o e Y=>?_;exact⟨o,e⟩)
    refine K br Qt uX ⟨.int (c.toNat:Int) u,I1,hk,?_⟩
    have:((k:Int)+1)=((k+1:Nat):Int):=by lia
    rw [←this];exact ub
   ·have:k=(aS C.ν l).size:=by lia
    subst this;refine lf<|wpAny_pyNext_enum_endD D q3 q2 fun h' OQ=>kn (by rw [cJ];simp) h' nJ.toks fun b o hb e=>OQ b o (fun q=>hb (.inr q)) e
 ·rcases hb with rfl|rfl
  ·exact⟨d1,_,he⟩
  ·refine aC (hi:) fun o e Y=>?_;exact⟨d0,o,e⟩
end
theorem GV:m5 C:=by
 intro src rv s J M st A hh _ S V ⟨r0,e0⟩;cases src with
 |bytes l=>exact wG hh V
 |ref i=>
  refine aC (cS (show(kE s (.ref i) fun l=>aH.ok (l[0]?.map fun v=>AV.t [.int (.c 0),v])).leaf C.ν=some r0 from e0):) fun l el Y=>?_
  exact Ad hh S el V
 |_=>exact no e0
end
section
variable{C:Cx}{s s':AS}{v w:AV}{Z:Addr→Prop}{J σ':List Addr}{M M':Addr→Prop}{A:Around}{st:Shared}{h h':Heap}
theorem jY{n j:Nat}(h:i≠j):n+i≠n+j:=fun q=>h (Nat.add_left_cancel q)
def ZW(w:Value)(n:Nat)(i j:Nat)(J:List Addr)(k:Nat)(h:Heap):Prop:=∃a b x y,J[i]?=some a∧J[j]?=some b∧IsZip h (n+4) (n+2) (n+3) w∧IsPair h (n+2) (.ref n) (.ref (n+1))∧IsPair h (n+3) x y∧h.IsListIter n a k∧h.IsListIter (n+1) b k
abbrev MJ:=ZW .none
theorem qi{n:Addr}{l:Addr}{k:Nat}(I:h.IsListIter n l k)(hk:∀o,h.get? n=some o→h'.get? n=some o):h'.IsListIter n l k:=let⟨o,e,r⟩:=I;⟨o,hk o e,r⟩
def ZT(n c:Addr):Prop:=c=n+4∨c=n+2∨c=n+3∨c=n∨c=n+1
theorem ZT.all{n:Addr}{P:Addr→Prop}(h1:P (n+4))(h2:P (n+2))(h3:P (n+3))(h4:P n)(h5:P (n+1)):∀c,ZT n c→P c:=fun c hc=>by
 rcases hc with rfl|rfl|rfl|rfl|rfl<;>assumption
theorem ZW.live{w:Value}{n j:Nat}{k:Nat}(H:ZW w n i j J k h):∀c,ZT n c→∃o,h.get? c=some o:=by
 obtain⟨a,b,x,y,_,_,q1,q2,q3,⟨o4,q4,_⟩,⟨o5,q5,_⟩⟩:=H
 exact ZT.all ⟨_,q1⟩ ⟨_,q2⟩ ⟨_,q3⟩ ⟨_,q4⟩ ⟨_,q5⟩
theorem xw{n a b:Addr}(na:¬ZT n a)(nb:¬ZT n b):ZipApart (n+4) (n+2) (n+3) n (n+1) a b:=
 ⟨jY (by decide),jY (by decide),jY (i:=0) (by decide),jY (by decide),jY (by decide),jY (j:=0) (by decide),jY (by decide),jY (j:=0) (by decide),jY (by decide),jY (i:=0) (by decide),
  fun q=>na (.inl q),fun q=>na (.inr (.inr (.inl q))),fun q=>na (.inr (.inr (.inr (.inl q)))),fun q=>na (.inr (.inr (.inr (.inr q)))),
  fun q=>nb (.inl q),fun q=>nb (.inr (.inr (.inl q))),fun q=>nb (.inr (.inr (.inr (.inl q)))),fun q=>nb (.inr (.inr (.inr (.inr q))))⟩
theorem ZW.keep{w:Value}{n j:Nat}{k:Nat}(hz:∀a,ZT n a→Z a)(G:aJ Z J M h σ' M' h')(H:ZW w n i j J k h):ZW w n i j σ' k h':=by
 refine RN (H:) fun a b x y qa qb q1 q2 q3 q4 q5=>?_
 obtain⟨l,rfl,_⟩:=G.pre
 have ap:∀{i:Nat}{a:Addr},J[i]?=some a→(J++l)[i]?=some a:=fun{i a} q=>by
  rw [List.getElem?_append_left]
  ·exact q
  ·exact(List.getElem?_eq_some_iff.mp q).1
 exact⟨a,b,x,y,ap qa,ap qb,G.dz (hz _ (.inl rfl)) q1,G.dz (hz _ (.inr (.inl rfl))) q2,G.dz (hz _ (.inr (.inr (.inl rfl)))) q3,
  qi q4 fun o e=>G.dz (hz _ (.inr (.inr (.inr (.inl rfl))))) e,qi q5 fun o e=>G.dz (hz _ (.inr (.inr (.inr (.inr rfl))))) e⟩
section
variable{E:Value→Shared→Prop}{Q:Option Value→Shared→Prop}{n:Addr}{j k:Nat}{l m:List AV}
theorem Bd(S:aq C J M s st.heap)(hT:∀a,ZT n a→M a∧¬Z a∧a∉J∧∀p∈C.tabs,a≠p.2)(H:MJ n i j J k st.heap)(el:s.get i=some (.list l))(em:s.get j=some (.list m)){x y:AV}(ex:l[k]?=some x)(ey:m[k]?=some y)
  (ks:∀h' tk rv,aJ Z J M st.heap J M h'→aq C J M s h'→ao C J M h' (.t [x,y]) rv→
   (∀(target:Expr)(A:Around)(Q:Unit→Shared→Prop)(E:Value→Shared→Prop),(2=0∨∃xs k pos,target=.Tuple xs k pos)→(∀qk,aJ Z J M h' J M qk→aq C J M s qk→MJ n i j J (k+1) qk→Q () {st with heap:=qk,toks:=tk})→ab (Md C) A (letOwnedTupleGo target (.ref (n+4)) rv) Q E {st with heap:=h',toks:=tk})→
   Q (some rv) {st with heap:=h',toks:=tk}):ab (Md C) A (pyNext (.ref (n+4))) Q E st:=by
 refine RN (H:) fun a b u v qa qb q1 q2 q3 q4 q5=>?_
 have D:=xw (fun q=>(hT _ q).2.2.1 (bO qa)) fun q=>(hT _ q).2.2.1 (bO qb)
 exact eJ (S.obj i _ a el qa).listI fun Ug n1 e1 W1=>eJ (S.obj j _ b em qb).listI fun Ue n2 e2 W2=>by
   refine aC (W1.get ex:) fun p hp Vp=>?_
   refine aC (W2.get ey:) fun q hq Vq=>?_
   refine lf<|wpAny_pyNext_zip_item D q1 q2 q3 q4 q5 (cM e1) (cM e2) (x:=p) (y:=q) (by simpa using hp) (by simpa using hq) fun h' a1 a2 a3 a4 a5 Y qj=>?_
   have k2:IsPair h' (n+2) (.ref n) (.ref (n+1)):=qj _ _ D.TIz D.TITO D.TIi1 D.TIi2 q2
   have H':ZW _ n i j J (k+1) h':=⟨a,b,p,q,qa,qb,a1,k2,a2,a3,a4⟩
   refine aw (S.mc (Z:=Z) hT (fun c o hc e=>qj c o (fun q=>hc (.inl q)) (fun q=>hc (.inr (.inr (.inl q)))) (fun q=>hc (.inr (.inr (.inr (.inl q))))) (fun q=>hc (.inr (.inr (.inr (.inr q))))) e) H'.live:) fun S' G=>?_
   refine ks h' _ (.ref st.heap.objs.size) G S' (.t _ _ [p,q] _ (S.nU (Heap.bc _)) a5 (.cons (Vp.grow G) (.cons (Vq.grow G) .nil))) fun target A Q E ht K=>?_
   obtain⟨xs,kk,pos,rfl⟩:=ht.resolve_left (by decide)
   refine lf<|wpAny_letOwnedTupleGo_zip (s:={st with heap:=h',toks:=st.toks}) a1 fun br OL iP=>?_
   have Qr:MJ n i j J (k+1) br:=⟨a,b,p,q,qa,qb,OL,iP.extBut _ _ D.TIz k2,iP.extBut _ _ D.TOz a2,a3.extBut iP.extBut D.i1z,a4.extBut iP.extBut D.i2z⟩
   refine aw (S'.mc (Z:=Z) hT (fun c o hc e=>iP.extBut c o (fun q=>hc (.inl q)) e) Qr.live:) fun uX Qt=>?_
   exact K br Qt uX Qr
theorem xx(hh:A.handled=none)(S:aq C J M s st.heap)(hT:∀a,ZT n a→M a∧¬Z a∧a∉J∧∀p∈C.tabs,a≠p.2)(H:MJ n i j J k st.heap)(el:s.get i=some (.list l))(em:s.get j=some (.list m))(hend:l[k]?=none∨m[k]?=none)
  (kn:∀h' tk,(∀b o,¬ZT n b→st.heap.get? b=some o→h'.get? b=some o)→Q none {st with heap:=h',toks:=tk}):ab (Md C) A (pyNext (.ref (n+4))) Q E st:=by
 refine RN (H:) fun a b u v qa qb q1 q2 q3 q4 q5=>?_
 have D:=xw (fun q=>(hT _ q).2.2.1 (bO qa)) fun q=>(hT _ q).2.2.1 (bO qb)
 exact eJ (S.obj i _ a el qa).listI fun Ug n1 e1 W1=>eJ (S.obj j _ b em qb).listI fun Ue n2 e2 W2=>by
   have he:Ug.toArray[k]?=none∨Ue.toArray[k]?=none:=hend.imp (fun c=>by
    have hk:=List.getElem?_eq_none_iff.mp c
    rw [W1.length]at hk
    simpa using hk) fun c=>by
    have hk:=List.getElem?_eq_none_iff.mp c
    rw [W2.length]at hk
    simpa using hk
   exact lf<|wpAny_pyNext_zip_end hh D q1 q2 q3 q4 q5 (cM e1) (cM e2) he fun h' MF=>kn h' st.toks fun c o hc e=>MF c o (fun q=>hc (.inl q)) (fun q=>hc (.inr (.inr (.inl q)))) (fun q=>hc (.inr (.inr (.inr (.inl q))))) (fun q=>hc (.inr (.inr (.inr (.inr q))))) e
end
theorem BV{j k:Nat}{ν:Nat→Int}{r:Option AV}(e:(iN s 2 (.t [.ref i,.ref j]) k).leaf ν=some r):∃l m,s.get i=some (.list l)∧s.get j=some (.list m)∧xW l[k]? m[k]?=r:=by
 refine aC (cS (show(kE s (.ref i) fun l=>kE s (.ref j) fun m=>aH.ok (xW l[k]? m[k]?)).leaf ν=some r from e):) fun l el e=>?_
 refine aC (cS e:) fun m em e=>?_
 injection e with e;subst e;exact⟨l,m,el,em,rfl⟩
theorem Bc{j:Nat}(n:Addr):jG C 2 (.t [.ref i,.ref j]) (n+4) (ZT n) fun J Y k h=>MJ n i j J k h:=by
 refine⟨fun{Z J M h σ' M' h' k} hz G H=>H.keep hz G,fun{J M k A st Q E} hh⟨a,b,x,y,qa,qb,q1,_⟩ q=>lf<|wpAny_pyIter_zip q1 q,fun{Z J M s st k A E r Q} hh S hT H er kn ks=>?_⟩
 obtain⟨l,m,el,em,rfl⟩:=BV er
 cases c1:l[k]? with
 |none=>exact xx hh S hT H el em (.inl c1) fun h' tk hk=>kn (by rw [c1];rfl) h' tk hk
 |some x=>cases c2:m[k]? with
  |none=>exact xx hh S hT H el em (.inr c2) fun h' tk hk=>kn (by rw [c1,c2];rfl) h' tk hk
  |some y=>exact Bd S hT H el em c1 c2 fun h' tk rv G S' V own=>ks _ (by rw [c1,c2];rfl) h' tk rv G S' V own
theorem Bb(hh:A.handled=none){j:Nat}{l m:List AV}{r1 r2:Value}(S:aq C J M s st.heap)(el:s.get i=some (.list l))(em:s.get j=some (.list m))(V1:ao C J M st.heap (.ref i) r1)(V2:ao C J M st.heap (.ref j) r2):Made C 2 (.t [.ref i,.ref j]) s J M st A (call (.type "zip") [r1,r2] []):=by
 intro Q E K;obtain⟨a,vs,na,rfl,ha,ea,Va⟩:=V1.n0 S el
 obtain⟨b,ws,nb,rfl,hb,eb,Vb⟩:=V2.n0 S em
 refine lf<|call_zip_2 (cM ea) (cM eb) fun h₁ z1 z2 z3 z4 z5 Y hk=>?_
 have H:MJ st.heap.objs.size i j J 0 h₁:=⟨a,b,.none,.none,ha,hb,z1,z2,z3,z4,z5⟩
 exact K _ (ZT st.heap.objs.size) _ h₁ st.toks (Bc st.heap.objs.size) (.inl rfl) (fun c hc=>⟨ZT.all (P:=fun c=>st.heap.get? c=none) (fb _ 4) (fb _ 2) (fb _ 3) (fb _ 0) (fb _ 1) c hc,H.live c hc⟩) hk fun Y Y Y Y=>H
theorem JI:r8 C:=by
 intro u1 u2 r1 r2 s J M st A hh _ S V1 V2 ⟨r0,e0⟩;obtain⟨i,l,rfl,el,e⟩:=eQ (show(kE s u1 fun l=>kE s u2 fun m=>aH.ok (xW l[0]? m[0]?)).leaf C.ν=some r0 from e0)
 obtain⟨j,m,rfl,em,_⟩:=eQ e
 exact Bb hh S el em V1 V2
end
end
end Mine.Internal
namespace MineB.Internal
open PySem PySem.W PySem.Calls PyProof.Rows Builtin
open PySem.W.KBw
noncomputable section
namespace KBa
theorem zo:Slot "bytearray" "__init__" "bytearray.__init__":=
 .of (owner:="bytearray") (n:="__init__") (by rw [typeLookup_type,builtinLookup_eq_fast];kernel_rfl) (by decide+kernel) (by decide+kernel) (by decide+kernel)
  (by first|exact .inl (by decide+kernel)|exact .inr (by decide+kernel)) (by rw [isSubtype_type];kernel_rfl)
theorem kT:Slot "bytearray" "__getitem__" "bytearray.__getitem__":=
 .of (owner:="bytearray") (n:="__getitem__") (by rw [typeLookup_type,builtinLookup_eq_fast];kernel_rfl) (by decide+kernel) (by decide+kernel) (by decide+kernel)
  (by first|exact .inl (by decide+kernel)|exact .inr (by decide+kernel)) (by rw [isSubtype_type];kernel_rfl)
theorem kS:Slot "bytearray" "__setitem__" "bytearray.__setitem__":=
 .of (owner:="bytearray") (n:="__setitem__") (by rw [typeLookup_type,builtinLookup_eq_fast];kernel_rfl) (by decide+kernel) (by decide+kernel) (by decide+kernel)
  (by first|exact .inl (by decide+kernel)|exact .inr (by decide+kernel)) (by rw [isSubtype_type];kernel_rfl)
theorem pX:Slot "bytearray" "__len__" "bytearray.__len__":=
 .of (owner:="bytearray") (n:="__len__") (by rw [typeLookup_type,builtinLookup_eq_fast];kernel_rfl) (by decide+kernel) (by decide+kernel) (by decide+kernel)
  (by first|exact .inl (by decide+kernel)|exact .inr (by decide+kernel)) (by rw [isSubtype_type];kernel_rfl)
theorem mro:mroOf (.type "bytearray")=pure [.type "bytearray",.type "object"]:=by rw [mroOf_type];kernel_rfl
theorem v5:typeLookup (.type "bytearray") "__new__"=pure (some (.builtin "bytearray.__new__")):=by rw [typeLookup_type,builtinLookup_eq_fast];kernel_rfl
theorem called:TypeCalled "bytearray" "bytearray.__new__" "bytearray.__init__":=
 ⟨by decide+kernel,by decide+kernel,⟨_,_,mro⟩,madeBy_type mro v5 (by decide+kernel),by decide+kernel,by rw [isSubtype_type];kernel_rfl,zo⟩
theorem vt(a:Value):checkTypeCall "bytearray" ⟨[a],[]⟩=pure ():=by kernel_rfl
theorem zC(a:Value):checkBuiltinCall "bytearray.__new__" ⟨[.type "bytearray",a],[]⟩=pure ():=by kernel_rfl
theorem Ae:entryFor table "bytearray.__new__"=some Builtin.«list.__new__»:=entryFor_alias (id':="list.__new__") (by kernel_rfl) (by first|rfl|decide+kernel|(unfold String.splitOn;simp+decide [String.splitOnAux])) (by decide+kernel) (by kernel_rfl)
theorem wI:entryFor table "bytearray.__init__"=some Builtin.«bytearray.__init__»:=entryFor_of_tree (by kernel_rfl)
theorem pF:entryFor table "bytearray.__getitem__"=some Builtin.«bytearray.__getitem__»:=entryFor_of_tree (by kernel_rfl)
theorem pD:entryFor table "bytearray.__setitem__"=some Builtin.«bytearray.__setitem__»:=entryFor_of_tree (by kernel_rfl)
theorem wJ:entryFor table "bytearray.__len__"=some Builtin.«bytearray.__len__»:=entryFor_of_tree (by kernel_rfl)
theorem p7:plainId "bytearray.__new__"=true:=by decide+kernel
theorem AH(a b:Value):argsOk "bytearray.__init__" ⟨[a,b],[]⟩:=by unfold argsOk;kernel_rfl
theorem rZ(a b:Value):argsOk "bytearray.__getitem__" ⟨[a,b],[]⟩:=by unfold argsOk;kernel_rfl
theorem rY(a b c:Value):argsOk "bytearray.__setitem__" ⟨[a,b,c],[]⟩:=by unfold argsOk;kernel_rfl
theorem AI(a:Value):argsOk "bytearray.__len__" ⟨[a],[]⟩:=by unfold argsOk;kernel_rfl
theorem zw:("bytearray.__new__".splitOn ".__new__").headD ""="bytearray":=by simp+decide [String.splitOn,String.splitOnAux]
theorem sub_self:isSubtype (.type "bytearray") (.type "bytearray")=pure true:=by rw [isSubtype_type];kernel_rfl
section
variable{prog:Program}{w:World}{A:Around}{E:Value→Shared→Prop}{s:Shared}
theorem D0(a:Value){Q₁:Value→Shared→Prop}
  (h:Q₁ (.ref s.heap.objs.size) {s with heap:=s.heap.push {cls:=.type "bytearray",data:=.bytearray #[]}}):
  codeAny (model prog w) A (.call (.builtin "bytearray.__new__") ⟨[.type "bytearray",a],[]⟩) (wants Q₁ E) s:=by
 refine codeAny_of_tree ?_
 show wpAny _ A.in1 (do checkBuiltinCall "bytearray.__new__" ⟨[.type "bytearray",a],[]⟩;again (.builtin "bytearray.__new__" ⟨[.type "bytearray",a],[]⟩)) _ _ s;refine wpAny_bind (wpAny_of_eq (zC a) (wpAny_pure ⟨plainId_quiet p7 _,codeAny_builtin_stack Ae rfl fun p st=>?_⟩))
 rw [Around.under_plainId p7 _];have hsub:=sub_self
 have hown:=zw
 obtain⟨hp,g,d,tk,os⟩:=s
 simp only[hown]
 wp_walk
 exact h
end
end KBa
end
end MineB.Internal
namespace Mine.Internal
open PySem PySem.W PyProof.Rows PySem.SeqAt
noncomputable section
section
variable{C:Cx}{P:Pg}{N:oZ}{ih:Ih}{d:Nat}{ρ:Env}{s s':AS}{v w:AV}{kd:Kd}{Z:Addr→Prop}{J:List Addr}{M:Addr→Prop}{env:PySem.Env}{A:Around}{st:Shared}{ex:Expr}{Q:Value→Shared→Prop}{E:Value→Shared→Prop}
def sj(C:Cx):Prop:=∀(A:Around)(st:Shared)(E:Value→Shared→Prop)(a:Addr)(b:Array UInt8)(Q:Value→Shared→Prop),st.heap.get? a=some (c0 b)→b.size≤100000→
 (∀tk t,Q (.int b.size t) {st with toks:=tk})→ab (Md C) A (call (.builtin "len") [.ref a] []) Q E st
def l9(C:Cx):Prop:=∀(A:Around)(st:Shared)(E:Value→Shared→Prop)(a:Addr)(b:Array UInt8)(Q:Value→Shared→Prop),st.heap.get? a=some (c0 b)→b.size≤100000→
 (∀tk t,Q (.bytes b t) {st with toks:=tk})→ab (Md C) A (call (.type "bytes") [.ref a] []) Q E st
def si(C:Cx):Prop:=∀(A:Around)(st:Shared)(E:Value→Shared→Prop)(b:Array UInt8)(t:Tok)(Q:Value→Shared→Prop),b.size≤100000→
 (∀tk h',(∀c o,st.heap.get? c=some o→h'.get? c=some o)→h'.get? st.heap.objs.size=some (c0 b)→Q (.ref st.heap.objs.size) {st with heap:=h',toks:=tk})→ab (Md C) A (call (.type "bytearray") [.bytes b t] []) Q E st
theorem gj(ν:Nat→Int)(l:List IE):(aS ν l).size=l.length:=by unfold aS;simp
theorem yl{h:Heap}{l:List AV}{es:List IE}{vs:List Value}(e:allOf intOf l=some es)(R:ay C J M h l vs):∃m:List (Int×Tok),vs=m.map (fun p=>Value.int p.1 p.2)∧m.map (·.1)=es.map (fun e=>e.eval C.ν):=
 lI (l3 (γ:=Int×Tok) (fun p=>.int p.1 p.2) (fun x c=>c.1=x.eval C.ν) (fun e V=>dC (zV e▸V:ao C J M h (.int _) _).inv fun t q=>⟨(_,t),q,rfl⟩) e R) fun m h1 h2 h3=>
  ⟨m.map (·.2),h2.trans (by rw [List.map_map];rfl),by rw [h1,List.map_map,List.map_map];exact List.map_congr_left h3⟩
theorem zi{ν:Nat→Int}(es:List IE):∀a:IE,(Fj a es).eval ν=a.eval ν+(es.map fun e=>e.eval ν).sum:=by
 induction es with
 |nil=>exact fun a=>(Int.add_zero _).symm
 |cons e es ih=>exact fun a=>by rw [Fj,ih,kq,List.map_cons,List.sum_cons,Int.add_assoc]
theorem intsAre_map(m:List (Int×Tok)):IntsAre (m.map fun p=>Value.int p.1 p.2) (m.map (·.1)):=by
 induction m with
 |nil=>exact .nil
 |cons p m ih=>exact .cons _ _ ih
theorem Ar{ν:Nat→Int}{rg:Rg}(R:cg ν rg){e:IE}(h:xa rg e=true):0≤e.eval ν∧e.eval ν<256:=by
 unfold xa at h;cases q:gc rg e with
 |none=>rw [q]at h;exact nomatch h
 |some p=>
  rw [q]at h;exact⟨Int.le_trans (bI.mp (ae h).1) (ye R q).1,Int.lt_of_le_of_lt (ye R q).2 (bz.mp (ae h).2)⟩
theorem rI{b:Array UInt8}{t:Tok}(h:Q (.bool false) {st with toks:=st.toks+1}):PySem.wpAny (Md C) A (call (.builtin "isinstance") [.bytes b t,.type "tuple"]) Q E st:=by
 refine PySem.call_isinstance (S:=fun Y R s=>R (.ok (.ret (.bool false))) {s with toks:=s.toks+1}) (fun Y Y Y Y s hs=>?_) h
 obtain⟨hp,g,d,t',os⟩:=s
 exact isinstance_outer (isinstance_nested_false_bytes (by decide+kernel) F.isi_meta_tuple (by rw [isSubtype_type];kernel_rfl) hs)
theorem rd{a:Addr}{n:Nat}(hh:A.handled=none)(hs:(a==sysModules)=false)(ea:st.heap.get? a=some (bK [] n))
  (h:∀h' tk D c,(∀b o,st.heap.get? b=some o→h'.get? b=some o)→st.heap.get? D=none→h'.get? D=some (bZ [] c)→Q (.ref D) {st with heap:=h',toks:=tk}):
  PySem.wpAny (Md C) A (call (.builtin "sorted") [.ref a]) Q E st:=by
 have hd:st.heap.DictAt (PySem.strKind C.prog C.w) a [] n:=⟨_,_,ea,⟨rfl,rfl,rfl⟩,rfl,fun e m=>by simp at m,.nil,by simp⟩
 refine Calls.call_function_entry kind_sorted plain_sorted entry_sorted (args_sorted1 _) ?_
 unfold Builtin.«sorted»;refine PySem.wpAny_bind (m:=checkCount "sorted" 1 1 _) (PySem.wpAny_pure ?_)
 refine PySem.wpAny_bind (kdu_collect (A:=A.in1) (kdl_dict (knd:=PySem.strKind C.prog C.w) (kvs:=[]) (ep:=n) hs) hh hd (Nat.zero_le _) fun h' tk acc hk hacc=>?_)
 have hl:acc=#[]:=Array.size_eq_zero_iff.mp hacc.1
 subst hl;refine PySem.wpAny_bind (wpAny_newList ?_ (Nat.zero_le _));have Su:(h'.push {cls:=.type "list",data:=.seq ([]:List Value).toArray}).get? h'.objs.size=some (seqObj "list" ([]:List Value).toArray 0):=Heap.get?_push_size _ rfl
 refine PySem.wpAny_bind (PySem.wpAny_holding (PySem.wpAny_call_entry (s:={st with heap:=h'.push {cls:=.type "list",data:=.seq ([]:List Value).toArray},toks:=tk}) slot_list_sort ⟨_,Su,rfl⟩ entry_list_sort (list_sort_tree Su .nil (by decide) fun out Wm a1 a2 a3=>⟨_,rfl,?_⟩) (args_list_sort _)))
 have hns:Wm=[]:=a2.eq_nil
 subst hns;have ho:out.toList=[]:=List.eq_nil_of_length_eq_zero a1.length
 have ho:out=#[]:=by apply Array.toList_inj.mp;exact ho
 subst ho;refine PySem.wpAny_pure ⟨_,rfl,?_⟩;have hdead:st.heap.get? h'.objs.size=none:=by
  cases q:st.heap.get? h'.objs.size with
  |none=>rfl
  |some o=>exact(aO (hk _ _ q) (Heap.bc h')).elim
 have key:∀b o,b≠h'.objs.size→h'.get? b=some o→(sortedHeap (h'.push {cls:=.type "list",data:=.seq ([]:List Value).toArray}) h'.objs.size [] #[]).get? b=some o:=fun b o hb e=>by
  unfold sortedHeap;rw [Heap.get?_update_other _ _ (Ne.symm hb)];refine Heap.get?_push_of_some _ (Heap.get?_push_of_some _ ?_);rw [Heap.get?_update_other _ _ (Ne.symm hb)];exact Heap.get?_push_of_some _ e
 obtain⟨c,hc⟩:∃c,(sortedHeap (h'.push {cls:=.type "list",data:=.seq ([]:List Value).toArray}) h'.objs.size [] #[]).get? h'.objs.size=some (bZ [] c):=by
  have WR:=get?_update_seq Su (fun Y=>#[])
  have WQ:=Heap.get?_push_of_some (seqObj "list" #[] 0) (Heap.get?_push_of_some (seqObj "tuple" ([]:List Value).toArray 0) WR)
  exact⟨_,get?_update_seq WQ (fun Y=>#[])⟩
 exact h _ tk h'.objs.size c (fun b o e=>key b o (fun q=>aO (q▸e) hdead) (hk b o e)) hdead hc
end
section
variable{C:Cx}{P:Pg}{N:oZ}{ih:Ih}{d:Nat}{ρ:Env}{s s':AS}{v w:AV}{kd:Kd}{Z:Addr→Prop}{J:List Addr}{M:Addr→Prop}{env:PySem.Env}{A:Around}{st:Shared}{ex:Expr}{Q:Value→Shared→Prop}{E:Value→Shared→Prop}
theorem wN:∀d:Nat,d<58→48≤d→PySem.intText? (aR [d])=some ((d - 48:Nat):Int):=by decide+kernel
theorem UA{h:Heap}{a:Addr}{vs:List Value}{n:Nat}(e:h.get? a=some (fM vs n)):IsTup h a vs.toArray:=⟨_,e,rfl,n,rfl⟩
theorem ao.El(S:aq C J M s st.heap){i:Nat}{l:List IE}{rv:Value}(V:ao C J M st.heap (.ref i) rv)(e:s.get i=some (.cu l)):∃a,rv=.ref a∧J[i]?=some a∧st.heap.get? a=some (c0 (aS C.ν l))∧bq C.ν l:=by
 obtain⟨a,rfl,ha⟩:=V.inv
 exact⟨a,rfl,ha,(S.obj i _ a e ha).jE⟩
def JA(C:Cx)(k:Nat)(f:List AV→AS→RV):Prop:=∀as s v s',(f as s).leaf C.ν=some (v,s')→∀Z J M A st ras,aq C J M s st.heap→bu A 0→cm C Z J st.heap→ay C J M st.heap as ras→∀Q E,KV C Z J M st v s' Q→ab (Md C) A (call (ve k) ras []) Q E st
def yW(C:Cx)(k:Nat)(g:AV→AS→RV):Prop:=∀a s v s',(g a s).leaf C.ν=some (v,s')→∀Z J M A st ra,aq C J M s st.heap→bu A 0→ao C J M st.heap a ra→∀Q E,KV C Z J M st v s' Q→ab (Md C) A (call (ve k) [ra] []) Q E st
def Mx(C:Cx)(k:Nat)(g:AV→AV→AS→RV):Prop:=∀a b s v s',(g a b s).leaf C.ν=some (v,s')→∀Z J M A st ra rb,aq C J M s st.heap→bu A 0→ao C J M st.heap a ra→ao C J M st.heap b rb→∀Q E,KV C Z J M st v s' Q→ab (Md C) A (call (ve k) [ra,rb] []) Q E st
@[elab_as_elim] theorem ao.Jl{P:Value→Prop}(S:aq C J M s st.heap){i:Nat}{l:List IE}{rv:Value}(V:ao C J M st.heap (.ref i) rv)(e:s.get i=some (.cu l))(k:∀a,J[i]?=some a→st.heap.get? a=some (c0 (aS C.ν l))→bq C.ν l→P (.ref a)):P rv:=AR (V.El S e) fun a q a1 a2 a3=>q▸k a a1 a2 a3
theorem yW.one{k:Nat}{g:AV→AS→RV}(H:yW C k g):JA C k (pJ g):=fun as s v s' e Z J M A st ras S R z V Q E K=>by
 obtain⟨a,rfl,e⟩:=ie e
 obtain⟨ra,rfl,V1⟩:=V.one
 exact H a s v s' e Z J M A st ra S R V1 Q E K
theorem Mx.two{k:Nat}{g:AV→AV→AS→RV}(H:Mx C k g):JA C k (Hh g):=fun as s v s' e Z J M A st ras S R z V Q E K=>by
 obtain⟨a,b,rfl,e⟩:=kN e
 obtain⟨ra,rb,rfl,V1,W1⟩:=V.two
 exact H a b s v s' e Z J M A st ra rb S R V1 W1 Q E K
theorem yW.or{k:Nat}{g:AV→AS→RV}{g':AV→AV→AS→RV}(H:yW C k g)(H':Mx C k g'):JA C k (yJ g g'):=fun as s v s' e Z J M A st ras S R z V Q E K=>by
 cases as with
 |nil=>exact no e
 |cons a l=>cases l with
  |nil=>exact H.one [a] s v s' e Z J M A st ras S R z V Q E K
  |cons b l=>exact H'.two (a::b::l) s v s' e Z J M A st ras S R z V Q E K
theorem JA.no{k:Nat}:JA C k Hg:=fun Y Y Y Y e=>Mine.Internal.no e
theorem ik{n:Nat}(e:(tU n s).leaf C.ν=some (v,s')):n≤100000∧v=.int (.c n)∧s'=s:=by
 refine aw (bC e:) fun hl e=>?_
 injection e with e;injection e with e aN;subst e aN;exact⟨hl,rfl,rfl⟩
theorem Mc(HL:sj C):yW C 0 U3:=fun a s v s' e Z J M A st ra S R V Q E K=>by
 have ref:∀i,(AP s (.ref i) (fun l=>tU l.length s) fun l=>tU l.length s).leaf C.ν=some (v,s')→ao C J M st.heap (.ref i) ra→ab (Md C) A (call (ve 0) [ra] []) Q E st:=fun i e V=>by
  refine aC (ig e:) fun Y q e=>?_
  injection q with q;subst q;rcases e with⟨l,ei,e⟩|⟨l,ei,e⟩
  ·obtain⟨hl,rfl,rfl⟩:=ik e
   refine V.listE S ei fun a vs n Y ea Vs=>?_
   have hlen:=Vs.length
   refine lf (Calls.call_len_list (cM ea) (by simp;lia) ?_)
   exact K.now S (.int _ _ _ (by simp[IE.eval];lia)) _
  ·obtain⟨hl,rfl,rfl⟩:=ik e
   refine V.Jl S ei fun a Y ea hb=>?_
   refine HL A st E a _ Q ea (by rw [gj];lia) fun tk t=>?_
   exact K.now S (.int _ _ _ (by rw [gj];rfl)) _
 cases a with
 |t l=>
  obtain⟨hl,rfl,rfl⟩:=ik e
  refine V.kO fun a vs n Y ea Vs=>?_
  have hlen:=Vs.length
  refine lf (len_tuple (UA ea) (by simp;lia) ?_)
  exact K.now S (.int _ _ _ (by simp[IE.eval];lia)) _
 |str l=>
  obtain⟨hl,rfl,rfl⟩:=ik e
  refine V.gK fun t=>?_
  refine lf (P.len_str (by unfold aR Str.length;simp;lia) ?_)
  exact K.now S (.int _ _ _ (by unfold aR Str.length;simp[IE.eval])) _
 |bytes l=>
  obtain⟨hl,rfl,rfl⟩:=ik e
  refine V.eF fun hb t=>?_
  refine lf (len_bytes (by rw [gj];lia) ?_)
  exact K.now S (.int _ _ _ (by rw [gj];rfl)) _
 |ref i=>exact ref i e V
 |_=>exact no e
theorem Ma:yW C 1 U2:=fun a s v s' e Z J M A st ra S R V Q E K=>by
 obtain⟨x,rfl,e⟩:=aX e
 refine aH.cL e fun n ag e1 e=>?_
 refine dJ (fc 40 S.rg e1:) fun c1 c2 c3=>?_
 injection e with e;injection e with e aN;subst e aN;refine V.eK fun t=>?_
 rw [c1];refine lf (call_range_1 ?_);have hk:∀b o,st.heap.get? b=some o→(st.heap.push {cls:=.type "range",data:=.fields #[.int 0 st.toks,.int n t,.int 1 (st.toks+1)]}).get? b=some o:=fun b o e=>Heap.get?_push_of_some _ e
 have G:=aJ.heap Z J M hk
 have hm:¬M st.heap.objs.size:=S.nU (Heap.bc _)
 exact K _ _ _ _ _ G ((S.lP c2 c3).heap hk) (.xM 0 n _ _ _ _ hm (Heap.get?_push_size _ rfl))
theorem Hp:Mx C 1 P0:=fun a b s v s' e Z J M A st ra rb S R V W Q E K=>by
 obtain⟨x,rfl,f⟩:=aX e
 clear e;obtain⟨y,rfl,e⟩:=aX f
 clear f;refine aH.cL e fun n ag e1 e=>?_
 refine aH.cL e fun m aK e2 e=>?_
 refine dJ (fc 40 S.rg e1:) fun c1 c2 c3=>?_
 refine dJ (fc 40 c3 e2:) fun d1 d2 d3=>?_
 injection e with e;injection e with e aN;subst e aN;refine V.eK fun t=>?_
 refine W.eK fun u=>?_
 rw [c1,d1];refine lf (call_range_2 ?_);have hk:∀b o,st.heap.get? b=some o→(st.heap.push {cls:=.type "range",data:=.fields #[.int n t,.int m u,.int 1 st.toks]}).get? b=some o:=fun b o e=>Heap.get?_push_of_some _ e
 have G:=aJ.heap Z J M hk
 have hm:¬M st.heap.objs.size:=S.nU (Heap.bc _)
 exact K _ _ _ _ _ G (((S.lP c2 c3).lP d2 d3).heap hk) (.xM n m _ _ _ _ hm (Heap.get?_push_size _ rfl))
theorem L9(HB:l9 C):yW C 2 UZ:=fun a s v s' e Z J M A st ra S R V Q E K=>by
 obtain⟨i,rfl,⟨l,ei,e⟩|⟨l,ei,e⟩⟩:=ig e
 ·refine aC (aI e) fun es he e=>aw (cN e) fun hb e=>aw (bC e) fun hl e=>?_
  injection e with e;injection e with e aN;subst e aN;refine V.listE S ei fun a vs n Y ea Vs=>aC (yl he Vs) fun m q hm=>?_
  have hB:bq C.ν es:=fun e he=>Ar S.rg (bS hb e he)
  refine lf (call_bytes_ints (cM ea) (q▸intsAre_map m) (fun n hn=>aC (List.mem_map.mp (hm▸hn:n∈es.map fun e=>e.eval C.ν)) fun(e:IE) he q=>(show e.eval C.ν=n from q)▸hB e he) (Vs.length▸bN hl) R.1 fun h' t k hk=>?_)
  rw [show byteArr (m.map (·.1))=aS C.ν es by unfold byteArr aS;rw [hm,List.map_map];rfl]
  exact K _ _ _ _ _ (aJ.heap Z J M hk) (S.heap hk) (.bytes _ t hB)
 ·refine aw (bC e:) fun hl e=>?_
  injection e with e;injection e with e aN;subst e aN;refine V.Jl S ei fun a Y ea hb=>?_
  refine HB A st E a _ Q ea (by rw [gj];exact hl) fun tk t=>?_
  exact K.now S (.bytes _ t hb) _
theorem L8(HN:si C):yW C 3 UY:=fun a s v s' e Z J M A st ra S R V Q E K=>by
 cases a with
 |bytes b=>
  refine aw (bC e:) fun hl e=>?_
  refine aH.cL e fun i ag e1 e=>?_
  injection e with e;injection e with e aN;subst e aN;refine V.eF fun hb t=>?_
  refine HN A st E _ t Q (by rw [gj];exact hl) fun tk h' hk hg=>?_
  exact nV e1 hb S K tk hk (Heap.bc _) hg
 |_=>exact no e
theorem L7:yW C 4 UX:=fun a s v s' e Z J M A st ra S R V Q E K=>by
 obtain⟨i,rfl,⟨l,ei,e⟩|⟨l,ei,e⟩⟩:=ig e
 ·have hl:=mf e
  refine V.listE S ei fun a vs n Y ea Vs=>?_
  refine lf (call_list_seq (hsz:=by have h1:=Vs.length;rw [sizeLine_eq,List.size_toArray];lia) a (.inl rfl) ea rfl rfl fun h' c' hk hD=>?_)
  exact gy e S Vs K _ hk (Heap.bc _) hD
 ·exact no e
theorem L6:yW C 5 UW:=fun a s v s' e Z J M A st ra S R V Q E K=>by
 have ref:∀i,(AP s (.ref i) (fun l=>jN l.length (.ok (.t l,s))) fun Y=>.bad 25).leaf C.ν=some (v,s')→ao C J M st.heap (.ref i) ra→ab (Md C) A (call (ve 5) [ra] []) Q E st:=fun i e V=>by
  obtain⟨_,q,⟨l,ei,e⟩|⟨l,ei,e⟩⟩:=ig e
  ·injection q with q;subst q
   refine aw (bC e:) fun hl e=>?_
   injection e with e;injection e with e aN;subst e aN;refine V.listE S ei fun a vs n Y ea Vs=>?_
   refine lf (call_tuple_list (hsz:=by have h1:=Vs.length;rw [sizeLine_eq,List.size_toArray];lia) (cM ea) fun h' hk=>?_)
   have MF:∀b o,st.heap.get? b=some o→(h'.push {cls:=.type "tuple",data:=.seq vs.toArray}).get? b=some o:=fun b o e=>Heap.get?_push_of_some _ (hk b o e)
   have hm:¬M h'.objs.size:=fun q=>by
    refine dC (S.mlt _ q:) fun o e=>?_
    exact aO (hk _ _ e) (Heap.bc h')
   have G:=aJ.heap Z J M MF
   exact K _ _ _ _ _ G (S.heap MF) (.t _ _ vs 0 hm (Heap.get?_push_size _ rfl) (Vs.grow G))
  ·exact no e
 cases a with
 |t l=>
  injection e with e;injection e with e aN;subst e aN;exact oW V.inv fun a vs n q Y ea Vs=>by
   rw [q]at V⊢;exact lf (call_tuple_tup (UA ea) (K.now S V _))
 |ref i=>exact ref i e V
 |_=>exact no e
theorem L5:yW C 6 UU:=fun a s v s' e Z J M A st ra S R V Q E K=>by
 cases a with
 |eD l=>cases l with
  |nil=>
   refine V.wR fun a es n ha hs ea Ra=>?_
   subst Ra;refine lf (rd R.1 hs ea fun h' tk D c hk hd hg=>?_)
   exact gy e S .nil K tk hk hd hg
  |cons _ _=>exact no e
 |_=>exact no e
theorem L4:Mx C 9 UT:=fun a b s v s' e Z J M A st ra rb S R V W Q E K=>by
 obtain⟨x,rfl,f⟩:=aX e
 clear e;obtain⟨y,rfl,e⟩:=aX f
 clear f;refine aH.cL e fun b ag e1 e=>?_
 refine dJ (dF S.rg e1:) fun c1 c2 c3=>?_
 injection e with e;injection e with e aN;subst e aN;refine V.eK fun t=>?_
 refine W.eK fun u=>?_
 refine lf (max_two_ints R.1 fun h' tk hk=>?_)
 have c1:decide (_<_)=b:=c1
 refine K _ _ _ _ _ (aJ.heap Z J M hk) ((S.lP c2 c3).heap hk) ?_
 cases b with
 |true=>rw [if_pos (of_decide_eq_true c1)];exact .int _ _ _ rfl
 |false=>rw [if_neg (of_decide_eq_false c1)];exact .int _ _ _ rfl
theorem Ho:Mx C 10 PZ:=fun a b s v s' e Z J M A st ra rb S R V W Q E K=>by
 obtain⟨x,rfl,f⟩:=aX e
 clear e;obtain⟨y,rfl,e⟩:=aX f
 clear f;refine aH.cL e fun b ag e1 e=>?_
 refine dJ (dF S.rg e1:) fun c1 c2 c3=>?_
 injection e with e;injection e with e aN;subst e aN;refine V.eK fun t=>?_
 refine W.eK fun u=>?_
 refine lf (min_two_ints R.1 fun h' tk hk=>?_)
 have c1:decide (_<_)=b:=c1
 refine K _ _ _ _ _ (aJ.heap Z J M hk) ((S.lP c2 c3).heap hk) ?_
 cases b with
 |true=>rw [if_pos (of_decide_eq_true c1)];exact .int _ _ _ rfl
 |false=>rw [if_neg (of_decide_eq_false c1)];exact .int _ _ _ rfl
theorem Hn:yW C 11 PY:=fun a s v s' e Z J M A st ra S R V Q E K=>by
 obtain⟨x,rfl,e⟩:=aX e
 refine aH.cL e fun b ag e1 e=>?_
 refine dJ (dF S.rg e1:) fun c1 c2 c3=>?_
 injection e with e;injection e with e aN;subst e aN;refine V.eK fun t=>?_
 refine lf (call_abs_int fun u tk=>?_)
 have c1:decide (_<(0:Int))=b:=c1
 refine K.now (S.lP c2 c3) ?_ tk
 cases b with
 |true=>rw [if_pos (of_decide_eq_true c1)];exact .int _ _ _ (by rw [km];simp[IE.eval])
 |false=>rw [if_neg (of_decide_eq_false c1)];exact .int _ _ _ rfl
set_option tactic.hygienic true in
theorem Hm:yW C 12 Mb:=fun a s v s' e Z J M A st ra S R V Q E K=>by
 cases a with
 |str l=>cases l with
  |nil=>exact no e
  |cons d l=>cases l with
   |nil=>
    unfold Mb at e;simp only at e;split at e
    ·rename_i hd
     simp only[Bool.and_eq_true]at hd
     have h1:=bF hd.1
     have h2:=bF hd.2
     injection e with e;injection e with e aN;subst e aN;refine V.gK fun t=>?_
     refine lf (KIN.call_text (wN _ (Nat.lt_succ_of_le h2) h1) (by show 1≤640;decide) ?_)
     exact K.now S (.int _ _ _ rfl) _
    ·exact no e
   |cons _ _=>exact no e
 |int a=>
  injection e with e;injection e with e aN;subst e aN;exact dC V.inv fun t q=>by
   rw [q]at V⊢;exact lf (call_int_int (K.now S V _))
 |bool b=>
  injection e with e;injection e with e aN;subst e aN;cases V.inv;refine lf (call_int_bool ?_);refine K.now S (.int _ _ _ ?_) _;cases b<;>rfl
 |_=>exact no e
theorem Hl:yW C 13 PX:=fun a s v s' e Z J M A st ra S R V Q E K=>by
 obtain⟨i,rfl,⟨l,ei,e⟩|⟨l,ei,e⟩⟩:=ig e
 ·refine aC (aI e) fun es he e=>?_
  injection e with e;injection e with e aN;subst e aN;refine V.listE S ei fun a vs n Y ea Vs=>aC (yl he Vs) fun m q hm=>?_
  rw [q]at ea;have hl:st.heap.IsList a (intItems m.toArray):=by
   have:=cM ea
   simpa[intItems]using this
  refine lf (sum_intListG R.1 hl fun h' tk t' hk=>K _ _ _ _ _ (aJ.heap Z J M hk) (S.heap hk) (.int _ _ _ ?_))
  rw [zi,preSum_eq,List.take_of_length_le (by rw [List.length_map];exact Nat.le_refl _)]
  exact(Int.zero_add _).trans (congrArg List.sum hm.symm)
 ·exact no e
set_option tactic.hygienic true in
theorem Hj{a b:AV}{r:AV×AS}(e:(Hk a b s).leaf C.ν=some r):b=.bi 5:=by
 cases b with
 |bi k=>
  unfold Hk at e;split at e
  ·rename_i h;exact h
  ·exact no e
 |_=>exact no e
theorem Hi:Mx C 14 Hk:=fun a b s v s' e Z J M A st ra rb S R V W Q E K=>by
 cases Hj e
 cases W.inv
 cases a with
 |t l=>
  injection e with e;injection e with e aN;subst e aN;refine V.kO fun a vs n Y ea Vs=>?_
  exact lf (IsiPair.tuple_tuple ea rfl (K.now S (.bool true) _))
 |none=>
  injection e with e;injection e with e aN;subst e aN;cases V.inv;exact lf (IsiPair.NoneType_tuple (K.now S (.bool false) _))
 |bool b=>
  injection e with e;injection e with e aN;subst e aN;cases V.inv;exact lf (IsiPair.bool_tuple (K.now S (.bool false) _))
 |bytes l=>
  injection e with e;injection e with e aN;subst e aN;refine V.eF fun hb t=>?_
  exact lf (rI (K.now S (.bool false) _))
 |str l=>
  injection e with e;injection e with e aN;subst e aN;refine V.gK fun t=>?_
  exact lf (IsiPair.str_tuple (K.now S (.bool false) _))
 |_=>exact no e
noncomputable def EH(C:Cx):Nat→List (List AV→AS→RV)→Prop
 |_,[]=>True
 |k,f::r=>JA C k f∧EH C (k+1) r
theorem EH.zy:∀{l:List (List AV→AS→RV)}{j:Nat}(k:Nat),EH C j l→JA C (j+k) (KO l k)
 |[],_,_,_=>JA.no
 |_::_,_,0,H=>H.1
 |_::_,j,k+1,H=>by
  have:=EH.zy k H.2
  rw [Nat.add_right_comm]at this;exact this
theorem TA(HL:sj C)(HB:l9 C)(HN:si C):QA C:=fun k=>by
 have H:EH C 0 UR:=⟨(Mc HL).one,Ma.or Hp,(L9 HB).one,(L8 HN).one,L7.one,L6.one,L5.one,.no,.no,L4.two,Ho.two,Hn.one,Hm.one,Hl.one,Hi.two,trivial⟩
 have:=H.zy k
 rw [Nat.zero_add]at this;exact this
end
end
end Mine.Internal
namespace MineB.Internal
open PySem PySem.W PySem.Calls PyProof.Rows Builtin
open PySem.W.KBw
noncomputable section
namespace KBa
noncomputable abbrev hJ(b:Array UInt8):Obj:={cls:=.type "bytearray",data:=.bytearray b 0}
theorem look_buffer:typeLookup (.type "bytearray") "__buffer__"=pure (some (.builtin "bytearray.__buffer__")):=by rw [typeLookup_type,builtinLookup_eq_fast];kernel_rfl
theorem look_release:typeLookup (.type "bytearray") "__release_buffer__"=pure (some (.builtin "bytearray.__release_buffer__")):=by rw [typeLookup_type,builtinLookup_eq_fast];kernel_rfl
theorem wc:typeLookup (.type "bytearray") "__bytes__"=pure none:=by rw [typeLookup_type,builtinLookup_eq_fast];kernel_rfl
theorem wb:typeLookup (.type "bytearray") "__index__"=pure none:=by rw [typeLookup_type,builtinLookup_eq_fast];kernel_rfl
section
variable{prog:Program}{w:World}{A:Around}{E:Value→Shared→Prop}{s:Shared}{a:Addr}{b:Array UInt8}
theorem typ(e:s.heap.get? a=some (hJ b)):s.TypeIs (.ref a) "bytearray":=⟨_,e,rfl⟩
theorem gv{M:Model}(e:s.heap.get? a=some (hJ b)){Q:Array UInt8→Shared→Prop}(h:Q b s):wpAny M A (Bytes.payload (.ref a)) Q E s:=by
 unfold Bytes.payload Bytes.payload?;refine wpAny_bind (wpAny_bind (wpAny_load e ?_));exact wpAny_pure (wpAny_pure h)
set_option tactic.hygienic true in
theorem own_buffer{M:Model}(e:s.heap.get? a=some (hJ b)){Q:Bool→Shared→Prop}(h:Q true s):wpAny M A (Bytes.slotIsOwn (.ref a) "__buffer__") Q E s:=by
 unfold Bytes.slotIsOwn;refine wpAny_bind (wpAny_specialOf (typ e) look_buffer ?_);have key:∀x:String,x="bytearray"→wpAny M A (isInstance (.ref a) (.type x)) Q E s:=fun x hx=>by
  rw [hx];exact wpAny_isInstance (typ e) sub_self h
 simp only
 split
 ·rename_i hx
  exact absurd hx (by decide+kernel)
 ·exact key _ (by decide+kernel)
set_option tactic.hygienic true in
theorem own_release{M:Model}(e:s.heap.get? a=some (hJ b)){Q:Bool→Shared→Prop}(h:Q false s):wpAny M A (Bytes.ownRelease (.ref a)) Q E s:=by
 unfold Bytes.ownRelease;refine wpAny_bind ?_;unfold Bytes.slotIsOwn;refine wpAny_bind (wpAny_specialOf (typ e) look_release ?_);have key:∀x:String,x="bytearray"→wpAny M A (isInstance (.ref a) (.type x)) (fun r s'=>wpAny M A (pure !r) Q E s') E s:=fun x hx=>by
  rw [hx];exact wpAny_isInstance (typ e) sub_self (wpAny_pure h)
 simp only
 split
 ·rename_i hx
  exact absurd hx (by decide+kernel)
 ·exact key _ (by decide+kernel)
theorem As{M:Model}{id:String}{full:Bool}(e:s.heap.get? a=some (hJ b)){Q:Option (Array UInt8)→Shared→Prop}(h:Q (some b) s):wpAny M A (Bytes.buffer? id (.ref a) full) Q E s:=by
 unfold Bytes.buffer?;refine wpAny_bind (wpAny_specialOf (typ e) look_buffer ?_);refine wpAny_bind (own_buffer e ?_);refine wpAny_bind (wpAny_specialOf (typ e) look_buffer ?_);refine wpAny_bind (own_release e ?_);exact wpAny_bind (gv e (wpAny_pure h))
theorem K6{Q:Value→Shared→Prop}(e:s.heap.get? a=some (hJ b))(hfit:b.size≤1000000)(h:Q (.int b.size (s.toks+1)) {s with toks:=s.toks+1+1}):wpAny (model prog w) A (call (.builtin "len") [.ref a]) Q E s:=by
 refine Calls.call_function_entry kind_len plain_len entry_len (args_len1 _) ?_
 unfold Builtin.«len»;refine wpAny_bind (m:=oneArg "len" _) (wpAny_pure ?_)
 refine wpAny_bind (m:=callSpecial? (.ref a) (Str.ofString "__len__")) (wpAny_callSpecial?_slot (name:=Str.ofString "__len__") (typ e) pX
  (wpAny_call_entry pX (typ e) wJ ?_ (AI _)))
 show wpAny _ _ (Bytes.payload (.ref a)>>=fun b=>retInt b.size) _ _ s
 refine wpAny_bind (gv e ?_)
 refine wpAny_bind (wpAny_mkInt (wpAny_pure ⟨_,rfl,?_⟩))
 refine wpAny_bind (wpAny_holding (wpAny_pure ?_))
 refine wpAny_bind (wpAny_letGo ?_)
 show wpAny _ _ (if((b.size:Nat):Int)<0 then _ else _) _ _ _;rw [if_neg (by lia)]
 show wpAny _ _ (if((b.size:Nat):Int)≥2^63 then _ else _) _ _ _;rw [if_neg (by lia)]
 exact wpAny_bind (wpAny_mkInt (wpAny_pure ⟨_,rfl,h⟩))
theorem Am{Q:Value→Shared→Prop}(e:s.heap.get? a=some (hJ b))(hz:b.size≤sizeLine)(h:Q (.bytes b s.toks) {s with toks:=s.toks+1}):
  codeAny (model prog w) A (.call (.builtin "bytes.__new__") ⟨[.type "bytes",.ref a],[]⟩) (wants Q E) s:=by
 refine codeAny_of_tree ?_
 show wpAny _ A.in1 (do checkBuiltinCall "bytes.__new__" ⟨[.type "bytes",.ref a],[]⟩;again (.builtin "bytes.__new__" ⟨[.type "bytes",.ref a],[]⟩)) _ _ s;refine wpAny_bind (wpAny_of_eq (F.bm_newCall _) (wpAny_pure ⟨plainId_quiet F.bm_plain _,codeAny_builtin F.bm_entry ?_⟩));rw [Around.under_plainId F.bm_plain _];unfold Builtin.«bytes.__new__»;refine wpAny_bind (wpAny_of_eq (a:=true) rfl ?_)
 refine bm_if_false rfl ?_
 refine wpAny_bind (wpAny_of_eq F.bm_sub ?_)
 refine bm_if_false rfl ?_
 refine wpAny_bind (wpAny_of_eq (F.bm_bind _) ?_)
 refine wpAny_bind (wpAny_of_eq (a:=()) rfl ?_)
 refine wpAny_bind (wpAny_of_eq (a:=()) rfl ?_)
 refine bm_if_false rfl ?_
 refine wpAny_bind (wpAny_specialOf (typ e) wc ?_)
 refine wpAny_bind (wpAny_bind ?_)
 show wpAny _ _ (load a>>=_) _ _ _;refine wpAny_bind (wpAny_load e ?_);refine wpAny_pure (wpAny_pure ?_);refine bm_if_false rfl ?_;refine wpAny_bind (wpAny_specialOf (typ e) wb ?_);refine bm_if_true rfl ?_
 first
  |show wpAny _ _ (Builtin.Bytes.buffer? "bytes.__new__" (.ref a) true>>=_) _ _ _
  |(refine wpAny_bind ?_;show wpAny _ _ (Builtin.Bytes.buffer? "bytes.__new__" (.ref a) true>>=_) _ _ _)
 refine wpAny_bind (As e ?_)
 refine wpAny_bind (wpAny_rule ?_)
 refine wpAny_bind (wpAny_mkBytes ?_ hz)
 first
  |exact wpAny_pure h
  |exact wpAny_pure (wpAny_pure h)
  |exact wpAny_bind (wpAny_pure (wpAny_pure h))
theorem Eb{Q:Value→Shared→Prop}(e:s.heap.get? a=some (hJ b))(hz:b.size≤sizeLine)(h:Q (.bytes b s.toks) {s with toks:=s.toks+1}):wpAny (model prog w) A (call (.type "bytes") [.ref a]) Q E s:=by
 refine callType_codes (Q₁:=fun obj ag=>ag.TypeIs obj "bytes"∧Q obj ag) F.bm_called (F.bm_typeCall _) F.entry_object_init
  (Am e hz ⟨PySem.W.typeIs_bytes _ _ _,h⟩) fun obj ag h₁=>?_
 exact⟨h₁.1,F.args_object_init_2 obj _,object_init_meets F.bm_called.init.lookup F.bm_called.made (by decide) prog w A.in1 _ ag ⟨h₁.1,rfl,h₁.2⟩⟩
end
end KBa
end
end MineB.Internal
namespace Mine.Internal
open PySem PySem.W PyProof.Rows PySem.SeqAt
noncomputable section
variable{C:Cx}
theorem Hr:sj C:=fun A st E a b Q e hz h=>lf (MineB.Internal.KBa.K6 e (by lia) (h _ _))
theorem AD:l9 C:=fun A st E a b Q e hz h=>lf (MineB.Internal.KBa.Eb e (by rw [sizeLine_eq];lia) (h _ _))
end
end Mine.Internal
namespace MineB.Internal
open PySem PySem.W PySem.Calls PyProof.Rows Builtin
open PySem.W.KBw
noncomputable section
namespace KBa
section
variable{prog:Program}{w:World}{A:Around}{E:Value→Shared→Prop}{s:Shared}{a sl:Addr}{b:Array UInt8}{l u:Value}{lo hi:Option Int}
theorem nO{M:Model}(hS:s.heap.IsSliceOf sl l u .none)(hl:IsPart l lo)(hu:IsPart u hi){Q:Value×Value×Value→Shared→Prop}(h:Q (rawPart lo,rawPart hi,rawPart none) s):wpAny M A (Bytes.sliceParts (.ref sl)) Q E s:=by
 obtain⟨o,ho,hc,hd⟩:=hS
 unfold Bytes.sliceParts;refine wpAny_bind (wpAny_field (x:=.none) ho hd rfl ?_)
 kby_none
 refine wpAny_ite (KBy.ite_no (show¬((Value.none==rawInt 0)=true)from Bool.false_ne_true) ?_)
 refine wpAny_bind (wpAny_field (x:=l) ho hd rfl ?_)
 cases hl<;>cases hu<;>(first
  |(kby_none;(refine wpAny_bind (wpAny_field (x:=.none) ho hd rfl ?_));kby_none)
  |(kby_none;(refine wpAny_bind (wpAny_field (x:=.int _ _) ho hd rfl ?_));kby_int)
  |(kby_int;(refine wpAny_bind (wpAny_field (x:=.none) ho hd rfl ?_));kby_none)
  |(kby_int;(refine wpAny_bind (wpAny_field (x:=.int _ _) ho hd rfl ?_));kby_int))<;>exact wpAny_pure h
theorem k7{M:Model}(hS:s.heap.IsSliceOf sl l u .none){Q:Option Int→Shared→Prop}(h:Q none s):wpAny M A (Bytes.subscript? (.ref sl)) Q E s:=by
 obtain⟨o,ho,hc,hd⟩:=hS
 have hT:s.TypeIs (.ref sl) "slice":=⟨o,ho,hc⟩
 unfold Bytes.subscript?;exact wpAny_bind (wpAny_specialOf hT slice_no_index (wpAny_pure h))
theorem px{Q:Value→Shared→Prop}(e:s.heap.get? a=some (hJ b))(hS:s.heap.IsSliceOf sl l u .none)(hl:IsPart l lo)(hu:IsPart u hi)(hz:b.size≤sizeLine)
  (h:Q (.ref s.heap.objs.size) {s with heap:=s.heap.push (hJ (KBy.picked b lo hi))}):wpAny (model prog w) A (getItem (.ref a) (.ref sl)) Q E s:=by
 have hT:s.TypeIs (.ref sl) "slice":=let⟨o,ho,hc,_⟩:=hS;⟨o,ho,hc⟩
 refine wpAny_getItem_slot (typ e) (by decide) kT (wpAny_call_entry kT (typ e) pF ?_ (rZ _ _))
 show wpAny _ _ (Bytes.subscript? (.ref sl)>>=fun r=>_) _ _ s
 refine wpAny_bind (k7 hS ?_)
 refine wpAny_bind (wpAny_typeOf hT ?_)
 show wpAny _ _ (Bytes.sliceParts (.ref sl)>>=fun r=>_) _ _ s
 refine wpAny_bind (nO hS hl hu ?_)
 refine wpAny_bind (gv e ?_)
 refine wpAny_bind (wpAny_of_eq (sliceIndices_raw lo hi none b.size (fun e=>nomatch e)) ?_)
 refine wpAny_bind ?_
 unfold Bytes.newBytearray;refine wpAny_newObj_type ?_ (Nat.le_trans (KBc.size_picked_le b lo hi) hz);exact wpAny_pure ⟨_,rfl,h⟩
end
end KBa
end
end MineB.Internal
namespace Mine.Internal
open PySem PySem.W PyProof.Rows PySem.SeqAt
noncomputable section
variable{C:Cx}
theorem AB:jQ C:=fun A st E a sl b vl vu lo hi Q e hS hl hu hz h=>lf (MineB.Internal.KBa.px e hS hl hu (by rw [sizeLine_eq];lia) (h _))
end
end Mine.Internal
namespace Mine.Internal
open PySem PySem.W PyProof.Rows Builtin
noncomputable section
section
variable{prog:Program}{w:World}{A:Around}{E:Value→Shared→Prop}{s:Shared}
theorem Al{args:List Value}{Bi:Builtin}{Q Q₁:Value→Shared→Prop}(hct:checkTypeCall "bytearray" ⟨args,[]⟩=pure ())(LL:entryFor table "bytearray.__init__"=some Bi)
  (hnew:PySem.codeAny (model prog w) A.in1 (.call (.builtin "bytearray.__new__") ⟨.type "bytearray"::args,[]⟩) (wants Q₁ E) s)
  (hnext:∀obj ag,Q₁ obj ag→ag.TypeIs obj "bytearray"∧argsOk "bytearray.__init__" ⟨obj::args,[]⟩∧
   ab (model prog w) A.in1.in1 (Bi ⟨obj::args,[]⟩) (GI (model prog w) A.in1 (wants (fun r aK=>r=.none∧Q obj aK) E)) (fun e s'=>E e s') ag):
  ab (model prog w) A (call (.type "bytearray") args) Q E s:=by
 have ft:=MineB.Internal.KBa.called
 refine dA (bk ?_)
 show ab _ _ (callAny (.type "bytearray") _) _ _ _;refine af ⟨Code.quiet_builtin _ (by decide+kernel),fH F.entry_type_call ?_⟩
 rw [Around.under_plain (weight_type_call_type "bytearray" args []) rfl];unfold Builtin.«type.__call__»;refine aZ (c:=(Value.type "bytearray"==Value.type "type")=true) (by rw [ft.notType];rfl) ?_
 refine aZ (c:=(_:Bool)=true) (decide_eq_false (by rw [ft.canCreate];exact Bool.false_ne_true)) ?_
 refine aa (aV hct (aa (aV MineB.Internal.KBa.mro (aZ rfl ?_))))
 rw [ft.made];refine aa (af (aa (af ?_)));refine aa (aj (dA (fV (Wz hnew) fun r ag hr=>?_)))
 rcases r with e|(obj|_|_|_)<;>first|exact hr|exact hr.elim|skip
 refine dJ (hnext _ _ hr) fun hT Ss hsi=>?_
 refine aa (lf (wpAny_isInstance hT ft.sub (aZ rfl ?_)))
 refine aa (aj (bA hT ft.init (dA ?_)))
 refine fV (fq ft.init.plain LL (lf (ft.init.check _ _ _ _ _ _ _ _ hT Ss hsi))) fun vE aK De=>?_
 rcases vE with e|(r|_|_|_)<;>first|exact De|exact De.elim|skip
 obtain⟨rfl,hq⟩:=De
 exact af hq
theorem uA{M:Model}{v:Value}{Q:Bool→Shared→Prop}(h:Q false s):ab M A (Bytes.exported v) Q E s:=fun Γ p iz hc=>by
 unfold Bytes.exported;show Sem.wp M Γ (stack>>=fun st=>pure (st.any _)) _ _ p s
 rw [Sem.wp_bind'];show Q (((Γ.code,p)::Γ.below).any _) s;rw [List.any_eq_false.mpr ?_]
 ·exact h
 ·intro x hx
  have hn:j0 x.1=true:=by
   rcases cO hx with rfl|hx
   ·exact hc.1
   ·exact hc.2 x hx
  obtain⟨c,q⟩:=x
  cases c with
  |builtin id args=>
   have hn:iD id=true:=hn
   have k:∀i:String,iD i=false→id≠i:=fun i hi e=>by rw [e,hi]at hn;injection hn
   intro hh
   delta Bytes.exported.match_1 at hh
   have hh:dite (id="bytearray.__contains__") _ _=true:=hh
   rw [dif_neg (k _ (by decide+kernel)),dif_neg (k _ (by decide+kernel)),dif_neg (k _ (by decide+kernel)),dif_neg (k _ (by decide+kernel)),dif_neg (k _ (by decide+kernel))]at hh
   have no:Bytes.decodersThatHold.contains id=false:=dy (ae hn).1
   obtain⟨pos,kw⟩:=args
   cases pos with
   |nil=>exact Bool.false_ne_true hh
   |cons a r=>
    have hh:(Bytes.sameRef a v&&Bytes.decodersThatHold.contains id)=true:=hh
    rw [no,Bool.and_false]at hh;exact Bool.false_ne_true hh
  |_=>exact Bool.false_ne_true
end
end
end Mine.Internal
namespace MineB.Internal
open PySem PySem.W PySem.Calls PyProof.Rows Builtin
open PySem.W.KBw
noncomputable section
namespace KBa
theorem Av(v:Value):Bytes.bindOptional "bytearray.__init__" "bytearray" ["source","encoding","errors"] [v] []=pure [some v,none,none]:=by kernel_rfl
theorem jn:typeLookup (.type "bytes") "__index__"=pure none:=by rw [typeLookup_type,builtinLookup_eq_fast];kernel_rfl
theorem uQ{id:String}{b:Array UInt8}{t:Tok}:Bytes.buffer? id (.bytes b t) true=pure (some b):=by
 unfold Bytes.buffer?;rw [KBy.special_eq KBy.look_buffer,KBy.own_buffer,KBy.own_release]
 kernel_rfl
section
variable{prog:Program}{w:World}{A:Around}{E:Value→Shared→Prop}{s:Shared}{a:Addr}{b:Array UInt8}
theorem ny{M:Model}{f:Array UInt8→Array UInt8}(e:s.heap.get? a=some (hJ b))(hz:(f b).size≤sizeLine){Q:Unit→Shared→Prop}(h:Q () {s with heap:=s.heap.update a (Obj.mapBytearray f)}):wpAny M A (Bytes.write (.ref a) f) Q E s:=by
 show wpAny M A (updateBytearray a f) Q E s;unfold updateBytearray;refine wpAny_bind (wpAny_load e ?_);show wpAny _ _ (update a (Obj.mapBytearray f)>>=fun Y=>lookBehind a) _ _ _
 refine wpAny_bind (wpAny_update e ?_)
 refine wpAny_lookBehind (Heap.get?_update_self (Obj.mapBytearray f) e rfl) ?_ h
 show(if(f b).size>sizeLine then some "bytearray:memory" else none)=none;rw [if_neg (Nat.not_lt.mpr hz)]
theorem lN{f:Array UInt8→Array UInt8}(e:s.heap.get? a=some (hJ b)):(s.heap.update a (Obj.mapBytearray f)).get? a=some (hJ (f b)):=Heap.get?_update_self (Obj.mapBytearray f) e rfl
end
end KBa
end
end MineB.Internal
namespace Mine.Internal
open PySem PySem.W PyProof.Rows Builtin
noncomputable section
section
variable{prog:Program}{w:World}{A:Around}{E:Value→Shared→Prop}{s:Shared}{a:Addr}{b:Array UInt8}{t:Tok}
open MineB.Internal.KBa (hJ)
theorem wk{Q:Fin→Shared→Prop}(e:s.heap.get? a=some (hJ #[]))(hz:b.size≤sizeLine)
  (h:∀h',(∀c o,c≠a→s.heap.get? c=some o→h'.get? c=some o)→h'.get? a=some (hJ b)→Q (.done (.ret .none)) {s with heap:=h'}):
  ab (model prog w) A (Builtin.«bytearray.__init__» ⟨[.ref a,.bytes b t],[]⟩) Q E s:=by
 show ab _ _ (_>>=_) _ _ _;refine aa (lf (MineB.Internal.KBa.own_release e (aZ rfl (aa (aV (MineB.Internal.KBa.Av _) ?_)))));refine aa (aV (a:=()) rfl ?_)
 refine aa (aV (a:=()) rfl ?_)
 refine aa ?_
 show ab _ _ (Bytes.exported (.ref a)>>=fun r=>_) _ _ _
 refine aa (uA ?_)
 show ab _ _ (Bytes.exportsOf (.ref a)>>=fun r=>pure (decide (r>0))) _ _ _
 unfold Bytes.exportsOf;refine aa (aa (lf (wpAny_load e ?_)));refine af (af ?_);refine aZ rfl (aa (lf (MineB.Internal.KBa.ny e (Nat.zero_le _) ?_)));have e1:=MineB.Internal.KBa.lN (f:=fun Y=>#[]) e
 refine aa (aV (a:=none) rfl ?_)
 refine aZ rfl (aa (aV (a:=()) rfl ?_))
 refine aa (aV (a:=none) ((KBy.special_eq MineB.Internal.KBa.jn)) ?_)
 refine aZ rfl ?_
 rw [MineB.Internal.KBa.uQ];refine aa (af (aa (dj (aa (lf (MineB.Internal.KBa.ny e1 hz ?_))))));refine af (h _ (fun c o hc ec=>?_) (MineB.Internal.KBa.lN (f:=fun Y=>b) e1))
 rw [Heap.get?_update_other _ _ (Ne.symm hc),Heap.get?_update_other _ _ (Ne.symm hc),ec]
end
variable{C:Cx}
theorem yK:si C:=fun A st E b t Q hz h=>by
 refine Al (Q₁:=fun obj ag=>obj=.ref st.heap.objs.size∧ag={st with heap:=st.heap.push (MineB.Internal.KBa.hJ #[])}) (MineB.Internal.KBa.vt _) MineB.Internal.KBa.wI (MineB.Internal.KBa.D0 _ ⟨rfl,rfl⟩) fun obj ag h₁=>?_
 obtain⟨rfl,rfl⟩:=h₁
 have hS:(st.heap.push (MineB.Internal.KBa.hJ #[])).get? st.heap.objs.size=some (MineB.Internal.KBa.hJ #[]):=Heap.get?_push_size _ rfl
 refine⟨⟨_,hS,rfl⟩,MineB.Internal.KBa.AH _ _,wk hS (by rw [sizeLine_eq];lia) fun h' hk hg=>?_⟩
 exact⟨rfl,h st.toks h' (fun c o ec=>hk c o (Nat.ne_of_lt (Heap.lt_size ec)) (Heap.get?_push_of_some _ ec)) hg⟩
theorem rD:typeLookup (.type "bytes") "__int__"=pure none:=by rw [typeLookup_type,builtinLookup_eq_fast];kernel_rfl
theorem nR:typeLookup (.type "bytes") "__float__"=pure none:=by rw [typeLookup_type,builtinLookup_eq_fast];kernel_rfl
theorem BA{b x:Array UInt8}{i j:Nat}(h:i≤j)(hj:j≤b.size)(hx:x.size=j - i):(b.extract 0 (i:Int).toNat++x++b.extract (j:Int).toNat b.size).size=b.size:=by
 rw [Array.size_append,Array.size_append,Array.size_extract,Array.size_extract,hx,Int.toNat_natCast,Int.toNat_natCast,Nat.min_eq_left (Nat.le_trans h hj),Nat.min_self,Nat.sub_zero,Nat.add_sub_cancel' h,Nat.add_sub_cancel' hj]
section
variable{C:Cx}
theorem ph{A:Around}{st:Shared}{E:Value→Shared→Prop}{a sl:Addr}{b x:Array UInt8}{t:Tok}{vl vu:Value}{lo hi:Option Int}{Q:PySem.Fin→Shared→Prop}(e:st.heap.get? a=some (MineB.Internal.KBa.hJ b))(hS:st.heap.IsSliceOf sl vl vu .none)(pl:IsPart vl lo)(pu:IsPart vu hi)(hz:b.size≤100000)
  (hle:lo.elim 0 (clipAt b.size)≤hi.elim b.size (clipAt b.size))(hx:x.size=hi.elim b.size (clipAt b.size) - lo.elim 0 (clipAt b.size))(hh:hi.elim b.size (clipAt b.size)≤b.size)
  (h:∀h' tk,(∀c o,c≠a→st.heap.get? c=some o→h'.get? c=some o)→h'.get? a=some (MineB.Internal.KBa.hJ (b.extract 0 (lo.elim 0 (clipAt b.size))++x++b.extract (hi.elim b.size (clipAt b.size)) b.size))→Q (.done (.ret .none)) {st with heap:=h',toks:=tk}):
  ab (Md C) A (Builtin.«bytearray.__setitem__» ⟨[.ref a,.ref sl,.bytes x t],[]⟩) Q E st:=by
 have hT:st.TypeIs (.ref sl) "slice":=let⟨o,ho,hc,_⟩:=hS;⟨o,ho,hc⟩
 unfold Builtin.«bytearray.__setitem__»
 dsimp only
 refine aZ rfl (aa (lf (MineB.Internal.KBa.k7 hS ?_)))
 refine aa (lf (wpAny_typeOf hT (aZ rfl (aa (lf (MineB.Internal.KBa.nO hS pl pu ?_))))))
 refine aZ rfl (aa (lf (wpAny_isInstance (typeIs_bytes _ _ _) F.sub_bytes_bytearray (jb rfl ?_))))
 rw [KBy.special_eq MineB.Internal.KBa.jn,KBy.special_eq rD,KBy.special_eq nR,show isInstance (.bytes x t) (.type "complex")=pure false from F.sub_bytes_complex]
 refine aa (aV (a:=false) rfl (aa (aV (a:=none) rfl (aZ rfl ?_))))
 refine aa (dj (aa (yK A st E x t _ (by rw [hx];exact Nat.le_trans (Nat.sub_le _ _) (Nat.le_trans hh hz)) fun tk h' hk hg=>?_)))
 have W8:h'.IsSliceOf sl vl vu .none:=let⟨o,ho,q⟩:=hS;⟨o,hk _ _ ho,q⟩
 refine aa (aj (lf (MineB.Internal.KBa.nO (s:={st with heap:=h',toks:=tk}) W8 pl pu ?_)))
 refine aa (lf (MineB.Internal.KBa.gv (s:={st with heap:=h',toks:=tk}) hg (aa (lf (MineB.Internal.KBa.gv (s:={st with heap:=h',toks:=tk}) (hk _ _ e) ?_)))))
 refine aa (aV (sliceIndices_raw lo hi none b.size (fun e=>nomatch e)) ?_)
 rw [sliceBounds_plain];refine jb rfl ?_
 generalize lo.elim 0 (clipAt b.size)=i at hle hx h⊢
 generalize hi.elim b.size (clipAt b.size)=j at hle hx hh h⊢
 rw [show max (i:Int) (j:Int)=(j:Int)from Int.max_eq_right (Int.ofNat_le.mpr hle)]
 refine aa (dj (aZ (decide_eq_false (by
  rw [bne_iff_ne];exact fun q=>q (by rw [hx];exact Int.ofNat_sub hle))) ?_))
 refine aa (lf (MineB.Internal.KBa.ny (s:={st with heap:=h',toks:=tk}) (hk _ _ e) (by rw [sizeLine_eq];exact Nat.le_trans (Nat.le_of_eq (BA hle hh hx)) (Nat.le_trans hz (by decide))) ?_))
 exact af (h _ tk (fun c o hca ec=>(Heap.get?_update_other _ _ (Ne.symm hca)).trans (hk _ _ ec)) (MineB.Internal.KBa.lN (f:=fun b=>b.extract 0 ((i:Int)).toNat++x++b.extract ((j:Int)).toNat b.size) (s:={st with heap:=h',toks:=tk}) (hk _ _ e)))
theorem G5(n:Nat)(hi:Option Int):hi.elim n (clipAt n)≤n:=by
 cases hi with
 |none=>exact Nat.le_refl _
 |some i=>exact qE n i
theorem Hq:lH C:=fun A st E a sl b x t vl vu lo hi Q Y Y e hS pl pu hz hle hx h=>by
 have hT:st.TypeIs (.ref sl) "slice":=let⟨o,ho,hc,_⟩:=hS;⟨o,ho,hc⟩
 unfold setItem;refine aj ?_;refine aa (lf (wpAny_sequenceKey (MineB.Internal.KBa.typ e) (by decide) ?_))
 refine aa (bA (name:=Str.ofString "__setitem__") (MineB.Internal.KBa.typ e) MineB.Internal.KBa.kS
  (cf MineB.Internal.KBa.kS (MineB.Internal.KBa.typ e) MineB.Internal.KBa.pD ?_ (MineB.Internal.KBa.rY _ _ _)))
 refine ph e hS pl pu hz hle hx (G5 _ _) fun h' tk hk hg=>⟨_,rfl,?_⟩
 exact af (h h' tk hk hg)
end
end
end Mine.Internal
namespace MineB.Internal
open PySem PySem.W PySem.Calls PyProof.Rows Builtin
open PySem.W.KBw
noncomputable section
namespace TR
theorem pW:Slot "bytes" "join" "bytes.join":=
 .of (owner:="bytes") (n:="join") (by rw [typeLookup_type,builtinLookup_eq_fast];kernel_rfl) (by decide+kernel) (by decide+kernel) (by decide+kernel)
  (by first|exact .inl (by decide+kernel)|exact .inr (by decide+kernel)) (by rw [isSubtype_type];kernel_rfl)
theorem zf:typeOf (.builtin "bytes.join")=pure (.type "method_descriptor"):=by show builtinType _=_;rw [builtinType_eq_fast];kernel_rfl
theorem wH:entryFor table "bytes.join"=some Builtin.«bytes.join»:=entryFor_of_tree (by kernel_rfl)
theorem AG(a b:Value):argsOk "bytes.join" ⟨[a,b],[]⟩:=by unfold argsOk;kernel_rfl
theorem Fe{id:String}{b:Array UInt8}{t:Tok}:Bytes.takeBufferQuiet? id (.bytes b t) 0=pure (some (b,none)):=by
 unfold Bytes.takeBufferQuiet? Bytes.takeBuffer?;rw [KBy.special_eq KBy.look_buffer,KBy.own_buffer];have h:((0:Int)==Bytes.fullReadOnly)=false:=by decide
 rw [h,KBy.buffer_eq]
 kernel_rfl
theorem zQ(l:List (Array UInt8)):∀(k:Nat)(out:Array UInt8),
  ((l.zipIdx k).foldl (fun out(x:Array UInt8×Nat)=>(if x.2>0 then out++(#[]:Array UInt8)else out)++x.1) out).toList=out.toList++(l.map (·.toList)).flatten:=by
 induction l with
 |nil=>exact fun Y Y=>(List.append_nil _).symm
 |cons x r ih=>
  intro k out;rw [List.zipIdx_cons,List.foldl_cons,ih,List.map_cons,List.flatten_cons,←List.append_assoc,Array.toList_append]
  by_cases h:k>0
  ·rw [if_pos h,Array.append_empty]
  ·rw [if_neg h]
theorem zR(l:List (Array UInt8)):Bytes.joined #[] l=(l.map (·.toList)).flatten.toArray:=Array.toList_inj.mp (zQ l 0 #[])
theorem fold_add(l:List (Array UInt8)):∀k:Nat,l.foldl (fun n(x:Array UInt8)=>n+x.size) k=k+(l.map (·.toList)).flatten.length:=by
 induction l with
 |nil=>exact fun Y=>rfl
 |cons x r ih=>intro k;rw [List.foldl_cons,ih,List.map_cons,List.flatten_cons,List.length_append,Nat.add_assoc];rfl
section
variable{prog:Program}{w:World}{A:Around}{E:Value→Shared→Prop}{s:Shared}
theorem method{M:Model}{b:Array UInt8}{t:Tok}{pl:Sem Bool}{Q:Value×List Value→Shared→Prop}(h:Q (.builtin "bytes.join",[.bytes b t]) s):wpAny M A (getMethod (.bytes b t) "join" pl) Q E s:=
 KBd.method_of (.bytes b t) (typeIs_bytes _ _ _) pW zf KBd.noRef h
theorem Ox{M:Model}{Q:Unit→Shared→Prop}(h:Q () s)(l:List (Value×Option Value))(keep:List Value):(∀p∈l,p.2=none)→wpAny M A (Bytes.joinLetGo l keep) Q E s:=by
 induction l with
 |nil=>exact fun Y=>wpAny_pure h
 |cons p r ih=>
  intro hl;obtain⟨x,u⟩:=p
  cases (hl _ List.mem_cons_self:u=none)
  exact wpAny_bind (m:=letGo _ _) (wpAny_letGo (ih fun p m=>hl p (List.mem_cons_of_mem _ m)))
theorem Aa{β:Type}{f:Nat→β}{body:Nat→β→Sem (ForInStep β)}{Q:β→Shared→Prop}(n:Nat):∀(i:Nat)(_:∀k,i≤k→k<i+n→∀Q':ForInStep β→Shared→Prop,Q' (.yield (f (k+1))) s→wpAny (model prog w) A (body k (f k)) Q' E s)(_:Q (f (i+n)) s),wpAny (model prog w) A (forIn (List.range' i n) (f i) body) Q E s:=by
 induction n with
 |zero=>intro i _ h;rw [List.range'_zero,List.forIn_nil];exact wpAny_pure h
 |succ n ih=>
  intro i st h;rw [List.range'_succ,List.forIn_cons];refine wpAny_bind (st i (Nat.le_refl _) (Nat.lt_add_of_pos_right (Nat.succ_pos n)) _ ?_);exact ih (i+1) (fun k h1 h2=>st k (Nat.le_of_succ_le h1) (by rwa[Nat.add_right_comm,Nat.add_assoc]at h2)) (by rwa[Nat.add_right_comm,Nat.add_assoc])
abbrev QS(bs:List (Array UInt8×Tok)):Array Value:=(bs.map fun p=>Value.bytes p.1 p.2).toArray
theorem Ed(bs:List (Array UInt8×Tok)):(QS bs).size=bs.length:=by rw [List.size_toArray,List.length_map]
theorem Hc{bs:List (Array UInt8×Tok)}{k:Nat}(h:k<bs.length):(QS bs).getD k .none=.bytes (bs[k]).1 (bs[k]).2:=by simp[Array.getD,h]
theorem Hd(l:List (Array UInt8×Tok)):((l.map fun p=>(Value.bytes p.1 p.2,(none:Option Value))).any fun y=>y.1.onHeap)=false:=by
 rw [List.any_eq_false];exact fun y hy=>Exists.elim (List.mem_map.mp hy) fun p q=>q.2▸Bool.false_ne_true
theorem yI{bs:List (Array UInt8×Tok)}{k:Nat}(h:k<bs.length):((bs.take (k+1)).map (·.1)).toArray=((bs.take k).map (·.1)).toArray.push bs[k].1∧((bs.take (k+1)).map fun p=>(Value.bytes p.1 p.2,(none:Option Value)))=((bs.take k).map fun p=>(Value.bytes p.1 p.2,none))++[(.bytes bs[k].1 bs[k].2,none)]:=by
 rw [List.take_add_one,List.getElem?_eq_getElem h,List.map_append,List.map_append];exact⟨Array.toList_inj.mp (by rw [Array.toList_push];rfl),rfl⟩
theorem Co{l:List (Array UInt8)}(h:(l.map (·.toList)).flatten.length≤100000)(n:Nat):¬Bytes.tooLong (l.toArray.foldl (fun n(x:Array UInt8)=>n+x.size) ((#[]:Array UInt8).size*n))=true:=by
 rw [List.foldl_toArray',fold_add,show(#[]:Array UInt8).size*n=0 from Nat.zero_mul n,Nat.zero_add]
 ·exact fun q=>absurd (of_decide_eq_true q) (Nat.not_lt_of_le (by rw [sizeLine_eq];exact Nat.le_trans h (by decide)))
 ·rfl
theorem Gh{t:Tok}{x:Addr}{bs:List (Array UInt8×Tok)}{n:Nat}{Q:Value→Shared→Prop}(e:s.heap.get? x=some ({cls:=.type "list",data:=.seq (QS bs) n}:Obj))(h2:2≤bs.length)
  (hz:(bs.map fun p=>p.1.toList).flatten.length≤100000)(h:∀tk t',Q (.bytes (bs.map fun p=>p.1.toList).flatten.toArray t') {s with toks:=tk}):
  wpAny (model prog w) A (call (.builtin "bytes.join") [.bytes #[] t,.ref x]) Q E s:=by
 refine wpAny_call_entry pW (typeIs_bytes _ _ _) wH ?_ (AG _ _)
 show wpAny _ _ (Bytes.joinM .bytes ⟨[.bytes #[] t,.ref x],[]⟩) _ _ _;unfold Bytes.joinM;refine wpAny_bind (wpAny_of_eq (a:=(Value.bytes #[] t,Value.ref x)) rfl ?_)
 show wpAny _ _ (Bytes.joinItems (.ref x)>>=_) _ _ _;unfold Bytes.joinItems;refine wpAny_bind (wpAny_bind (wpAny_typeOf (T:="list") ⟨_,e,rfl⟩ (wpAny_pure (wpAny_bind (wpAny_seqItems e rfl ?_)))))
 obtain⟨p,q,r,rfl⟩:∃p q r,bs=p::q::r:=by
  cases bs with
  |nil=>exact absurd h2 (by decide)
  |cons p bs=>cases bs with
   |nil=>exact absurd h2 (by decide:¬2≤1)
   |cons q r=>exact⟨p,q,r,rfl⟩
 refine wpAny_bind (m:=forIn _ _ _) ?_
 rw [Std.Legacy.Range.forIn_eq_forIn_range']
 generalize p::q::r=bs at*
 show wpAny _ _ (forIn (List.range' 0 (((QS bs).size - 0+1 - 1)/1) 1) _ _) _ _ s;rw [Nat.sub_zero,Nat.add_sub_cancel,Nat.div_one,Ed];refine Aa (f:=fun i=>(((bs.take i).map (·.1)).toArray,(bs.take i).map fun p=>(Value.bytes p.1 p.2,none))) bs.length 0 (fun k Y hlt Q' hq=>?_) ?_
 ·rw [Nat.zero_add]at hlt
  refine wpAny_bind (wpAny_seqItems e rfl ?_)
  show wpAny _ _ (if(_||List.any _ _)=true then _ else _) _ _ s;refine wpAny_ite_false (decide_eq_false (by rw [Hd];decide)) ?_
  rw [Hc hlt,Fe];refine wpAny_bind (wpAny_holding (wpAny_pure (wpAny_bind (wpAny_seqItems e rfl ?_))));refine wpAny_ite_false (decide_eq_false (by simp)) (wpAny_pure ?_)
  rw [(yI hlt).1,(yI hlt).2]at hq;exact hq
 ·rw [Nat.zero_add,List.take_length]
  refine wpAny_bind (wpAny_of_eq (a:=(#[]:Array UInt8)) rfl (wpAny_ite_false (decide_eq_false (Co (by rw [List.map_map];exact hz) _)) ?_))
  show wpAny _ _ (mkBytes (Bytes.joined #[] (bs.map (·.1)))>>=_) _ _ _;rw [zR,List.map_map];refine wpAny_bind (wpAny_mkBytes ?_ (by rw [List.size_toArray,sizeLine_eq];exact Nat.le_trans hz (by decide)))
  exact wpAny_bind (wpAny_holding (wpAny_point (wpAny_bind (Ox (wpAny_pure ⟨_,rfl,h _ _⟩) _ _ fun p m=>Exists.elim (List.mem_map.mp m) fun q w=>w.2▸rfl))))
end
end TR
end
end MineB.Internal
namespace Mine.Internal
open PySem PySem.W PyProof.Rows PySem.SeqAt
noncomputable section
variable{C:Cx}{M:Addr→Prop}{a e:CE}{es:List CE}{f:AV→Value→Bool}{flat:Bool}{k n y:Nat}{l:List Nat}{o:Option NameKind}{r:Option (Option Value)}{v:Value}{x:Expr}{α:Type}{J:List Addr}
theorem Ao:ix C:=⟨fun A st E a t pl Q h=>lf (MineB.Internal.TR.method h),fun A st E t x bs n Q e h2 hz Y h=>lf (MineB.Internal.TR.Gh e h2 hz h)⟩
noncomputable def P5(a b:Bool):Bool:=match a with|true=>b|false=>!b
noncomputable def tP(l:List α):Bool:=match l with|[]=>true|_::_=>false
def QK(a b:IE):Bool:=both a b iy false
noncomputable def allR(f:α→α→Bool):List α→List α→Bool
 |[],m=>tP m
 |a::x,m=>match m with|[]=>false|b::y=>f a b&&allR f x y
def Lj:List IE→List IE→Bool:=allR QK
structure Ve where
 b:Bool
 i:IE
 s:List Nat
 y:List IE
 t:List AV
 d:List (List Nat×AV)
 r:Nat
noncomputable def w0:Ve:=⟨false,.c 0,[],[],[],[],0⟩
def wA:AV→Ve
 |.none=>w0
 |.bool b=>{w0 with b:=b}
 |.int i=>{w0 with i:=i}
 |.str s=>{w0 with s:=s}
 |.bytes y=>{w0 with y:=y}
 |.t t=>{w0 with t:=t}
 |.eD d=>{w0 with d:=d}
 |.ref r=>{w0 with r:=r}
 |.fn r=>{w0 with r:=r}
 |.cls r=>{w0 with r:=r}
 |.bi r=>{w0 with r:=r}
 |.vd _ _=>w0
 |.xM _ _=>w0
 |.mC r=>{w0 with r:=r}
noncomputable def k9(o:Option α)(g:α→Bool):Bool:=match o with|some a=>g a|none=>false
noncomputable def xS(m:Nat)(π:Nat→Nat):Nat→AV→AV→Bool
 |0,_,_=>false
 |n+1,a,b=>Nat.beq a.ctorIdx b.ctorIdx&&(match a with
  |.none=>true
  |.bool x=>P5 x (wA b).b
  |.int x=>QK x (wA b).i
  |.str x=>lEq x (wA b).s
  |.bytes x=>Lj x (wA b).y
  |.t x=>allR (xS m π n) x (wA b).t
  |.eD x=>tP x&&tP (wA b).d
  |.ref i=>Nat.blt i m&&Nat.beq (π i) (wA b).r
  |.fn i=>Nat.beq i (wA b).r
  |.cls i=>Nat.beq i (wA b).r
  |.bi i=>Nat.beq i (wA b).r
  |.vd _ _=>false
  |.xM _ _=>false
  |.mC _=>false)
def xS.FI(m:Nat)(π:Nat→Nat)(n:Nat):List AV→List AV→Bool:=allR (xS m π n)
structure SE where
 k:Nat
 d:Option Int
 as:List AV
 v:AV
def GX:Option Int→List IE→Bool
 |none,_=>true
 |some i,b=>match b.drop 5 with
  |x::_=>QK (.c i) x
  |[]=>false
noncomputable def om(m:Nat)(b:List IE)(k:Nat)(as:List AV):List SE→Option AV
 |[]=>none
 |e::r=>match Nat.beq e.k k&&(GX e.d b&&xS.FI m id 20 e.as as)with
  |true=>some e.v
  |false=>om m b k as r
def Nl(tab:List SE)(m:Nat)(k:Nat)(as:List AV)(s:AS):Option (aH (AV×AS)):=match Nat.beq k 136||(Nat.beq k 167||Nat.beq k 168)with
 |false=>none
 |true=>match s.hp.get m with
  |some (.cu b)=>match Nat.beq b.length 29 with
   |true=>match om (m+1) b k as tab with
    |some v=>some (.ok (v,s))
    |none=>none
   |false=>none
  |_=>none
structure LR where
 k:Nat
 bR:List Nat
 params:Arguments
 body:Expr
 scope:Scope
 t:List (Nat×NameKind)
structure Tk where
 vy:List (List Nat)
 F4:List (Str×Nat)
 pn:List LR
 rQ:List Str
abbrev kC:=List (Nat×NameKind)
variable{t:kC}
structure qM where
 t:kC
 lam:Bool
noncomputable def gY:kC→Nat→Option NameKind
 |[],_=>none
 |p::r,x=>match Nat.beq p.1 x with|true=>some p.2|false=>gY r x
noncomputable def kB:NameKind→Nat
 |.local=>0|.cell=>1|.free=>2|.globalImplicit=>3|.globalExplicit=>4
def iX(o:Option NameKind)(n:Nat):Bool:=match o with|some k=>Nat.beq (kB k) n|none=>false
noncomputable def jK(T:Tk)(s:Str)(x:Nat):Tk:={T with F4:=(s,x)::T.F4}
noncomputable def Be:List Nat→List (Str×NameKind)→Option kC
 |[],r=>match r with|[]=>some []|_::_=>none
 |x::l,r=>kc r fun p r=>fW (Be l r) fun t=>some ((x,p.2)::t)
noncomputable def KH:List Nat→List (Str×NameKind)→List (Str×Nat)→List (Str×Nat)
 |[],_,acc=>acc
 |x::l,r,acc=>match r with|p::r=>(p.1,x)::KH l r acc|[]=>acc
def mB(T:Tk)(names:List (Str×NameKind)):Option (kC×List Nat×Tk):=kc T.vy fun l r=>fW (Be l names) fun t=>some (t,l,{T with vy:=r})
def pushS(l:List Nat)(names:List (Str×NameKind))(T:Tk):Tk:={T with F4:=KH l names T.F4}
noncomputable def xG:List (Str×NameKind)→List (Str×NameKind)
 |[]=>[]
 |_::r=>r
def PG:List (Str×NameKind)→Bool
 |p::_=>Nat.beq (kB p.2) 0
 |[]=>false
def Iw(l:List Nat)(names:List (Str×NameKind))(T:Tk):Tk:={pushS l (xG names) T with rQ:=(match names with|p::_=>p.1|[]=>Str.empty)::T.rQ}
def qC(K:kC)(t:kC):kC:=t.map fun p=>match Nat.beq (kB p.2) 2&&iX (gY K p.1) 1 with|true=>(p.1,.cell)|false=>(p.1,p.2)
set_option genSizeOf false
set_option genInjectivity false
structure XV where
 s:Str
 c:Const
 a:Expr
 b:Expr
 d:Expr
 xs:List Expr
 kx:List (Option Expr)
 bo:BoolOp
 op:Operator
 uo:UnaryOp
 cs:List CmpOp
 l:Option Expr
 u:Option Expr
 t:Option Expr
 ar:Arguments
 sc:Scope
 kw:List Keyword
 gs:List Comprehension
 k:Nat
 p:Pos
noncomputable def x0:XV:=⟨default,default,default,default,default,[],[],default,default,default,[],none,none,none,default,default,[],[],0,default⟩
def vX:Expr→XV
 |.BoolOp o xs p=>{x0 with bo:=o,xs:=xs,p:=p}
 |.NamedExpr _ _ _=>x0
 |.BinOp a o b p=>{x0 with a:=a,op:=o,b:=b,p:=p}
 |.UnaryOp o a p=>{x0 with uo:=o,a:=a,p:=p}
 |.Lambda r a s p=>{x0 with ar:=r,a:=a,sc:=s,p:=p}
 |.IfExp a b d p=>{x0 with a:=a,b:=b,d:=d,p:=p}
 |.Dict k xs p=>{x0 with kx:=k,xs:=xs,p:=p}
 |.Set _ _ _=>x0
 |.ListComp a g s p=>{x0 with a:=a,gs:=g,sc:=s,p:=p}
 |.SetComp _ _ _ _=>x0
 |.DictComp _ _ _ _ _=>x0
 |.GeneratorExp _ _ _ _=>x0
 |.Await _ _=>x0
 |.Yield _ _=>x0
 |.YieldFrom _ _=>x0
 |.Compare a o xs p=>{x0 with a:=a,cs:=o,xs:=xs,p:=p}
 |.Call a xs k p=>{x0 with a:=a,xs:=xs,kw:=k,p:=p}
 |.FormattedValue _ _ _ _=>x0
 |.JoinedStr _ _=>x0
 |.Constant c k p=>{x0 with c:=c,k:=k,p:=p}
 |.Attribute a s p=>{x0 with a:=a,s:=s,p:=p}
 |.Subscript a b p=>{x0 with a:=a,b:=b,p:=p}
 |.Starred _ _=>x0
 |.Name s p=>{x0 with s:=s,p:=p}
 |.List xs p=>{x0 with xs:=xs,p:=p}
 |.Tuple xs k p=>{x0 with xs:=xs,k:=k,p:=p}
 |.Slice l u t p=>{x0 with l:=l,u:=u,t:=t,p:=p}
noncomputable def U9(x:Expr)(v:XV):List Prop:=[x=.BoolOp v.bo v.xs v.p,True,x=.BinOp v.a v.op v.b v.p,x=.UnaryOp v.uo v.a v.p,x=.Lambda v.ar v.a v.sc v.p,x=.IfExp v.a v.b v.d v.p,x=.Dict v.kx v.xs v.p,True,x=.ListComp v.a v.gs v.sc v.p,
 True,True,True,True,True,True,x=.Compare v.a v.cs v.xs v.p,x=.Call v.a v.xs v.kw v.p,True,True,x=.Constant v.c v.k v.p,x=.Attribute v.a v.s v.p,x=.Subscript v.a v.b v.p,True,x=.Name v.s v.p,x=.List v.xs v.p,x=.Tuple v.xs v.k v.p,x=.Slice v.l v.u v.t v.p]
theorem tg(x:Expr):zy (U9 x (vX x)) x.ctorIdx:=by cases x<;>first|exact rfl|exact trivial
noncomputable def cW(x:Expr)(k:Nat):Bool:=Nat.beq x.ctorIdx k
theorem dN(h:cW x k=true):zy (U9 x (vX x)) k:=aL h▸tg x
theorem n3{y:Expr}(h:(!cW x k)=true)(e:y.ctorIdx=k):x≠y:=fun q=>by
 subst e q;unfold cW at h;rw [Nat.beq_refl]at h;injection h
noncomputable def NZ(c:Const)(g:Bool→Bool):Bool:=match c with|.bool b=>g b|_=>false
noncomputable def KG(c:Const)(g:Int→Bool):Bool:=match c with|.int b=>g b|_=>false
noncomputable def KD(c:Const)(g:Str→Bool):Bool:=match c with|.str b=>g b|_=>false
noncomputable def NY(c:Const)(g:List UInt8→Bool):Bool:=match c with|.bytes b=>g b|_=>false
noncomputable def OH(c:Const):Bool:=match c with|.none=>true|_=>false
noncomputable def KC(e:IE)(g:Int→Bool):Bool:=match e with|.c i=>g i|_=>false
noncomputable def zB{β:Type}(l:List α)(o:Option β):Option β:=match l with|[]=>o|_::_=>none
noncomputable def JX(l:List α)(g:α→List α→Bool):Bool:=match l with|a::r=>g a r|[]=>false
noncomputable def isNil(l:List α):Bool:=match l with|[]=>true|_::_=>false
noncomputable def NX(o:Option α)(g:α→Bool):Bool:=match o with|some a=>g a|none=>false
noncomputable def t4(o:Option α):Bool:=match o with|none=>true|some _=>false
noncomputable def oO:List IE→List UInt8→Bool
 |[],b=>isNil b
 |e::l,b=>JX b fun u r=>KC e fun i=>(jM 0 i&&Nat.blt i.toNat 256)&&(Nat.beq i.toNat u.toNat&&oO l r)
noncomputable def QT(a b:Bool):Bool:=match a with|true=>b|false=>!b
def fC(v:AV)(c:Const):Bool:=match v with
 |.none=>OH c
 |.bool b=>NZ c (QT b)
 |.int e=>KG c fun j=>KC e fun i=>iy i j
 |.str l=>KD c fun s=>lEq l s.cps.toList
 |.bytes l=>NY c (oO l)
 |_=>false
noncomputable def fK:List (List Nat)→List (Option Expr)→Bool
 |[],xs=>isNil xs
 |k::ks,xs=>JX xs fun o xs=>NX o fun x=>cW x 19&&(KD (vX x).c (fun s=>lEq k s.cps.toList)&&fK ks xs)
noncomputable def S0(t:kC):List Nat→List Expr→Tk→Option Tk
 |[],xs,T=>zB xs (some T)
 |x::tg,xs,T=>kc xs fun e xs=>ck (cW e 23&&iX (gY t x) 0) (S0 t tg xs (jK T (vX e).s x))
def fT(t:kC)(tg:List Nat)(flat:Bool)(xt:Expr)(T:Tk):Option Tk:=match flat with
 |true=>kc tg fun x r=>ck (isNil r&&(cW xt 23&&iX (gY t x) 0)) (some (jK T (vX xt).s x))
 |false=>ck (cW xt 25) (S0 t tg (vX xt).xs T)
def nS(x:Expr):Bool:=!cW x 7
def xX(x:Expr):Bool:=!(cW x 16&&(cW (vX x).a 23&&isNil (vX x).xs))
def IF(x:Expr):Bool:=!cW x 20
def noStar(x:Expr):Bool:=!cW x 22
def RL(a:Op)(b:Operator):Bool:=decide (b=Iy a)
def QR(a:Cm)(b:CmpOp):Bool:=decide (b=mX a)
noncomputable def rC:List (List Nat)→Bool
 |[]=>true
 |a::r=>r.all (fun b=>!lEq a b)&&rC r
noncomputable def gX:List Nat→Bool
 |[]=>true
 |a::r=>!gz a r&&gX r
structure Sp where
 d1:Nat
 d2:Nat
 en:Nat
 zp:Nat
 attrs:List Nat
variable{S:Sp}
abbrev Ff:=CE→Expr→Tk→Option Tk
noncomputable def fL(f:Ff):List CE→List Expr→Tk→Option Tk
 |[],xs,T=>zB xs (some T)
 |e::es,xs,T=>kc xs fun x xs=>ck (noStar x) ((f e x T).bind fun T=>fL f es xs T)
def fO(f:Ff)(e:Option CE)(x:Option Expr)(T:Tk):Option Tk:=match e with
 |none=>ck (t4 x) (some T)
 |some e=>fW x fun x=>f e x T
noncomputable def sQ(f:Ff)(a:CE)(x:Expr)(T:Tk)(g:Tk→Option Tk):Option Tk:=(f a x T).bind g
def w3(K t:kC)(tg:List Nat)(xi:Expr)(sc:Scope):Bool:=
 (match sc.kind with|.function=>true|_=>false)&&(t.all (fun p=>!Nat.beq (kB p.2) 1)&&(t.all (fun p=>!Nat.beq (kB p.2) 0||iX (gY t p.1) 0)&&
 (t.all (fun p=>!Nat.beq (kB p.2) 2||(iX (gY K p.1) 1||iX (gY K p.1) 2))&&(t.all (fun p=>!Nat.beq (kB p.2) 0||gz p.1 tg)&&(nS xi&&(!sc.isCoroutine&&!sc.isGenerator))))))
def OB(K t:kC)(bR:List Nat)(params:Arguments):Bool:=
 (match params.defaults,params.kw_defaults with|[],[]=>true|_,_=>false)&&(t.all (fun p=>!Nat.beq (kB p.2) 2||(iX (gY K p.1) 1||iX (gY K p.1) 2))&&(bR.all (fun x=>t.any fun p=>Nat.beq p.1 x&&Nat.beq (kB p.2) 2)&&t.all (fun p=>!Nat.beq (kB p.2) 2||gz p.1 bR)))
def UP(S:Sp)(K:qM)(y:Nat)(x:Expr)(T:Tk):Option Tk:=ck (cW x 23&&((iX (gY K.t y) 0||(iX (gY K.t y) 1||iX (gY K.t y) 2))&&(!Nat.beq y S.d1&&!Nat.beq y S.d2))) (some (jK T (vX x).s y))
def Pc(S:Sp)(K:qM)(y:Nat)(x:Expr)(T:Tk):Option Tk:=ck (cW x 23&&(iX (gY K.t y) 3&&!Nat.beq y S.d1)) (some (jK T (vX x).s y))
def Pe(f:Ff)(op:Cm)(a b:CE)(x:Expr)(T:Tk):Option Tk:=ck (cW x 15) (kc (vX x).cs fun q cs=>kc (vX x).xs fun r rs=>ck (isNil cs&&(isNil rs&&(QR op q&&nS r))) (sQ f a (vX x).a T fun T=>f b r T))
def DG(f:Ff)(op:Cm)(a b:CE)(jS:Cm)(c:CE)(x:Expr)(T:Tk):Option Tk:=ck (cW x 15) (kc (vX x).cs fun q cs=>kc cs fun q' cs=>kc (vX x).xs fun r rs=>kc rs fun r' rs=>
 ck (isNil cs&&(isNil rs&&(QR op q&&(QR jS q'&&nS r')))) (sQ f a (vX x).a T fun T=>sQ f b r T fun T=>f c r' T))
def yA(f:Ff)(o:BoolOp)(es:List CE)(x:Expr)(T:Tk):Option Tk:=ck (cW x 0&&decide ((vX x).bo=o)) (fL f es (vX x).xs T)
def QP(f:Ff)(o:UnaryOp)(a:CE)(x:Expr)(T:Tk):Option Tk:=ck (cW x 3&&decide ((vX x).uo=o)) (f a (vX x).a T)
def O8(f:Ff)(o:CE)(lo hi:Option CE)(x:Expr)(T:Tk):Option Tk:=ck (cW x 21&&(cW (vX x).b 26&&t4 (vX (vX x).b).t)) (sQ f o (vX x).a T fun T=>(fO f lo (vX (vX x).b).l T).bind fun T=>fO f hi (vX (vX x).b).u T)
def O9(f:Ff)(o:CE)(x:Expr)(T:Tk):Option Tk:=ck (cW x 21&&(cW (vX x).b 26&&(t4 (vX (vX x).b).l&&t4 (vX (vX x).b).u))) (fW (vX (vX x).b).t fun y=>ck (cW y 3&&(decide ((vX y).uo=.USub)&&(cW (vX y).a 19&&KG (vX (vX y).a).c (iy 1)))) (f o (vX x).a T))
def Pb(K:qM)(k:Nat)(bR:List Nat)(x:Expr)(T:Tk):Option Tk:=ck (cW x 4) (fW (mB T (vX x).sc.names) fun p=>ck (K.lam&&OB K.t p.1 bR (vX x).ar) (some (pushS p.2.1 (vX x).sc.names {p.2.2 with pn:=⟨k,bR,(vX x).ar,(vX x).a,(vX x).sc,p.1⟩::p.2.2.pn})))
def Jb(f:Ff)(g:CE)(es:List CE)(x:Expr)(T:Tk):Option Tk:=ck (cW x 16&&(isNil (vX x).kw&&IF (vX x).a)) (sQ f g (vX x).a T fun T=>fL f es (vX x).xs T)
def I8(S:Sp)(f:Ff)(o:CE)(y:Nat)(es:List CE)(x:Expr)(T:Tk):Option Tk:=ck (cW x 16&&(isNil (vX x).kw&&(cW (vX x).a 20&&(gz y S.attrs&&(xX (vX (vX x).a).a&&(Nat.blt (vX x).xs.length 30&&Nat.beq (vX (vX x).a).p.endLine (vX x).p.line))))))
 (sQ f o (vX (vX x).a).a (jK T (vX (vX x).a).s y) fun T=>fL f es (vX x).xs T)
def Ja(f f':Ff)(K:qM)(elt:CE)(tg:List Nat)(flat:Bool)(it:CE)(ifs:List CE)(x:Expr)(g:Comprehension)(p:kC×List Nat×Tk):Option Tk:=ck (PG (vX x).sc.names&&(iy 0 g.is_async&&w3 K.t p.1 tg g.iter (vX x).sc))
 ((fT p.1 tg flat g.target p.2.2).bind fun T=>sQ f it g.iter T fun T=>sQ f' elt (vX x).a T fun T=>(fL f' ifs g.ifs T).bind fun T=>some (Iw p.2.1 (vX x).sc.names T))
noncomputable def fE(S:Sp):Nat→qM→CE→Expr→Tk→Option Tk
 |0,_,_,_,_=>none
 |n+1,K,e,x,T=>match e with
  |.n y=>UP S K y x T
  |.val v=>ck (cW x 19&&fC v (vX x).c) (some T)
  |.t es=>ck (cW x 25) (fL (fE S n K) es (vX x).xs T)
  |.list es=>ck (cW x 24) (fL (fE S n K) es (vX x).xs T)
  |.eD ks es=>ck (cW x 6&&(fK ks (vX x).kx&&(Nat.beq ks.length es.length&&(rC ks&&Nat.ble ks.length 15)))) (fL (fE S n K) es (vX x).xs T)
  |.bin op a b=>ck (cW x 2&&RL op (vX x).op) (sQ (fE S n K) a (vX x).a T fun T=>fE S n K b (vX x).b T)
  |.cmp op a b=>Pe (fE S n K) op a b x T
  |.chain op a b jS c=>DG (fE S n K) op a b jS c x T
  |.and es=>yA (fE S n K) .And es x T
  |.or es=>yA (fE S n K) .Or es x T
  |.not a=>QP (fE S n K) .Not a x T
  |.neg a=>QP (fE S n K) .USub a x T
  |.ite t a b=>ck (cW x 5) (sQ (fE S n K) t (vX x).a T fun T=>sQ (fE S n K) a (vX x).b T fun T=>fE S n K b (vX x).d T)
  |.attr o y=>ck (cW x 20&&(gz y S.attrs&&xX (vX x).a)) (fE S n K o (vX x).a (jK T (vX x).s y))
  |.idx o i=>ck (cW x 21) (sQ (fE S n K) o (vX x).a T fun T=>fE S n K i (vX x).b T)
  |.iB o lo hi=>O8 (fE S n K) o lo hi x T
  |.rev o=>O9 (fE S n K) o x T
  |.call f es=>Jb (fE S n K) f es x T
  |.bG o y es=>I8 S (fE S n K) o y es x T
  |.comp elt tg flat it ifs=>ck (cW x 8) (kc (vX x).gs fun g gs=>ck (isNil gs) (fW (mB T (xG (vX x).sc.names)) fun p=>Ja (fE S n K) (fE S n ⟨qC K.t p.1,K.lam⟩) K elt tg flat it ifs x g p))
  |.gH ..=>none
  |.lam k bR=>Pb K k bR x T
  |.eW y=>Pc S K y x T
  |.bad _=>ck (nS x) (some T)
def TO(C:Cx)(r:LR):Prop:=C.bR r.k=r.bR∧∀pm cdv ctv qual clos,C.lam r.k {name:="<lambda>",qualname:=qual,params:=r.params,body:=.expr r.body,scope:=r.scope,globals:=mainGlobals,closure:=clos,defaults:=.none,kwdefaults:=.none,doc:=.none,pyModule:=pm,annotations:=none,code:=cdv,closureTuple:=ctv,builtins:=builtinsNs}
def aQ(C:Cx)(T:Tk):Prop:=(∀p∈T.F4,p.1=C.nm p.2)∧(∀r∈T.pn,TO C r)∧∀s∈T.rQ,s=".0"
structure KR(C:Cx)(kd:Kd)(K:qM):Prop where
 k:∀x,kd.k (C.nm x)=gY K.t x
 lam:K.lam=true→∃c P,kd.code=some c∧(c,P)∈C.tabs∧∀pos,C.tV P pos=kd.qual++"<lambda>"
structure eT(C:Cx)(S:Sp):Prop where
 d1:C.nm S.d1="__debug__"
 d2:C.nm S.d2="__classdict__"
 en:C.nm S.en="enumerate"
 zp:C.nm S.zp="zip"
 attrs:∀n,gz n S.attrs=true→n∈C.attrs
 inj:∀x y,C.nm x=C.nm y→x=y
 IB:∀x,C.nm x≠".0"
theorem jo{β:Type}{l:List α}{o:Option β}{y:β}(h:zB l o=some y):l=[]∧o=some y:=by
 cases l with
 |nil=>exact⟨rfl,h⟩
 |cons a r=>injection h
theorem sJ{l:List α}{g:α→List α→Bool}(h:JX l g=true):∃a r,l=a::r∧g a r=true:=by
 cases l with
 |nil=>injection h
 |cons a r=>exact⟨a,r,rfl,h⟩
theorem bH{l:List α}(h:isNil l=true):l=[]:=by
 cases l with
 |nil=>rfl
 |cons a r=>injection h
theorem Cc{o:Option α}{g:α→Bool}(h:NX o g=true):∃a,o=some a∧g a=true:=by
 cases o with
 |none=>injection h
 |some a=>exact⟨a,rfl,h⟩
theorem iG{o:Option α}(h:t4 o=true):o=none:=by
 cases o with
 |none=>rfl
 |some a=>injection h
theorem Ci{c:Const}{g:Bool→Bool}(h:NZ c g=true):∃b,c=.bool b∧g b=true:=by
 cases c<;>first|exact⟨_,rfl,h⟩|injection h
theorem tD{c:Const}{g:Int→Bool}(h:KG c g=true):∃b,c=.int b∧g b=true:=by
 cases c<;>first|exact⟨_,rfl,h⟩|injection h
theorem tC{c:Const}{g:Str→Bool}(h:KD c g=true):∃b,c=.str b∧g b=true:=by
 cases c<;>first|exact⟨_,rfl,h⟩|injection h
theorem Cg{c:Const}{g:List UInt8→Bool}(h:NY c g=true):∃b,c=.bytes b∧g b=true:=by
 cases c<;>first|exact⟨_,rfl,h⟩|injection h
theorem Gn{c:Const}(h:OH c=true):c=.none:=by
 cases c<;>first|exact rfl|injection h
theorem tB{e:IE}{g:Int→Bool}(h:KC e g=true):∃i,e=.c i∧g i=true:=by
 cases e<;>first|exact⟨_,rfl,h⟩|injection h
theorem dg(P:α→Prop){x y:α}(q:x=y)(h:P y):P x:=q▸h
section
theorem Ia(h:cW x 0=true):x=.BoolOp (vX x).bo (vX x).xs (vX x).p:=dN h
theorem Q4(h:cW x 2=true):x=.BinOp (vX x).a (vX x).op (vX x).b (vX x).p:=dN h
theorem Q1(h:cW x 3=true):x=.UnaryOp (vX x).uo (vX x).a (vX x).p:=dN h
theorem Q3(h:cW x 4=true):x=.Lambda (vX x).ar (vX x).a (vX x).sc (vX x).p:=dN h
theorem Vk(h:cW x 5=true):x=.IfExp (vX x).a (vX x).b (vX x).d (vX x).p:=dN h
theorem M1(h:cW x 6=true):x=.Dict (vX x).kx (vX x).xs (vX x).p:=dN h
theorem Uc(h:cW x 8=true):x=.ListComp (vX x).a (vX x).gs (vX x).sc (vX x).p:=dN h
theorem M3(h:cW x 15=true):x=.Compare (vX x).a (vX x).cs (vX x).xs (vX x).p:=dN h
theorem Bk(h:cW x 16=true):x=.Call (vX x).a (vX x).xs (vX x).kw (vX x).p:=dN h
theorem vp(h:cW x 19=true):x=.Constant (vX x).c (vX x).k (vX x).p:=dN h
theorem Bl(h:cW x 20=true):x=.Attribute (vX x).a (vX x).s (vX x).p:=dN h
theorem zb(h:cW x 21=true):x=.Subscript (vX x).a (vX x).b (vX x).p:=dN h
theorem kL(h:cW x 23=true):x=.Name (vX x).s (vX x).p:=dN h
theorem MZ(h:cW x 24=true):x=.List (vX x).xs (vX x).p:=dN h
theorem za(h:cW x 25=true):x=.Tuple (vX x).xs (vX x).k (vX x).p:=dN h
theorem Q2(h:cW x 26=true):x=.Slice (vX x).l (vX x).u (vX x).t (vX x).p:=dN h
end
theorem aY{β:Type}{r:Option α}{g:α→Option β}{y:β}(h:r.bind g=some y):∃a,r=some a∧g a=some y:=by
 cases r with
 |none=>injection h
 |some a=>exact⟨a,rfl,h⟩
noncomputable def kU:Nat→NameKind
 |0=>.local|1=>.cell|2=>.free|3=>.globalImplicit|_=>.globalExplicit
theorem IQ(a:NameKind):kU (kB a)=a:=by cases a<;>rfl
theorem lV{a b:NameKind}(h:kB a=kB b):a=b:=by rw [←IQ a,h,IQ]
theorem tX(h:iX o 0=true):o=some .local:=by
 unfold iX at h;split at h
 ·exact congrArg some (lV (aL h))
 ·injection h
theorem CX(h:iX o 1=true):o=some .cell:=by
 unfold iX at h;split at h
 ·exact congrArg some (lV (aL h))
 ·injection h
theorem Gg(h:iX o 2=true):o=some .free:=by
 unfold iX at h;split at h
 ·exact congrArg some (lV (aL h))
 ·injection h
theorem K8(h:iX o 3=true):o=some .globalImplicit:=by
 unfold iX at h;split at h
 ·exact congrArg some (lV (aL h))
 ·injection h
theorem CY{a b:NameKind}(hb:kB b=n)(h:(!Nat.beq (kB a) n)=true):a≠b:=fun e=>by
 subst e;rw [hb,Nat.beq_refl]at h;injection h
theorem jr:∀{l:List Nat}{x:Nat},gz x l=true→x∈l
 |[],_,h=>by injection h
 |b::y,x,h=>by
  unfold gz at h;cases q:Nat.beq b x with
  |true=>rw [aL q];exact bW
  |false=>rw [q]at h;exact cq _ (jr h)
theorem nY:∀{l:List Nat}{x:Nat},gz x l=false→x∉l
 |[],_,_=>by simp
 |b::y,x,h=>by
  unfold gz at h;cases q:Nat.beq b x with
  |true=>rw [q]at h;injection h
  |false=>
   rw [q]at h;have:=nY h
   intro m;rcases cO m with e|m
   ·subst e;rw [Nat.beq_refl]at q;injection q
   ·exact this m
theorem jL:∀{l:List Nat},gX l=true→l.Nodup
 |[],_=>.nil
 |a::r,h=>by
  have⟨h1,h2⟩:=ae h
  exact List.nodup_cons.mpr ⟨nY (dy h1),jL h2⟩
theorem qd:∀{l:List (List Nat)},rC l=true→(l.map aR).Nodup
 |[],_=>.nil
 |a::r,h=>by
  have⟨h1,h2⟩:=ae h
  refine List.nodup_cons.mpr ⟨fun m=>?_,qd h2⟩
  refine aC (List.mem_map.mp m:) fun b hb e=>?_
  have:=nG.mp e
  subst this;have:=bS h1 b hb
  rw [jt]at this;injection this
theorem ke{s:Str}(h:lEq l s.cps.toList=true):s=aR l:=by
 rw [kr h];exact(ic s).symm
noncomputable def jB:Str×NameKind:=(".0",.local)
section
variable{kd:Kd}{K:qM}{T T' uV:Tk}
theorem aQ.jK{s:Str}{x:Nat}(G:aQ C (jK T s x)):aQ C T∧s=C.nm x:=⟨⟨fun p m=>G.1 p (cq _ m),G.2⟩,G.1 (s,x) bW⟩
theorem nu:∀{l:List Nat}{names:List (Str×NameKind)}{t:kC}{acc:List (Str×Nat)},Be l names=some t→(∀p∈KH l names acc,p.1=C.nm p.2)→(∀p∈acc,p.1=C.nm p.2)∧names=t.map (fun p=>(C.nm p.1,p.2))
 |[],[],t,acc,h,G=>by injection h with h;subst h;exact⟨G,rfl⟩
 |x::l,p::r,t,acc,h,G=>by
  refine aC (aM h:) fun t' q h=>?_
  ·injection h with h;subst h
   refine aw (nu q fun p m=>G p (cq _ m):) fun g1 g2=>?_
   refine⟨g1,?_⟩
   have:=G (p.1,x) bW
   rw [List.map_cons,←g2,←this]
 |[],_::_,_,_,h,_=>by injection h
 |_::_,[],_,_,h,_=>by injection h
theorem ti{names:List (Str×NameKind)}(h:mB T names=some (t,l,uV)):Be l names=some t∧uV.F4=T.F4∧uV.pn=T.pn∧uV.rQ=T.rQ:=by
 refine eJ (bD h:) fun l r e h=>?_
 refine aC (aM h:) fun t q h=>?_
 injection h with h;injection h with h aN;subst h;injection aN with aN nk;subst aN nk;exact⟨q,rfl,rfl,rfl⟩
theorem jI{names:List (Str×NameKind)}(h:mB T names=some (t,l,uV))(G:aQ C uV):aQ C T:=by
 refine lJ (ti h:) fun Y a b c=>?_
 exact⟨a▸G.1,b▸G.2.1,c▸G.2.2⟩
theorem mQ{names:List (Str×NameKind)}(h:mB T names=some (t,l,uV))(G:aQ C (pushS l names T')):aQ C T'∧names=t.map (fun p=>(C.nm p.1,p.2)):=by
 refine dJ (ti h:) fun q Y Y=>?_
 refine aw (nu (C:=C) q G.1:) fun g1 g2=>?_
 exact⟨⟨g1,G.2⟩,g2⟩
theorem xU{names:List (Str×NameKind)}(h:mB T (xG names)=some (t,l,uV))(hd:PG names=true)(G:aQ C (Iw l names T')):aQ C T'∧names=jB::t.map (fun p=>(C.nm p.1,p.2)):=by
 cases names with
 |nil=>injection hd
 |cons p r=>
  have hs:p.1=".0":=G.2.2 _ bW
  refine aw (mQ (T':=T') h ⟨G.1,G.2.1,fun s m=>G.2.2 s (cq _ m)⟩:) fun g e=>?_
  refine⟨g,?_⟩
  have e:r=_:=e
  rw [←e];have hk:p.2=.local:=lV (aL hd)
  show p::r=jB::r;rw [show p=jB from Prod.ext hs hk]
theorem eC(inj:∀x y,C.nm x=C.nm y→x=y)(x:Nat):∀t:kC,(t.map (fun p=>(C.nm p.1,p.2))).lookup (C.nm x)=gY t x
 |[]=>rfl
 |p::r=>by
  rw [List.map_cons,List.lookup_cons];unfold gY;cases q:Nat.beq p.1 x with
  |true=>rw [aL q];simp
  |false=>
   have:(C.nm x==C.nm p.1)=false:=by
    cases z:(C.nm x==C.nm p.1)with
    |false=>rfl
    |true=>rw [inj _ _ (beq_iff_eq.mp z),Nat.beq_refl]at q;injection q
   rw [this];exact eC inj x r
theorem iE(SO:eT C S)(x:Nat)(t:kC):(jB::t.map (fun p=>(C.nm p.1,p.2))).lookup (C.nm x)=gY t x:=by
 rw [List.lookup_cons];have:(C.nm x==jB.1)=false:=by
  cases z:(C.nm x==jB.1)with
  |false=>rfl
  |true=>exact(SO.IB x (beq_iff_eq.mp z)).elim
 rw [this];exact eC SO.inj x t
theorem mZ{names:List (Str×NameKind)}(e:names=jB::t.map (fun p=>(C.nm p.1,p.2))){y:Str×NameKind}(m:y∈names):y=jB∨∃p∈t,y=(C.nm p.1,p.2):=by
 rw [e]at m;rcases cO m with q|m
 ·exact .inl q
 ·refine aC (List.mem_map.mp m:) fun p hp q=>?_
  exact .inr ⟨p,hp,q.symm⟩
theorem kJ{names:List (Str×NameKind)}(e:names=t.map (fun p=>(C.nm p.1,p.2))){y:Str×NameKind}(m:y∈names):∃p∈t,y=(C.nm p.1,p.2):=by
 rw [e]at m;refine aC (List.mem_map.mp m:) fun p hp q=>?_
 exact⟨p,hp,q.symm⟩
theorem L1{a b:Bool}(h:QT a b=true):a=b:=by cases a<;>cases b<;>first|rfl|injection h
theorem Hb:∀(l:List IE)(b:List UInt8),oO l b=true→(∀e∈l,∃i:Nat,i<256∧e=.c (i:Int))∧l.map (cz fun Y=>0)=b:=by
 intro l
 induction l with
 |nil=>
  intro b h;rw [bH h];exact⟨(fun Y m=>nomatch m),rfl⟩
 |cons e l ih=>
  intro b h;obtain⟨u,r,rfl,h⟩:=sJ h
  obtain⟨i,rfl,h⟩:=tB h
  refine aw (ae h:) fun h h3=>?_
  refine aw (ae h:) fun h1 h4=>?_
  refine aw (ae h3:) fun h2 h3=>?_
  have h2:=aL h2
  refine aw (ih _ h3:) fun k1 k2=>?_
  have hi:i=(i.toNat:Int):=(Int.toNat_of_nonneg ((PySem.W.Z.leB_iff ..).mp h1)).symm
  refine⟨fun e m=>?_,?_⟩
  ·rcases cO m with rfl|m
   ·exact⟨i.toNat,bF h4,congrArg IE.c hi⟩
   ·exact k1 e m
  ·rw [List.map_cons,k2]
   congr 1
   show UInt8.ofNat i.toNat=u;rw [h2];simp
theorem Jc{v:AV}{c:Const}(h:fC v c=true):sg v c:=by
 cases v with
 |none=>rw [Gn h];exact .none
 |bool b=>obtain⟨c',rfl,h⟩:=Ci h;rw [L1 h];exact .bool _
 |int e=>
  obtain⟨j,rfl,h⟩:=tD h
  obtain⟨i,rfl,h⟩:=tB h
  rw [(PySem.W.Z.eqB_iff ..).mp h];exact .int _
 |str l=>obtain⟨s,rfl,h⟩:=tC h;rw [ke h];exact .str _
 |bytes l=>
  obtain⟨b,rfl,h⟩:=Cg h
  refine aw (Hb _ _ h:) fun a b=>?_
  exact .bytes _ _ a b
 |_=>injection h
theorem I9:∀{ks:List (List Nat)}{xs:List (Option Expr)},fK ks xs=true→i9 ks xs
 |[],xs,h=>bH h▸.nil
 |k::ks,xs,h=>by
  obtain⟨o,r,rfl,h⟩:=sJ h
  obtain⟨x,rfl,h⟩:=Cc h
  refine aw (ae h:) fun h0 h=>?_
  refine aw (ae h:) fun h1 h=>?_
  refine aC (tC h1:) fun s e h1=>?_
  exact dg (fun x=>i9 (k::ks) (some x::r)) ((vp h0).trans (congrArg (fun c=>Expr.Constant c _ _) (e.trans (congrArg Const.str (ke h1))))) (.cons (I9 h))
theorem LD{k:Str→Option NameKind}(hk:∀x,k (C.nm x)=gY t x):∀{tg:List Nat}{xs:List Expr}{T T':Tk},S0 t tg xs T=some T'→aQ C T'→aQ C T∧Jt C k tg xs:=by
 intro tg
 induction tg with
 |nil=>
  intro xs T T' h G;obtain⟨rfl,h⟩:=jo h
  injection h with h;subst h;exact⟨G,.nil⟩
 |cons x tg ih=>
  intro xs T T' h G;obtain⟨e,r,rfl,h⟩:=bD h
  refine aw (aB h:) fun h1 h2=>?_
  refine aw (ae h1:) fun h0 h1=>?_
  refine aw (ih h2 G:) fun g f=>?_
  refine aw (g.jK:) fun g q=>?_
  exact⟨g,dg (fun e=>Jt C k (x::tg) (e::r)) (kL h0) (.cons q (by rw [q,hk];exact tX h1) f)⟩
theorem O7{k:Str→Option NameKind}(hk:∀x,k (C.nm x)=gY t x){tg:List Nat}{xt:Expr}(h:fT t tg flat xt T=some T')(G:aQ C T'):aQ C T∧u6 C k tg flat xt:=by
 cases flat with
 |true=>
  obtain⟨e,r,rfl,h⟩:=bD h
  refine aw (aB h:) fun h1 h=>?_
  refine aw (ae h1:) fun h2 h1=>?_
  refine aw (ae h1:) fun h0 h1=>?_
  injection h with h;subst h;refine aw (G.jK:) fun g q=>?_
  rw [bH h2];exact⟨g,dg (u6 C k [e] true) (kL h0) (.one q (by rw [q,hk];exact tX h1))⟩
 |false=>
  refine aw (aB h:) fun h0 h=>?_
  refine aw (LD hk h G:) fun g f=>?_
  exact⟨g,dg (u6 C k tg false) (za h0) (.many f)⟩
def Hf(C:Cx)(kd:Kd)(f:Ff):Prop:=∀e x T T',f e x T=some T'→aQ C T'→aQ C T∧aW C kd e x
theorem ml{f:Ff}(H:Hf C kd f):∀{es:List CE}{xs:List Expr}{T T':Tk},fL f es xs T=some T'→aQ C T'→aQ C T∧cY C kd es xs:=by
 intro es
 induction es with
 |nil=>
  intro xs T T' h G;obtain⟨rfl,h⟩:=jo h
  injection h with h;subst h;exact⟨G,.nil⟩
 |cons e es ih=>
  intro xs T T' h G;obtain⟨x,r,rfl,h⟩:=bD h
  refine aw (aB h:) fun h1 h2=>?_
  refine aC (aY h2:) fun T1 h2 h3=>?_
  refine aw (ih h3 G:) fun g f2=>?_
  refine aw (H _ _ _ _ h2 g:) fun g f1=>?_
  exact⟨g,.cons f1 (fun y p=>n3 h1 rfl) f2⟩
theorem I7{f:Ff}(H:Hf C kd f){e:Option CE}{x:Option Expr}(h:fO f e x T=some T')(G:aQ C T'):aQ C T∧yT C kd e x:=by
 cases e with
 |none=>
  refine aw (aB h:) fun h1 h=>?_
  injection h with h;subst h;exact⟨G,iG h1▸.none⟩
 |some e=>
  obtain⟨y,rfl,h⟩:=aM h
  refine aw (H _ _ _ _ h G:) fun g f1=>?_
  exact⟨g,.some f1⟩
theorem Kz{a:Op}{b:Operator}(h:RL a b=true):b=Iy a:=of_decide_eq_true h
theorem w4{a:Cm}{b:CmpOp}(h:QR a b=true):b=mX a:=of_decide_eq_true h
theorem Cs(h:nS x=true):∀xs k p,x≠.Set xs k p:=fun Y Y Y=>n3 h rfl
theorem tJ{op:CmpOp}:nS x=true→behindInMarks op x=false:=by
 cases x<;>first|exact fun Y=>rfl|exact fun h=>nomatch h
theorem tI(h:xX x=true):∀id p q,x≠.Call (.Name id p) [] [] q:=by
 intro id p q e;rw [e]at h;injection h
theorem Ct(h:IF x=true):∀o n p,x≠.Attribute o n p:=fun Y Y Y=>n3 h rfl
theorem kl(SO:eT C S){d:Nat}{s:Str}(hd:C.nm d=s)(h:(!Nat.beq y d)=true):(C.nm y==s)=false:=by
 cases q:(C.nm y==s)with
 |false=>rfl
 |true=>
  have:=beq_iff_eq.mp q
  rw [←hd]at this;rw [SO.inj _ _ this,Nat.beq_refl]at h;injection h
theorem DY(SO:eT C S)(R:KR C kd K){sc:Scope}(e:sc.names=jB::t.map (fun p=>(C.nm p.1,p.2))):KR C (cC kd sc) ⟨qC K.t t,K.lam⟩:=by
 refine⟨fun x=>?_,R.lam⟩
 show((sc.names.map fun(p:Str×NameKind)=>if(p.2==NameKind.free&&kd.k p.1==some NameKind.cell)then(p.1,NameKind.cell)else(p.1,p.2)).lookup (C.nm x))=gY (qC K.t t) x
 rw [←iE SO x,e,List.map_cons];unfold qC;rw [List.map_map,List.map_map];have h0:(if(jB.2==NameKind.free&&kd.k jB.1==some NameKind.cell)=true then(jB.1,NameKind.cell)else(jB.1,jB.2))=jB:=by
  rw [show(jB.2==NameKind.free)=false from rfl];simp
 simp only[h0]
 congr 2
 refine List.map_congr_left fun p Y=>?_
 simp only[Function.comp]
 rw [R.k];have h1:(p.2==NameKind.free)=Nat.beq (kB p.2) 2:=by cases p.2<;>rfl
 have h2:(gY K.t p.1==some NameKind.cell)=iX (gY K.t p.1) 1:=by
  cases gY K.t p.1 with
  |none=>rfl
  |some k=>cases k<;>rfl
 rw [h1,h2];cases (Nat.beq (kB p.2) 2&&iX (gY K.t p.1) 1)<;>rfl
end
section
theorem rJ{a b:Bool}(h:(!a||b)=true)(ha:a=true):b=true:=by subst ha;exact h
theorem wZ{kd:Kd}{K:qM}(SO:eT C S)(R:KR C kd K){tg:List Nat}{xi:Expr}{sc:Scope}(e:sc.names=jB::t.map (fun p=>(C.nm p.1,p.2)))(h:w3 K.t t tg xi sc=true):
  sc.kind=.function∧(∀y∈sc.names,y.2≠.cell)∧(∀y∈sc.names,y.2=.local→sc.names.lookup y.1=some .local)∧(∀y∈sc.names,y.2=.free→kd.k y.1=some .cell∨kd.k y.1=some .free)∧(∀x,sc.names.lookup (C.nm x)=some .local→x∈tg)∧(∀x k p,xi≠.Set x k p)∧sc.isCoroutine=false∧sc.isGenerator=false:=by
 unfold w3 at h;refine aw (ae h:) fun h1 h=>?_
 refine aw (ae h:) fun h2 h=>?_
 refine aw (ae h:) fun h3 h=>?_
 refine aw (ae h:) fun h4 h=>?_
 refine aw (ae h:) fun h5 h=>?_
 refine aw (ae h:) fun h6 h=>?_
 refine aw (ae h:) fun h7 h8=>?_
 refine⟨?_,fun y m=>?_,fun y m q=>?_,fun y m q=>?_,fun x q=>?_,?_,dy h7,dy h8⟩
 ·revert h1;cases sc.kind<;>first|exact fun Y=>rfl|exact fun h=>nomatch h
 ·rcases mZ e m with rfl|⟨p,hp,rfl⟩
  ·intro q;injection q
  ·exact CY rfl (bS h2 p hp)
 ·rcases mZ e m with rfl|⟨p,hp,rfl⟩
  ·rw [e];exact List.lookup_cons_self
  ·have q:p.2=.local:=q
   have:=bS h3 p hp
   rw [q]at this;rw [e,iE SO];exact tX this
 ·rcases mZ e m with rfl|⟨p,hp,rfl⟩
  ·injection q
  ·have q:p.2=.free:=q
   have:=bS h4 p hp
   rw [q]at this;show kd.k (C.nm p.1)=_∨kd.k (C.nm p.1)=_;rw [R.k];exact(fQ (rJ this rfl)).imp CX Gg
 ·rw [e,iE SO]at q
  have key:∀t:kC,t.all (fun p=>!Nat.beq (kB p.2) 0||gz p.1 tg)=true→gY t x=some .local→x∈tg:=by
   intro t
   induction t with
   |nil=>intro _ q;injection q
   |cons p r ih=>
    intro h q;rw [List.all_cons]at h;refine aw (ae h:) fun a b=>?_
    unfold gY at q;cases z:Nat.beq p.1 x with
    |true=>
     rw [z]at q;cases aL z;have q:p.2=.local:=bh q
     rw [q]at a;exact jr a
    |false=>rw [z]at q;exact ih b q
  exact key t h5 q
 ·intro x k p q;rw [q]at h6;injection h6
section
variable{kd:Kd}{K:qM}{f:Ff}{T T':Tk}
theorem nC(H:Hf C kd f){b:CE}{y:Expr}(h:sQ f a x T (fun T=>f b y T)=some T')(G:aQ C T'):aQ C T∧aW C kd a x∧aW C kd b y:=by
 refine aC (aY h:) fun T1 h1 h2=>?_
 refine aw (H _ _ _ _ h2 G:) fun g f2=>?_
 refine aw (H _ _ _ _ h1 g:) fun g f1=>?_
 exact⟨g,f1,f2⟩
theorem jf(H:Hf C kd f){b c:CE}{y z:Expr}(h:sQ f a x T (fun T=>sQ f b y T fun T=>f c z T)=some T')(G:aQ C T'):aQ C T∧aW C kd a x∧aW C kd b y∧aW C kd c z:=by
 refine aC (aY h:) fun T1 h1 h2=>?_
 refine aw (nC H h2 G:) fun g f2=>?_
 refine aw (H _ _ _ _ h1 g:) fun g f1=>?_
 exact⟨g,f1,f2⟩
theorem x9(H:Hf C kd f){xs:List Expr}(h:sQ f a x T (fun T=>fL f es xs T)=some T')(G:aQ C T'):aQ C T∧aW C kd a x∧cY C kd es xs:=by
 refine aC (aY h:) fun T1 h1 h2=>?_
 refine aw (ml H h2 G:) fun g f2=>?_
 refine aw (H _ _ _ _ h1 g:) fun g f1=>?_
 exact⟨g,f1,f2⟩
theorem N9(SO:eT C S)(R:KR C kd K)(h:UP S K y x T=some T')(G:aQ C T'):aQ C T∧aW C kd (.n y) x:=by
 refine aw (aB h:) fun h1 h=>?_
 refine aw (ae h1:) fun h0 h1=>?_
 refine aw (ae h1:) fun h1 h2=>?_
 refine aw (ae h2:) fun a b=>?_
 injection h with h;subst h;refine aw (G.jK:) fun g e=>?_
 refine⟨g,dg (aW C kd (.n y)) (kL h0) (.nm e ?_ (by rw [e];exact kl SO SO.d1 a) (by rw [e];exact kl SO SO.d2 b))⟩
 unfold gV;rw [e,R.k];exact(fQ h1).imp tX fun h=>(fQ h).imp CX Gg
theorem Lw(SO:eT C S)(R:KR C kd K)(h:Pc S K y x T=some T')(G:aQ C T'):aQ C T∧aW C kd (.eW y) x:=by
 refine aw (aB h:) fun h1 h=>?_
 refine aw (ae h1:) fun h0 h1=>?_
 refine aw (ae h1:) fun h1 h2=>?_
 injection h with h;subst h;refine aw (G.jK:) fun g e=>?_
 exact⟨g,dg (aW C kd (.eW y)) (kL h0) (.eW e (by rw [e,R.k];exact K8 h1) (by rw [e];exact kl SO SO.d1 h2))⟩
theorem JW{v:AV}(h:ck (cW x 19&&fC v (vX x).c) (some T)=some T')(G:aQ C T'):aQ C T∧aW C kd (.val v) x:=by
 refine aw (aB h:) fun h1 h=>?_
 refine aw (ae h1:) fun h0 h1=>?_
 injection h with h;subst h;exact⟨G,dg (aW C kd (.val v)) (vp h0) (.val (Jc h1))⟩
theorem J0(H:Hf C kd f)(h:ck (cW x 25) (fL f es (vX x).xs T)=some T')(G:aQ C T'):aQ C T∧aW C kd (.t es) x:=by
 refine aw (aB h:) fun h0 h=>?_
 refine aw (ml H h G:) fun g f=>?_
 exact⟨g,dg (aW C kd (.t es)) (za h0) (.t f)⟩
theorem Ga(H:Hf C kd f)(h:ck (cW x 24) (fL f es (vX x).xs T)=some T')(G:aQ C T'):aQ C T∧aW C kd (.list es) x:=by
 refine aw (aB h:) fun h0 h=>?_
 refine aw (ml H h G:) fun g f=>?_
 exact⟨g,dg (aW C kd (.list es)) (MZ h0) (.list f)⟩
theorem LS(H:Hf C kd f){ks:List (List Nat)}(h:ck (cW x 6&&(fK ks (vX x).kx&&(Nat.beq ks.length es.length&&(rC ks&&Nat.ble ks.length 15)))) (fL f es (vX x).xs T)=some T')(G:aQ C T'):aQ C T∧aW C kd (.eD ks es) x:=by
 refine aw (aB h:) fun h1 h=>?_
 refine aw (ae h1:) fun h0 h1=>?_
 refine aw (ae h1:) fun a h1=>?_
 refine aw (ae h1:) fun b h1=>?_
 refine aw (ae h1:) fun c d=>?_
 refine aw (ml H h G:) fun g f=>?_
 exact⟨g,dg (aW C kd (.eD ks es)) (M1 h0) (.eD (I9 a) f (aL b) (qd c) (bF d))⟩
theorem L2(H:Hf C kd f){op:Op}{b:CE}(h:ck (cW x 2&&RL op (vX x).op) (sQ f a (vX x).a T fun T=>f b (vX x).b T)=some T')(G:aQ C T'):aQ C T∧aW C kd (.bin op a b) x:=by
 refine aw (aB h:) fun h1 h=>?_
 refine aw (ae h1:) fun h0 h1=>?_
 refine dJ (nC H h G:) fun g f1 f2=>?_
 exact⟨g,dg (aW C kd (.bin op a b)) ((Q4 h0).trans (congrArg (fun o=>Expr.BinOp _ o _ _) (Kz h1))) (.bin f1 f2)⟩
theorem LV(H:Hf C kd f){op:Cm}{b:CE}(h:Pe f op a b x T=some T')(G:aQ C T'):aQ C T∧aW C kd (.cmp op a b) x:=by
 refine aw (aB h:) fun h0 h=>?_
 refine eJ (bD h:) fun q cs ec h=>?_
 refine eJ (bD h:) fun r rs er h=>?_
 refine aw (aB h:) fun h1 h=>?_
 refine aw (ae h1:) fun n1 h1=>?_
 refine aw (ae h1:) fun n2 h1=>?_
 refine aw (ae h1:) fun h1 h4=>?_
 refine dJ (nC H h G:) fun g f1 f2=>?_
 have e:=M3 h0
 rw [ec,er,bH n1,bH n2,w4 h1]at e;exact⟨g,dg (aW C kd (.cmp op a b)) e (.cmp f1 f2 (tJ h4))⟩
theorem D2(H:Hf C kd f){op jS:Cm}{b c:CE}(h:DG f op a b jS c x T=some T')(G:aQ C T'):aQ C T∧aW C kd (.chain op a b jS c) x:=by
 refine aw (aB h:) fun h0 h=>?_
 refine eJ (bD h:) fun q cs ec h=>?_
 refine eJ (bD h:) fun q' EP Xn h=>?_
 refine eJ (bD h:) fun r rs er h=>?_
 refine eJ (bD h:) fun r' XD Xm h=>?_
 refine aw (aB h:) fun h1 h=>?_
 refine aw (ae h1:) fun n1 h1=>?_
 refine aw (ae h1:) fun n2 h1=>?_
 refine aw (ae h1:) fun h1 h2=>?_
 refine aw (ae h2:) fun h2 h4=>?_
 refine lJ (jf H h G:) fun g f1 f2 f3=>?_
 have e:=M3 h0
 rw [ec,er,Xn,Xm,bH n1,bH n2,w4 h1,w4 h2]at e;exact⟨g,dg (aW C kd (.chain op a b jS c)) e (.chain f1 f2 f3 (tJ h4))⟩
theorem Hx(H:Hf C kd f)(h:yA f .And es x T=some T')(G:aQ C T'):aQ C T∧aW C kd (.and es) x:=by
 refine aw (aB h:) fun h1 h=>?_
 refine aw (ae h1:) fun h0 h1=>?_
 refine aw (ml H h G:) fun g f=>?_
 exact⟨g,dg (aW C kd (.and es)) ((Ia h0).trans (congrArg (fun o=>Expr.BoolOp o _ _) (of_decide_eq_true h1))) (.and f)⟩
theorem Ky(H:Hf C kd f)(h:yA f .Or es x T=some T')(G:aQ C T'):aQ C T∧aW C kd (.or es) x:=by
 refine aw (aB h:) fun h1 h=>?_
 refine aw (ae h1:) fun h0 h1=>?_
 refine aw (ml H h G:) fun g f=>?_
 exact⟨g,dg (aW C kd (.or es)) ((Ia h0).trans (congrArg (fun o=>Expr.BoolOp o _ _) (of_decide_eq_true h1))) (.or f)⟩
theorem F2(H:Hf C kd f)(h:QP f .Not a x T=some T')(G:aQ C T'):aQ C T∧aW C kd (.not a) x:=by
 refine aw (aB h:) fun h1 h=>?_
 refine aw (ae h1:) fun h0 h1=>?_
 refine aw (H _ _ _ _ h G:) fun g f=>?_
 exact⟨g,dg (aW C kd (.not a)) ((Q1 h0).trans (congrArg (fun o=>Expr.UnaryOp o _ _) (of_decide_eq_true h1))) (.not f)⟩
theorem F5(H:Hf C kd f)(h:QP f .USub a x T=some T')(G:aQ C T'):aQ C T∧aW C kd (.neg a) x:=by
 refine aw (aB h:) fun h1 h=>?_
 refine aw (ae h1:) fun h0 h1=>?_
 refine aw (H _ _ _ _ h G:) fun g f=>?_
 exact⟨g,dg (aW C kd (.neg a)) ((Q1 h0).trans (congrArg (fun o=>Expr.UnaryOp o _ _) (of_decide_eq_true h1))) (.neg f)⟩
theorem Gl(H:Hf C kd f){t b:CE}(h:ck (cW x 5) (sQ f t (vX x).a T fun T=>sQ f a (vX x).b T fun T=>f b (vX x).d T)=some T')(G:aQ C T'):aQ C T∧aW C kd (.ite t a b) x:=by
 refine aw (aB h:) fun h0 h=>?_
 refine lJ (jf H h G:) fun g f1 f2 f3=>?_
 exact⟨g,dg (aW C kd (.ite t a b)) (Vk h0) (.ite f1 f2 f3)⟩
theorem Ep(SO:eT C S)(H:Hf C kd f){o:CE}(h:ck (cW x 20&&(gz y S.attrs&&xX (vX x).a)) (f o (vX x).a (jK T (vX x).s y))=some T')(G:aQ C T'):aQ C T∧aW C kd (.attr o y) x:=by
 refine aw (aB h:) fun h1 h=>?_
 refine aw (ae h1:) fun h0 h1=>?_
 refine aw (ae h1:) fun h1 h2=>?_
 refine aw (H _ _ _ _ h G:) fun g f=>?_
 refine aw (g.jK:) fun g e=>?_
 exact⟨g,dg (aW C kd (.attr o y)) (Bl h0) (.attr e (SO.attrs _ h1) (tI h2) f)⟩
theorem Gv(H:Hf C kd f){o i:CE}(h:ck (cW x 21) (sQ f o (vX x).a T fun T=>f i (vX x).b T)=some T')(G:aQ C T'):aQ C T∧aW C kd (.idx o i) x:=by
 refine aw (aB h:) fun h0 h=>?_
 refine dJ (nC H h G:) fun g f1 f2=>?_
 exact⟨g,dg (aW C kd (.idx o i)) (zb h0) (.idx f1 f2)⟩
theorem Fs(H:Hf C kd f){o:CE}{lo hi:Option CE}(h:O8 f o lo hi x T=some T')(G:aQ C T'):aQ C T∧aW C kd (.iB o lo hi) x:=by
 refine aw (aB h:) fun h1 h=>?_
 refine aw (ae h1:) fun h0 h1=>?_
 refine aw (ae h1:) fun h1 h2=>?_
 refine aC (aY h:) fun T1 h3 h=>?_
 refine aC (aY h:) fun T2 h4 h5=>?_
 refine aw (I7 H h5 G:) fun g f3=>?_
 refine aw (I7 H h4 g:) fun g f2=>?_
 refine aw (H _ _ _ _ h3 g:) fun g f1=>?_
 exact⟨g,dg (aW C kd (.iB o lo hi)) ((zb h0).trans (congrArg (fun b=>Expr.Subscript _ b _) ((Q2 h1).trans (congrArg (fun t=>Expr.Slice _ _ t _) (iG h2))))) (.iB f1 f2 f3)⟩
theorem FC(H:Hf C kd f){o:CE}(h:O9 f o x T=some T')(G:aQ C T'):aQ C T∧aW C kd (.rev o) x:=by
 refine aw (aB h:) fun h1 h=>?_
 refine aw (ae h1:) fun h0 h1=>?_
 refine aw (ae h1:) fun h1 h2=>?_
 refine aw (ae h2:) fun h2 h3=>?_
 refine aC (aM h:) fun y ey h=>?_
 refine aw (aB h:) fun h4 h=>?_
 refine aw (ae h4:) fun h4 h5=>?_
 refine aw (ae h5:) fun h5 h6=>?_
 refine aw (ae h6:) fun h6 h7=>?_
 refine aC (tD h7:) fun i ei h7=>?_
 refine aw (H _ _ _ _ h G:) fun g f1=>?_
 have e1:=vp h6
 rw [ei,←(PySem.W.Z.eqB_iff ..).mp h7]at e1;have e2:=Q1 h4
 rw [of_decide_eq_true h5,e1]at e2;have e3:=Q2 h1
 rw [iG h2,iG h3,ey]at e3;exact⟨g,dg (aW C kd (.rev o)) ((zb h0).trans (congrArg (fun b=>Expr.Subscript _ b _) (e3.trans (congrArg (fun t=>Expr.Slice none none (some t) _) e2)))) (.rev f1)⟩
theorem D8(H:Hf C kd f){p:CE}(h:Jb f p es x T=some T')(G:aQ C T'):aQ C T∧aW C kd (.call p es) x:=by
 refine aw (aB h:) fun h1 h=>?_
 refine aw (ae h1:) fun h0 h1=>?_
 refine aw (ae h1:) fun h1 h2=>?_
 refine dJ (x9 H h G:) fun g f1 f2=>?_
 exact⟨g,dg (aW C kd (.call p es)) ((Bk h0).trans (congrArg (fun k=>Expr.Call _ _ k _) (bH h1))) (.call f1 (Ct h2) f2)⟩
theorem CC(SO:eT C S)(H:Hf C kd f){o:CE}(h:I8 S f o y es x T=some T')(G:aQ C T'):aQ C T∧aW C kd (.bG o y es) x:=by
 refine aw (aB h:) fun h1 h=>?_
 refine aw (ae h1:) fun h0 h1=>?_
 refine aw (ae h1:) fun h2 h1=>?_
 refine aw (ae h1:) fun h3 h1=>?_
 refine aw (ae h1:) fun h1 h4=>?_
 refine aw (ae h4:) fun h4 h5=>?_
 refine aw (ae h5:) fun h5 h6=>?_
 refine dJ (x9 H h G:) fun g f1 f2=>?_
 refine aw (g.jK:) fun g e=>?_
 have q:=Bk h0
 rw [bH h2]at q;exact⟨g,dg (aW C kd (.bG o y es)) (q.trans (congrArg (fun a=>Expr.Call a _ _ _) (Bl h3))) (.bG e (SO.attrs _ h1) (tI h4) f1 f2 (bF h5) (by rw [aL h6];exact beq_self_eq_true _))⟩
theorem DX(SO:eT C S)(R:KR C kd K)(H:Hf C kd f){f':kC→Ff}(H':∀t Sh,KR C Sh ⟨qC K.t t,K.lam⟩→Hf C Sh (f' t)){elt it:CE}{tg:List Nat}{ifs:List CE}{g:Comprehension}{p:kC×List Nat×Tk}
  (hp:mB T (xG (vX x).sc.names)=some p)(e:x=.ListComp (vX x).a [g] (vX x).sc (vX x).p)(h:Ja f (f' p.1) K elt tg flat it ifs x g p=some T')(G:aQ C T'):aQ C T∧aW C kd (.comp elt tg flat it ifs) x:=by
 obtain⟨t,l,T1⟩:=p
 obtain⟨gt,gi,gf,ga⟩:=g
 refine aw (aB h:) fun h1 h=>?_
 refine aw (ae h1:) fun h0 h1=>?_
 refine aw (ae h1:) fun ha h1=>?_
 refine aC (aY h:) fun T2 h2 h=>?_
 refine aC (aY h:) fun T3 h3 h=>?_
 refine aC (aY h:) fun T4 h4 h=>?_
 refine aC (aY h:) fun T5 h5 h=>?_
 injection h with h;subst h;refine aw (xU hp h0 G:) fun c ec=>?_
 refine Up (wZ SO R ec h1:) fun c1 c2 c3 c4 c5 c6 c7 c8=>?_
 have HC:=H' t _ (DY SO R ec)
 refine aw (ml HC h5 c:) fun c f4=>?_
 refine aw (HC _ _ _ _ h4 c:) fun c f3=>?_
 refine aw (H _ _ _ _ h3 c:) fun c f2=>?_
 refine aw (O7 (k:=fun n=>(vX x).sc.names.lookup n) (fun x=>by rw [ec];exact iE SO x t) h2 c:) fun c f1=>?_
 rw [←(show(0:Int)=ga from(PySem.W.Z.eqB_iff ..).mp ha)]at e
 exact⟨jI hp c,dg (aW C kd (.comp elt tg flat it ifs)) e (ak.PN ⟨_,_,_,_,_,_,rfl,⟨f1,f2,f3,f4,c1,c2,c3,c4,c5,c6,c7,c8⟩⟩)⟩
theorem Ge(R:KR C kd K){bR:List Nat}(h:Pb K k bR x T=some T')(G:aQ C T'):aQ C T∧aW C kd (.lam k bR) x:=by
 refine aw (aB h:) fun h0 h=>?_
 obtain⟨⟨t,l,T1⟩,hp,h⟩:=aM h
 refine aw (aB h:) fun h1 h=>?_
 refine aw (ae h1:) fun hl h1=>?_
 injection h with h;subst h;refine aw (mQ hp G:) fun g e=>?_
 have gl:=g.2.1 _ bW
 have g:=jI (C:=C) hp ⟨g.1,fun r m=>g.2.1 r (cq _ m),g.2.2⟩
 unfold OB at h1;refine aw (ae h1:) fun a1 h1=>?_
 refine aw (ae h1:) fun a2 h1=>?_
 refine aw (ae h1:) fun a3 a4=>?_
 refine⟨g,dg (aW C kd (.lam k bR)) (Q3 h0) (.lam ⟨R.lam hl,fun env=>?_,gl.1,fun y m q=>?_,fun x m=>?_,fun y m q=>?_,gl.2⟩)⟩
 ·revert a1
  generalize (vX x).ar=params
  intro a1;cases params with
  |mk p a v ko kd kw df=>
   cases df<;>cases kd<;>first|rfl|injection a1
 ·obtain⟨p,hp,rfl⟩:=kJ e m
  have q:p.2=.free:=q
  have:=bS a2 p hp
  rw [q]at this;show kd.k (C.nm p.1)=_∨kd.k (C.nm p.1)=_;rw [R.k];exact(fQ (rJ this rfl)).imp CX Gg
 ·have:=bS a3 x m
  refine aC (List.any_eq_true.mp this:) fun p hp q=>?_
  refine aw (ae q:) fun q1 q2=>?_
  rw [e];refine List.mem_map.mpr ⟨p,hp,?_⟩;rw [aL q1,show p.2=NameKind.free from lV (aL q2)]
 ·obtain⟨p,hp,rfl⟩:=kJ e m
  have q:p.2=.free:=q
  have:=bS a4 p hp
  rw [q]at this;exact⟨p.1,jr this,rfl⟩
theorem Ht(h:ck (nS x) (some T)=some T')(G:aQ C T'):aQ C T∧aW C kd (.bad n) x:=by
 refine aw (aB h:) fun h1 h=>?_
 injection h with h;subst h;exact⟨G,.bad (Cs h1)⟩
end
theorem mq(SO:eT C S):∀(n:Nat)(K:qM)(kd:Kd),KR C kd K→Hf C kd (fE S n K):=by
 intro n
 induction n with
 |zero=>intro K kd R e x T T' h;injection h
 |succ n ih=>
  intro K kd R e;have H:=ih K kd R
  cases e with
  |n y=>exact fun x T T'=>N9 SO R
  |val v=>exact fun x T T'=>JW
  |t es=>exact fun x T T'=>J0 H
  |list es=>exact fun x T T'=>Ga H
  |eD ks es=>exact fun x T T'=>LS H
  |bin op a b=>exact fun x T T'=>L2 H
  |cmp op a b=>exact fun x T T'=>LV H
  |chain op a b jS c=>exact fun x T T'=>D2 H
  |and es=>exact fun x T T'=>Hx H
  |or es=>exact fun x T T'=>Ky H
  |not a=>exact fun x T T'=>F2 H
  |neg a=>exact fun x T T'=>F5 H
  |ite t a b=>exact fun x T T'=>Gl H
  |attr o y=>exact fun x T T'=>Ep SO H
  |idx o i=>exact fun x T T'=>Gv H
  |iB o lo hi=>exact fun x T T'=>Fs H
  |rev o=>exact fun x T T'=>FC H
  |call f es=>exact fun x T T'=>D8 H
  |bG o y es=>exact fun x T T'=>CC SO H
  |comp elt tg flat it ifs=>
   intro x T T' h G;refine aw (aB h:) fun h0 h=>?_
   refine eJ (bD h:) fun g gs eg h=>?_
   refine aw (aB h:) fun h1 h=>?_
   refine aC (aM h:) fun p hp h=>?_
   exact DX SO R H (f':=fun t=>fE S n ⟨qC K.t t,K.lam⟩) (fun t Sh R'=>ih _ _ R') hp ((Uc h0).trans (congrArg (fun g=>Expr.ListComp _ g _ _) (eg.trans (congrArg (g::·) (bH h1))))) h G
  |gH=>exact fun x T T' h=>nomatch h
  |lam k bR=>exact fun x T T'=>Ge R
  |eW y=>exact fun x T T'=>Lw SO R
  |bad n=>exact fun x T T'=>Ht
end
set_option genSizeOf false
set_option genInjectivity false
def zk(t:kC)(cs:Bool)(x:Nat):Bool:=iX (gY t x) 0||(cs&&iX (gY t x) 1)
noncomputable def GL(t:kC)(cs:Bool):List Nat→List Expr→Tk→Option Tk
 |[],xs,T=>zB xs (some T)
 |x::tg,xs,T=>kc xs fun e xs=>ck (cW e 23&&zk t cs x) (GL t cs tg xs (jK T (vX e).s x))
def I6(t:kC)(cs:Bool)(tg:List Nat)(flat:Bool)(xt:Expr)(T:Tk):Option Tk:=match flat with
 |true=>kc tg fun x r=>ck (isNil r&&(cW xt 23&&zk t cs x)) (some (jK T (vX xt).s x))
 |false=>ck (cW xt 25) (GL t cs tg (vX xt).xs T)
def nT(x:Expr):Bool:=!cW x 8&&(!cW x 9&&!cW x 10)
def IC(x:Expr):Bool:=!cW x 25
noncomputable def kV(l:Nat):List Expr→Bool
 |[]=>true
 |x::r=>Nat.beq (vX x).p.line l&&kV l r
def we(ts:List Expr):Nat:=match ts with|x::_=>(vX x).p.line|[]=>0
def Rj(t:kC)(xs:List Nat)(ts:List Expr)(ex:Expr):Bool:=match cW ex 25 with
 |true=>(vX ex).xs.all (foldedForSure 8)||(!(Nat.beq xs.length 2||Nat.beq xs.length 3)||(xs.all (fun x=>iX (gY t x) 0)&&(kV (we ts) ts&&(!(vX ex).xs.all (constantsAlone 8)&&gX xs))))
 |false=>true
noncomputable def yt(T:Tk):List Nat:=match T.vy with|l::_=>l|[]=>[]
def Ea(x:Expr):Bool:=cW x 16&&(isNil (vX x).kw&&cW (vX x).a 23)
def GF(S:Sp)(n:Nat)(K:qM)(kind:Nat)(it:CE)(x:Expr)(T:Tk):Option Tk:=match kind with
 |0=>fE S n K it x T
 |1=>kc (vX x).xs fun y r=>ck (Ea x&&(isNil r&&(iX (gY K.t S.en) 3&&noStar y))) (fE S n K it y (jK T (vX (vX x).a).s S.en))
 |2=>kc (vX x).xs fun y r=>kc r fun z r=>ck (Ea x&&(isNil r&&(iX (gY K.t S.zp) 3&&Nat.beq it.ctorIdx 2))) (fE S n K it (.Tuple [y,z] 0 default) (jK T (vX (vX x).a).s S.zp))
 |_=>none
def Mk(S:Sp)(n:Nat)(K:qM)(y:Nat)(e:CE)(ex:Expr)(T:Tk):Option Tk:=match Nat.beq e.ctorIdx 19 with
 |true=>ck (!gz y (yt T)) (fE S n K e ex T)
 |false=>ck (nT ex) (fE S n K e ex T)
structure SV where
 a:Expr
 b:Expr
 ts:List Expr
 o:Option Expr
 ys:List Stmt
 zs:List Stmt
 ws:List Stmt
 hs:List ExceptHandler
 p:Pos
 nm:Str
 ar:Arguments
 sc:Scope
 ns:List Str
noncomputable def s0:SV:=⟨default,default,[],none,[],[],[],[],default,default,default,default,[]⟩
def vS:Stmt→SV
 |.FunctionDef n r ys _ _ _ s _ _ p=>{s0 with nm:=n,ar:=r,ys:=ys,sc:=s,p:=p}
 |.AsyncFunctionDef _ _ _ _ _ _ _ _ _ _=>s0
 |.ClassDef n bs _ ys _ _ s _ _ ns p=>{s0 with nm:=n,ys:=ys,ts:=bs,sc:=s,ns:=ns,p:=p}
 |.Return o p=>{s0 with o:=o,p:=p}
 |.Delete _ _=>s0
 |.Assign ts a p=>{s0 with ts:=ts,a:=a,p:=p}
 |.TypeAlias _ _ _ _ _ _ _=>s0
 |.AugAssign _ _ _ _=>s0
 |.AnnAssign _ _ _ _ _=>s0
 |.For a b ys zs p=>{s0 with a:=a,b:=b,ys:=ys,zs:=zs,p:=p}
 |.AsyncFor _ _ _ _ _=>s0
 |.While a ys zs p=>{s0 with a:=a,ys:=ys,zs:=zs,p:=p}
 |.If a ys zs p=>{s0 with a:=a,ys:=ys,zs:=zs,p:=p}
 |.With _ _ _=>s0
 |.AsyncWith _ _ _=>s0
 |.Match _ _ _=>s0
 |.Raise _ _ _=>s0
 |.Try ys hs zs ws p=>{s0 with ys:=ys,hs:=hs,zs:=zs,ws:=ws,p:=p}
 |.TryStar _ _ _ _ _=>s0
 |.Assert _ _ _=>s0
 |.Import _ _=>s0
 |.ImportFrom _ _ _ _=>s0
 |.Global _ _=>s0
 |.Nonlocal _ _=>s0
 |.Expr a p=>{s0 with a:=a,p:=p}
 |.Pass _=>s0
 |.Break _=>s0
 |.Continue _=>s0
noncomputable def U8(x:Stmt)(v:SV):List Prop:=[True,True,True,x=.Return v.o v.p,True,x=.Assign v.ts v.a v.p,True,True,True,x=.For v.a v.b v.ys v.zs v.p,True,x=.While v.a v.ys v.zs v.p,x=.If v.a v.ys v.zs v.p,True,True,True,True,x=.Try v.ys v.hs v.zs v.ws v.p,
 True,True,True,True,True,True,x=.Expr v.a v.p]
theorem ts(x:Stmt):zy (U8 x (vS x)) x.ctorIdx:=by cases x<;>first|exact rfl|exact trivial
noncomputable def gg(x:Stmt)(k:Nat):Bool:=Nat.beq x.ctorIdx k
theorem iF{x:Stmt}(h:gg x k=true):zy (U8 x (vS x)) k:=aL h▸ts x
abbrev Fx:=CS→Stmt→Tk→Option Tk
noncomputable def AX(f:Fx):List CS→List Stmt→Tk→Option Tk
 |[],xs,T=>zB xs (some T)
 |e::es,xs,T=>kc xs fun x xs=>(f e x T).bind fun T=>AX f es xs T
def Ml(x:Stmt)(g:Expr→Option Tk):Option Tk:=ck (gg x 5) (kc (vS x).ts fun t r=>ck (isNil r) (g t))
def AE(x:Stmt)(b:Bool)(g:Expr→Option Tk):Option Tk:=Ml x fun t=>ck (b&&nT (vS x).a) (g t)
def M4(S:Sp)(n:Nat)(K:qM)(cs:Bool)(y:Nat)(e:CE)(x:Stmt)(T:Tk):Option Tk:=Ml x fun t=>ck (cW t 23&&zk K.t cs y) (Mk S n K y e (vS x).a (jK T (vX t).s y))
def Ib(K:qM)(cs:Bool)(f:Ff)(ys:List Nat)(e:CE)(x:Stmt)(T:Tk):Option Tk:=AE x true fun t=>ck (cW t 25&&Rj K.t ys (vX t).xs (vS x).a) ((GL K.t cs ys (vX t).xs T).bind fun T=>f e (vS x).a T)
def Bp(K:qM)(cs:Bool)(f:Ff)(o i:CE)(y:Nat)(e:CE)(x:Stmt)(T:Tk):Option Tk:=AE x (zk K.t cs y&&IC (vS x).a) fun t=>ck (cW t 25) (kc (vX t).xs fun q r=>kc r fun n r=>ck (isNil r&&(cW q 21&&cW n 23)) (sQ f o (vX q).a (jK T (vX n).s y) fun T=>sQ f i (vX q).b T fun T=>f e (vS x).a T))
def Ig(S:Sp)(f:Ff)(o:CE)(y:Nat)(e:CE)(x:Stmt)(T:Tk):Option Tk:=AE x (gz y S.attrs) fun t=>ck (cW t 20) (sQ f o (vX t).a (jK T (vX t).s y) fun T=>f e (vS x).a T)
def Ie(f:Ff)(o i e:CE)(x:Stmt)(T:Tk):Option Tk:=AE x true fun t=>ck (cW t 21) (sQ f o (vX t).a T fun T=>sQ f i (vX t).b T fun T=>f e (vS x).a T)
def Ic(f:Ff)(o lo hi e:CE)(x:Stmt)(T:Tk):Option Tk:=AE x true fun t=>ck (cW t 21&&(cW (vX t).b 26&&t4 (vX (vX t).b).t)) (fW (vX (vX t).b).l fun l=>fW (vX (vX t).b).u fun u=>sQ f o (vX t).a T fun T=>sQ f lo l T fun T=>sQ f hi u T fun T=>f e (vS x).a T)
noncomputable def valOf(e:CE):AV:=match e with|.val v=>v|_=>.none
def yh(e:CE):Bool:=Nat.beq e.ctorIdx 1&&Nat.beq (valOf e).ctorIdx 0
def MY(f:Ff)(e:CE)(x:Stmt)(T:Tk):Option Tk:=ck (gg x 3) (match(vS x).o with
 |some y=>f e y T
 |none=>ck (yh e) (some T))
def M0(S:Sp)(n:Nat)(K:qM)(cs:Bool)(f:Fx)(tg:List Nat)(flat:Bool)(kind:Nat)(it:CE)(b:List CS)(x:Stmt)(T:Tk):Option Tk:=ck (gg x 9&&(isNil (vS x).zs&&(Nat.beq kind 0||!flat)))
 ((I6 K.t cs tg flat (vS x).a T).bind fun T=>(GF S n K kind it (vS x).b T).bind fun T=>AX f b (vS x).ys T)
noncomputable def fX(S:Sp):Nat→qM→Bool→CS→Stmt→Tk→Option Tk
 |0,_,_,_,_,_=>none
 |n+1,K,cs,c,x,T=>match c with
  |.b8 y e=>M4 S n K cs y e x T
  |.cP ys e=>Ib K cs (fE S n K) ys e x T
  |.aT o y e=>Ig S (fE S n K) o y e x T
  |.jW o i e=>Ie (fE S n K) o i e x T
  |.i0 o lo hi e=>Ic (fE S n K) o lo hi e x T
  |.iS o i y e=>Bp K cs (fE S n K) o i y e x T
  |.ex e=>ck (gg x 24&&nT (vS x).a) (fE S n K e (vS x).a T)
  |.ret e=>MY (fE S n K) e x T
  |.ite t a b=>ck (gg x 12) (sQ (fE S n K) t (vS x).a T fun T=>(AX (fX S n K cs) a (vS x).ys T).bind fun T=>AX (fX S n K cs) b (vS x).zs T)
  |.for tg flat kind it b=>M0 S n K cs (fX S n K cs) tg flat kind it b x T
  |.gZ ..=>none
  |.while t b=>ck (gg x 11&&isNil (vS x).zs) (sQ (fE S n K) t (vS x).a T fun T=>AX (fX S n K cs) b (vS x).ys T)
  |.try b=>ck (gg x 17&&(!isNil (vS x).hs&&(isNil (vS x).zs&&isNil (vS x).ws))) (AX (fX S n K cs) b (vS x).ys T)
  |.pass=>none
  |.bad _=>some T
structure FE where
 k:Nat
 i:Nat
 j:Option Nat
 a:Addr
 c:Addr
 df:Option Addr
 pm:Value
 lam:Bool
 vy:List (List Nat)
def jy(body:List Stmt)(i:Nat)(j:Option Nat):Str×SV:=match j with
 |none=>(Str.empty,vS (body.getD i default))
 |some j=>((vS (body.getD i default)).nm++(".":Str),vS ((vS (body.getD i default)).ys.getD j default))
noncomputable def Xh(e:FE)(pre:Str)(v:SV):FuncData:={name:=v.nm,qualname:=pre++v.nm,params:=v.ar,body:=.stmts v.ys,scope:=v.sc,globals:=3,closure:=[],closureTuple:=.none,code:=.ref e.c,builtins:=builtinsNs,defaults:=(match e.df with|some d=>.ref d|none=>.none),kwdefaults:=.none,annotations:=none,pyModule:=e.pm,doc:=.none}
def fdOf(body:List Stmt)(e:FE):FuncData:=Xh e (jy body e.i e.j).1 (jy body e.i e.j).2
noncomputable def FZ:List Nat→List Arg→Tk→Option Tk
 |[],xs,T=>zB xs (some T)
 |x::l,xs,T=>kc xs fun a r=>FZ l r (jK T a.arg x)
noncomputable def isFn(k:ScopeKind):Bool:=decide (k=.function)
def Qk(a:Arguments):Bool:=isNil a.posonlyargs&&(t4 a.vararg&&(isNil a.kwonlyargs&&t4 a.kwarg))
def UQ(S:Sp)(e:FE)(f:Fn)(v:SV)(p:kC×List Nat×Tk):Option Tk:=ck (Qk v.ar&&(isFn v.sc.kind&&(!v.sc.isCoroutine&&(!v.sc.isGenerator&&(p.1.all (fun p=>!Nat.beq (kB p.2) 2)&&(f.ps.all (fun x=>iX (gY p.1 x) 0||iX (gY p.1 x) 1)&&gX f.ps))))))
 ((FZ f.ps v.ar.args p.2.2).bind fun T=>(AX (fX S 60 ⟨p.1,e.lam⟩ (!e.lam)) f.body v.ys T).bind fun T=>some (pushS p.2.1 v.sc.names T))
def fF(S:Sp)(fs:aE Fn)(body:List Stmt)(e:FE)(T:Tk):Option Tk:=fW (fs.get e.k) fun f=>fW (mB {T with vy:=e.vy} (jy body e.i e.j).2.sc.names) fun p=>UQ S e f (jy body e.i e.j).2 p
noncomputable def QQ(S:Sp)(fs:aE Fn)(body:List Stmt):List FE→Tk→Option Tk
 |[],T=>some T
 |e::r,T=>(fF S fs body e T).bind fun T=>QQ S fs body r T
def Pa(S:Sp)(r:LR)(T:Tk)(ps cs:List Nat)(e:CE)(p:kC×List Nat×Tk):Option Tk:=ck (Qk r.params&&(isFn r.scope.kind&&(!r.scope.isCoroutine&&(!r.scope.isGenerator&&(p.1.all (fun p=>!Nat.beq (kB p.2) 1)&&(ps.all (fun x=>iX (gY p.1 x) 0)&&(p.1.all (fun p=>!Nat.beq (kB p.2) 2||gz p.1 cs)&&(cs.all (fun x=>iX (gY p.1 x) 2)&&(gX ps&&lEq r.bR cs)))))))))
 ((FZ ps r.params.args p.2.2).bind fun T'=>(fE S 60 ⟨p.1,false⟩ e r.body T').bind fun T'=>ck (isNil T'.pn) (some {pushS p.2.1 r.scope.names T' with pn:=T.pn}))
def S2(S:Sp)(gB:aE (List Nat×List Nat×CE))(lS:List (Nat×List (List Nat)))(r:LR)(T:Tk):Option Tk:=fW (gB.get r.k) fun q=>fW (lS.lookup r.k) fun tp=>fW (mB {T with vy:=tp,pn:=[]} r.scope.names) fun p=>Pa S r T q.1 q.2.1 q.2.2 p
noncomputable def Ac(S:Sp)(gB:aE (List Nat×List Nat×CE))(lS:List (Nat×List (List Nat))):List LR→Tk→Option Tk
 |[],T=>some T
 |r::l,T=>(S2 S gB lS r T).bind fun T=>Ac S gB lS l T
section
variable{kd:Kd}{K:qM}{cs:Bool}{T T':Tk}
theorem kR(R:KR C kd K){x:Nat}{s:Str}(e:s=C.nm x)(h:zk K.t cs x=true):d9 kd cs s:=by
 subst e;unfold d9;rw [R.k];rcases fQ h with h|h
 ·exact .inl (tX h)
 ·refine aw (ae h:) fun a b=>?_
  exact .inr ⟨CX b,a⟩
theorem yz(R:KR C kd K):∀{tg:List Nat}{xs:List Expr}{T T':Tk},GL K.t cs tg xs T=some T'→aQ C T'→aQ C T∧pK C kd cs tg xs:=by
 intro tg
 induction tg with
 |nil=>
  intro xs T T' h G;obtain⟨rfl,h⟩:=jo h
  injection h with h;subst h;exact⟨G,.nil⟩
 |cons x tg ih=>
  intro xs T T' h G;obtain⟨e,r,rfl,h⟩:=bD h
  refine aw (aB h:) fun h1 h2=>?_
  refine aw (ae h1:) fun h0 h1=>?_
  refine aw (ih h2 G:) fun g f=>?_
  refine aw (g.jK:) fun g q=>?_
  exact⟨g,dg (fun e=>pK C kd cs (x::tg) (e::r)) (kL h0) (.cons q (kR R q h1) f)⟩
theorem DE(R:KR C kd K){tg:List Nat}{xt:Expr}(h:I6 K.t cs tg flat xt T=some T')(G:aQ C T'):aQ C T∧mJ C kd cs tg flat xt:=by
 cases flat with
 |true=>
  obtain⟨e,r,rfl,h⟩:=bD h
  refine aw (aB h:) fun h1 h=>?_
  refine aw (ae h1:) fun h2 h1=>?_
  refine aw (ae h1:) fun h0 h1=>?_
  injection h with h;subst h;refine aw (G.jK:) fun g q=>?_
  rw [bH h2];exact⟨g,dg (mJ C kd cs [e] true) (kL h0) (.one q (kR R q h1))⟩
 |false=>
  refine aw (aB h:) fun h0 h=>?_
  refine aw (yz R h G:) fun g f=>?_
  exact⟨g,dg (mJ C kd cs tg false) (za h0) (.many f)⟩
theorem Ob(a:cW x 8=false)(b:cW x 9=false)(c:cW x 10=false):bV x:=⟨a,b,c⟩
theorem lR(h:nT x=true):bV x:=Ob (dy (ae h).1) (dy (ae (ae h).2).1) (dy (ae (ae h).2).2)
theorem Cq(h:IC x=true):∀es k p,x≠.Tuple es k p:=fun Y Y Y=>n3 h rfl
theorem Gb:∀{xs:List Nat}{ts:List Expr},pK C kd cs xs ts→xs.length=ts.length:=by
 intro es
 induction es with
 |nil=>exact fun h=>h.nl▸rfl
 |cons e es ihl=>exact fun h=>oW h.un fun Y Y Y q Y Y r=>q▸congrArg Nat.succ (ihl r)
theorem xZ(a b:Nat):Nat.beq a b=(a==b):=by rw [Bool.eq_iff_iff,beq_iff_eq];exact⟨aL,fun e=>e▸Nat.beq_refl a⟩
theorem namesOf(R:KR C kd K){env:PySem.Env}(hk:∀x,env.kindOf x=kd.k x)(l:Nat){F:Expr→Option Str}(hF:∀s pos,F (.Name s pos)=if(env.kindOf s==some .local&&pos.line==l)=true then some s else none):∀{xs:List Nat}{ts:List Expr},pK C kd cs xs ts→xs.all (fun x=>iX (gY K.t x) 0)=true→kV l ts=true→
  ts.filterMap F=xs.map C.nm:=by
 intro xs
 induction xs with
 |nil=>exact fun h Y Y=>h.nl▸rfl
 |cons x xs ih=>
  intro ts h h1 h2;refine oW h.un fun s pos ts q e st r=>?_
  rw [q]at h2⊢;rw [List.all_cons]at h1;have:(env.kindOf s==some NameKind.local&&pos.line==l)=true:=by
   rw [hk,e,R.k,tX (ae h1).1,show pos.line=l from aL (ae h2).1];simp
  rw [List.filterMap_cons_some ((hF s pos).trans (if_pos this)),ih r (ae h1).2 (ae h2).2,e,List.map_cons]
theorem yp{P:Prop} [Decidable P]{a b c:α}{Q:Prop}(h:¬P→b=a∨(b=c∧Q)):(if P then a else b)=a∨((if P then a else b)=c∧Q):=by
 by_cases p:P
 ·exact .inl (if_pos p)
 ·rw [if_neg p];exact h p
theorem J6(R:KR C kd K){xs:List Nat}{ts vs:List Expr}{k':Nat}{p p':Pos}(hs:pK C kd cs xs ts)
  (h:(vs.all (foldedForSure 8)||(!(Nat.beq xs.length 2||Nat.beq xs.length 3)||(xs.all (fun x=>iX (gY K.t x) 0)&&(kV (we ts) ts&&(!vs.all (constantsAlone 8)&&gX xs)))))=true):yO C kd xs [.Tuple ts k p] (.Tuple vs k' p'):=by
 intro env hk hfun;have WU:(ts.head?.map (·.pos.line)).getD 0=we ts:=by
  cases xs with
  |nil=>exact hs.nl▸rfl
  |cons=>exact oW hs.un fun Y Y Y q Y Y Y=>q▸rfl
 unfold swappedStores;refine yp fun c1=>yp fun c2=>yp fun c3=>yp fun c4=>?_
 rcases fQ h with h|h
 ·exact(c4 h).elim
 rcases fQ h with h|h
 ·rw [xZ,xZ,Gb hs]at h
  rw [h]at c1;exact(c1 rfl).elim
 refine aw (ae h:) fun h2 h=>?_
 refine aw (ae h:) fun h3 h=>?_
 refine aw (ae h:) fun h4 h5=>?_
 have c5:¬vs.all (constantsAlone 8)=true:=by rw [dy h4];exact Bool.false_ne_true
 exact .inr ⟨(if_neg c5).trans (congrArg (fun l=>pure (some l)) (namesOf R hk _ (fun Y Y=>rfl) hs h2 (by rw [WU];exact h3))),jL h5⟩
theorem Fi{ts:List Expr}{p:Pos}{env:PySem.Env}{ex:Expr}:cW ex 25=false→swappedStores [.Tuple ts k p] ex env=pure none:=by
 cases ex<;>first|exact fun Y=>rfl|exact fun h=>nomatch (show true=false from h)
theorem J7(R:KR C kd K){xs:List Nat}{ts:List Expr}{p:Pos}{ex:Expr}(hs:pK C kd cs xs ts)(h:Rj K.t xs ts ex=true):yO C kd xs [.Tuple ts k p] ex:=by
 unfold Rj at h;cases q:cW ex 25 with
 |true=>
  rw [q]at h;exact dg (yO C kd xs [.Tuple ts k p]) (za q) (J6 R hs h)
 |false=>exact fun env Y Y=>.inl (Fi q)
end
section
variable{x:Stmt}
theorem Rv(h:gg x 3=true):x=.Return (vS x).o (vS x).p:=iF h
theorem Ry(h:gg x 5=true):x=.Assign (vS x).ts (vS x).a (vS x).p:=iF h
theorem Rw(h:gg x 9=true):x=.For (vS x).a (vS x).b (vS x).ys (vS x).zs (vS x).p:=iF h
theorem Km(h:gg x 11=true):x=.While (vS x).a (vS x).ys (vS x).zs (vS x).p:=iF h
theorem VQ(h:gg x 12=true):x=.If (vS x).a (vS x).ys (vS x).zs (vS x).p:=iF h
theorem Ru(h:gg x 17=true):x=.Try (vS x).ys (vS x).hs (vS x).zs (vS x).ws (vS x).p:=iF h
theorem Rx(h:gg x 24=true):x=.Expr (vS x).a (vS x).p:=iF h
end
theorem D6(e:CE):zy [True,e=.val (valOf e),∃es,e=.t es,True,True,True,True,True,True,True,True,True,True,True,True,True,True,True,True,∃a b c d f,e=.comp a b c d f] e.ctorIdx:=by
 cases e<;>first|exact trivial|exact rfl|exact⟨_,rfl⟩|exact⟨_,_,_,_,_,rfl⟩
theorem P6(v:AV):zy [v=.none] v.ctorIdx:=by cases v<;>first|exact trivial|exact rfl
theorem LZ(h:Nat.beq e.ctorIdx 2=true):∃es,e=.t es:=by
 have:=D6 e
 rw [aL h]at this;exact this
theorem G8(h:Nat.beq e.ctorIdx 19=true):∃a b c d f,e=.comp a b c d f:=by
 have:=D6 e
 rw [aL h]at this;exact this
theorem G7(h:yh e=true):e=.val .none:=by
 refine aw (ae h:) fun h1 h2=>?_
 have a:=D6 e
 rw [aL h1]at a;have b:=P6 (valOf e)
 rw [aL h2]at b;exact Eq.trans a (congrArg CE.val b)
section
variable{kd:Kd}{K:qM}{cs:Bool}{T T':Tk}
theorem uO(h:Ea x=true):x=.Call (.Name (vX (vX x).a).s (vX (vX x).a).p) (vX x).xs [] (vX x).p:=by
 refine aw (ae h:) fun h0 h=>?_
 refine aw (ae h:) fun h1 h2=>?_
 have e:=Bk h0
 rw [bH h1]at e;exact e.trans (congrArg (fun a=>Expr.Call a _ _ _) (kL h2))
theorem E8{y z:Expr}(h:cY C kd es [y,z]):∃a b,es=[a,b]∧aW C kd a y∧aW C kd b z∧(∀w p,y≠.Starred w p)∧∀w p,z≠.Starred w p:=by
 cases es with
 |nil=>exact nomatch h.nl
 |cons a es=>
  refine KL h.un fun x r q f1 s1 h=>?_
  injection q with q sF;subst q sF;cases es with
  |nil=>exact nomatch h.nl
  |cons b es=>
   refine KL h.un fun x r q f2 s2 h=>?_
   injection q with q sF;subst q sF;cases es with
   |nil=>exact⟨a,b,rfl,f1,f2,s1,s2⟩
   |cons c es=>exact F1 h.un fun Y Y q=>nomatch q.1
theorem Dz(SO:eT C S)(R:KR C kd K){y z:Expr}(h:fE S n K (.t es) (.Tuple [y,z] 0 default) T=some T')(G:aQ C T'):aQ C T∧∃a b,es=[a,b]∧aW C kd a y∧aW C kd b z∧(∀w p,y≠.Starred w p)∧∀w p,z≠.Starred w p:=by
 cases n with
 |zero=>injection h
 |succ n=>
  have h:fL (fE S n K) es [y,z] T=some T':=h
  refine aw (ml (mq SO n K kd R) h G:) fun g h=>?_
  refine⟨g,?_⟩
  exact E8 h
theorem GD(SO:eT C S)(R:KR C kd K):∀{kind:Nat}{it:CE}{x:Expr},GF S n K kind it x T=some T'→aQ C T'→aQ C T∧HW C kd kind it x
 |0,_,_,h,G=>⟨(mq SO n K kd R _ _ _ _ h G).1,.plain (mq SO n K kd R _ _ _ _ h G).2⟩
 |1,it,x,h,G=>by
  refine eJ (bD h:) fun y r ey h=>?_
  refine aw (aB h:) fun h1 h=>?_
  refine aw (ae h1:) fun hc h1=>?_
  refine aw (ae h1:) fun hr h1=>?_
  refine aw (ae h1:) fun a b=>?_
  refine aw (mq SO n K kd R _ _ _ _ h G:) fun g f=>?_
  refine aw (g.jK:) fun g e=>?_
  have q:=uO hc
  rw [ey,bH hr,e,SO.en]at q;exact⟨g,dg (HW C kd 1 it) q (.enum (by rw [←SO.en,R.k];exact K8 a) f fun Y Y=>n3 b rfl)⟩
 |2,it,x,h,G=>by
  refine eJ (bD h:) fun y r ey h=>?_
  refine eJ (bD h:) fun z r' ez h=>?_
  refine aw (aB h:) fun h1 h=>?_
  refine aw (ae h1:) fun hc h1=>?_
  refine aw (ae h1:) fun hr h1=>?_
  refine aw (ae h1:) fun a b=>?_
  obtain⟨es,rfl⟩:=LZ b
  obtain⟨g,u,v,rfl,f1,f2,s1,s2⟩:=Dz SO R h G
  refine aw (g.jK:) fun g e=>?_
  have q:=uO hc
  rw [ey,ez,bH hr,e,SO.zp]at q;exact⟨g,dg (HW C kd 2 (.t [u,v])) q (.zip (by rw [←SO.zp,R.k];exact K8 a) f1 f2 s1 s2)⟩
 |_+3,_,_,h,_=>nomatch h
theorem sG:∀{l:List Nat}{names:List (Str×NameKind)}{t:kC},Be l names=some t→∀p∈t,p.1∈l
 |[],[],_,h,_,m=>by injection h with h;subst h;cases m
 |[],_::_,_,h,_,_=>nomatch h
 |x::l,names,t,h,q,m=>by
  obtain⟨p,r,rfl,h⟩:=bD h
  refine aC (aM h:) fun t' e h=>?_
  injection h with h;subst h;rcases cO m with rfl|m
  ·exact bW
  ·exact cq _ (sG e q m)
theorem FP{names:List (Str×NameKind)}{p:kC×List Nat×Tk}(h:mB T names=some p):∀q∈p.1,q.1∈yt T:=by
 refine eJ (bD h:) fun l r e h=>?_
 refine aC (aM h:) fun t q h=>?_
 injection h with h;subst h;unfold yt;rw [e];exact sG q
theorem wY(SO:eT C S){elt it:CE}{tg:List Nat}{ifs:List CE}{ex:Expr}(h1:(!gz y (yt T))=true)(h:fE S n K (.comp elt tg flat it ifs) ex T=some T')(G:aQ C T'):
  ∃xe xt xi xs sc p,ex=.ListComp xe [⟨xt,xi,xs,0⟩] sc p∧∀z∈sc.names,z.1≠C.nm y:=by
 cases n with
 |zero=>injection h
 |succ n=>
  refine aw (aB h:) fun h0 h=>?_
  obtain⟨⟨gt,gi,gf,ga⟩,gs,eg,h⟩:=bD h
  refine aw (aB h:) fun hn h=>?_
  refine aC (aM h:) fun p hp h=>?_
  refine aw (aB h:) fun hd h=>?_
  refine aC (aY h:) fun T2 Y h=>?_
  refine aC (aY h:) fun T3 Y h=>?_
  refine aC (aY h:) fun T4 Y h=>?_
  refine aC (aY h:) fun T5 Y h=>?_
  have e:=Uc h0
  rw [eg,bH hn]at e;rw [←(show(0:Int)=ga from(PySem.W.Z.eqB_iff ..).mp (ae (ae hd).2).1)]at e
  refine⟨_,_,_,_,_,_,e,fun z m q=>?_⟩
  have m2:=FP hp
  obtain⟨t,l,T1⟩:=p
  injection h with h;subst h;refine aw (xU hp (ae hd).1 G:) fun Y e=>?_
  rcases mZ e m with rfl|⟨p',Lk,rfl⟩
  ·exact SO.IB _ q.symm
  ·exact nY (dy h1) (SO.inj _ _ q▸m2 p' Lk)
theorem Mh(SO:eT C S)(R:KR C kd K){ex:Expr}{s:Str}{p pos:Pos}(hy:zk K.t cs y=true)(h:Mk S n K y e ex (jK T s y)=some T')(G:aQ C T'):aQ C T∧fS C kd cs (.b8 y e) (.Assign [.Name s p] ex pos):=by
 unfold Mk at h;cases q:Nat.beq e.ctorIdx 19 with
 |true=>
  rw [q]at h;refine aw (aB h:) fun h1 h=>?_
  obtain⟨elt,tg,flat,it,ifs,rfl⟩:=G8 q
  obtain⟨xe,xt,xi,xs,sc,lp,ee,ap⟩:=wY SO h1 h G
  refine aw (mq SO n K kd R _ _ _ _ h G:) fun g f=>?_
  refine aw (g.jK:) fun g es=>?_
  rw [←es]at ap;rw [ee]at f⊢;exact⟨g,.TG es (kR R es hy) f ap⟩
 |false=>
  rw [q]at h;refine aw (aB h:) fun h1 h=>?_
  refine aw (mq SO n K kd R _ _ _ _ h G:) fun g f=>?_
  refine aw (g.jK:) fun g es=>?_
  exact⟨g,.b8 es (kR R es hy) f (lR h1)⟩
def MN(C:Cx)(kd:Kd)(cs:Bool)(f:Fx):Prop:=∀e x T T',f e x T=some T'→aQ C T'→aQ C T∧fS C kd cs e x
theorem lY{f:Fx}(H:MN C kd cs f):∀{es:List CS}{xs:List Stmt}{T T':Tk},AX f es xs T=some T'→aQ C T'→aQ C T∧cZ C kd cs es xs:=by
 intro es
 induction es with
 |nil=>
  intro xs T T' h G;obtain⟨rfl,h⟩:=jo h
  injection h with h;subst h;exact⟨G,.nil⟩
 |cons e es ih=>
  intro xs T T' h G;obtain⟨x,r,rfl,h⟩:=bD h
  refine aC (aY h:) fun T1 h2 h3=>?_
  refine aw (ih h3 G:) fun g f2=>?_
  refine aw (H _ _ _ _ h2 g:) fun g f1=>?_
  exact⟨g,.cons f1 f2⟩
variable{f:Ff}{fx:Fx}{x:Stmt}
theorem uS{g:Expr→Option Tk}(h:Ml x g=some T'):∃t,x=.Assign [t] (vS x).a (vS x).p∧g t=some T':=by
 refine aw (aB h:) fun h0 h=>?_
 refine eJ (bD h:) fun t r e h=>?_
 refine aw (aB h:) fun h1 h=>?_
 have q:=Ry h0
 rw [e,bH h1]at q;exact⟨t,q,h⟩
theorem jF{b:Bool}{g:Expr→Option Tk}(h:AE x b g=some T'):∃t,x=.Assign [t] (vS x).a (vS x).p∧b=true∧bV (vS x).a∧g t=some T':=by
 refine aC (uS h:) fun t e h=>?_
 refine aw (aB h:) fun h1 h=>?_
 refine aw (ae h1:) fun h1 h2=>?_
 exact⟨t,e,h1,lR h2,h⟩
theorem qI{c:CS}{t t':Expr}(e:x=.Assign [t] (vS x).a (vS x).p)(q:t=t')(h:fS C kd cs c (.Assign [t'] (vS x).a (vS x).p)):fS C kd cs c x:=dg (fS C kd cs c) (e.trans (congrArg (fun t=>Stmt.Assign [t] _ _) q)) h
theorem E6(SO:eT C S)(R:KR C kd K)(h:M4 S n K cs y e x T=some T')(G:aQ C T'):aQ C T∧fS C kd cs (.b8 y e) x:=by
 refine aC (uS h:) fun t q h=>?_
 refine aw (aB h:) fun h1 h=>?_
 refine aw (ae h1:) fun h0 h1=>?_
 refine aw (Mh (p:=(vX t).p) (pos:=(vS x).p) SO R h1 h G:) fun g f=>?_
 exact⟨g,qI q (kL h0) f⟩
theorem Bm(R:KR C kd K)(H:Hf C kd f){ys:List Nat}(h:Ib K cs f ys e x T=some T')(G:aQ C T'):aQ C T∧fS C kd cs (.cP ys e) x:=by
 refine AR (jF h:) fun t q Y nc h=>?_
 refine aw (aB h:) fun h1 h=>?_
 refine aw (ae h1:) fun h0 h1=>?_
 refine aC (aY h:) fun T1 h2 h3=>?_
 refine aw (H _ _ _ _ h3 G:) fun g f2=>?_
 refine aw (yz R h2 g:) fun g f1=>?_
 exact⟨g,qI q (za h0) (.cP f1 f2 nc (J7 R f1 h1))⟩
theorem zc(R:KR C kd K)(H:Hf C kd f){o i:CE}(h:Bp K cs f o i y e x T=some T')(G:aQ C T'):aQ C T∧fS C kd cs (.iS o i y e) x:=by
 refine AR (jF h:) fun t q h1 nc h=>?_
 refine aw (ae h1:) fun h1 h2=>?_
 refine aw (aB h:) fun h0 h=>?_
 refine eJ (bD h:) fun u r eu h=>?_
 refine eJ (bD h:) fun w r' ew h=>?_
 refine aw (aB h:) fun h3 h=>?_
 refine aw (ae h3:) fun h3 h4=>?_
 refine aw (ae h4:) fun h4 h5=>?_
 refine lJ (jf H h G:) fun g f1 f2 f3=>?_
 refine aw (g.jK:) fun g e=>?_
 have p:=za h0
 rw [eu,ew,bH h3]at p;have p:=p.trans (congrArg (fun u=>Expr.Tuple [u,w] _ _) (zb h4))
 exact⟨g,qI q (p.trans (congrArg (fun w=>Expr.Tuple [_,w] _ _) (kL h5))) (.iS e (kR R e h1) f1 f2 f3 nc (Cq h2))⟩
theorem Bq(SO:eT C S)(H:Hf C kd f){o:CE}(h:Ig S f o y e x T=some T')(G:aQ C T'):aQ C T∧fS C kd cs (.aT o y e) x:=by
 refine AR (jF h:) fun t q h1 nc h=>?_
 refine aw (aB h:) fun h0 h=>?_
 refine dJ (nC H h G:) fun g f1 f2=>?_
 refine aw (g.jK:) fun g e=>?_
 exact⟨g,qI q (Bl h0) (.aT e (SO.attrs _ h1) f1 f2 nc)⟩
theorem Bo(H:Hf C kd f){o i:CE}(h:Ie f o i e x T=some T')(G:aQ C T'):aQ C T∧fS C kd cs (.jW o i e) x:=by
 refine AR (jF h:) fun t q Y nc h=>?_
 refine aw (aB h:) fun h0 h=>?_
 refine lJ (jf H h G:) fun g f1 f2 f3=>?_
 exact⟨g,qI q (zb h0) (.jW f1 f2 f3 nc)⟩
theorem Bn(H:Hf C kd f){o lo hi:CE}(h:Ic f o lo hi e x T=some T')(G:aQ C T'):aQ C T∧fS C kd cs (.i0 o lo hi e) x:=by
 refine AR (jF h:) fun t q Y nc h=>?_
 refine aw (aB h:) fun h1 h=>?_
 refine aw (ae h1:) fun h0 h1=>?_
 refine aw (ae h1:) fun h1 h2=>?_
 refine aC (aM h:) fun l el h=>?_
 refine aC (aM h:) fun u eu h=>?_
 refine aC (aY h:) fun T1 h3 h=>?_
 refine lJ (jf H h G:) fun g f2 f3 f4=>?_
 refine aw (H _ _ _ _ h3 g:) fun g f1=>?_
 have p:=Q2 h1
 rw [iG h2,el,eu]at p;exact⟨g,qI q ((zb h0).trans (congrArg (fun b=>Expr.Subscript _ b _) p)) (.i0 f1 f2 f3 f4 nc)⟩
theorem E0(H:Hf C kd f)(h:MY f e x T=some T')(G:aQ C T'):aQ C T∧fS C kd cs (.ret e) x:=by
 refine aw (aB h:) fun h0 h=>?_
 have q:=Rv h0
 cases eo:(vS x).o with
 |some y=>
  rw [eo]at h q;refine aw (H _ _ _ _ h G:) fun g f1=>?_
  exact⟨g,dg (fS C kd cs (.ret e)) q (.ret f1)⟩
 |none=>
  rw [eo]at h q;refine aw (aB h:) fun h1 h=>?_
  injection h with h;subst h;rw [G7 h1];exact⟨G,dg (fS C kd cs (.ret (.val .none))) q .RE⟩
theorem E4(SO:eT C S)(R:KR C kd K)(HX:MN C kd cs fx){kind:Nat}{tg:List Nat}{it:CE}{b:List CS}(h:M0 S n K cs fx tg flat kind it b x T=some T')(G:aQ C T'):aQ C T∧fS C kd cs (.for tg flat kind it b) x:=by
 refine aw (aB h:) fun h1 h=>?_
 refine aw (ae h1:) fun h0 h1=>?_
 refine aw (ae h1:) fun h2 h1=>?_
 refine aC (aY h:) fun T1 h3 h=>?_
 refine aC (aY h:) fun T2 h4 h=>?_
 refine aw (lY HX h G:) fun g f3=>?_
 refine aw (GD SO R h4 g:) fun g f2=>?_
 refine aw (DE R h3 g:) fun g f1=>?_
 exact⟨g,dg (fS C kd cs (.for tg flat kind it b)) ((Rw h0).trans (congrArg (fun z=>Stmt.For _ _ _ z _) (bH h2))) (.for f1 ((fQ h1).imp aL dy) f2 f3)⟩
theorem JP(H:Hf C kd f)(HX:MN C kd cs fx){t:CE}{a b:List CS}(h:ck (gg x 12) (sQ f t (vS x).a T fun T=>(AX fx a (vS x).ys T).bind fun T=>AX fx b (vS x).zs T)=some T')(G:aQ C T'):aQ C T∧fS C kd cs (.ite t a b) x:=by
 refine aw (aB h:) fun h0 h=>?_
 refine aC (aY h:) fun T1 h3 h=>?_
 refine aC (aY h:) fun T2 h4 h=>?_
 refine aw (lY HX h G:) fun g f3=>?_
 refine aw (lY HX h4 g:) fun g f2=>?_
 refine aw (H _ _ _ _ h3 g:) fun g f1=>?_
 exact⟨g,dg (fS C kd cs (.ite t a b)) (VQ h0) (.ite f1 f2 f3)⟩
theorem y9(H:Hf C kd f)(HX:MN C kd cs fx){t:CE}{b:List CS}(h:ck (gg x 11&&isNil (vS x).zs) (sQ f t (vS x).a T fun T=>AX fx b (vS x).ys T)=some T')(G:aQ C T'):aQ C T∧fS C kd cs (.while t b) x:=by
 refine aw (aB h:) fun h1 h=>?_
 refine aw (ae h1:) fun h0 h1=>?_
 refine aC (aY h:) fun T1 h3 h=>?_
 refine aw (lY HX h G:) fun g f2=>?_
 refine aw (H _ _ _ _ h3 g:) fun g f1=>?_
 exact⟨g,dg (fS C kd cs (.while t b)) ((Km h0).trans (congrArg (fun z=>Stmt.While _ _ z _) (bH h1))) (.while f1 f2)⟩
theorem EZ(HX:MN C kd cs fx){b:List CS}(h:ck (gg x 17&&(!isNil (vS x).hs&&(isNil (vS x).zs&&isNil (vS x).ws))) (AX fx b (vS x).ys T)=some T')(G:aQ C T'):aQ C T∧fS C kd cs (.try b) x:=by
 refine aw (aB h:) fun h1 h=>?_
 refine aw (ae h1:) fun h0 h1=>?_
 refine aw (ae h1:) fun h2 h1=>?_
 refine aw (ae h1:) fun h3 h4=>?_
 refine aw (lY HX h G:) fun g f1=>?_
 have q:=Ru h0
 rw [bH h3,bH h4]at q;cases eh:(vS x).hs with
 |nil=>rw [eh]at h2;injection h2
 |cons a r=>
  rw [eh]at q;exact⟨g,dg (fS C kd cs (.try b)) q (.try f1)⟩
theorem JQ(H:Hf C kd f)(h:ck (gg x 24&&nT (vS x).a) (f e (vS x).a T)=some T')(G:aQ C T'):aQ C T∧fS C kd cs (.ex e) x:=by
 refine aw (aB h:) fun h1 h=>?_
 refine aw (ae h1:) fun h0 h1=>?_
 refine aw (H _ _ _ _ h G:) fun g f1=>?_
 exact⟨g,dg (fS C kd cs (.ex e)) (Rx h0) (.ex f1 (lR h1))⟩
theorem O6(SO:eT C S)(R:KR C kd K):∀n:Nat,MN C kd cs (fX S n K cs):=by
 intro n
 induction n with
 |zero=>intro c x T T' h;injection h
 |succ n HX=>
  intro c;have H:=mq SO n K kd R
  cases c with
  |b8 y e=>exact fun x T T'=>E6 SO R
  |cP ys e=>exact fun x T T'=>Bm R H
  |aT o y e=>exact fun x T T'=>Bq SO H
  |jW o i e=>exact fun x T T'=>Bo H
  |i0 o lo hi e=>exact fun x T T'=>Bn H
  |iS o i y e=>exact fun x T T'=>zc R H
  |ex e=>exact fun x T T'=>JQ H
  |ret e=>exact fun x T T'=>E0 H
  |ite t a b=>exact fun x T T'=>JP H HX
  |«for» tg flat kind it b=>exact fun x T T'=>E4 SO R HX
  |gZ=>exact fun x T T' h=>nomatch h
  |«while» t b=>exact fun x T T'=>y9 H HX
  |«try» b=>exact fun x T T'=>EZ HX
  |pass=>exact fun x T T' h=>nomatch h
  |bad n=>intro x T T' h G;injection h with h;subst h;exact⟨G,.bad⟩
end
def nN(body:List Stmt)(e:FE):Str:=(fdOf body e).qualname
structure HF(C:Cx)(body:List Stmt)(e:FE)(f:Fn):Prop where
 a:C.mH e.k=e.a
 get:C.hb.get? e.a=some {cls:=.type "function",data:=.func (fdOf body e)}
 code:C.hb.CodeRec (.ref e.c) (nN body e)
 Xt:∃ds:List Value,ds.length≤f.ps.length∧((e.df=none∧ds=[])∨∃T o n,e.df=some T∧C.hb.get? T=some o∧o.data=.seq ds.toArray n)∧∀J M h,(∀b o,C.hb.get? b=some o→¬M b∧h.get? b=some o)→ay C J M h f.df ds
 tab:e.lam=true→∃P,(e.c,P)∈C.tabs∧∀pos,C.tV P pos=(nN body e++".<locals>.")++"<lambda>"
section
variable{kd:Kd}{K:qM}{cs:Bool}{T T':Tk}
theorem rz:∀{ps:List Nat}{args:List Arg}{T T':Tk},FZ ps args T=some T'→aQ C T'→aQ C T∧args.map (·.arg)=ps.map C.nm
 |[],_,_,_,h,G=>by
  obtain⟨rfl,h⟩:=jo h
  injection h with h;subst h;exact⟨G,rfl⟩
 |x::l,_,T,T',h,G=>by
  obtain⟨a,r,rfl,h⟩:=bD h
  refine aw (rz (ps:=l) (args:=r) (T:=jK T a.arg x) h G:) fun g e=>?_
  refine aw (g.jK:) fun g e'=>?_
  exact⟨g,by rw [List.map_cons,List.map_cons,e,e']⟩
theorem IH(SO:eT C S){ps:List Nat}(h:gX ps=true):(ps.map C.nm).Nodup:=List.pairwise_map.mpr ((jL h).imp fun hne q=>hne (SO.inj _ _ q))
theorem ni{names:List (Str×NameKind)}{x:Str}{k:NameKind}:names.lookup x=some k→(x,k)∈names:=by
 induction names with
 |nil=>intro h;injection h
 |cons p r ih=>
  intro h;rw [List.lookup_cons]at h;cases q:x==p.1 with
  |true=>rw [q]at h;injection h with h;subst h;rw [beq_iff_eq.mp q];exact bW
  |false=>rw [q]at h;exact cq _ (ih h)
theorem yj{k:ScopeKind}(h:isFn k=true):k=.function:=of_decide_eq_true h
theorem Eu{a:Arguments}(h:Qk a=true):a.posonlyargs=[]∧a.vararg=none∧a.kwonlyargs=[]∧a.kwarg=none:=
 ⟨bH (ae h).1,iG (ae (ae h).2).1,bH (ae (ae (ae h).2).2).1,iG (ae (ae (ae h).2).2).2⟩
structure Qy(C:Cx)(e:FE)(f:Fn)(v:SV)(t:kC):Prop where
 ar:Qk v.ar=true
 kind:v.sc.kind=.function
 co:v.sc.isCoroutine=false
 gen:v.sc.isGenerator=false
 free:t.all (fun p=>!Nat.beq (kB p.2) 2)=true
 loc:f.ps.all (fun x=>iX (gY t x) 0||iX (gY t x) 1)=true
 nd:gX f.ps=true
 en:v.sc.names=t.map (fun p=>(C.nm p.1,p.2))
 ea:v.ar.args.map (·.arg)=f.ps.map C.nm
theorem LG(SO:eT C S){e:FE}{f:Fn}{v:SV}{p:kC×List Nat×Tk}(hp:mB T v.sc.names=some p)(h:UQ S e f v p=some T')(G:aQ C T')
  (R:v.sc.names=p.1.map (fun p=>(C.nm p.1,p.2))→KR C kd ⟨p.1,e.lam⟩):aQ C T∧Qy C e f v p.1∧cZ C kd (!e.lam) f.body v.ys:=by
 obtain⟨t,l,T1⟩:=p
 refine aw (aB h:) fun h1 h=>?_
 refine aC (aY h:) fun T2 h2 h=>?_
 refine aC (aY h:) fun T3 h3 h=>?_
 injection h with h;subst h;refine aw (mQ hp G:) fun g en=>?_
 refine aw (lY (O6 (cs:=!e.lam) SO (R en) 60) h3 g:) fun g fx=>?_
 refine aw (rz h2 g:) fun g ea=>?_
 refine aw (ae h1:) fun a0 h1=>?_
 refine aw (ae h1:) fun a1 h1=>?_
 refine aw (ae h1:) fun a2 h1=>?_
 refine aw (ae h1:) fun a3 h1=>?_
 refine aw (ae h1:) fun a4 h1=>?_
 refine aw (ae h1:) fun a5 a6=>?_
 exact⟨jI hp g,⟨a0,yj a1,dy a2,dy a3,a4,a5,a6,en,ea⟩,fx⟩
theorem Qy.rB{e:FE}{f:Fn}{v:SV}(V:Qy C e f v t)(x:Str)(q:v.sc.names.lookup x=some .free):False:=by
 refine aC (kJ V.en (ni q):) fun p hp ep=>?_
 exact CY (a:=p.2) (b:=.free) rfl (bS V.free p hp) (Prod.mk.inj ep).2.symm
theorem Qy.kinds{e:FE}{f:Fn}{v:SV}(SO:eT C S)(V:Qy C e f v t):∀x∈f.ps,v.sc.names.lookup (C.nm x)=some .local∨v.sc.names.lookup (C.nm x)=some .cell:=fun x m=>by
 rw [V.en,eC SO.inj];exact(fQ (bS V.loc x m)).imp tX CX
def kdOf(body:List Stmt)(e:FE):Kd:=⟨fun x=>(jy body e.i e.j).2.sc.names.lookup x,if e.lam then some e.c else none,nN body e++".<locals>."⟩
theorem OE(SO:eT C S){body:List Stmt}{e:FE}{f:Fn}(H:HF C body e f)(en:(jy body e.i e.j).2.sc.names=t.map (fun p=>(C.nm p.1,p.2))):KR C (kdOf body e) ⟨t,e.lam⟩:=by
 refine⟨fun x=>?_,fun hl=>?_⟩
 ·show(jy body e.i e.j).2.sc.names.lookup (C.nm x)=gY t x
  rw [en];exact eC SO.inj x t
 ·refine aC (H.tab hl:) fun P p1 p2=>?_
  exact⟨e.c,P,if_pos hl,p1,p2⟩
theorem Pd(SO:eT C S){fs:aE Fn}{body:List Stmt}{e:FE}{f:Fn}(hf:fs.get e.k=some f)(h:fF S fs body e T=some T')(G:aQ C T')(H:HF C body e f):aQ C T∧u4 C e.k f:=by
 refine aC (aM h:) fun f' ef h=>?_
 cases hf.symm.trans ef
 refine aC (aM h:) fun p hp h=>?_
 refine dJ (LG SO hp h G (OE SO H):) fun g V fx=>?_
 refine⟨⟨g.1,g.2⟩,?_⟩
 refine lI (H.Xt:) fun ds d1 d2 d3=>?_
 refine lJ (Eu V.ar:) fun r1 r2 r3 r4=>?_
 exact⟨{cls:=.type "function",data:=.func (fdOf body e)},fdOf body e,(jy body e.i e.j).2.ys,!e.lam,ds,kdOf body e,{
  at_:=H.a▸H.get
  data:=rfl
  code:=H.code
  n4:=rfl
  vd:=rfl
  glob:=rfl
  iZ:=rfl
  kind:=V.kind
  co:=V.co
  gen:=V.gen
  pos:=r1
  args:=V.ea
  vararg:=r2
  OC:=r3
  kwarg:=r4
  nd:=IH SO V.nd
  PI:=d1
  dflt:=by
   rcases d2 with⟨q1,q2⟩|⟨T,o,n,q1,q2,q3⟩
   ·exact .inl ⟨show(match e.df with|some d=>Value.ref d|none=>.none)=_ by rw [q1],q2⟩
   ·exact .inr ⟨T,o,n,show(match e.df with|some d=>Value.ref d|none=>.none)=_ by rw [q1],q2,q3⟩
  PF:=d3
  rB:=fun x q=>V.rB x q
  kinds:=V.kinds SO
  EM:=rfl
  lh:=fun c q=>by
   cases hl:e.lam with
   |true=>
    have q:(if e.lam then some e.c else none)=some c:=q
    rw [hl]at q;injection q with q;subst q;exact⟨rfl,rfl,rfl⟩
   |false=>
    have q:(if e.lam then some e.c else none)=some c:=q
    rw [hl]at q;injection q
  fits:=fx}⟩
structure TZ(C:Cx)(r:LR)(ps cs:List Nat)(e:CE)(t:kC):Prop where
 ar:Qk r.params=true
 kind:r.scope.kind=.function
 co:r.scope.isCoroutine=false
 gen:r.scope.isGenerator=false
 cell:t.all (fun p=>!Nat.beq (kB p.2) 1)=true
 loc:ps.all (fun x=>iX (gY t x) 0)=true
 free:t.all (fun p=>!Nat.beq (kB p.2) 2||gz p.1 cs)=true
 apart:cs.all (fun x=>iX (gY t x) 2)=true
 nd:gX ps=true
 bR:r.bR=cs
 en:r.scope.names=t.map (fun p=>(C.nm p.1,p.2))
 ea:r.params.args.map (·.arg)=ps.map C.nm
 fits:aW C ⟨fun x=>r.scope.names.lookup x,none,""⟩ e r.body
theorem GN(SO:eT C S){r:LR}{T0:Tk}{ps cs:List Nat}{p:kC×List Nat×Tk}(hp:mB T0 r.scope.names=some p)(h:Pa S r T ps cs e p=some T')(G:aQ C T'):aQ C T0∧TZ C r ps cs e p.1:=by
 obtain⟨t,l,T1⟩:=p
 refine aw (aB h:) fun h1 h=>?_
 refine aC (aY h:) fun T2 h2 h=>?_
 refine aC (aY h:) fun T3 h3 h=>?_
 refine aw (aB h:) fun hl h=>?_
 injection h with h;subst h;refine aw (mQ (C:=C) (T':=T3) hp ⟨G.1,(fun x m=>by rw [show(pushS l r.scope.names T3).pn=[]from bH hl]at m;cases m),G.2.2⟩:) fun g en=>?_
 have R:KR C ⟨fun x=>r.scope.names.lookup x,none,""⟩ ⟨t,false⟩:=⟨fun x=>by
  show r.scope.names.lookup (C.nm x)=gY t x;rw [en];exact eC SO.inj x t,fun hl=>by injection hl⟩
 refine aw (mq SO 60 _ _ R _ _ _ _ h3 g:) fun g fx=>?_
 refine aw (rz h2 g:) fun g ea=>?_
 refine aw (ae h1:) fun a0 h1=>?_
 refine aw (ae h1:) fun a1 h1=>?_
 refine aw (ae h1:) fun a2 h1=>?_
 refine aw (ae h1:) fun a3 h1=>?_
 refine aw (ae h1:) fun a4 h1=>?_
 refine aw (ae h1:) fun a5 h1=>?_
 refine aw (ae h1:) fun a6 h1=>?_
 refine aw (ae h1:) fun a7 h1=>?_
 refine aw (ae h1:) fun a8 a9=>?_
 exact⟨jI hp g,⟨a0,yj a1,dy a2,dy a3,a4,a5,a6,a7,a8,kr a9,en,ea,fx⟩⟩
theorem TZ.fn(SO:eT C S){r:LR}{ps cs:List Nat}(V:TZ C r ps cs e t)(fd:FuncData)(b1:fd.body=.expr r.body)(b2:fd.params=r.params)(b3:fd.scope=r.scope)(b4:fd.globals=mainGlobals)(b5:fd.builtins=builtinsNs)(b6:fd.defaults=.none):
  oT C r.k ps cs e fd r.body ⟨fun x=>r.scope.names.lookup x,none,""⟩:=by
 refine lJ (Eu V.ar:) fun r1 r2 r3 r4=>?_
 exact{
  n4:=b1
  glob:=b4
  iZ:=b5
  kind:=b3▸V.kind
  co:=b3▸V.co
  gen:=b3▸V.gen
  pos:=b2▸r1
  args:=b2▸V.ea
  vararg:=b2▸r2
  OC:=b2▸r3
  kwarg:=b2▸r4
  dflt:=b6
  nd:=IH SO V.nd
  cell:=fun x m=>by
   rw [b3]at m;obtain⟨p,hp,rfl⟩:=kJ V.en m
   exact CY rfl (bS V.cell p hp)
  loc:=fun x m=>by
   rw [b3,V.en,eC SO.inj];exact tX (bS V.loc x m)
  free:=fun x q=>by
   rw [b3]at q;refine aC (kJ V.en (ni q):) fun p hp ep=>?_
   refine aw (Prod.mk.inj ep:) fun e1 e2=>?_
   have:=bS V.free p hp
   rw [←e2]at this;exact⟨p.1,jr (rJ this rfl),e1⟩
  apart:=fun x m=>by
   rw [b3,V.en,eC SO.inj];exact Gg (bS V.apart x m)
  EM:=by rw [b3]
  lh:=rfl
  fits:=V.fits}
theorem uq{gB:aE (List Nat×List Nat×CE)}{lt:List (Nat×List (List Nat))}{r:LR}{T T':Tk}(h:S2 S gB lt r T=some T'):T'.pn=T.pn:=by
 refine aC (aM h:) fun q Y h=>?_
 refine aC (aM h:) fun tp Y h=>?_
 refine aC (aM h:) fun p Y h=>?_
 refine aw (aB h:) fun Y h=>?_
 refine aC (aY h:) fun T2 Y h=>?_
 refine aC (aY h:) fun T3 Y h=>?_
 refine aw (aB h:) fun Y h=>?_
 injection h with h;subst h;rfl
theorem LF(SO:eT C S){gB:aE (List Nat×List Nat×CE)}{lt:List (Nat×List (List Nat))}{r:LR}(h:S2 S gB lt r T=some T')(G:aQ C T'):aQ C T∧∀ps cs e,gB.get r.k=some (ps,cs,e)→
  r.bR=cs∧∀fd:FuncData,fd.body=.expr r.body→fd.params=r.params→fd.scope=r.scope→fd.globals=mainGlobals→fd.builtins=builtinsNs→fd.defaults=.none→∃body kd,oT C r.k ps cs e fd body kd:=by
 have hs:=uq h
 refine aC (aM h:) fun q eq h=>?_
 refine aC (aM h:) fun tp Y h=>?_
 refine aC (aM h:) fun p hp h=>?_
 refine aw (GN SO hp h G:) fun g V=>?_
 refine⟨⟨g.1,hs▸G.2.1,g.2.2⟩,fun ps cs e q'=>?_⟩
 cases eq.symm.trans q'
 exact⟨V.bR,fun fd b1 b2 b3 b4 b5 b6=>⟨_,_,V.fn SO fd b1 b2 b3 b4 b5 b6⟩⟩
theorem qu{gB:aE (List Nat×List Nat×CE)}{lt:List (Nat×List (List Nat))}:∀(l:List LR)(T T':Tk),Ac S gB lt l T=some T'→T'.pn=T.pn
 |[],T,T',h=>by injection h with h;subst h;rfl
 |r::l,T,T',h=>by
  unfold Ac at h;refine aC (aY h:) fun T1 h1 h2=>?_
  exact(qu l T1 T' h2).trans (uq h1)
end
noncomputable def iV(i:Int):CE:=.val (.int (.c i))
noncomputable def sV(l:List Nat):CE:=.val (.str l)
noncomputable def cG(k:Nat)(l:List CE):CE:=.call (.eW k) l
noncomputable def tN(v:α)(l r:aE α):aE α:=.node (some v) l r
noncomputable def tM(l r:aE α):aE α:=.node none l r
noncomputable def tO:aE α:=.nil
def oo:List CS:=[.b8 138 (iV 17),.for [29] true 0 (.iB (.n 168) none (some (iV 24))) [.b8 138 (.bin .add (.bin .mul (.n 138) (iV 1543)) (.bin .mod (.bin .add (.bin .mul (iV 2) (cG 3 [cG 10 [.n 29]])) (cG 10 [.cmp .lt (.n 29) (iV 0)])) (.bin .pow (iV 10) (iV 36))))],.ret (.list [.n 138,iV 0,.bin .add (.bin .mul (iV 2) (.n 138)) (iV 1)])]
def il:List CS:=[.b8 40 (cG 259 [.n 168]),.cP [36,184] (.t [cG 258 [.n 40,iV 2],cG 262 [.n 40,.t [.val (.bytes [.c 51]),.val (.bytes [.c 55]),.val (.bytes [.c 50,.c 48]),.val (.bytes [.c 49]),.val (.bytes [.c 52,.c 53])]]]),.cP [160,139] (.t [cG 334 [.n 40],cG 291 []]),.b8 65 (.t [.t [cG 261 [sV [73]],.val (.none),cG 180 [sV [67],.n 36]],.t [cG 261 [sV [71]],.val (.none),.val (.none)]]),.b8 199 (cG 180 [sV [80],.n 36]),.b8 6 (.t [sV [117,110,115,116,114,105,110,103],cG 261 [sV [83]],.t [.t [.t [sV [116,101,120,116],.val (.bytes [.c 44])],.val (.bool false)]],.n 65,.n 199,cG 180 [sV [78],.n 36],.t []]),.ite (.cmp .ne (cG 332 [.n 139,.n 160,.n 6]) (cG 217 [.n 160])) [.ret (.val (.bool false))] [],.b8 319 (.t [sV [115,116,114,105,110,103],.t [.t [.t [sV [116,101,120,116],.n 184],.val (.none)]],cG 261 [sV [73]],.n 199,.t []]),.b8 113 (cG 260 [.n 160,.bin .add (iV 21) (.bin .mul (iV 2) (.bin .sub (.idx (.n 160) (iV 5)) (iV 49))),.val (.bytes [.c 48,.c 49])]),.for [16] true 0 (.t [.n 160,.n 113]) [.ite (.cmp .ne (cG 332 [.n 139,.n 16,.n 319]) (cG 333 [.n 16,.n 184])) [.ret (.val (.bool false))] []],.ret (.val (.bool true))]
def AW:aE Fn:=(tM (tM (tM (tM (tN ⟨[73,2],[],[.ite (.cmp .oX (.iB (.n 73) (some (.n 2)) (some (.bin .add (.n 2) (iV 2)))) (.t [sV [67,82],sV [68,66]])) [.bad 0] [],.ite (.cmp .Cw (.idx (.n 73) (.n 2)) (.eW 79)) [.bad 0] [],.ret (.idx (.n 73) (.n 2))]⟩ (tM (tM (tN ⟨[43],[],[.ite (.cmp .tZ (.attr (.n 43) 137) (.val (.none))) [.bad 0] [],.ite (.not (cG 226 [.n 43])) [.ret (cG 249 [.n 43])] [],.b8 47 (.comp (.n 11) [11] true (cG 314 [.n 43]) [.cmp .eq (.attr (.n 11) 278) (sV [])]),.ret (.bG (.val (.bytes [])) 44 [.comp (.bin .mul (cG 367 [.n 11]) (.bG (.n 11) 89 [])) [11] true (.n 47) []])]⟩ tO tO) (tN ⟨[67,68,89,2],[],[.aT (.n 67) 68 (.n 68),.aT (.n 67) 89 (.n 89),.aT (.n 67) 2 (.n 2)]⟩ tO tO)) (tN ⟨[43],[],[.b8 52 (.bin .add (.rev (cG 370 [.n 43])) (.list [.n 43])),.ret (.comp (.n 16) [16] true (.n 52) [.cmp .tZ (.attr (.n 16) 162) (.val (.none))])]⟩ (tN ⟨[121,83,184],[],[.b8 112 (.bG (.n 121) 318 []),.ite (.cmp .lt (.n 112) (iV 0)) [.ret (.n 184)] [],.bad 0,.bad 0,.bad 0,.bad 0,.bad 0,.bad 0]⟩ tO tO) (tN ⟨[67],[],[.aT (.n 67) 213 (.list []),.aT (.n 67) 192 (.list []),.aT (.n 67) 94 (.eD [] []),.aT (.n 67) 124 (.list []),.aT (.n 67) 69 (iV 0),.aT (.n 67) 187 (.eD [] [])]⟩ tO tO))) (tM (tN ⟨[121,163],[],[.ite (.cmp .eq (.attr (.n 121) 220) (sV [110,117,109,101,114,105,99])) [.ret (cG 275 [.n 121,.n 163])] [],.ite (.cmp .eq (.attr (.n 121) 220) (sV [101,100,105,116,101,100])) [.bad 0] [],.ret (cG 183 [cG 415 [.n 163]])]⟩ (tN ⟨[163,175,2],[],[.ret (.cmp .eq (.iB (.n 163) (some (.n 2)) (some (.bin .add (.n 2) (cG 12 [.n 175])))) (.n 175))]⟩ tO tO) (tN ⟨[67],[],[.ite (.or [.cmp .eq (.bG (.n 67) 151 []) (iV 0),.cmp .oX (.attr (.n 67) 49) (.t [sV [44],sV [46]])]) [.ret (.val (.bool false))] [],.ret (.cmp .le (.bin .add (.bin .add (.bG (.n 67) 151 []) (.attr (.n 67) 50)) (.attr (.n 67) 133)) (.eW 417))]⟩ tO tO)) (tN ⟨[43,90],[],[.b8 69 (iV 0),.b8 83 (.list []),.for [11] true 0 (cG 314 [.n 43]) [.ex (cG 280 [.n 11,.bin .add (.n 90) (iV 1)]),.ite (.cmp .eq (.attr (.n 11) 278) (sV [])) [.b8 69 (.bin .add (.n 69) (cG 326 [.n 11]))] [.bad 0],.ex (.bG (.n 83) 146 [.n 11])],.ite (.cmp .gt (.bin .mul (.n 69) (.bG (.n 43) 89 [])) (.eW 412)) [.bad 0] [],.ret (.n 69)]⟩ (tN ⟨[56,36],[],[.b8 16 (cG 261 [sV [73]]),.ret (.t [sV [114,101,102],.n 56,.t [],.t [.ite (.cmp .eq (.n 36) (iV 0)) (.n 16) (.t [sV [45],.t [sV [43],.n 16,.n 16],.n 16])],.val (.none)])]⟩ tO tO) tO))) (tN ⟨[73],[],[.ite (.cmp .gt (cG 12 [.n 73]) (.eW 255)) [.bad 0] [],.b8 97 (.bG (sV []) 44 [.comp (.ite (.chain .le (sV [97]) (.n 68) .le (sV [122])) (.bad 0) (.n 68)) [68] true (.n 73) []]),.b8 123 (cG 242 [.n 97]),.ite (.cmp .ne (.comp (.n 16) [16] true (.n 123) [.cmp .oX (.attr (.n 16) 68) (.t [sV [65],sV [88]])]) (.list [])) [.ret (cG 382 [.n 97,.n 123])] [],.ret (cG 407 [.n 97,.n 123])]⟩ (tM (tN ⟨[121,163],[],[.ite (.cmp .ne (cG 12 [.n 163]) (.attr (.n 121) 69)) [.bad 0] [],.ite (.cmp .eq (.attr (.n 121) 136) (sV [100,105,115,112,108,97,121])) [.ret (cG 389 [.n 121,.n 163])] [],.bad 0,.bad 0,.ret (.n 96)]⟩ (tN ⟨[139,58],[],[.ite (.cmp .is (.n 58) (.val (.none))) [.ret (.val (.none))] [],.bad 0,.bad 0]⟩ tO tO) tO) (tN ⟨[96,56],[],[.ite (.cmp .eq (cG 12 [.n 96]) (iV 0)) [.bad 0] [],.ite (.cmp .gt (cG 12 [.n 96]) (iV 1)) [.bad 0] [],.ret (.idx (.n 96) (iV 0))]⟩ (tN ⟨[139,19],[],[.cP [75,56,316,320,58] (.n 19),.b8 194 (cG 134 [.comp (cG 409 [.n 139,.n 33]) [33] true (.n 320) []]),.b8 32 (.ite (.cmp .is (.n 58) (.val (.none))) (.val (.none)) (.bad 0)),.ret (.t [.n 75,.n 56,.n 316,.n 194,.n 32])]⟩ tO tO) tO)) (tM (tN ⟨[131],[],[.ret (.and [cG 302 [.n 131,.eW 134],.cmp .eq (cG 12 [.n 131]) (iV 5),.cmp .eq (.idx (.n 131) (iV 0)) (sV [114,101,102])])]⟩ tO (tN ⟨[67],[],[.ite (.or [.cmp .ne (.attr (.n 67) 220) (sV [110,117,109,101,114,105,99]),.cmp .ne (.attr (.n 67) 136) (sV [100,105,115,112,108,97,121]),.not (.attr (.n 67) 272)]) [.ret (.neg (iV 1))] [],.ret (.ite (.cmp .eq (.attr (.n 67) 68) (sV [108,101,97,100,105,110,103])) (iV 0) (.bin .sub (.attr (.n 67) 69) (iV 1)))]⟩ tO tO)) (tM (tN ⟨[160,184],[],[.b8 2 (.bin .sub (.idx (.n 160) (iV 5)) (iV 49)),.ite (.cmp .ne (.idx (.n 160) (.bin .add (iV 22) (.bin .mul (iV 2) (.n 2)))) (iV 49)) [.ret (.t [.n 160,sV [111,118,101,114]])] [],.ret (.t [cG 360 [cG 260 [.n 160,iV 5,.iB (.n 184) none (some (iV 1))],.n 2,iV 2],.ite (.cmp .gt (cG 12 [.n 184]) (iV 1)) (sV [111,118,101,114]) (sV [])])]⟩ tO tO) tO)))) (tN ⟨[0,120,301],[],[.ite (.cmp .ge (.n 120) (.idx (.n 0) (iV 1))) [.ret (.bin .mul (.idx (.n 0) (iV 0)) (.bin .pow (iV 10) (.bin .sub (.n 120) (.idx (.n 0) (iV 1)))))] [],.bad 0,.bad 0,.bad 0,.bad 0]⟩ (tN ⟨[209],[],[.ret (cG 21 [.comp (.bin .mul (.n 89) (cG 12 [.n 68])) [68,89] false (.n 209) [.cmp .Cw (.n 68) (.bG (.eW 356) 125 [sV [32]])]])]⟩ (tM (tN ⟨[30],[],[.ite (.cmp .oX (.n 30) (.eW 358)) [.bad 0] [],.ite (.cmp .oX (.n 30) (.eW 384)) [.bad 0] [],.ret (.t [.bin .sub (.n 30) (.eW 385),.val (.bool false)])]⟩ (tN ⟨[33,161],[],[.b8 59 (.list []),.for [48,58] false 0 (cG 200 [.n 33]) [.ite (.cmp .eq (.n 48) (sV [108,101,97,102])) [.ex (.bG (.n 59) 146 [.call (.n 161) [.n 58]])] [.ite (.cmp .eq (.n 58) (sV [110,101,103])) [.bad 0] [.b8 118 (.bG (.n 59) 18 []),.ex (.bG (.n 59) 146 [cG 182 [.n 58,.bG (.n 59) 18 [],.n 118]])]]],.ret (.bG (.n 59) 18 [])]⟩ tO tO) (tN ⟨[67,89,228],[],[.ite (.cmp .ne (.attr (.n 67) 115) (sV [])) [.bad 0,.bad 0] []]⟩ tO tO)) (tN ⟨[43],[],[.b8 96 (cG 212 [.n 43,.lam 0 []]),.ret (.ite (.cmp .ne (.n 96) (sV [])) (.n 96) (sV [100,105,115,112,108,97,121]))]⟩ (tN ⟨[71,163],[],[.cP [160,164,121] (.n 71),.i0 (.n 160) (.n 164) (.bin .add (.n 164) (.attr (.n 121) 69)) (cG 238 [.n 163,.n 121])]⟩ tO tO) (tN ⟨[67,56,31,94,315,299],[(.bool false)],[.aT (.n 67) 56 (.n 56),.aT (.n 67) 31 (.n 31),.aT (.n 67) 94 (.n 94),.aT (.n 67) 315 (.n 315),.aT (.n 67) 299 (.n 299)]⟩ tO tO))) (tN ⟨[197,369,391],[],[.ite (.and [.n 369,.bad 0]) [.bad 0] [],.ite (.and [.n 391,.bad 0]) [.bad 0] [],.ite (.and [.n 391,.bad 0]) [.bad 0] []]⟩ (tN ⟨[171,163,37],[],[.ite (.not (cG 219 [.attr (.n 171) 220,.attr (.n 37) 220])) [.bad 0] [],.ite (.or [.cmp .eq (.attr (.n 171) 220) (sV [103,114,111,117,112]),.cmp .eq (.attr (.n 37) 220) (sV [103,114,111,117,112])]) [.bad 0] [],.ite (.cmp .oX (.attr (.n 37) 220) (.eW 177)) [.ret (cG 308 [.n 37,cG 401 [.n 171,.n 163]])] [],.ret (cG 245 [.n 37,cG 211 [.n 171,.n 163]])]⟩ (tN ⟨[163,297,2],[],[.for [55,157] false 0 (.n 297) [.ite (.cmp .eq (cG 12 [.n 55]) (iV 0)) [.bad 0] [],.ite (cG 191 [.n 163,.n 55,.n 2]) [.ret (.t [.n 55,.n 157])] []],.ret (.val (.none))]⟩ tO tO) tO) (tN ⟨[64,164,28],[],[.ex (cG 280 [.n 64,iV 0]),.ex (cG 351 [.n 64,.n 164,.n 28]),.for [43] true 0 (.attr (.n 64) 47) [.ite (.cmp .eq (.attr (.n 43) 100) (.eW 214)) [.bad 0] []]]⟩ (tN ⟨[160,164,163],[],[.ret (.bin .add (.bin .add (.iB (.n 160) none (some (.n 164))) (.n 163)) (.iB (.n 160) (some (.bin .add (.n 164) (cG 12 [.n 163]))) none))]⟩ tO tO) tO))) (tM (tN ⟨[121],[],[.ret (.cmp .eq (.attr (.n 121) 220) (sV [110,117,109,101,114,105,99]))]⟩ (tN ⟨[171,37],[],[.ret (.cmp .oX (.n 37) (cG 223 [.n 171]))]⟩ (tN ⟨[139,33],[],[.ret (cG 239 [.n 33,.lam 1 [139]])]⟩ tO tO) tO) (tN ⟨[43],[],[.b8 136 (cG 250 [.n 43]),.ite (.cmp .eq (.n 136) (sV [105,110,100,101,120])) [.bad 0,.bad 0] [],.ite (.cmp .is (.attr (.n 43) 375) (.val (.none))) [.bad 0] [],.b8 197 (cG 377 [.attr (.n 43) 375]),.b8 392 (.and [.cmp .eq (.n 136) (sV [100,105,115,112,108,97,121]),.cmp .eq (.attr (.n 197) 220) (sV [110,117,109,101,114,105,99]),.attr (.n 197) 272]),.cP [68,342] (.ite (.or [.cmp .ne (.attr (.n 43) 68) (sV []),.n 392]) (cG 206 [.n 43]) (.t [sV [116,114,97,105,108,105,110,103],.val (.bool false)])),.ret (cG 241 [.n 197,.n 136,.n 68,.n 342,.attr (.n 43) 369,.attr (.n 43) 391])]⟩ (tN ⟨[168],[],oo⟩ tO tO) tO)) (tM (tN ⟨[31],[],[.b8 96 (.list []),.for [64] true 0 (cG 202 [.n 31]) [.ex (.bG (.n 96) 153 [cG 344 [.n 64]])],.ret (.n 96)]⟩ (tN ⟨[281,98],[],[.b8 110 (.list []),.for [195,265] false 0 (.idx (.n 281) (iV 1)) [.b8 55 (.ite (.cmp .is (.n 265) (.val (.none))) (.val (.none)) (.bad 0)),.ex (.bG (.n 110) 146 [.t [cG 348 [.n 195,.n 98],.n 55]])],.cP [37,85] (.t [cG 348 [.idx (.n 281) (iV 2),.n 98],cG 198 [.idx (.n 281) (iV 3),.n 98]]),.ite (.not (.chain .le (iV 1) (.n 85) .le (cG 12 [.n 37]))) [.ret (sV [111,118,101,114])] [],.cP [163,270,57] (cG 172 [.n 110,.n 37,.n 85]),.ex (.bG (.n 98) 114 [.idx (.n 281) (iV 2),.n 163]),.ex (cG 233 [.idx (.n 281) (iV 3),.n 270,.n 98]),.ret (.ite (.n 57) (sV [111,118,101,114]) (sV []))]⟩ tO tO) (tN ⟨[67,11],[],[.aT (.n 11) 165 (.n 67),.ex (.bG (.attr (.n 67) 47) 146 [.n 11])]⟩ tO tO)) (tN ⟨[31,43],[],[.ite (.cmp .tZ (.attr (.attr (.n 43) 162) 266) (.val (.none))) [.bad 0,.bad 0,.bad 0] [],.b8 107 (.comp (.attr (.n 16) 56) [16] true (cG 344 [.n 43]) []),.for [368,56] false 0 (.attr (.attr (.n 43) 162) 46) [.bad 0]]⟩ tO tO))))) (tN ⟨[0,1],[],[.cP [95,169,120] (cG 383 [.n 0,.n 1]),.ret (cG 183 [.bin .add (.n 95) (.n 169),.n 120])]⟩ (tM (tN ⟨[73],[],[.cP [96,2] (.t [.list [],iV 0]),.while (.cmp .lt (.n 2) (cG 12 [.n 73])) [.b8 68 (cG 205 [.n 73,.n 2]),.cP [89,7] (cG 221 [.n 73,.bin .add (.n 2) (cG 12 [.n 68])]),.ite (.and [.cmp .gt (.n 7) (.bin .add (.n 2) (cG 12 [.n 68])),.cmp .oX (.n 68) (.bG (.eW 402) 125 [sV [32]])]) [.bad 0] [],.ex (.bG (.n 96) 146 [cG 27 [.n 68,.n 89,.n 2]]),.b8 2 (.n 7)],.ret (.n 96)]⟩ (tM (tN ⟨[121,135],[],[.b8 51 (cG 303 [.n 121,.n 135]),.ite (.cmp .eq (.attr (.n 121) 136) (sV [100,105,115,112,108,97,121])) [.ret (cG 403 [.n 121,.n 51])] [],.bad 0]⟩ (tN ⟨[33],[],[.b8 96 (.list []),.b8 52 (.list [.t [sV [101,120,112,114],.n 33]]),.while (.n 52) [.cP [48,41] (.bG (.n 52) 18 []),.ite (.cmp .eq (.n 48) (sV [111,112])) [.ex (.bG (.n 96) 146 [.t [.n 48,.n 41]])] [.ite (.cmp .oX (.idx (.n 41) (iV 0)) (.eW 256)) [.ex (.bG (.n 52) 153 [.list [.t [sV [111,112],.idx (.n 41) (iV 0)],.t [sV [101,120,112,114],.idx (.n 41) (iV 2)],.t [sV [101,120,112,114],.idx (.n 41) (iV 1)]]])] [.ite (.cmp .eq (.idx (.n 41) (iV 0)) (sV [110,101,103])) [.bad 0] [.ex (.bG (.n 96) 146 [.t [sV [108,101,97,102],.n 41]])]]]],.ret (.n 96)]⟩ tO tO) (tN ⟨[67],[],[.aT (.n 67) 66 (iV 0),.aT (.n 67) 229 (.val (.bool false)),.aT (.n 67) 115 (sV []),.aT (.n 67) 50 (iV 0),.aT (.n 67) 133 (iV 0),.aT (.n 67) 108 (iV 0),.aT (.n 67) 76 (sV []),.aT (.n 67) 141 (iV 0),.aT (.n 67) 156 (iV 0),.aT (.n 67) 148 (iV 0),.aT (.n 67) 188 (.val (.bool false)),.aT (.n 67) 68 (sV []),.aT (.n 67) 105 (sV []),.aT (.n 67) 49 (sV []),.aT (.n 67) 189 (.val (.bool false)),.aT (.n 67) 340 (.val (.bool false))]⟩ tO tO)) (tN ⟨[43],[],[.ret (.comp (.n 11) [11] true (.attr (.n 43) 47) [.cmp .ne (.attr (.n 11) 100) (.eW 214)])]⟩ (tN ⟨[139,19,163],[],[.cP [160,164,121] (cG 207 [.n 139,.n 19]),.ite (.cmp .ne (.attr (.n 121) 136) (sV [100,105,115,112,108,97,121])) [.bad 0] [],.i0 (.n 160) (.n 164) (.bin .add (.n 164) (.attr (.n 121) 69)) (cG 380 [.n 121,cG 87 [.iB (.n 160) (some (.n 164)) (some (.bin .add (.n 164) (.attr (.n 121) 69)))],.n 163])]⟩ tO tO) (tN ⟨[67,201,122,65],[],[.aT (.n 67) 201 (.n 201),.aT (.n 67) 122 (.n 122),.aT (.n 67) 65 (cG 53 [.n 65]),.aT (.n 67) 286 (.list []),.aT (.n 67) 160 (cG 264 [cG 405 [.attr (.n 201) 31]]),.aT (.n 67) 187 (.eD [] []),.for [56] true 0 (cG 170 [.attr (.attr (.n 201) 31) 187]) [.bad 0],.aT (.n 67) 101 (.eD [] []),.aT (.n 67) 186 (.eD [] []),.aT (.n 67) 310 (.list []),.aT (.n 67) 235 (.val (.bytes [])),.aT (.n 67) 124 (.eD [] [])]⟩ tO tO))) (tN ⟨[197,136],[],[.ite (.cmp .Cw (.n 136) (.bG (.eW 144) 125 [sV [32]])) [.bad 0] [],.ite (.cmp .eq (.n 136) (sV [105,110,100,101,120])) [.bad 0] [],.ite (.and [.cmp .ne (.n 136) (sV [100,105,115,112,108,97,121]),.bad 0]) [.bad 0] []]⟩ (tN ⟨[121,163],[],[.ite (.cmp .eq (.attr (.n 121) 220) (sV [97,108,110,117,109,45,101,100,105,116,101,100])) [.bad 0] [],.ret (cG 181 [.n 163,.attr (.n 121) 69,.attr (.n 121) 369])]⟩ (tN ⟨[163,265],[],[.ite (.cmp .is (.n 265) (.val (.none))) [.ret (.n 163)] [],.bad 0,.bad 0]⟩ tO tO) tO) (tM (tN ⟨[161],[],[.ret (cG 87 [.list [.bin .add (iV 48) (.bin .div (.n 161) (iV 10)),.bin .add (iV 48) (.bin .mod (.n 161) (iV 10))]])]⟩ tO tO) tO))) (tM (tM (tN ⟨[121,161],[],[.ret (cG 309 [.n 121,cG 246 [.n 161,.attr (.n 121) 120,.val (.bool false)]])]⟩ (tN ⟨[139,195],[],[.ite (.cmp .eq (.idx (.n 195) (iV 0)) (sV [114,101,102])) [.cP [160,164,121] (cG 207 [.n 139,.n 195]),.ret (.t [.n 121,cG 87 [.iB (.n 160) (some (.n 164)) (some (.bin .add (.n 164) (.attr (.n 121) 69)))]])] [],.ite (.cmp .eq (.idx (.n 195) (iV 0)) (sV [110,117,109,98,101,114])) [.bad 0,.bad 0] [],.ite (.cmp .eq (.idx (.n 195) (iV 0)) (sV [116,101,120,116])) [.ret (.t [cG 324 [.idx (.n 195) (iV 1)],.idx (.n 195) (iV 1)])] [],.bad 0]⟩ tO tO) tO) (tN ⟨[43,320,58],[],[.b8 173 (cG 397 [.n 43]),.ite (.cmp .ne (cG 12 [.n 320]) (cG 12 [.n 173])) [.bad 0] [],.b8 164 (.attr (.n 43) 164),.for [128,282] false 2 (.t [.n 173,.n 320]) [.ite (.not (.chain .le (iV 1) (.n 282) .le (.attr (.attr (.n 128) 162) 42))) [.bad 0] [],.b8 164 (.bin .add (.n 164) (.bin .mul (.bin .sub (.n 282) (iV 1)) (.attr (.n 128) 69)))],.ite (.cmp .is (.n 58) (.val (.none))) [.ret (.t [.n 164,.attr (.n 43) 69])] [],.bad 0,.bad 0,.bad 0,.bad 0]⟩ (tN ⟨[139,281],[],[.ret (cG 352 [cG 353 [.n 139,.iB (.n 281) none (some (.neg (iV 1)))],cG 224 [.n 139]])]⟩ tO tO) tO)) (tM (tN ⟨[31],[],[.b8 96 (.list []),.for [56] true 0 (.attr (.n 31) 94) [.bad 0],.ret (.bin .add (.bin .add (.n 96) (.attr (.n 31) 213)) (.attr (.n 31) 192))]⟩ (tN ⟨[199,98],[],[.ret (.ite (.cmp .is (.n 199) (.val (.none))) (iV 1) (.bG (.n 98) 145 [.n 199]))]⟩ tO tO) tO) (tM (tN ⟨[168],[],il⟩ tO tO) tO)))) (tN ⟨[0],[],[.ret (cG 246 [.n 0,iV 0,.val (.bool false)])]⟩ (tN ⟨[209],[],[.b8 123 (.comp (.n 68) [68,89] false (.n 209) []),.ite (.or [.cmp .oX (sV [66]) (.n 123),.cmp .oX (sV [48]) (.n 123),.cmp .oX (sV [47]) (.n 123)]) [.bad 0] [],.ret (.ite (.cmp .eq (.n 123) (.list [sV [65]])) (sV [97,108,112,104,97,98,101,116,105,99]) (sV [97,108,112,104,97,110,117,109,101,114,105,99]))]⟩ (tM (tM (tN ⟨[139,43],[],[.ite (.cmp .eq (.attr (.n 43) 28) (sV [])) [.ret (.t [.attr (.n 139) 160,iV 0,cG 12 [.attr (.n 139) 160]])] [],.bad 0,.bad 0]⟩ tO tO) tO) (tN ⟨[31,43],[],[.b8 22 (cG 204 [.n 43]),.for [56] true 0 (.attr (.n 31) 94) [.bad 0],.ret (sV [])]⟩ (tN ⟨[139],[],[.ret (cG 77 [.lam 2 [139],.lam 3 [139],.lam 4 [139],.lam 5 [139],.lam 6 [139],.eW 273,.lam 7 []])]⟩ tO tO) tO)) (tN ⟨[69],[],[.ret (cG 80 [sV [103,114,111,117,112],.n 69])]⟩ (tN ⟨[195,121],[],[.ite (.cmp .eq (.n 195) (.t [sV [102,105,103,117,114,101],sV [90,69,82,79]])) [.ret (cG 308 [.n 121,cG 183 [iV 0]])] [],.bad 0,.bad 0]⟩ (tN ⟨[163,297,85],[],[.for [2] true 0 (cG 117 [.n 85,cG 12 [.n 163]]) [.b8 9 (cG 366 [.n 163,.n 297,.n 2]),.ite (.cmp .tZ (.n 9) (.val (.none))) [.ret (.t [.iB (.n 163) (some (.n 85)) (some (.n 2)),.idx (.n 9) (iV 0),cG 413 [.n 163,.idx (.n 9) (iV 0),.idx (.n 9) (iV 1),.n 2]])] []],.ret (.t [.iB (.n 163) (some (.n 85)) none,.val (.bytes []),cG 12 [.n 163]])]⟩ tO tO) (tN ⟨[67,220,69,197,136,68,342,369,391],[(.none),(.str [100,105,115,112,108,97,121]),(.str [116,114,97,105,108,105,110,103]),(.bool false),(.bool false),(.bool false)],[.aT (.n 67) 220 (.n 220),.aT (.n 67) 69 (.n 69),.aT (.n 67) 197 (.n 197),.aT (.n 67) 136 (.n 136),.aT (.n 67) 68 (.n 68),.aT (.n 67) 342 (.n 342),.aT (.n 67) 369 (.n 369),.aT (.n 67) 391 (.n 391),.aT (.n 67) 151 (iV 0),.aT (.n 67) 120 (iV 0),.aT (.n 67) 272 (.val (.bool false)),.ite (.and [.cmp .tZ (.n 197) (.val (.none)),.cmp .oX (.n 220) (.t [sV [110,117,109,101,114,105,99],sV [101,100,105,116,101,100]])]) [.aT (.n 67) 151 (.attr (.n 197) 151),.aT (.n 67) 120 (.attr (.n 197) 120),.aT (.n 67) 272 (.attr (.n 197) 272)] []]⟩ tO tO)) (tN ⟨[119,164],[],[.b8 7 (.n 164),.b8 83 (.list []),.for [64] true 0 (.n 119) [.ite (.cmp .eq (.attr (.n 64) 278) (sV [])) [.ex (cG 317 [.n 64,.n 7,sV []])] [.bad 0],.b8 7 (cG 14 [.n 7,.bin .add (.attr (.n 64) 164) (.attr (.n 64) 69)]),.ex (.bG (.n 83) 146 [.n 64])],.ret (.n 7)]⟩ (tN ⟨[73,112],[],[.b8 96 (.val (.bytes [])),.while (.and [.cmp .lt (.n 112) (cG 12 [.n 73]),.cmp .ne (.idx (.n 73) (.n 112)) (iV 44)]) [.cP [96,112] (.t [.bin .add (.n 96) (.iB (.n 73) (some (.n 112)) (some (.bin .add (.n 112) (iV 1)))),.bin .add (.n 112) (iV 1)])],.ret (.t [.n 96,cG 15 [.bin .add (.n 112) (iV 1),cG 12 [.n 73]]])]⟩ tO tO) tO))) (tM (tN ⟨[121],[],[.ret (.bin .pow (iV 10) (.attr (.n 121) 151))]⟩ (tN ⟨[163,69],[],[.ite (.cmp .eq (.n 163) (.val (.bytes []))) [.bad 0] [],.ret (.iB (.bin .mul (.n 163) (.bin .add (.bin .div (.n 69) (cG 12 [.n 163])) (iV 1))) none (some (.n 69)))]⟩ (tN ⟨[121,135],[],[.ite (.cmp .eq (.attr (.n 121) 220) (sV [101,100,105,116,101,100])) [.bad 0] [],.ret (cG 309 [.n 121,.n 135])]⟩ tO tO) tO) (tM (tN ⟨[40,70],[],[.ret (.idx (.n 70) (cG 258 [.n 40,cG 12 [.n 70]]))]⟩ tO tO) tO)) (tN ⟨[161,89],[],[.cP [96,62] (.t [.list [],.n 161]),.for [74] true 0 (cG 117 [.n 89]) [.ex (.bG (.n 96) 146 [.bin .mod (.n 62) (iV 10)]),.b8 62 (.bin .div (.n 62) (iV 10))],.ret (.rev (.n 96))]⟩ (tN ⟨[43],[],[.b8 147 (cG 370 [.n 43]),.ret (.ite (.cmp .ne (.n 147) (.list [])) (.idx (.n 147) (.neg (iV 1))) (.n 43))]⟩ (tN ⟨[281,98],[],[.b8 163 (cG 348 [.idx (.n 281) (iV 1),.n 98]),.b8 102 (.comp (.t [cG 348 [.n 195,.n 98],.n 157]) [195,157] false (.idx (.n 281) (iV 2)) []),.b8 85 (cG 198 [.idx (.n 281) (iV 4),.n 98]),.b8 126 (.comp (.bG (.n 98) 71 [.n 37]) [37,55,89] false (.idx (.n 281) (iV 3)) []),.b8 306 (.comp (.ite (.cmp .is (.n 55) (.val (.none))) (.val (.none)) (.bad 0)) [37,55,89] false (.idx (.n 281) (iV 3)) []),.ite (.not (.chain .le (iV 1) (.n 85) .le (cG 12 [.n 163]))) [.ret (sV [111,118,101,114])] [],.ite (.cmp .eq (.n 102) (.list [])) [.bad 0] [.cP [166,270,57] (cG 248 [.n 163,.n 102,.n 85,cG 12 [.n 126]])],.ex (cG 304 [.n 166,.idx (.n 281) (iV 3),.n 126,.n 306,.n 98]),.ex (cG 233 [.idx (.n 281) (iV 4),.n 270,.n 98]),.ite (.cmp .tZ (.idx (.n 281) (iV 5)) (.val (.none))) [.ex (.bG (.n 98) 45 [.idx (.n 281) (iV 5),.bin .add (.bG (.n 98) 145 [.idx (.n 281) (iV 5)]) (cG 12 [.n 166])])] [],.ret (.ite (.n 57) (sV [111,118,101,114]) (sV []))]⟩ tO tO) tO) tO))))) (tN ⟨[135,120],[(.int (.c (0)))],[.ite (.cmp .lt (.n 120) (iV 0)) [.bad 0] [],.while (.and [.cmp .gt (.n 120) (iV 0),.bad 0]) [.bad 0,.bad 0],.ret (.t [.n 135,.n 120])]⟩ (tN ⟨[0,1],[],[.b8 120 (cG 14 [.idx (.n 0) (iV 1),.idx (.n 1) (iV 1)]),.ret (.t [.bin .mul (.idx (.n 0) (iV 0)) (.bin .pow (iV 10) (.bin .sub (.n 120) (.idx (.n 0) (iV 1)))),.bin .mul (.idx (.n 1) (iV 0)) (.bin .pow (iV 10) (.bin .sub (.n 120) (.idx (.n 1) (iV 1)))),.n 120])]⟩ (tM (tN ⟨[73,2],[],[.ite (.cmp .ne (.iB (.n 73) (some (.n 2)) (some (.bin .add (.n 2) (iV 1)))) (sV [40])) [.ret (.t [iV 1,.n 2])] [],.b8 7 (.bG (.n 73) 34 [sV [41],.n 2]),.b8 184 (.iB (.n 73) (some (.bin .add (.n 2) (iV 1))) (some (cG 14 [.n 7,.n 2]))),.ite (.or [.not (.chain .le (iV 1) (cG 12 [.n 184]) .le (iV 4)),.cmp .ne (.comp (.n 68) [68] true (.n 184) [.cmp .Cw (.n 68) (.eW 176)]) (.list []),.cmp .eq (cG 10 [.n 184]) (iV 0)]) [.bad 0] [],.ret (.t [cG 10 [.n 184],.bin .add (.n 7) (iV 1)])]⟩ (tM (tM (tN ⟨[31],[],[.b8 96 (cG 264 [.bin .mul (.val (.bytes [.c 32])) (.attr (.n 31) 69)]),.for [56] true 0 (.attr (.n 31) 94) [.bad 0],.for [64] true 0 (.attr (.n 31) 213) [.ite (.cmp .eq (.attr (.n 64) 278) (sV [])) [.i0 (.n 96) (.attr (.n 64) 164) (.bin .add (.attr (.n 64) 164) (.attr (.n 64) 69)) (cG 367 [.n 64])] []],.ret (cG 87 [.n 96])]⟩ tO tO) tO) (tN ⟨[43],[],[.ret (.cmp .ne (.comp (.n 11) [11] true (.attr (.n 43) 47) [.cmp .ne (.attr (.n 11) 100) (.eW 214)]) (.list []))]⟩ (tN ⟨[139,195,69],[],[.ite (.cmp .oX (.idx (.n 195) (iV 0)) (.t [sV [102,105,103,117,114,101],sV [97,108,108]])) [.bad 0] [],.cP [121,163] (cG 311 [.n 139,.n 195]),.ret (cG 376 [.n 121,.n 163])]⟩ tO tO) tO)) (tN ⟨[197,136,342],[],[.ite (.cmp .eq (.n 136) (sV [112,97,99,107,101,100])) [.bad 0] [],.ite (.cmp .eq (.n 136) (sV [98,105,110,97,114,121])) [.bad 0] [],.ret (.bin .add (.attr (.n 197) 69) (.ite (.n 342) (iV 1) (iV 0)))]⟩ (tN ⟨[121,163],[],[.ite (.cmp .ne (.attr (.n 121) 220) (sV [110,117,109,101,114,105,99])) [.ret (.n 163)] [],.bad 0,.bad 0]⟩ tO (tN ⟨[67],[],[.ite (.cmp .gt (.attr (.n 67) 50) (iV 0)) [.bad 0] [],.ret (.bin .sub (.attr (.n 67) 148) (.attr (.n 67) 133))]⟩ tO tO)) (tN ⟨[43,164,28],[],[.aT (.n 43) 164 (.n 164),.aT (.n 43) 28 (.n 28),.b8 41 (.n 164),.b8 83 (.list []),.for [11] true 0 (cG 314 [.n 43]) [.ite (.cmp .eq (.attr (.n 11) 278) (sV [])) [.ex (cG 351 [.n 11,.n 41,.n 28]),.b8 41 (.bin .add (.n 41) (cG 326 [.n 11]))] [.bad 0],.ex (.bG (.n 83) 146 [.n 11])]]⟩ (tN ⟨[],[],[.cP [31,167] (.t [cG 24 [],cG 25 [iV 1,sV [82,69,67]]]),.for [56,197] false 0 (.t [.t [sV [83],sV [88,40,53,41]],.t [sV [73],sV [57]],.t [sV [71],sV [88,40,51,41]],.t [sV [67],sV [57]],.t [sV [78],sV [57,57]],.t [sV [80],sV [83,57,57]]]) [.b8 43 (cG 25 [iV 2,.n 56]),.aT (.n 43) 375 (.n 197),.ite (.cmp .oX (.n 56) (.t [sV [67],sV [78],sV [80]])) [.aT (.n 43) 162 (cG 143 [iV 4,iV 4])] [],.ex (.bG (.n 167) 4 [.n 43])],.aT (.n 31) 213 (.list [.n 167]),.ex (cG 190 [.n 31]),.ret (cG 81 [cG 179 [sV [80],.n 31,.eD [] [],.val (.none)],.val (.none),.list []])]⟩ tO tO) tO))) (tM (tM (tN ⟨[121,163],[],[.ret (cG 183 [cG 247 [.n 121,.n 163],.attr (.n 121) 120])]⟩ (tN ⟨[139,19],[],[.b8 43 (cG 269 [.attr (.attr (.n 139) 201) 31,.idx (.n 19) (iV 1),.idx (.n 19) (iV 2)]),.b8 58 (cG 196 [.n 139,.idx (.n 19) (iV 4)]),.cP [164,69] (cG 208 [.n 43,.comp (cG 251 [.n 139,.n 33]) [33] true (.idx (.n 19) (iV 3)) [],.n 58]),.cP [160,112] (cG 410 [.n 139,.n 43,.n 164,.n 69]),.ret (.t [.n 160,.n 112,.ite (.cmp .is (.n 58) (.val (.none))) (.attr (.n 43) 121) (.bad 0)])]⟩ tO tO) tO) (tN ⟨[31,56,316],[],[.b8 84 (.comp (.n 43) [43] true (cG 263 [.n 31]) [.cmp .eq (.attr (.n 43) 56) (.n 56)]),.ret (cG 234 [.comp (.n 43) [43] true (.n 84) [cG 393 [.bin .add (cG 371 [.n 43]) (.list [cG 185 [.n 31,.n 43]]),.n 316]],.n 56])]⟩ (tN ⟨[139,281],[],[.ret (cG 404 [.n 281,.lam 8 [139]])]⟩ tO tO) tO)) (tM (tN ⟨[131,149],[],[.ite (.not (cG 302 [.n 131,.eW 134])) [.ret (.n 131)] [],.b8 96 (cG 134 [.comp (cG 404 [.n 16,.n 149]) [16] true (.n 131) []]),.ret (.ite (cG 158 [.n 96]) (.call (.n 149) [.n 96]) (.n 96))]⟩ (tN ⟨[195,98],[],[.ret (.bG (.n 98) 93 [.n 195,iV 1])]⟩ tO tO) (tN ⟨[67,13,42,266,46,187],[(.none),(.t []),(.t [])],[.aT (.n 67) 13 (.n 13),.aT (.n 67) 42 (.n 42),.aT (.n 67) 266 (.n 266),.aT (.n 67) 46 (cG 134 [.n 46]),.aT (.n 67) 187 (cG 134 [.n 187])]⟩ tO tO)) (tN ⟨[31],[],[.aT (.n 31) 187 (.eD [] []),.b8 107 (.comp (.attr (.n 43) 56) [43] true (cG 263 [.n 31]) []),.for [43] true 0 (cG 263 [.n 31]) [.for [56] true 0 (.ite (.cmp .tZ (.attr (.n 43) 162) (.val (.none))) (.attr (.attr (.n 43) 162) 187) (.t [])) [.bad 0,.bad 0,.bad 0]]]⟩ (tN ⟨[139,160,281],[],[.i0 (.attr (.n 139) 160) (iV 0) (iV 29) (.n 160),.try [.b8 75 (.ite (.cmp .eq (.idx (.n 281) (iV 0)) (sV [115,116,114,105,110,103])) (cG 267 [.n 139,.n 281]) (cG 336 [.n 139,.n 281]))],.ret (.t [cG 87 [.attr (.n 139) 160],.n 75])]⟩ tO tO) tO)))) (tN ⟨[0],[],[.ret (.cmp .eq (.idx (.n 0) (iV 1)) (iV 0))]⟩ (tN ⟨[73,123],[],[.cP [109,209] (.t [cG 78 [],cG 321 [.n 123]]),.for [16] true 0 (.n 123) [.ex (.bG (.n 109) 72 [.n 16])],.ite (.or [.not (.bG (.n 109) 230 []),.cmp .gt (cG 411 [.n 209]) (.eW 416)]) [.bad 0] [],.b8 113 (.cmp .eq (.comp (.n 68) [68,89] false (.n 209) [.cmp .Cw (.n 68) (.bG (.eW 331) 125 [sV [32]])]) (.list [])),.b8 220 (.ite (.n 113) (sV [110,117,109,101,114,105,99]) (sV [101,100,105,116,101,100])),.b8 272 (.or [.attr (.n 109) 229,.cmp .ne (.attr (.n 109) 68) (sV [])]),.ret (cG 178 [.n 73,.n 209,.n 220,.bG (.n 109) 151 [],.bG (.n 109) 120 [],.n 272,cG 411 [.n 209]])]⟩ (tM (tN ⟨[121,163],[],[.cP [184,341] (.t [.comp (.bin .sub (.n 30) (.eW 385)) [30] true (.n 163) [],.val (.bool false)]),.b8 112 (.bG (.n 121) 318 []),.ite (.and [.cmp .ge (.n 112) (iV 0),.attr (.n 121) 342]) [.bad 0,.bad 0,.bad 0] [.ite (.cmp .ge (.n 112) (iV 0)) [.iS (.n 184) (.n 112) 341 (cG 396 [.idx (.n 163) (.n 112)])] []],.b8 96 (cG 406 [.n 184]),.ret (.ite (.n 341) (.bad 0) (.n 96))]⟩ (tN ⟨[139,195],[],[.ret (.and [.cmp .eq (.idx (.n 195) (iV 0)) (sV [114,101,102]),.cmp .eq (.idx (.n 195) (iV 2)) (.t []),.cmp .oX (.idx (.n 195) (iV 1)) (.attr (.n 139) 187)])]⟩ tO tO) (tN ⟨[67,16],[],[.ite (.or [.cmp .gt (.attr (.n 67) 133) (iV 0),.attr (.n 67) 188]) [.bad 0] [],.aT (.n 67) 108 (.bin .add (.attr (.n 67) 108) (.attr (.n 16) 89)),.ex (.bG (.n 67) 292 [.attr (.n 16) 89,.val (.bool false)])]⟩ tO tO)) (tN ⟨[43],[],[.for [16] true 0 (.bin .add (.list [.n 43]) (cG 370 [.n 43])) [.ite (.cmp .ne (.attr (.n 16) 68) (sV [])) [.bad 0] []],.ret (.t [sV [116,114,97,105,108,105,110,103],.val (.bool false)])]⟩ tO tO)) (tN ⟨[197,136,68,342,369,391],[(.str [100,105,115,112,108,97,121]),(.str [116,114,97,105,108,105,110,103]),(.bool false),(.bool false),(.bool false)],[.ex (cG 335 [.n 197,.n 136]),.ex (cG 293 [.n 197,.n 136,.n 68,.n 342]),.ex (cG 388 [.n 197,.n 369,.n 391]),.b8 69 (cG 243 [.n 197,.n 136,.n 342]),.ret (cG 80 [.attr (.n 197) 220,.n 69,.n 197,.n 136,.n 68,.n 342,.n 369,.n 391])]⟩ (tN ⟨[195],[],[.ite (.cmp .eq (.idx (.n 195) (iV 0)) (sV [97,108,108])) [.ret (.idx (.n 195) (iV 1))] [],.ret (.idx (.eD [[90,69,82,79],[83,80,65,67,69],[72,73,71,72],[76,79,87],[81,85,79,84,69]] [.val (.bytes [.c 48]),.val (.bytes [.c 32]),.val (.bytes [.c 255]),.val (.bytes [.c 0]),.val (.bytes [.c 34])]) (.idx (.n 195) (iV 1)))]⟩ (tN ⟨[163,55,157,2],[],[.b8 148 (.bin .add (.n 2) (cG 12 [.n 55])),.while (.and [.n 157,.bad 0]) [.bad 0],.ret (.n 148)]⟩ tO tO) tO) (tM (tN ⟨[160,2,236],[],[.ret (cG 260 [.n 160,.bin .add (iV 21) (.bin .mul (iV 2) (.n 2)),.bin .add (.val (.bytes [.c 48])) (.iB (.val (.bytes [.c 123,.c 65,.c 66,.c 67,.c 68,.c 69,.c 70,.c 71,.c 72,.c 73])) (some (.n 236)) (some (.bin .add (.n 236) (iV 1))))])]⟩ tO tO) tO))) (tM (tN ⟨[121],[],[.ret (.cmp .oX (.attr (.n 121) 220) (.t [sV [110,117,109,101,114,105,99],sV [105,110,100,101,120]]))]⟩ (tN ⟨[163,69,369],[(.bool false)],[.ite (.n 369) [.bad 0] [],.ret (.bin .add (.iB (.n 163) none (some (.n 69))) (.bin .mul (.eW 355) (.bin .sub (.n 69) (cG 12 [.n 163]))))]⟩ (tN ⟨[139,33],[],[.b8 140 (cG 253 [.n 139,.n 33]),.ite (.not (cG 230 [.n 140])) [.bad 0] [],.ret (cG 252 [.n 140])]⟩ tO tO) tO) (tN ⟨[43],[],[.ret (.bin .mul (.attr (.n 43) 69) (.bG (.n 43) 89 []))]⟩ (tN ⟨[40,54],[],[.ite (.cmp .eq (.idx (.n 40) (iV 0)) (iV 0)) [.jW (.n 40) (iV 1) (.bin .add (.idx (.n 40) (iV 1)) (iV 1)),.jW (.n 40) (iV 0) (.bin .mul (.bin .pow (iV 1000003) (.bin .add (iV 5) (.idx (.n 40) (iV 1)))) (.idx (.n 40) (iV 2)))] [],.b8 91 (.bin .mod (.idx (.n 40) (iV 0)) (.n 54)),.jW (.n 40) (iV 0) (.bin .div (.idx (.n 40) (iV 0)) (.n 54)),.ret (.n 91)]⟩ tO tO) tO)) (tN ⟨[121,135],[],[.b8 51 (.bin .mod (cG 3 [.n 135]) (cG 325 [.n 121])),.ret (.ite (.and [.cmp .lt (.n 135) (iV 0),.attr (.n 121) 272]) (.bad 0) (.n 51))]⟩ (tN ⟨[43],[],[.b8 96 (.list []),.b8 82 (.attr (.n 43) 165),.while (.cmp .tZ (.n 82) (.val (.none))) [.ex (.bG (.n 96) 146 [.n 82]),.b8 82 (.attr (.n 82) 165)],.ret (.n 96)]⟩ (tN ⟨[166,65,126,306,98],[],[.for [2] true 0 (cG 117 [cG 12 [.n 166]]) [.cP [111,55] (.idx (.n 166) (.n 2)),.ex (.bG (.n 98) 86 [.idx (.n 126) (.n 2),.n 111]),.ite (.cmp .tZ (.idx (.n 306) (.n 2)) (.val (.none))) [.bad 0] [],.ite (.cmp .tZ (.idx (.idx (.n 65) (.n 2)) (iV 2)) (.val (.none))) [.ex (.bG (.n 98) 45 [.idx (.idx (.n 65) (.n 2)) (iV 2),cG 12 [.n 111]])] []]]⟩ tO tO) (tN ⟨[67],[],[.ret (.ite (.cmp .is (.attr (.n 67) 162) (.val (.none))) (iV 1) (.attr (.attr (.n 67) 162) 42))]⟩ tO tO)) (tN ⟨[31],[],[.b8 41 (iV 0),.for [56] true 0 (.attr (.n 31) 94) [.bad 0],.aT (.n 31) 69 (cG 346 [.attr (.n 31) 213,.n 41]),.ite (.cmp .gt (.attr (.n 31) 69) (.eW 329)) [.bad 0] [],.ex (cG 345 [.attr (.n 31) 192]),.ex (cG 350 [.n 31]),.for [43] true 0 (cG 263 [.n 31]) [.ite (.cmp .tZ (.attr (.n 43) 162) (.val (.none))) [.ex (cG 363 [.n 31,.n 43])] []]]⟩ (tN ⟨[67,73,209,220,151,120,272,69],[],[.aT (.n 67) 73 (.n 73),.aT (.n 67) 209 (.n 209),.aT (.n 67) 220 (.n 220),.aT (.n 67) 151 (.n 151),.aT (.n 67) 120 (.n 120),.aT (.n 67) 272 (.n 272),.aT (.n 67) 69 (.n 69)]⟩ tO tO) tO))))) (tN ⟨[0,1],[],[.cP [95,169,120] (cG 383 [.n 0,.n 1]),.ret (cG 183 [.bin .sub (.n 95) (.n 169),.n 120])]⟩ (tM (tN ⟨[123],[],[.b8 96 (.list []),.for [16] true 0 (.n 123) [.ite (.and [.cmp .ne (.n 96) (.list []),.cmp .eq (.idx (.idx (.n 96) (.neg (iV 1))) (iV 0)) (.attr (.n 16) 68)]) [.jW (.n 96) (.neg (iV 1)) (.t [.attr (.n 16) 68,.bin .add (.idx (.idx (.n 96) (.neg (iV 1))) (iV 1)) (.attr (.n 16) 89)])] [.ex (.bG (.n 96) 146 [.t [.attr (.n 16) 68,.attr (.n 16) 89]])]],.ret (.n 96)]⟩ (tM (tN ⟨[184],[],[.b8 96 (iV 0),.for [2,154] false 1 (.n 184) [.ite (.not (.chain .le (iV 0) (.n 154) .le (iV 9))) [.bad 0] [],.b8 96 (.bin .add (.bin .mul (iV 10) (.n 96)) (.n 154))],.ret (.n 96)]⟩ (tN ⟨[68,51,118],[],[.ite (.cmp .eq (.n 68) (sV [43])) [.ret (cG 60 [.n 51,.n 118])] [],.ite (.cmp .eq (.n 68) (sV [45])) [.ret (cG 104 [.n 51,.n 118])] [],.bad 0,.bad 0]⟩ tO tO) (tN ⟨[67],[],[.ret (.bin .add (.bin .add (.attr (.n 67) 108) (.attr (.n 67) 141)) (.attr (.n 67) 156))]⟩ tO tO)) (tN ⟨[43,61],[],[.for [16] true 0 (.bin .add (.list [.n 43]) (cG 370 [.n 43])) [.ite (.cmp .ne (.call (.n 61) [.n 16]) (sV [])) [.bad 0] []],.ret (sV [])]⟩ (tN ⟨[163,121],[],[.ite (.cmp .gt (cG 12 [.n 163]) (iV 0)) [.ret (cG 106 [cG 324 [.n 163],.n 163,.n 121])] [],.ite (.cmp .oX (.attr (.n 121) 220) (.t [sV [110,117,109,101,114,105,99],sV [101,100,105,116,101,100]])) [.ret (cG 155 [.t [sV [102,105,103,117,114,101],sV [90,69,82,79]],.n 121])] [],.ret (cG 155 [.t [sV [102,105,103,117,114,101],sV [83,80,65,67,69]],.n 121])]⟩ tO tO) (tN ⟨[67,93,114,145,45,71,86,63],[],[.aT (.n 67) 93 (.n 93),.aT (.n 67) 114 (.n 114),.aT (.n 67) 145 (.n 145),.aT (.n 67) 45 (.n 45),.aT (.n 67) 71 (.n 71),.aT (.n 67) 86 (.n 86),.aT (.n 67) 63 (.n 63)]⟩ tO tO))) (tN ⟨[197,136,68,342],[],[.ite (.and [.cmp .ne (.n 68) (sV [108,101,97,100,105,110,103]),.cmp .ne (.n 68) (sV [116,114,97,105,108,105,110,103])]) [.bad 0] [],.ite (.and [.cmp .eq (.n 68) (sV [116,114,97,105,108,105,110,103]),.not (.n 342)]) [.ret (.val .none)] [],.bad 0]⟩ (tN ⟨[121,161],[],[.ite (.cmp .eq (.attr (.n 121) 220) (sV [101,100,105,116,101,100])) [.bad 0] [],.ret (cG 295 [.n 121,.n 161])]⟩ (tN ⟨[65,37,85],[],[.ite (.not (.chain .le (iV 1) (.n 85) .le (cG 12 [.n 37]))) [.bad 0] [],.b8 270 (.n 85),.for [163,265] false 0 (.n 65) [.b8 111 (cG 279 [.n 163,.n 265]),.b8 63 (.bin .sub (.bin .add (cG 12 [.n 37]) (iV 1)) (.n 270)),.b8 39 (.iB (.n 111) none (some (.n 63))),.b8 37 (.bin .add (.bin .add (.iB (.n 37) none (some (.bin .sub (.n 270) (iV 1)))) (.n 39)) (.iB (.n 37) (some (.bin .add (.bin .sub (.n 270) (iV 1)) (cG 12 [.n 39]))) none)),.b8 270 (.bin .add (.n 270) (cG 12 [.n 39])),.ite (.cmp .lt (cG 12 [.n 39]) (cG 12 [.n 111])) [.ret (.t [.n 37,.n 270,.val (.bool true)])] []],.ret (.t [.n 37,.n 270,.val (.bool false)])]⟩ tO tO) tO) (tM (tN ⟨[40],[],[.b8 85 (.bin .add (.bin .add (cG 87 [.comp (cG 262 [.n 40,.val (.bytes [.c 50,.c 44,.c 51,.c 49,.c 52,.c 44])]) [74] true (cG 117 [iV 5]) []]) (cG 87 [.list [.bin .add (iV 49) (cG 258 [.n 40,iV 4])]])) (.val (.bytes [.c 103,.c 104,.c 105]))),.b8 150 (cG 87 [.comp (.bin .add (iV 48) (cG 258 [.n 40,iV 10])) [74] true (cG 117 [iV 4]) []]),.b8 210 (.bG (.val (.bytes [])) 44 [.comp (cG 218 [cG 258 [.n 40,iV 90]]) [74] true (cG 117 [iV 4]) []]),.ret (.bin .add (.bin .add (.bin .add (.n 85) (.n 150)) (.n 210)) (.bG (.val (.bytes [])) 44 [.comp (cG 218 [cG 258 [.n 40,iV 8]]) [74] true (cG 117 [iV 4]) []]))]⟩ tO tO) tO))) (tM (tM (tN ⟨[220],[],[.b8 130 (.t [sV [103,114,111,117,112],sV [97,108,112,104,97,98,101,116,105,99],sV [97,108,112,104,97,110,117,109,101,114,105,99],sV [97,108,110,117,109,45,101,100,105,116,101,100]]),.b8 65 (.eD [[103,114,111,117,112],[97,108,112,104,97,110,117,109,101,114,105,99],[97,108,112,104,97,98,101,116,105,99],[97,108,110,117,109,45,101,100,105,116,101,100],[110,117,109,101,114,105,99],[101,100,105,116,101,100]] [.bin .add (.n 130) (.eW 177),.bin .add (.n 130) (.eW 177),.n 130,.n 130,.bin .add (.t [sV [103,114,111,117,112],sV [97,108,112,104,97,110,117,109,101,114,105,99],sV [97,108,110,117,109,45,101,100,105,116,101,100]]) (.eW 177),.bin .add (.t [sV [103,114,111,117,112],sV [97,108,112,104,97,110,117,109,101,114,105,99],sV [97,108,110,117,109,45,101,100,105,116,101,100]]) (.eW 177)]),.ret (.bG (.n 65) 8 [.n 220,.t []])]⟩ (tN ⟨[139,195],[],[.ite (.cmp .eq (.idx (.n 195) (iV 0)) (sV [110,117,109,98,101,114])) [.ret (.idx (.n 195) (iV 1))] [],.ite (.cmp .eq (.n 195) (.t [sV [102,105,103,117,114,101],sV [90,69,82,79]])) [.bad 0] [],.ite (cG 227 [.n 139,.n 195]) [.bad 0] [],.cP [121,163] (cG 311 [.n 139,.n 195]),.ite (.not (cG 271 [.n 121])) [.bad 0] [],.ret (cG 275 [.n 121,.n 163])]⟩ tO tO) tO) (tM (tN ⟨[139,281],[],[.ret (cG 400 [cG 353 [.n 139,.iB (.n 281) none (some (.neg (iV 1)))],cG 224 [.n 139]])]⟩ tO tO) tO)) (tM (tN ⟨[43],[],[.b8 96 (.list []),.b8 52 (.list [.n 43]),.while (.cmp .ne (.n 52) (.list [])) [.b8 16 (.bG (.n 52) 18 []),.ex (.bG (.n 96) 146 [.n 16]),.ex (.bG (.n 52) 153 [.rev (.attr (.n 16) 47)])],.ret (.n 96)]⟩ (tN ⟨[199,236,98],[],[.ite (.cmp .tZ (.n 199) (.val (.none))) [.ex (.bG (.n 98) 45 [.n 199,.n 236])] []]⟩ tO tO) (tN ⟨[67,100,56],[],[.aT (.n 67) 100 (.n 100),.aT (.n 67) 56 (.n 56),.aT (.n 67) 375 (.val (.none)),.aT (.n 67) 136 (sV []),.aT (.n 67) 68 (sV []),.aT (.n 67) 342 (.val (.bool false)),.aT (.n 67) 162 (.val (.none)),.aT (.n 67) 278 (sV []),.aT (.n 67) 137 (.val (.none)),.aT (.n 67) 369 (.val (.bool false)),.aT (.n 67) 391 (.val (.bool false)),.aT (.n 67) 294 (.list []),.aT (.n 67) 47 (.list []),.aT (.n 67) 165 (.val (.none)),.aT (.n 67) 203 (.val (.none)),.aT (.n 67) 28 (sV []),.aT (.n 67) 164 (iV 0),.aT (.n 67) 69 (iV 0),.aT (.n 67) 121 (.val (.none))]⟩ tO tO)) tO))) (tN ⟨[135,151],[],[.ret (.cmp .lt (cG 3 [.n 135]) (.bin .pow (iV 10) (.n 151)))]⟩ (tN ⟨[73,123],[],[.for [16] true 0 (.n 123) [.ite (.cmp .Cw (.attr (.n 16) 68) (.bG (.eW 289) 125 [sV [32]])) [.bad 0] []],.b8 209 (cG 321 [.n 123]),.ite (.cmp .gt (cG 411 [.n 209]) (.eW 416)) [.bad 0] [],.ret (cG 178 [.n 73,.n 209,cG 399 [.n 209],iV 0,iV 0,.val (.bool false),cG 411 [.n 209]])]⟩ (tM (tM (tN ⟨[139,43,164,69],[],[.cP [160,85,7] (cG 274 [.n 139,.n 43]),.ite (.cmp .gt (.bin .add (.bin .add (.n 85) (.n 164)) (.n 69)) (.n 7)) [.bad 0] [],.ret (.t [.n 160,.bin .add (.n 85) (.n 164)])]⟩ tO tO) tO) (tN ⟨[147,316],[],[.b8 2 (iV 0),.for [56] true 0 (.n 147) [.ite (.and [.cmp .lt (.n 2) (cG 12 [.n 316]),.bad 0]) [.bad 0] []],.ret (.cmp .eq (.n 2) (cG 12 [.n 316]))]⟩ (tN ⟨[139,33],[],[.ret (.ite (.cmp .is (.n 33) (.val (.none))) (.val (.none)) (.t [sV [110,117,109,98,101,114],cG 183 [cG 251 [.n 139,.n 33]]]))]⟩ tO tO) tO)) (tN ⟨[163],[],[.ret (cG 80 [sV [97,108,112,104,97,110,117,109,101,114,105,99],cG 12 [.n 163]])]⟩ (tN ⟨[195,121],[],[.ite (.cmp .oX (.attr (.n 121) 220) (.eW 177)) [.ret (cG 390 [.n 195,.n 121])] [],.ite (.or [.cmp .eq (.attr (.n 121) 220) (sV [105,110,100,101,120]),.and [.cmp .eq (.attr (.n 121) 220) (sV [97,108,112,104,97,98,101,116,105,99]),.cmp .eq (.n 195) (.t [sV [102,105,103,117,114,101],sV [90,69,82,79]])]]) [.bad 0] [],.b8 73 (cG 240 [cG 312 [.n 195],.attr (.n 121) 69]),.ret (.ite (.cmp .eq (.attr (.n 121) 220) (sV [97,108,110,117,109,45,101,100,105,116,101,100])) (.bad 0) (.n 73))]⟩ (tN ⟨[163,297,85,54],[],[.ite (.not (.chain .le (iV 1) (.n 85) .le (cG 12 [.n 163]))) [.bad 0] [],.cP [166,2] (.t [.list [],.bin .sub (.n 85) (iV 1)]),.while (.and [.cmp .lt (cG 12 [.n 166]) (.n 54),.cmp .lt (.n 2) (cG 12 [.n 163])]) [.cP [111,55,2] (cG 307 [.n 163,.n 297,.n 2]),.ex (.bG (.n 166) 146 [.t [.n 111,.n 55]])],.ret (.t [.n 166,.bin .add (.n 2) (iV 1),.cmp .lt (.n 2) (cG 12 [.n 163])])]⟩ tO tO) tO) (tN ⟨[119],[],[.b8 83 (.list []),.for [64] true 0 (.n 119) [.bad 0,.ex (.bG (.n 83) 146 [.n 64])]]⟩ (tN ⟨[160],[],[.cP [2,73] (.t [.bin .sub (.idx (.n 160) (iV 5)) (iV 49),.iB (.n 160) none (some (iV 5))]),.b8 85 (.bin .sub (.idx (.n 160) (.bin .add (iV 22) (.bin .mul (iV 2) (.n 2)))) (iV 48)),.ite (.not (.chain .le (iV 1) (.n 85) .le (iV 5))) [.ret (.t [.n 160,sV [111,118,101,114]])] [],.cP [95,112] (cG 290 [.n 73,.bin .sub (.n 85) (iV 1)]),.cP [166,96] (.t [iV 1,cG 260 [.n 160,iV 5,.iB (.bin .add (.val (.bytes [.c 48])) (.n 95)) (some (.neg (iV 1))) none]]),.b8 96 (cG 260 [.n 96,.bin .add (iV 9) (.n 2),cG 87 [.list [.bin .add (iV 48) (cG 12 [.n 95])]]]),.ite (.cmp .lt (.n 112) (iV 5)) [.cP [169,112] (cG 290 [.n 73,.n 112]),.cP [166,96] (.t [iV 2,cG 260 [.n 96,iV 6,.iB (.bin .add (.n 169) (.val (.bytes [.c 32,.c 32,.c 32]))) none (some (iV 3))]])] [],.b8 129 (.bin .add (.bin .sub (.bin .add (.bin .mul (iV 10) (.bin .sub (.idx (.n 160) (.bin .add (iV 13) (.bin .mul (iV 2) (.n 2)))) (iV 48))) (.idx (.n 160) (.bin .add (iV 14) (.bin .mul (iV 2) (.n 2))))) (iV 48)) (.n 166)),.b8 96 (cG 260 [cG 360 [.n 96,.n 2,.bin .add (.n 112) (iV 1)],.bin .add (iV 13) (.bin .mul (iV 2) (.n 2)),cG 218 [.n 129]]),.ret (.t [.n 96,.ite (.cmp .lt (.n 112) (iV 5)) (sV [111,118,101,114]) (sV [])])]⟩ tO tO) tO))) (tM (tM (tN ⟨[163],[],[.b8 161 (iV 0),.for [2,30] false 1 (.n 163) [.ite (.not (.chain .le (.eW 330) (.n 30) .le (.bin .add (.eW 330) (iV 9)))) [.bad 0] [],.b8 161 (.bin .sub (.bin .add (.bin .mul (iV 10) (.n 161)) (.n 30)) (.eW 330))],.ret (.n 161)]⟩ (tN ⟨[139,19,161,301],[],[.ite (cG 227 [.n 139,.n 19]) [.bad 0,.bad 0,.ret (.val (.bool false))] [],.cP [160,164,121] (cG 207 [.n 139,.n 19]),.ite (.cmp .Cw (.attr (.n 121) 220) (.t [sV [110,117,109,101,114,105,99],sV [101,100,105,116,101,100]])) [.bad 0] [],.b8 135 (cG 246 [.n 161,.attr (.n 121) 120,.n 301]),.ite (.not (cG 35 [.n 135,.attr (.n 121) 151])) [.ret (.val (.bool true))] [],.i0 (.n 160) (.n 164) (.bin .add (.n 164) (.attr (.n 121) 69)) (cG 394 [.n 121,.n 135]),.ret (.val (.bool false))]⟩ tO tO) (tN ⟨[67,16],[],[.b8 68 (.attr (.n 16) 68),.ite (.or [.attr (.n 67) 189,.and [.attr (.n 67) 229,.cmp .Cw (.n 68) (.t [sV [57],sV [80],sV [86]])],.and [.cmp .eq (.n 68) (sV [83]),.cmp .gt (.attr (.n 67) 66) (iV 0)]]) [.bad 0] [],.ite (.cmp .eq (.n 68) (sV [83])) [.aT (.n 67) 229 (.val (.bool true))] [.ite (.cmp .eq (.n 68) (sV [57])) [.ex (.bG (.n 67) 283 [.n 16])] [.bad 0]],.aT (.n 67) 66 (.bin .add (.attr (.n 67) 66) (iV 1)),.aT (.n 67) 49 (.n 68)]⟩ tO tO)) (tN ⟨[43,90],[],[.ite (.cmp .gt (.n 90) (.eW 288)) [.bad 0] [],.ite (.and [.cmp .tZ (.attr (.n 43) 162) (.val (.none)),.or [.cmp .eq (.attr (.n 43) 100) (iV 1),.cmp .eq (.attr (.n 43) 100) (.eW 327),.cmp .lt (.attr (.attr (.n 43) 162) 42) (iV 1)]]) [.bad 0] [],.ite (.not (cG 226 [.n 43])) [.aT (.n 43) 121 (cG 305 [.n 43]),.aT (.n 43) 69 (.attr (.attr (.n 43) 121) 69),.ret (.val .none)] [],.ite (.cmp .tZ (.attr (.n 43) 375) (.val (.none))) [.bad 0] [],.aT (.n 43) 69 (cG 298 [.n 43,.n 90]),.aT (.n 43) 121 (cG 338 [.attr (.n 43) 69])]⟩ (tN ⟨[56],[],[.ret (.t [sV [114,101,102],.n 56,.t [],.t [],.val (.none)])]⟩ tO tO) tO)) (tN ⟨[121,135],[],[.b8 88 (.comp (.bin .add (.eW 385) (.n 154)) [154] true (cG 337 [cG 3 [.n 135],.attr (.n 121) 151]) []),.ite (.not (.attr (.n 121) 272)) [.ret (cG 87 [.n 88])] [],.ite (.attr (.n 121) 342) [.bad 0,.bad 0] [],.b8 112 (.ite (.cmp .eq (.attr (.n 121) 68) (sV [108,101,97,100,105,110,103])) (iV 0) (.bin .sub (cG 12 [.n 88]) (iV 1))),.b8 20 (.ite (.cmp .lt (.n 135) (iV 0)) (.eW 384) (.eW 358)),.jW (.n 88) (.n 112) (.idx (.n 20) (.bin .sub (.idx (.n 88) (.n 112)) (.eW 385))),.ret (cG 87 [.n 88])]⟩ (tN ⟨[43],[],[.ret (.comp (.attr (.n 16) 56) [16] true (cG 370 [.n 43]) [.cmp .ne (.attr (.n 16) 56) (.eW 142)])]⟩ (tN ⟨[121,163],[],[.ite (.cmp .eq (.attr (.n 121) 220) (sV [105,110,100,101,120])) [.bad 0] [],.ite (.cmp .ne (.attr (.n 121) 220) (sV [110,117,109,101,114,105,99])) [.ret (.n 163)] [],.ite (.cmp .ne (.attr (.n 121) 136) (sV [100,105,115,112,108,97,121])) [.bad 0] [],.b8 112 (.bG (.n 121) 318 []),.ite (.cmp .lt (.n 112) (iV 0)) [.ret (.n 163)] [],.bad 0,.bad 0,.bad 0]⟩ tO tO) tO) (tN ⟨[43],[],[.ite (.or [.cmp .eq (.attr (.attr (.n 43) 121) 220) (sV [105,110,100,101,120]),cG 300 [.attr (.n 43) 121]]) [.ret (cG 309 [.attr (.n 43) 121,iV 0])] [],.ret (.bin .mul (.val (.bytes [.c 32])) (.attr (.n 43) 69))]⟩ tO tO)))))))
def j7:aE (List Nat×List Nat×CE):=(tN (([16],[],.attr (.n 16) 136)) (tN (([195],[139],cG 276 [.n 139,.n 195])) (tN (([19,163],[139],cG 354 [.n 139,.n 19,.n 163])) (tN (([71],[],.bad 0)) tO tO) tO) (tN (([19,161],[139],cG 127 [.n 139,.n 19,cG 183 [.n 161],.val (.bool false)])) tO tO)) (tN (([195,69],[139],cG 349 [.n 139,.n 195,.n 69])) (tN (([19],[139],cG 252 [cG 276 [.n 139,.n 19]])) (tN (([19],[139],cG 378 [.n 139,.n 19])) tO tO) tO) (tN (([19],[139],cG 207 [.n 139,.n 19])) tO tO)))
def G3:aE (Nat×List (Nat×Nat)):=(tM (tM (tM (tN ((191,[(216,191),(92,192)])) (tN ((226,[(216,226)])) tO tO) tO) (tN ((216,[(216,216)])) tO tO)) (tM tO (tN ((223,[(216,223)])) tO tO))) (tM (tM (tN ((193,[(216,193),(151,194),(292,195),(283,196),(285,197),(323,198),(381,199),(398,200),(284,203),(322,204),(244,205),(72,206),(230,207),(120,208)])) (tN ((227,[(216,227)])) tO tO) tO) (tN ((218,[(216,218),(4,219),(89,220)])) tO tO)) (tN ((188,[(216,188)])) (tN ((213,[(216,213),(318,215)])) tO tO) (tN ((225,[(216,225)])) tO tO))))
def EO:aE AV:=(tM (tM (tN (.bi 11) (tM (tN (.bi 10) (tM (tM (tN (.fn 142) (tN (.int (.c (30))) tO tO) (tN (.fn 4) tO tO)) (tN (.fn 143) tO tO)) (tM (tM tO (tN (.fn 78) tO tO)) (tN (.fn 74) (tN (.fn 112) tO tO) tO))) (tM (tN (.str [65,66,80,83,86,88,90,57,48,47,44,46,43,45,42,36]) (tN (.cls 11) (tN (.fn 44) tO tO) (tN (.fn 21) tO tO)) (tN (.fn 136) (tN (.fn 49) tO tO) tO)) (tM (tM (tN (.fn 60) tO tO) tO) (tN (.fn 131) (tN (.fn 127) tO tO) tO)))) (tN (.bi 8) (tM (tM (tM (tN (.fn 91) tO tO) tO) (tM (tN (.int (.c (77))) tO tO) tO)) (tM (tM (tN (.fn 73) tO tO) tO) tO)) (tM (tN (.bi 2) (tM (tN (.fn 145) tO tO) (tN (.fn 20) tO tO)) tO) (tM (tN (.fn 2) (tN (.fn 137) tO tO) tO) (tN (.fn 71) tO tO))))) (tM (tM (tN (.fn 14) (tM (tM (tN (.fn 171) tO tO) tO) tO) (tM (tM (tN (.fn 176) tO tO) tO) (tN (.fn 132) (tN (.bytes [.c 32]) tO tO) tO))) (tM (tM (tM (tN (.fn 72) tO tO) (tN (.fn 62) tO tO)) (tN (.fn 80) tO tO)) (tM (tN (.cls 16) (tN (.fn 149) tO tO) tO) (tN (.fn 48) (tN (.fn 94) tO tO) tO)))) (tN (.cls 7) (tM (tM (tM (tN (.fn 169) tO tO) tO) (tM (tN (.str [57,32,80,32,83,32,86]) tO tO) tO)) (tM tO (tM (tN (.fn 123) tO tO) tO))) (tM (tM (tN (.fn 86) tO (tN (.fn 19) tO tO)) (tN (.fn 75) tO tO)) (tM tO (tN (.fn 140) tO tO)))))) (tM (tM (tM (tM (tM (tM tO (tN (.int (.c (48))) tO tO)) (tM (tN (.fn 18) tO tO) tO)) (tM (tM (tN (.str [65,32,88,32,57,32,66,32,48,32,47]) tO tO) (tN (.int (.c (18))) tO tO)) (tM (tN (.fn 168) tO tO) tO))) (tM (tN (.cls 14) (tM (tN (.fn 163) tO tO) (tN (.fn 79) tO tO)) (tM (tN (.fn 61) tO tO) tO)) (tM (tN (.t [(.str [110,117,109,101,114,105,99]),(.str [101,100,105,116,101,100])]) (tN (.fn 107) tO tO) tO) (tN (.fn 52) tO tO)))) (tN (.cls 12) (tM (tM (tM tO (tN (.fn 102) tO tO)) (tM (tN (.int (.c (10000000))) tO tO) tO)) (tM tO (tN (.fn 154) tO tO))) (tM (tM (tM tO (tN (.fn 166) tO tO)) (tN (.fn 182) (tN (.fn 118) tO tO) tO)) (tM (tN (.fn 101) tO tO) (tN (.fn 126) (tN (.fn 23) tO tO) tO))))) (tM (tN (.bi 13) (tM (tM (tM (tN (.fn 174) tO tO) (tN (.fn 68) tO tO)) (tM (tN (.fn 45) tO tO) tO)) (tM (tM (tN (.fn 50) tO tO) tO) tO)) (tN (.bi 4) (tM (tM tO (tN (.fn 128) tO tO)) tO) (tN (.bi 1) (tN (.fn 76) (tN (.fn 65) tO tO) tO) (tN (.fn 81) tO tO)))) (tM (tM (tN (.cls 15) (tM (tN (.fn 104) tO tO) (tN (.fn 95) tO tO)) (tN (.fn 15) (tN (.fn 183) tO tO) tO)) tO) (tM (tM (tM tO (tN (.fn 148) tO tO)) (tN (.fn 16) (tN (.fn 160) tO tO) tO)) (tM (tM (tN (.fn 115) tO tO) tO) (tN (.fn 139) tO tO))))))) (tM (tM (tM (tM (tM (tM (tM (tN (.t [(.str [43]),(.str [45]),(.str [42]),(.str [47]),(.str [42,42])]) tO tO) (tN (.bytes [.c 125,.c 74,.c 75,.c 76,.c 77,.c 78,.c 79,.c 80,.c 81,.c 82]) tO tO)) tO) (tM (tM (tN (.int (.c (20))) tO tO) (tN (.int (.c (9999))) tO tO)) (tN (.fn 165) (tN (.fn 155) tO tO) tO))) (tM (tN (.cls 10) (tN (.str [100,105,115,112,108,97,121,32,112,97,99,107,101,100,32,98,105,110,97,114,121,32,105,110,100,101,120]) tO (tN (.fn 157) tO tO)) (tN (.fn 105) (tN (.fn 170) tO tO) tO)) (tM (tN (.str [48,49,50,51,52,53,54,55,56,57]) (tN (.fn 156) tO tO) tO) (tN (.fn 77) tO tO)))) (tN (.cls 13) (tM (tM (tM (tN (.bi 3) tO tO) tO) (tN (.fn 129) tO tO)) (tN (.fn 6) tO (tM (tN (.fn 180) tO tO) tO))) (tM (tM (tM (tN (.fn 110) tO tO) tO) (tM (tN (.fn 90) tO tO) tO)) (tM (tM (tN (.fn 84) tO tO) tO) (tN (.fn 150) (tN (.fn 158) tO tO) tO))))) (tN (.bi 0) (tM (tM (tM (tM (tN (.fn 179) tO tO) (tN (.fn 51) tO tO)) (tN (.fn 135) (tN (.fn 54) tO tO) tO)) (tM tO (tM (tN (.str [80,32,83,32,86]) tO tO) tO))) (tM (tM (tM (tN (.fn 138) tO tO) (tN (.fn 88) tO tO)) (tN (.fn 98) tO tO)) (tM (tN (.fn 175) (tN (.fn 82) tO tO) tO) tO))) (tM (tM (tM (tM (tN (.bi 7) tO tO) (tN (.fn 67) tO tO)) (tN (.fn 93) (tN (.fn 184) tO tO) tO)) (tM (tN (.fn 146) (tN (.fn 43) tO tO) tO) tO)) (tN (.fn 5) (tM (tM tO (tN (.int (.c (1000000))) tO tO)) (tM (tN (.fn 152) tO tO) tO)) (tM tO (tN (.fn 13) (tN (.fn 159) tO tO) tO)))))) (tM (tN (.bi 12) (tM (tM (tM (tM (tN (.fn 172) tO tO) tO) tO) (tM (tM (tN (.fn 181) tO tO) tO) (tN (.fn 96) (tN (.fn 161) tO tO) tO))) (tM (tM (tM (tN (.fn 133) tO tO) (tN (.str [83,32,86,32,46,32,67,82,32,68,66]) tO tO)) (tM (tN (.fn 53) tO tO) tO)) (tM (tN (.cls 6) tO tO) (tN (.fn 17) (tN (.fn 92) tO tO) tO)))) (tM (tM (tM (tM tO (tN (.fn 141) tO tO)) (tN (.fn 89) (tN (.int (.c (48))) tO tO) tO)) (tN (.fn 83) (tN (.bi 6) (tN (.fn 111) tO tO) tO) (tN (.fn 103) tO tO))) (tM (tM (tM tO (tN (.fn 134) tO tO)) (tN (.fn 177) (tN (.fn 117) tO tO) tO)) (tM (tM (tN (.fn 97) tO tO) tO) (tN (.fn 99) (tN (.fn 167) tO tO) tO))))) (tN (.bi 9) (tM (tM (tM (tN (.bi 5) (tN (.fn 173) tO tO) (tN (.fn 85) tO tO)) (tN (.fn 153) (tN (.fn 108) tO tO) tO)) (tM tO (tN (.fn 12) (tN (.bytes [.c 123,.c 65,.c 66,.c 67,.c 68,.c 69,.c 70,.c 71,.c 72,.c 73]) tO tO) tO))) (tM (tM (tM tO (tN (.fn 66) tO tO)) (tN (.int (.c (66))) tO tO)) (tM (tN (.fn 130) tO tO) (tN (.fn 11) tO tO)))) (tM (tM (tN (.cls 8) (tN (.str [70,73,76,76,69,82]) tO tO) (tN (.fn 100) (tN (.fn 178) tO tO) tO)) (tM (tM (tN (.bi 14) tO tO) tO) (tN (.fn 162) (tN (.fn 147) tO tO) tO))) (tM (tM (tN (.fn 87) tO tO) (tM (tN (.fn 120) tO tO) tO)) (tM (tN (.fn 124) tO tO) (tM (tN (.fn 22) tO tO) tO))))))))
noncomputable def dh:oZ:=⟨146,153,18,125,34,44,8,216⟩
noncomputable def SX:List (Nat×Nat):=[(2,125),(4,139),(5,146),(6,153),(11,189),(12,196),(13,203),(14,210),(15,278),(16,283),(17,290),(18,297),(19,302),(20,433),(21,438),(22,445),(23,450),(43,660),(44,667),(45,674),(48,695),(49,702),(50,709),(51,714),(52,722),(53,729),(54,736),(60,778),(61,785),(62,790),(65,809),(66,816),(67,823),(68,828),(71,849),(72,856),(73,863),(74,871),(75,878),(76,886),(77,893),(78,900),(79,907),(80,914),(81,921),(82,928),(83,935),(84,942),(85,949),(86,956),(87,963),(88,968),(89,1079),(90,1086),(91,1093),(92,1100),(93,1107),(94,1112),(95,1117),(96,1122),(97,1127),(98,1134),(99,1141),(100,1148),(101,1153),(102,1160),(103,1167),(104,1172),(105,1179),(107,1193),(108,1200),(110,1214),(111,1221),(112,1228),(115,1247),(117,1261),(118,1268),(120,1280),(123,1295),(124,1302),(126,1316),(127,1321),(128,1328),(129,1336),(130,1343),(131,1350),(132,1378),(133,1385),(134,1392),(135,1399),(136,1404),(137,1411),(138,1418),(139,1425),(140,1432),(141,1439),(142,1446),(143,1453),(145,1467),(146,1474),(147,1481),(148,1488),(149,1495),(150,1502),(152,1537),(153,1544),(154,1551),(155,1558),(156,1565),(157,1570),(158,1575),(159,1582),(160,1589),(161,1596),(162,1603),(163,1610),(165,1624),(166,1631),(167,1636),(168,1643),(169,1650),(170,1657),(171,1693),(172,1700),(173,1707),(174,1714),(175,1721),(176,1728),(177,1735),(178,1740),(179,1747),(180,1754),(181,1761),(182,1768),(183,1775),(184,1782),(185,1789),(188,224),(191,257),(193,316),(194,323),(195,330),(196,337),(206,407),(207,414),(208,421),(213,632),(215,646),(216,985),(218,1013),(219,1020),(220,1027),(223,1060),(225,1364),(226,1523),(227,1672),(192,264),(197,344),(198,351),(199,358),(200,365),(203,386),(204,393),(205,400)]
noncomputable def dm:List (Nat×Nat×Nat):=[(6,239,238),(7,267,266),(8,424,423),(10,649,648),(11,995,994),(12,1042,1041),(13,1068,1067),(14,1367,1366),(15,1526,1525),(16,1682,1681)]
def Cu:aE Str:=(tN "a" (tN "b" (tN "abs" (tN "end" (tN "min" (tN "data" (tN "room" (tN "store" (tN "MOST_TEXT" tO tO) (tN "units_beside" tO tO)) (tN "lies_at" (tN "strung_row" tO tO) tO)) (tN "first" (tN "length" (tN "CheckFault" tO tO) (tN "whole_figures_of" tO tO)) (tN "goals_of" (tN "set_offsets" tO tO) tO))) (tN "kids" (tN "SIGNS" (tN "Occurs" (tN "has_units" tO tO) (tN "text_category" tO tO)) (tN "spot_in" (tN "check_usage" tO tO) tO)) (tN "piece" (tN "wanted" (tN "kept_units" tO tO) tO) (tN "reckoned" (tN "first_octets" tO tO) tO)))) (tN "zip" (tN "head" (tN "spot" (tN "units" (tN "all_items" tO tO) (tN "is_blank_zero" tO tO)) (tN "pointer" (tN "ALONE_items" tO tO) tO)) (tN "meant" (tN "record" (tN "cut_octets" tO tO) tO) (tN "lay_file" (tN "PictureFault" tO tO) tO))) (tN "mark" (tN "bytes" (tN "digits" (tN "sent_part" tO tO) (tN "number_picture" tO tO)) (tN "RunFault" (tN "items_meant" tO tO) tO)) (tN "roots" (tN "decimal" (tN "operand_in" tO tO) tO) (tN "units_in" (tN "picture_text" tO tO) tO))))) (tN "kid" (tN "ref" (tN "fits" (tN "self" (tN "thing" (tN "_law_heap" tO tO) (tN "binary_octets" tO tO)) (tN "operand" (tN "take_point" tO tO) tO)) (tN "index" (tN "octets" (tN "_law_world" tO tO) tO) (tN "is_index" (tN "BLANK_moving" tO tO) tO))) (tN "left" (tN "ahead" (tN "around" (tN "number_in" tO tO) (tN "display_octets" tO tO)) (tN "text_in" (tN "index_shape" tO tO) tO)) (tN "point" (tN "Program" (tN "next_piece" tO tO) tO) (tN "size_for" (tN "names_around" tO tO) tO)))) (tN "Sign" (tN "item" (tN "word" (tN "world" (tN "do_string" tO tO) (tN "packed_octets" tO tO)) (tN "renames" (tN "PLAIN_SIGNS" tO tO) tO)) (tN "names" (tN "source" (tN "is_initial" tO tO) tO) (tN "open_row" (tN "check_occurs" tO tO) tO))) (tN "pile" (tN "digit" (tN "filled" (tN "take_nine" tO tO) (tN "size_of_symbols" tO tO)) (tN "can_move" (tN "lies_within" tO tO) tO)) (tN "signs" (tN "indexes" (tN "procedures" tO tO) tO) (tN "whole_in" (tN "set_renaming" tO tO) tO)))))) (tN "chr" (tN "hit" (tN "ord" (tN "expr" (tN "rows" (tN "tally" (tN "__debug__" tO tO) (tN "NOUGHT_usages" tO tO)) (tN "negated" (tN "symbols_of" tO tO) tO)) (tN "great" (tN "number" (tN "TEXT_SIGNS" tO tO) (tN "MOST_DIGITS_pictures" tO tO)) (tN "inserted" (tN "with_places" tO tO) tO))) (tN "last" (tN "World" (tN "amount" (tN "lay_piece" tO tO) (tN "worth_in_text" tO tO)) (tN "symbols" (tN "figures_for" tO tO) tO)) (tN "plain" (tN "NUMBERS" (tN "leaf_shape" tO tO) tO) (tN "shape_of" (tN "is_justified" tO tO) tO)))) (tN "Item" (tN "here" (tN "text" (tN "value" (tN "delimiter" tO tO) (tN "leads_through" tO tO)) (tN "program" (tN "MOST_MEMORY" tO tO) tO)) (tN "money" (tN "second" (tN "delimiters" tO tO) tO) (tN "moved_on" (tN "binary_units" tO tO) tO))) (tN "over" (tN "count" (tN "extend" (tN "statement" tO tO) (tN "number_in_place" tO tO)) (tN "_law_cut" (tN "lay_linkage" tO tO) tO)) (tN "shape" (tN "file_of" (tN "piece_size" tO tO) tO) (tN "unvalued" (tN "read_picture" tO tO) tO))))) (tN "low" (tN "sum" (tN "goal" (tN "size" (tN "trail" (tN "_law_name" tO tO) (tN "display_units" tO tO)) (tN "picture" (tN "unit_bound" tO tO) tO)) (tN "links" (tN "parent" (tN "check_sign" tO tO) tO) (tN "is_plain" (tN "MINUS_usages" tO tO) tO))) (tN "list" (tN "begin" (tN "change" (tN "redefined" tO tO) (tN "initial_memory" tO tO)) (tN "working" (tN "is_negative" tO tO) tO)) (tN "range" (tN "aligned" (tN "octets_for" tO tO) tO) (tN "text_for" (tN "packed_units" tO tO) tO)))) (tN "cell" (tN "keep" (tN "Hands" (tN "zeros" (tN "find_item" tO tO) (tN "tables_around" tO tO)) (tN "sign_at" (tN "_law_joined" tO tO) tO)) (tN "order" (tN "tables" (tN "is_rounded" tO tO) tO) (tN "quotient" (tN "cut_quotient" tO tO) tO))) (tN "read" (tN "fetch" (tN "is_all" (tN "take_zero" tO tO) (tN "behind_delimiter" tO tO)) (tN "count_at" (tN "sent_octets" tO tO) tO)) (tN "split" (tN "is_over" (tN "set_record" tO tO) tO) (tN "worth_in" (tN "take_scaling" tO tO) tO))))))) (tN "at" (tN "add" (tN "get" (tN "one" (tN "ends" (tN "root" (tN "table" (tN "TWO_SIDED" tO tO) (tN "MINUS_FIGURES" tO tO)) (tN "linkage" (tN "subscripts" tO tO) tO)) (tN "found" (tN "memory" (tN "MOST_DEPTH" tO tO) (tN "MOST_SIZE_pictures" tO tO)) (tN "hands_of" (tN "string_with" tO tO) tO))) (tN "kind" (tN "Shape" (tN "USAGES" (tN "is_signed" tO tO) (tN "unstring_with" tO tO)) (tN "stretch" (tN "do_unstring" tO tO) tO)) (tN "place" (tN "FIGURES" (tN "lay_pieces" tO tO) tO) (tN "repeated" (tN "is_ascending" tO tO) tO)))) (tN "Data" (tN "heap" (tN "take" (tN "usage" (tN "bytearray" tO tO) (tN "is_signed_row" tO tO)) (tN "postfix" (tN "LedgerError" tO tO) tO)) (tN "minus" (tN "script" (tN "data_fault" tO tO) tO) (tN "lay_upon" (tN "_law_pointer" tO tO) tO))) (tN "name" (tN "codes" (tN "edited" (tN "set_sizes" tO tO) (tN "unsigned_shape" tO tO)) (tN "__init__" (tN "items_under" tO tO) tO)) (tN "scale" (tN "figures" (tN "pattern_of" tO tO) tO) (tN "unstrung" (tN "plain_octets" tO tO) tO))))) (tN "len" (tN "row" (tN "form" (tN "sign" (tN "times" (tN "_law_laid" tO tO) (tN "check_clauses" tO tO)) (tN "part_of" (tN "text_shape" tO tO) tO)) (tN "level" (tN "offset" (tN "add_behind" tO tO) tO) (tN "is_loose" (tN "LAID_NOWHERE" tO tO) tO))) (tN "line" (tN "alike" (tN "behind" (tN "number_of" tO tO) (tN "exchanged_refs" tO tO)) (tN "told_up" (tN "is_inserted" tO tO) tO)) (tN "power" (tN "_law_at" (tN "number_for" tO tO) tO) (tN "take_end" (tN "number_shape" tO tO) tO)))) (tN "base" (tN "join" (tN "zero" (tN "worth" (tN "enumerate" tO tO) (tN "signed_figure" tO tO)) (tN "root_of" (tN "_law_behind" tO tO) tO)) (tN "nines" (tN "strung" (tN "is_numeric" tO tO) tO) (tN "position" (tN "cut_by_sizes" tO tO) tO))) (tN "plus" (tN "fault" (tN "floats" (tN "take_sign" tO tO) (tN "MOST_SIZE_layout" tO tO)) (tN "category" (tN "lone_octets" tO tO) tO)) (tN "sorts" (tN "is_late" (tN "qualifiers" tO tO) tO) (tN "whole_of" (tN "signed_again" tO tO) tO)))))) (tN "cut" (tN "int" (tN "pop" (tN "find" (tN "seen" (tN "texts" (tN "_law_draw" tO tO) (tN "__classdict__" tO tO)) (tN "numbers" (tN "take_money" tO tO) tO)) (tN "hands" (tN "occurs" (tN "_law_piece" tO tO) tO) (tN "is_group" (tN "write_plain" tO tO) tO))) (tN "lead" (tN "above" (tN "append" (tN "memory_of" tO tO) (tN "ALONE_pictures" tO tO)) (tN "tallies" (tN "group_shape" tO tO) tO)) (tN "plant" (tN "Picture" (tN "mark_spots" tO tO) tO) (tN "signs_of" (tN "items_around" tO tO) tO)))) (tN "PLUS" (tN "high" (tN "turn" (tN "whole" (tN "depending" tO tO) (tN "number_octets" tO tO)) (tN "records" (tN "NOUGHT_CODE" tO tO) tO)) (tN "moved" (tN "sorted" (tN "group_size" tO tO) tO) (tN "only_one" (tN "binary_width" tO tO) tO))) (tN "part" (tN "depth" (tN "figure" (tN "subscript" tO tO) (tN "place_of_octets" tO tO)) (tN "_law_two" (tN "lay_working" tO tO) tO)) (tN "shelf" (tN "handles" (tN "plain_kids" tO tO) tO) (tN "usage_of" (tN "ref_in_place" tO tO) tO))))) (tN "max" (tN "top" (tN "half" (tN "some" (tN "tuple" (tN "_law_pick" tO tO) (tN "filled_number" tO tO)) (tN "pointed" (tN "whole_size" tO tO) tO)) (tN "marks" (tN "pieces" (tN "conditions" tO tO) tO) (tN "is_whole" (tN "PLUS_FIGURES" tO tO) tO))) (tN "many" (tN "bring" (tN "counts" (tN "redefines" tO tO) (tN "joined_figures" tO tO)) (tN "RENAMING" (tN "is_separate" tO tO) tO)) (tN "right" (tN "applied" (tN "open_paths" tO tO) tO) (tN "units_at" (tN "packed_width" tO tO) tO)))) (tN "code" (tN "keys" (tN "Order" (tN "FILLER" (tN "following" tO tO) (tN "take_inserted" tO tO)) (tN "sign_of" (tN "_law_memory" tO tO) tO)) (tN "pairs" (tN "valued" (tN "isinstance" tO tO) tO) (tN "received" (tN "delimiter_at" tO tO) tO))) (tN "rest" (tN "files" (tN "is_ref" (tN "told_rows" tO tO) (tN "number_of_edited" tO tO)) (tN "first_at" (tN "set_indexes" tO tO) tO)) (tN "spots" (tN "lay_out" (tN "sign_place" tO tO) tO) (tN "DataFault" (tN "text_picture" tO tO) tO))))))))
noncomputable def tL:Nat:=418
noncomputable def zm:Sp:=⟨257,386,268,23,[4,292,145,146,2,28,148,86,220,294,89,31,266,151,153,92,93,94,34,156,8,186,42,99,187,391,299,340,369,188,189,229,342,272,230,44,45,46,47,49,50,100,192,101,13,160,105,56,108,162,164,310,235,165,197,375,114,115,18,315,201,278,203,63,65,120,66,121,122,68,318,69,124,125,71,209,72,244,398,322,283,323,381,284,285,73,286,133,136,137,213,76,141]⟩
noncomputable def II:Value:=.str "ledgerspeak.decimals" 316
noncomputable def so:Value:=.str "ledgerspeak.pictures" 447
noncomputable def AU:Value:=.str "ledgerspeak.shapes" 1043
noncomputable def EL:Value:=.str "ledgerspeak.usages" 1260
noncomputable def zF:Value:=.str "ledgerspeak.moving" 1400
noncomputable def Uu:Value:=.str "ledgerspeak.tree" 1518
noncomputable def tR:Value:=.str "ledgerspeak.items" 1533
noncomputable def Oe:Value:=.str "ledgerspeak.references" 1796
noncomputable def x6:Value:=.str "ledgerspeak.layout" 1843
noncomputable def R5:Value:=.str "ledgerspeak.reckoning" 2049
noncomputable def mE:Value:=.str "ledgerspeak.world" 2089
noncomputable def fy:Value:=.str "ledgerspeak.stringing" 2238
noncomputable def R6:Value:=.str "ledgerspeak.program" 2561
def AY:List FE:=[⟨2,13,none,125,124,(some 118),II,false,[[135,120]]⟩,
 ⟨4,15,none,139,138,none,II,false,[[0,1,120,14]]⟩,
 ⟨5,16,none,146,145,none,II,false,[[0,1,95,169,120,383,183]]⟩,
 ⟨6,17,none,153,152,none,II,false,[[0,1,95,169,120,383,183]]⟩,
 ⟨11,22,none,189,188,none,II,false,[[0,120,301,69,38,365,3]]⟩,
 ⟨12,23,none,196,195,none,II,false,[[0]]⟩,
 ⟨13,24,none,203,202,none,II,false,[[0,246]]⟩,
 ⟨14,25,none,210,209,none,II,false,[[135,151,3]]⟩,
 ⟨15,38,none,278,277,none,so,false,[[73,2,79,359]]⟩,
 ⟨16,39,none,283,282,none,so,false,[[73,2,7,184,14,12,10,359],[68,176]]⟩,
 ⟨17,40,none,290,289,none,so,false,[[73,96,2,68,89,7,12,205,221,402,359,27]]⟩,
 ⟨18,41,none,297,296,none,so,false,[[123,96,16]]⟩,
 ⟨19,42,none,302,301,none,so,false,[[209,21],[68,89,356,12]]⟩,
 ⟨20,44,none,433,432,none,so,false,[[73,123,109,209,16,113,220,272,78,321,411,416,359,12,178],[68,89,331]]⟩,
 ⟨21,45,none,438,437,none,so,false,[[209,123],[68,89]]⟩,
 ⟨22,46,none,445,444,none,so,false,[[73,123,16,209,289,321,411,416,359,12,178,399]]⟩,
 ⟨23,47,none,450,449,none,so,false,[[73,97,123,12,255,359,242,382,407],[68,5,17],[16]]⟩,
 ⟨43,81,none,660,659,none,AU,false,[[121]]⟩,
 ⟨44,82,none,667,666,none,AU,false,[[121]]⟩,
 ⟨45,83,none,674,673,none,AU,false,[[121]]⟩,
 ⟨48,86,none,695,694,none,AU,false,[[197,136,342,374,362]]⟩,
 ⟨49,87,none,702,701,none,AU,false,[[197,136,144,254]]⟩,
 ⟨50,88,none,709,708,none,AU,false,[[197,136,68,342,254]]⟩,
 ⟨51,89,none,714,713,none,AU,false,[[197,369,391,254]]⟩,
 ⟨52,90,none,722,721,(some 715),AU,false,[[197,136,68,342,369,391,69,335,293,388,243,80]]⟩,
 ⟨53,91,none,729,728,none,AU,false,[[69,80]]⟩,
 ⟨54,92,none,736,735,none,AU,false,[[163,80,12]]⟩,
 ⟨60,107,none,778,777,none,EL,false,[[121,135,51,3,325]]⟩,
 ⟨61,108,none,785,784,none,EL,false,[[161,89,96,62,74,117]]⟩,
 ⟨62,109,none,790,789,none,EL,false,[[121,135,88,68,112,20,337,3,87,357,26,12,384,358,385],[154,385]]⟩,
 ⟨65,112,none,809,808,none,EL,false,[[121,135,51,303,403,395,387]]⟩,
 ⟨66,113,none,816,815,none,EL,false,[[184,96,2,154,268,215]]⟩,
 ⟨67,114,none,823,822,none,EL,false,[[30,358,384,385]]⟩,
 ⟨68,115,none,828,827,none,EL,false,[[121,163,184,341,112,96,26,357,215,396,406],[30,385]]⟩,
 ⟨71,118,none,849,848,none,EL,false,[[121,163,96,12,215,389,373,361,3,325]]⟩,
 ⟨72,119,none,856,855,none,EL,false,[[121,163,183,247]]⟩,
 ⟨73,120,none,863,862,none,EL,false,[[121,161,309,246]]⟩,
 ⟨74,125,none,871,870,none,zF,false,[[220,130,65,177]]⟩,
 ⟨75,126,none,878,877,none,zF,false,[[171,37,223]]⟩,
 ⟨76,127,none,886,885,(some 879),zF,false,[[163,69,369,355,12,14]]⟩,
 ⟨77,128,none,893,892,none,zF,false,[[163,69,215,12]]⟩,
 ⟨78,129,none,900,899,none,zF,false,[[163,161,2,30,268,330,215]]⟩,
 ⟨79,130,none,907,906,none,zF,false,[[121,163,275,414,183,415]]⟩,
 ⟨80,131,none,914,913,none,zF,false,[[121,163,215,309,408,3,247]]⟩,
 ⟨81,132,none,921,920,none,zF,false,[[121,163,225,181]]⟩,
 ⟨82,133,none,928,927,none,zF,false,[[121,161,152,295]]⟩,
 ⟨83,134,none,935,934,none,zF,false,[[171,163,37,219,215,181,177,308,401,245,211]]⟩,
 ⟨84,135,none,942,941,none,zF,false,[[195]]⟩,
 ⟨85,136,none,949,948,none,zF,false,[[195,121,308,183,215,415,240]]⟩,
 ⟨86,137,none,956,955,none,zF,false,[[195,121,73,177,390,215,240,312,225]]⟩,
 ⟨87,139,none,963,962,none,Uu,false,[[131,302,134,12]]⟩,
 ⟨88,140,none,968,967,none,Uu,false,[[131,149,96,302,134,158],[16,404,149]]⟩,
 ⟨89,148,none,1079,1078,none,tR,false,[[31,96,56]]⟩,
 ⟨90,149,none,1086,1085,none,tR,false,[[43,96,52,16]]⟩,
 ⟨91,150,none,1093,1092,none,tR,false,[[31,96,64,202,344]]⟩,
 ⟨92,151,none,1100,1099,none,tR,false,[[43,96,82]]⟩,
 ⟨93,152,none,1107,1106,none,tR,false,[[43,147,370]]⟩,
 ⟨94,153,none,1112,1111,none,tR,false,[[43,370],[16,142]]⟩,
 ⟨95,154,none,1117,1116,none,tR,false,[[43,52,370],[16]]⟩,
 ⟨96,155,none,1122,1121,none,tR,false,[[43],[11,214]]⟩,
 ⟨97,156,none,1127,1126,none,tR,false,[[43],[11,214]]⟩,
 ⟨98,157,none,1134,1133,none,tR,false,[[43,61,16,370]]⟩,
 ⟨99,158,none,1141,1140,none,tR,true,[[43,96,212],[16]]⟩,
 ⟨100,159,none,1148,1147,none,tR,false,[[43,16,370]]⟩,
 ⟨101,161,none,1153,1152,none,Oe,false,[[31,43,22,56,204]]⟩,
 ⟨102,162,none,1160,1159,none,Oe,false,[[147,316,2,56,12]]⟩,
 ⟨103,163,none,1167,1166,none,Oe,false,[[96,56,12,287]]⟩,
 ⟨104,164,none,1172,1171,none,Oe,false,[[31,56,316,84,263,234],[43,56],[43,393,371,185,31,316]]⟩,
 ⟨105,165,none,1179,1178,none,Oe,false,[[43,320,58,173,164,128,282,85,159,397,12,215,23]]⟩,
 ⟨107,171,none,1193,1192,none,x6,false,[[43,136,197,392,68,342,250,296,339,377,206,241]]⟩,
 ⟨108,172,none,1200,1199,none,x6,false,[[43]]⟩,
 ⟨110,174,none,1214,1213,none,x6,false,[[43,90,288,296,327,226,305,298,338]]⟩,
 ⟨111,175,none,1221,1220,none,x6,false,[[43,90,69,83,11,314,280,326,277,296,412]]⟩,
 ⟨112,176,none,1228,1227,none,x6,false,[[43,164,28,41,83,11,314,351,326,277]]⟩,
 ⟨115,179,none,1247,1246,none,x6,false,[[64,164,28,43,280,351,214,379]]⟩,
 ⟨117,181,none,1261,1260,none,x6,false,[[119,164,7,83,64,317,232,14]]⟩,
 ⟨118,182,none,1268,1267,none,x6,false,[[119,83,64,317,232]]⟩,
 ⟨120,184,none,1280,1279,none,x6,false,[[31,43,107,56,263,296],[43]]⟩,
 ⟨123,187,none,1295,1294,none,x6,false,[[31,43,103,107,368,56,343,296,344],[16]]⟩,
 ⟨124,188,none,1302,1301,none,x6,false,[[31,41,56,43,231,346,329,254,345,350,263,363]]⟩,
 ⟨126,190,none,1316,1315,none,x6,false,[[43,300,309]]⟩,
 ⟨127,191,none,1321,1320,none,x6,false,[[43,47,174,226,249,314],[11],[11,367]]⟩,
 ⟨128,192,none,1328,1327,none,x6,false,[[31,96,56,64,264,367,87]]⟩,
 ⟨129,195,none,1336,1335,none,R5,false,[[33,96,52,48,41,256]]⟩,
 ⟨130,196,none,1343,1342,none,R5,false,[[68,51,118,60,104,132,237,116]]⟩,
 ⟨131,197,none,1350,1349,none,R5,false,[[33,161,59,48,58,118,200,193,182]]⟩,
 ⟨132,200,none,1378,1377,none,mE,false,[[139,195]]⟩,
 ⟨133,201,none,1385,1384,none,mE,false,[[139,43,12,215]]⟩,
 ⟨134,202,none,1392,1391,none,mE,false,[[139,43,164,69,160,85,7,274,215]]⟩,
 ⟨135,203,none,1399,1398,none,mE,false,[[139,58,159,251]]⟩,
 ⟨136,204,none,1404,1403,none,mE,false,[[139,19,43,58,164,69,160,112,269,196,208,410,80],[33,251,139]]⟩,
 ⟨137,205,none,1411,1410,none,mE,false,[[139,195,160,164,121,207,87,372,309,246,324,215]]⟩,
 ⟨138,206,none,1418,1417,none,mE,false,[[139,195,121,163,227,183,311,271,215,275]]⟩,
 ⟨139,207,none,1425,1424,none,mE,true,[[139,33,239],[195,139,276]]⟩,
 ⟨140,208,none,1432,1431,none,mE,false,[[139,33,140,253,230,215,252]]⟩,
 ⟨141,209,none,1439,1438,none,mE,false,[[121,135,152,183,309]]⟩,
 ⟨142,210,none,1446,1445,none,mE,false,[[139,19,161,301,160,164,121,135,227,230,215,252,207,246,35,394]]⟩,
 ⟨143,212,none,1453,1452,none,fy,false,[[163,175,2,12]]⟩,
 ⟨145,214,none,1467,1466,none,fy,false,[[163,265,2,222]]⟩,
 ⟨146,215,none,1474,1473,none,fy,false,[[65,37,85,270,163,265,111,63,39,12,279]]⟩,
 ⟨147,216,none,1481,1480,none,fy,false,[[163,297,2,55,157,12,215,191]]⟩,
 ⟨148,217,none,1488,1487,none,fy,false,[[163,55,157,2,148,12,191]]⟩,
 ⟨149,218,none,1495,1494,none,fy,false,[[163,297,85,2,9,117,12,366,413]]⟩,
 ⟨150,219,none,1502,1501,none,fy,false,[[163,297,85,54,166,2,111,55,12,307]]⟩,
 ⟨152,222,none,1537,1536,none,fy,false,[[195,98]]⟩,
 ⟨153,223,none,1544,1543,none,fy,false,[[199,98]]⟩,
 ⟨154,224,none,1551,1550,none,fy,false,[[199,236,98]]⟩,
 ⟨155,225,none,1558,1557,none,fy,false,[[281,98,110,195,265,55,37,85,163,270,57,348,198,12,172,233]]⟩,
 ⟨156,226,none,1565,1564,none,fy,false,[[166,65,126,306,98,2,111,55,117,12]]⟩,
 ⟨157,227,none,1570,1569,none,fy,false,[[281,98,163,102,85,126,306,166,270,57,348,198,12,364,248,304,233],[195,157,348,98],[37,55,89,98],[37,55,89,98]]⟩,
 ⟨158,228,none,1575,1574,none,fy,false,[[121,163,154,112,341,215,87,337,3,247,396,385]]⟩,
 ⟨159,229,none,1582,1581,none,fy,false,[[121,83,184,112,154,341,229,123,396,385,384,358,87]]⟩,
 ⟨160,230,none,1589,1588,none,fy,false,[[139,195,69,121,163,155,80,311,376]]⟩,
 ⟨161,231,none,1596,1595,none,fy,false,[[139,19,163,160,164,121,207,215,380,87]]⟩,
 ⟨162,232,none,1603,1602,none,fy,false,[[163,121,12,106,324,155]]⟩,
 ⟨163,233,none,1610,1609,none,fy,false,[[71,163,160,164,121,238]]⟩,
 ⟨165,235,none,1624,1623,none,fy,true,[[139,77,273],[195,69,139,349],[19,163,139,354],[19,139,252,276],[19,161,139,127,183],[19,139,207],[71,313]]⟩,
 ⟨166,236,none,1631,1630,none,fy,false,[[139,33,183,251]]⟩,
 ⟨167,237,none,1636,1635,none,fy,false,[[139,19,75,56,316,320,58,194,32,134],[33,409,139]]⟩,
 ⟨168,238,none,1643,1642,none,fy,true,[[139,281,404],[19,139,378]]⟩,
 ⟨169,239,none,1650,1649,none,fy,false,[[139,281,352,353,224]]⟩,
 ⟨170,240,none,1657,1656,none,fy,false,[[139,281,400,353,224]]⟩,
 ⟨171,244,none,1693,1692,none,(.str "law_pq0659_01" 2607),false,[[168,138,29,3,10]]⟩,
 ⟨172,245,none,1700,1699,none,(.str "law_pq0659_01" 2607),false,[[40,54,91]]⟩,
 ⟨173,246,none,1707,1706,none,(.str "law_pq0659_01" 2607),false,[[40,70,258,12]]⟩,
 ⟨174,247,none,1714,1713,none,(.str "law_pq0659_01" 2607),false,[[56]]⟩,
 ⟨175,248,none,1721,1720,none,(.str "law_pq0659_01" 2607),false,[[56,36,16,261]]⟩,
 ⟨176,249,none,1728,1727,none,(.str "law_pq0659_01" 2607),false,[[31,167,56,197,43,24,25,143,190,81,179]]⟩,
 ⟨177,250,none,1735,1734,none,(.str "law_pq0659_01" 2607),false,[[161,87]]⟩,
 ⟨178,251,none,1740,1739,none,(.str "law_pq0659_01" 2607),false,[[40,85,150,210,87,117,258],[74,262,40],[74,258,40],[74,218,258,40],[74,218,258,40]]⟩,
 ⟨179,252,none,1747,1746,none,(.str "law_pq0659_01" 2607),false,[[160,164,163,12]]⟩,
 ⟨180,253,none,1754,1753,none,(.str "law_pq0659_01" 2607),false,[[160,2,236,260]]⟩,
 ⟨181,254,none,1761,1760,none,(.str "law_pq0659_01" 2607),false,[[73,112,96,12,15]]⟩,
 ⟨182,255,none,1768,1767,none,(.str "law_pq0659_01" 2607),false,[[160,2,73,85,95,112,166,96,169,129,290,260,87,12,360,218]]⟩,
 ⟨183,256,none,1775,1774,none,(.str "law_pq0659_01" 2607),false,[[160,184,2,360,260,12]]⟩,
 ⟨184,257,none,1782,1781,none,(.str "law_pq0659_01" 2607),false,[[139,160,281,75,267,336,328,87]]⟩,
 ⟨185,258,none,1789,1788,none,(.str "law_pq0659_01" 2607),false,[[168,40,36,184,160,139,65,199,6,319,113,16,259,258,262,334,291,261,180,332,217,260,333]]⟩,
 ⟨188,36,(some 0),224,223,none,so,false,[[67,73,209,220,151,120,272,69]]⟩,
 ⟨191,37,(some 0),257,256,none,so,false,[[67,68,89,2]]⟩,
 ⟨193,43,(some 0),316,315,none,so,false,[[67]]⟩,
 ⟨194,43,(some 1),323,322,none,so,false,[[67]]⟩,
 ⟨195,43,(some 2),330,329,none,so,false,[[67,89,228]]⟩,
 ⟨196,43,(some 3),337,336,none,so,false,[[67,16]]⟩,
 ⟨206,43,(some 13),407,406,none,so,false,[[67,16,68]]⟩,
 ⟨207,43,(some 14),414,413,none,so,false,[[67,417]]⟩,
 ⟨208,43,(some 15),421,420,none,so,false,[[67]]⟩,
 ⟨213,80,(some 0),632,631,(some 625),AU,false,[[67,220,69,197,136,68,342,369,391]]⟩,
 ⟨215,80,(some 2),646,645,none,AU,false,[[67]]⟩,
 ⟨216,145,(some 0),985,984,(some 978),tR,false,[[67,13,42,266,46,187,134]]⟩,
 ⟨218,146,(some 0),1013,1012,none,tR,false,[[67,100,56]]⟩,
 ⟨219,146,(some 1),1020,1019,none,tR,false,[[67,11]]⟩,
 ⟨220,146,(some 2),1027,1026,none,tR,false,[[67]]⟩,
 ⟨223,147,(some 0),1060,1059,none,tR,false,[[67]]⟩,
 ⟨225,199,(some 0),1364,1363,none,mE,false,[[67,201,122,65,56,53,264,405,170]]⟩,
 ⟨226,221,(some 0),1523,1522,none,fy,false,[[67,93,114,145,45,71,86,63]]⟩,
 ⟨227,242,(some 0),1672,1671,(some 1665),R6,false,[[67,56,31,94,315,299]]⟩]
noncomputable def lS:List (Nat×List (List Nat)):=[(0,[[16]]),(1,[[195,139,276]]),(2,[[195,69,139,349]]),(3,[[19,163,139,354]]),(4,[[19,139,252,276]]),(5,[[19,161,139,127,183]]),(6,[[19,139,207]]),(7,[[71,313]]),(8,[[19,139,378]])]
structure TS where
 n:Nat
 t:Nat
 tr:BT
 rest:List DictEntry
 me:Nat
 nm:Value
 ct:List Value
 Rk:List DictEntry
 se:Nat
noncomputable def Gr:BT→Nat→Obj→BT
 |.nil,_,o=>.node o .nil .nil
 |.node v l r,i,o=>match Nat.beq i 0 with
  |true=>.node o l r
  |false=>match Nat.beq (i %2) 1 with
   |true=>.node v (Gr l (i/2) o) r
   |false=>.node v l (Gr r (i/2 - 1) o)
noncomputable def sX:BT→Nat→(Obj→Obj)→BT
 |.nil,_,_=>.nil
 |.node v l r,i,f=>match Nat.beq i 0 with
  |true=>.node (f v) l r
  |false=>match Nat.beq (i %2) 1 with
   |true=>.node v (sX l (i/2) f) r
   |false=>.node v l (sX r (i/2 - 1) f)
namespace TS
noncomputable def txt(s:TS)(x:Str):Value×TS:=(.str x s.t,{s with t:=s.t+1})
def al(s:TS)(o:Obj):Nat×TS:=(s.n,{s with tr:=Gr s.tr s.n o,n:=s.n+1})
noncomputable def BC:List Str→TS→List Value×TS
 |[],s=>([],s)
 |x::r,s=>match s.txt x with
  |(v,s)=>match BC r s with
   |(vs,s)=>(v::vs,s)
end TS
noncomputable def pg(l:List Value):Obj:={cls:=.type "tuple",data:=.seq l.toArray 0}
noncomputable def mI(c:Value)(l:List Value):Obj:={cls:=c,data:=.fields l.toArray}
noncomputable def ri(n:Nat):Value:=.int n 0
def Jh(s:TS)(name qual:Str)(first argc flags:Nat)(free:List Str)(WD:Bool)(loc:Option (List Str×List Str))(tm:Option FuncData):Nat×TS:=
 match s.txt name with
 |(v0,s)=>match s.txt qual with
 |(v1,s)=>match s.txt "/claim/cut.py" with
 |(v2,s)=>match TS.BC free s with
 |(fv,s)=>match s.al (pg fv)with
 |(ft,s)=>match s.al (mI .none [])with
 |(tb,s)=>match(match loc with|some l=>(match TS.BC l.1 s with|(a,s)=>match s.al (pg a)with|(x,s)=>match TS.BC l.2 s with|(b,s)=>match s.al (pg b)with|(y,s)=>((Value.ref x,Value.ref y),s))|none=>((Value.none,Value.none),s))with
 |((l1,l2),s)=>match(match tm with|some fd=>(match s.al {cls:=.none,data:=.func fd}with|(x,s)=>(Value.ref x,s))|none=>(Value.none,s))with
 |(tv,s)=>match(s.t,{s with t:=s.t+1})with
 |(idv,s)=>match s.txt "/claim/cut.py" with
 |(v3,s)=>s.al (mI (.type "code") [v0,v1,v2,ri first,ri argc,ri 0,ri 0,ri flags,.ref ft,.bool WD,ri 181,.ref tb,.none,l1,l2,tv,ri idv,ri first,v3])
noncomputable def CQ(x:Str):List DictEntry→Option Value
 |[]=>none
 |e::r=>match e.key.isStr x with|true=>some e.val|false=>CQ x r
noncomputable def Xl(s:TS):Const→Value×TS
 |.int i=>(.int i s.t,{s with t:=s.t+1})
 |.str x=>s.txt x
 |.bytes b=>(.bytes b.toArray s.t,{s with t:=s.t+1})
 |.bool b=>(.bool b,s)
 |_=>(.none,s)
noncomputable def LJ(f:TS→Expr→Value×TS):List Expr→TS→List Value×TS
 |[],s=>([],s)
 |e::r,s=>match f s e with|(v,s)=>match LJ f r s with|(vs,s)=>(v::vs,s)
noncomputable def S9:Nat→TS→Expr→Value×TS
 |0,s,_=>(.none,s)
 |n+1,s,e=>match cW e 19 with
  |true=>Xl s (vX e).c
  |false=>match cW e 23 with
   |true=>((CQ (vX e).s s.rest).getD .none,s)
   |false=>match cW e 25 with
    |true=>match LJ (S9 n) (vX e).xs s with|(vs,s)=>match s.al (pg vs)with|(a,s)=>(.ref a,s)
    |false=>(.none,s)
def UN(s:TS)(pre:Str)(st:Stmt):Str×Nat×Nat×Pos×TS:=match vS st with
 |⟨_,_,_,_,body,_,_,_,pos,name,args,scope,_⟩=>match LJ (S9 5) args.defaults s with
  |(dv,s)=>match(match dv with|[]=>(Value.none,s)|_=>match s.al (pg dv)with|(a,s)=>(Value.ref a,s))with
  |(dV,s)=>match Jh s name (pre++name) pos.line (args.posonlyargs.length+args.args.length) (functionFlags false false scope ⟨"",0,false,0⟩) scope.freeNames true (localNames args scope (.stmts body))
    (some {name,qualname:=pre++name,params:=args,body:=.stmts body,scope,globals:=builtinsNs,closure:=[],defaults:=.none,kwdefaults:=.none})with
  |(c,s)=>match s.al {cls:=.type "function",data:=.func {name,qualname:=pre++name,params:=args,body:=.stmts body,scope,globals:=mainNs,closure:=[],closureTuple:=.none,code:=.ref c,builtins:=builtinsNs,defaults:=dV,kwdefaults:=.none,annotations:=none,pyModule:=s.nm,doc:=.none}}with
  |(f,s)=>(name,f,c,pos,s)
noncomputable def Kr(P:Params)(s:TS)(x:Str)(v:Value):TS:={s with rest:=⟨PyData.keyHash P x,.str x s.t,v⟩::s.rest,t:=s.t+1,me:=s.me+1}
def J3(pos:Pos)(c:Nat):List Value:=[ri pos.line,ri pos.col,.ref c]
noncomputable def Eg(P:Params)(pre:Str):List Stmt→TS→List DictEntry→List Value→List DictEntry×List Value×TS
 |[],s,es,ct=>(es,ct,s)
 |st::r,s,es,ct=>match gg st 25 with
  |true=>Eg P pre r s es ct
  |false=>match UN s pre st with
  |(x,f,c,pos,s)=>Eg P pre r {s with t:=s.t+1} (es++[⟨PyData.keyHash P x,.str x s.t,.ref f⟩]) (ct++J3 pos c)
noncomputable def uC(es:List DictEntry)(n:Nat):Obj:={cls:=.type "dict",data:=.dict es.toArray n}
noncomputable def key(P:Params)(x:Str)(t:Nat)(v:Value):DictEntry:=⟨PyData.keyHash P x,.str x t,v⟩
noncomputable def Qj:Value→Option String
 |.type x=>some x
 |_=>none
noncomputable def Es:Value→Option Nat
 |.ref b=>some b
 |_=>none
noncomputable def PR:Data→Option ClassData
 |.cls cd=>some cd
 |_=>none
noncomputable def Ly:Data→List Value
 |.fields vs=>vs.toList
 |_=>[]
noncomputable def ID:Option α→Bool
 |none=>true
 |some _=>false
def Tv(P:Params)(s:TS)(name:Str)(bases:List Expr)(body:List Stmt)(scope:Scope)(statics:List Str)(pos:Pos):TS:=
 let base:Option Value:=match bases with|b::_=>some ((CQ (vX b).s s.rest).getD (.type "Exception"))|[]=>none
 match s.al (pg base.toList)with
 |(bt,s)=>match s.txt name with
 |(nv,s)=>match{s with t:=s.t+1}.al (mI (.type "builtin_function_or_method") [.builtin "type.__prepare__",.type "type"])with
 |(_,s)=>match s.al (uC [] 0)with
 |(ns,s)=>match Jh s name name pos.line 0 0 [] false none none with
 |(code,s)=>match s.al {cls:=.type "frame",data:=.plain,slots:=#[some (.ref code),some (.ref mainNs),some (.ref ns),none,some s.nm,none,some (.ref builtinsNs)]}with
 |(_,s)=>match(s.t,{s with t:=s.t+5})with
 |(k,s)=>match([key P "__module__" k s.nm,key P "__qualname__" (k+2) (.str name (k+1)),key P "__firstlineno__" (k+4) (.int pos.line (k+3))]:List DictEntry)with
 |es=>match Eg P (name++".") body s es []with
 |(es,ct,s)=>match TS.BC statics s with
 |(sv,s)=>match s.al (pg sv)with
 |(sa,s)=>match(es++[key P "__static_attributes__" s.t (.ref sa)],{s with t:=s.t+1})with
 |(es,s)=>
  let cdict:=s.n
  let cls:=s.n+1
  let own:List DictEntry:=es.filter fun e=>!e.key.isStr "__qualname__"
  let plain:=ID base
  let exc:=!ID (base.bind Qj)
  let(own,adds,more,VR):List DictEntry×Nat×List Obj×Nat:=match plain,exc with
   |true,_=>(own++[key P "__dict__" (s.t+1) (.ref (cls+1)),key P "__weakref__" (s.t+3) (.ref (cls+2)),key P "__doc__" (s.t+4) .none],3,
     [mI (.type "getset_descriptor") [.str "__dict__" s.t,.ref cls,.builtin "function.__dict__",.builtin "function.__dict__#set"],mI (.type "getset_descriptor") [.str "__weakref__" (s.t+2),.ref cls,.builtin "ExceptionGroup.__weakref__",.none]],s.t+5)
   |_,true=>(own++[key P "__weakref__" (s.t+1) (.ref (cls+1)),key P "__doc__" (s.t+2) .none],2,
     [mI (.type "getset_descriptor") [.str "__weakref__" s.t,.ref cls,.builtin "ExceptionGroup.__weakref__",.none]],s.t+3)
   |_,_=>(own++[key P "__doc__" s.t .none],1,[],s.t+1)
  let mro:List Value:=match base with
   |none=>[.type "object"]
   |some v=>match Qj v with
    |some x=>[.type x,.type "BaseException",.type "object"]
    |none=>match(Es v).bind fun b=>(s.tr.get b).bind fun o=>PR o.data with
     |some cd=>cd.mro
     |none=>[]
  let cd:ClassData:={name,bases:=(match base with|none=>[Value.type "object"]|some b=>[b]),mro:=Value.ref cls::mro,ns:=cdict,qualname:=name,hasDict:=true,slotNames:=[],subclasses:=[],abstract:=false,collection:=none,hasDel:=false}
  let co:Obj:={cls:=.type "type",data:=.cls cd,slots:=#[(match base with|none=>(none:Option Value)|_=>some (Value.ref bt)),none,some nv,some (.str name (k+1)),some (.builtin (if plain then "object.__new__" else "Exception.__new__")),some (.bool true)]}
  let objs:List Obj:=[uC own (adds+1),co]++more++[mI (.type "super") [Value.ref cls,Value.ref cls,Value.ref cls],mI (.type "builtin_function_or_method") [Value.builtin "object.__init_subclass__",Value.ref cls]]
  let s:TS:=objs.foldl (fun s o=>(TS.al s o).2) {s with t:=VR}
  let s:=match exc with
   |true=>{s with Rk:=[key P "type.__subclasses__.Exception.0" s.t (ri cls),key P "type.__subclasses__.Exception.n" (s.t+1) (ri 1)],se:=2,t:=s.t+2}
   |false=>s
  let s:=match base.bind Es with
   |some b=>{s with tr:=sX s.tr b fun o=>match PR o.data with|some cd=>{o with data:=.cls {cd with subclasses:=cd.subclasses++[Value.ref cls]}}|none=>o}
   |none=>s
  let s:={s with tr:=(sX s.tr ns fun Y=>uC es es.length),t:=s.t+1}
  let s:=match((s.tr.get code).bind fun o=>(Ly o.data)[11]?).bind Es with
   |some tb=>{s with tr:=sX s.tr tb fun Y=>mI Value.none ct}
   |none=>s
  let s:=Kr P s name (.ref cls)
  {s with ct:=(J3 pos code).reverse++s.ct}
def i0(P:Params)(s:TS)(st:Stmt):List Expr→TS
 |[]=>s
 |x::_=>match S9 5 s (vS st).a with
  |(v,s)=>match(vX x).s==("__name__":Str)with
   |true=>{s with nm:=v,t:=s.t+1}
   |false=>Kr P s (vX x).s v
def Io(P:Params)(s:TS)(st:Stmt):TS:=match gg st 0 with
 |true=>match UN s Str.empty st with
  |(x,fa,ca,pos,s)=>match Kr P s x (.ref fa)with
   |s=>{s with ct:=(J3 pos ca).reverse++s.ct}
 |false=>match gg st 2 with
  |true=>match vS st with
   |⟨_,_,bases,_,body,_,_,_,pos,name,_,scope,statics⟩=>Tv P s name bases body scope statics pos
  |false=>match gg st 5 with
   |true=>i0 P s st (vS st).ts
   |false=>s
noncomputable def kg(P:Params):List Stmt→TS→TS
 |[],s=>s
 |st::r,s=>kg P r (Io P s st)
section
noncomputable def prog:Program:=(PySem.Challenge.rw_pq0659_01.row).prog
def body:List Stmt:=behindTheImports prog
noncomputable def LK:PySem.Env:={scope:=prog.main.scope,locals:=mainNs,globals:=mainNs,cells:=[],code:=.ref 13,frame:=some 14}
def codeB:Code:=.body body LK
noncomputable def fP:Pos:=⟨0,0,0,0⟩
def posOf(st:Stmt):Pos:=match gg st 5 with
 |true=>match(vS st).ts with
  |x::_=>(vX x).p
  |[]=>fP
 |false=>(vS st).p
def posAt:Nat→Pos
 |0=>fP
 |k+1=>match body[k]? with|some st=>posOf st|none=>fP
def Ka(P:Params):List Obj:=(boot_heap P).objs.toList++[pg [],mI .none [],mI (.type "code") [.str "<module>" 182,.str "<module>" 183,.str "/claim/cut.py" 184,ri 1,ri 0,ri 0,ri 0,ri 0,.ref 11,.bool false,ri 181,.ref 12,.none,.none,.none,.none,ri 185,ri 1,.str "/claim/cut.py" 186],
 {cls:=.type "frame",data:=.plain,slots:=#[some (.ref 13),some (.ref 3),some (.ref 3),none,some (.str "__main__" 164),none,some (.ref 0)]}]
noncomputable def treeOf:List Obj→Nat→BT→BT
 |[],_,t=>t
 |o::r,n,t=>treeOf r (n+1) (Gr t n o)
noncomputable def Og(P:Params):List DictEntry:=match(((boot_heap P).objs.toList.drop 3):List Obj)with|(⟨_,_,Data.dict es _,_⟩:Obj)::_=>es.toList|_=>[]
def QC(P:Params):TS:={n:=15,t:=187,tr:=treeOf (Ka P) 0 .nil,rest:=[],me:=9,nm:=.str "__main__" 164,ct:=[],Rk:=[],se:=0}
def ia(P:Params)(k:Nat):TS:=kg P (body.take k) (QC P)
noncomputable def Ip(v:Value):List DictEntry→List DictEntry
 |[]=>[]
 |e::r=>match e.key.isStr "__name__" with|true=>{e with val:=v}::r|false=>e::Ip v r
def Ab(P:Params)(s:TS):BT:=sX (sX (sX s.tr 3 fun Y=>uC (Ip s.nm (Og P)++s.rest.reverse) s.me) 12 fun Y=>mI .none s.ct.reverse) 2 fun Y=>{uC s.Rk s.se with cls:=.none}
def Ft(w:World)(os:OsState)(s:TS):SharedT:=⟨Ab w.params s,s.n,(boot_heap w.params).life,#[],boot_drawn,s.t,os⟩
noncomputable def part(a b:Nat):List Stmt:=(body.drop a).take (b - a)
abbrev iJ(w:World)(os:OsState)(a b N:Nat):Prop:=segRunT treeTable prog w 11 (some (.ref 6)) 1 N (Ft w os (ia w.params a)) (piecesOf (part a b) LK codeB (posAt a) [topFrame fP])=some (.next,Ft w os (kg w.params (part a b) (ia w.params a)),codeB,posAt b)
abbrev eZ(a b N:Nat):Prop:=∀(w:World)(os:OsState),iJ w os a b N
theorem Me(C:World→OsState→Prop):Nonempty {q:World×OsState//C q.1 q.2→∀w os,C w os}:=by
 by_cases h:∀w os,C w os
 ·exact⟨⟨(⟨fun Y Y=>0,{strHash:=fun Y=>0,shareClass:=fun Y=>0,mergeTok:=fun t=>t,idOf:=fun Y=>0,idOfShared:=fun Y Y=>0,followText:=fun Y=>false,idOfImm:=fun Y=>0}⟩,{}),fun Y=>h⟩⟩
 ·have⟨w,h⟩:=Classical.not_forall.mp h
  have⟨os,h⟩:=Classical.not_forall.mp h
  exact⟨⟨(w,os),fun k=>absurd k h⟩⟩
noncomputable def bad(C:World→OsState→Prop):{q:World×OsState//C q.1 q.2→∀w os,C w os}:=Classical.choice (Me C)
theorem gI(C:World→OsState→Prop)(h:C (bad C).1.1 (bad C).1.2):∀w os,C w os:=(bad C).2 h
theorem V6:eZ 0 50 4000:=gI (fun w os=>iJ w os 0 50 4000) (by kernel_rfl)
theorem V5:eZ 50 100 4000:=gI (fun w os=>iJ w os 50 100 4000) (by kernel_rfl)
theorem V4:eZ 100 145 4000:=gI (fun w os=>iJ w os 100 145 4000) (by kernel_rfl)
theorem V3:eZ 145 190 4000:=gI (fun w os=>iJ w os 145 190 4000) (by kernel_rfl)
theorem V0:eZ 190 225 4000:=gI (fun w os=>iJ w os 190 225 4000) (by kernel_rfl)
theorem VZ:eZ 225 259 4000:=gI (fun w os=>iJ w os 225 259 4000) (by kernel_rfl)
end
section
noncomputable def nameOf:Stmt→List Str
 |.Assign [.Name x _] _ _=>[x]
 |.FunctionDef x _ _ _ _ _ _ _ _ _=>[x]
 |.ClassDef x _ _ _ _ _ _ _ _ _ _=>[x]
 |_=>[]
def qv:Program:=view prog [258]
def loose:List Str:=(body.take 258).flatMap nameOf
noncomputable def mods:List Str:=importedModules prog.main.body
def l5(P:Params):Heap:=absHeap (Ab P (ia P 259)) 1790 (boot_heap P).life
end
section
noncomputable def jT(x:Nat):Str:=(Cu.get x).getD ⟨#[x+1000]⟩
noncomputable def DO(s:Str):Nat:=s.cps.toList.foldl (fun a c=>Nat.add (Nat.add (Nat.mul a 2097152) c) 1) 0
noncomputable def Xx:List Nat→Bool:=fun l=>l.casesOn true fun c r=>r.casesOn (Nat.blt c 1000) fun Y Y=>true
def TH(s:Str)(prev e:Nat)(r:Bool):Bool:=Nat.blt prev e&&(Xx s.cps.toList&&r)
def Hw(n:Nat):Nat→Nat→Bool:=n.rec (fun Y Y=>true) fun Y r x prev=>(Cu.get x).any fun s=>TH s prev (DO s) (r (x+1) (DO s))
theorem bl{o:Option α}{p:α→Bool}(h:o.any p=true):∃a,o=some a∧p a=true:=(Option.any_eq_true p o).mp h
namespace aE
noncomputable def ents(t:aE α):List (Nat×α):=t.rec [] fun v Y Y a b=>v.toList.map (fun a=>(0,a))++(a.map (fun p=>(2*p.1+1,p.2))++b.map (fun p=>(2*p.1+2,p.2)))
theorem fA{t:aE α}{i:Nat}{a:α}(h:t.get i=some a):(i,a)∈t.ents:=by
 induction t generalizing i with
 |nil=>exact no h
 |node v l r ihl ihr=>
  cases i with
  |zero=>exact List.mem_append_left _ (List.mem_map.mpr ⟨a,by rw [show v=some a from h];exact List.mem_singleton_self a,rfl⟩)
  |succ i=>
   have h:Nat.rec (motive:=fun Y=>Option α) (r.get ((i+1)/2 - 1)) (fun Y Y=>l.get ((i+1)/2)) ((i+1) %2)=some a:=h
   have d:=Nat.div_add_mod (i+1) 2
   refine List.mem_append_right _ ?_
   cases q:(i+1) %2 with
   |zero=>
    rw [q]at h d;refine List.mem_append_right _ (List.mem_map.mpr ⟨_,ihr h,Prod.ext (Eq.trans ?_ d) rfl⟩);show 2*((i+1)/2 - 1)+2=2*((i+1)/2)+0
    generalize (i+1)/2=m at d
    cases m with
    |zero=>exact nomatch d
    |succ k=>rfl
   |succ k=>
    have k0:k=0:=Nat.le_zero.mp (Nat.le_of_lt_succ (Nat.lt_of_succ_lt_succ ((congrArg (·<2) q).mp (Nat.mod_lt (i+1) Nat.two_pos))))
    rw [q]at h d;rw [k0]at d;exact List.mem_append_left _ (List.mem_map.mpr ⟨_,ihl h,Prod.ext d rfl⟩)
end aE
theorem rE{x:Nat}{s:Str}(q:Cu.get x=some s):jT x=s:=by unfold jT;rw [q];rfl
theorem Cv{x:Nat}(q:Cu.get x=none):jT x=⟨#[x+1000]⟩:=by unfold jT;rw [q];rfl
theorem yM{x:Nat}:∀(n k prev:Nat),Hw n k prev=true→k≤x→x<k+n→∃s,Cu.get x=some s∧prev<DO s∧(∀c,s.cps.toList=[c]→c<1000):=by
 intro n
 induction n with
 |zero=>intro k _ _ h1 h2;exact absurd h2 (Nat.not_lt.mpr h1)
 |succ n ih=>
  intro k prev h h1 h2;refine aC (bl h:) fun s q h=>?_
  refine aw (ae h:) fun a h=>?_
  refine aw (ae h:) fun b h=>?_
  refine(Nat.eq_or_lt_of_le h1).elim (fun e=>?_) fun l=>?_
  ·subst e;exact⟨s,q,bF a,fun c e=>by rw [e]at b;exact bF b⟩
  ·refine lI (ih (k+1) _ h l (Nat.succ_add_eq_add_succ k n▸h2):) fun s' e1 e2 e3=>?_
   exact⟨s',e1,Nat.lt_trans (bF a) e2,e3⟩
theorem Hv{x:Nat}(hl:x<y):∀(n k prev:Nat),Hw n k prev=true→k≤x→y<k+n→DO (jT x)<DO (jT y):=by
 intro n
 induction n with
 |zero=>intro k _ _ h1 h2;exact absurd (Nat.lt_trans hl h2) (Nat.not_lt.mpr h1)
 |succ n ih=>
  intro k prev h h1 h2;refine aC (bl h:) fun s q h=>?_
  refine aw (ae h:) fun Y h=>?_
  refine aw (ae h:) fun Y h=>?_
  refine(Nat.eq_or_lt_of_le h1).elim (fun e=>?_) fun l=>?_
  ·subst e
   refine lI (yM n (k+1) _ h hl (Nat.succ_add_eq_add_succ k n▸h2):) fun s' e1 e2 Y=>?_
   rw [rE q,rE e1];exact e2
  ·exact ih (k+1) _ h l (Nat.succ_add_eq_add_succ k n▸h2)
theorem KP(h:Hw tL 0 0=true)(hb:Cu.ents.all (fun p=>Nat.blt p.1 tL)=true)(x y:Nat)(e:jT x=jT y):x=y:=by
 have lt:∀{x s},Cu.get x=some s→x<tL:=fun q=>bF (bS hb _ (aE.fA q))
 have le:∀{x},x<tL→x<0+tL:=fun l=>(Nat.zero_add tL).symm▸l
 have far:∀{x},¬x<tL→jT x=⟨#[x+1000]⟩:=fun{x} l=>by
  cases q:Cu.get x with
  |none=>exact Cv q
  |some s=>exact absurd (lt q) l
 have one:∀{x y},x<tL→¬y<tL→jT x=jT y→False:=fun{x y} l l' e=>by
  refine lI (yM tL 0 0 h (Nat.zero_le x) (le l):) fun s q Y c=>?_
  rw [rE q,far l']at e;exact absurd (c (y+1000) (by rw [e])) (Nat.not_lt.mpr (Nat.le_add_left 1000 y))
 have two:∀{x y},x<y→y<tL→jT x=jT y→False:=fun{x y} l l' e=>absurd (Hv l tL 0 0 h (Nat.zero_le x) (le l')) (by rw [e];exact Nat.lt_irrefl _)
 refine(Decidable.em (x<tL)).elim (fun hx=>?_) fun hx=>?_
 ·refine(Decidable.em (y<tL)).elim (fun hy=>?_) fun hy=>(one hx hy e).elim
  exact(Nat.lt_trichotomy x y).elim (fun l=>(two l hy e).elim) fun q=>q.elim id fun l=>(two l hx e.symm).elim
 ·refine(Decidable.em (y<tL)).elim (fun hy=>(one hy hx e.symm).elim) fun hy=>?_
  rw [far hx,far hy]at e;exact Nat.add_right_cancel (List.cons.inj (congrArg (fun s:Str=>s.cps.toList) e)).1
noncomputable def Uw(l:List (Nat×Nat))(x:Nat):Nat:=l.rec 0 fun p Y r=>cond (Nat.beq p.1 x) p.2 r
def lX(k:Nat):Nat:=Uw SX k
def qD(k:Nat):Nat:=Uw (dm.map fun p=>(p.1,p.2.1)) k
noncomputable def gE:Obj:={cls:=.none,data:=.freed}
noncomputable def tW:List FE:=AY.filter fun e=>e.lam
noncomputable def eG:List (Addr×Addr):=tW.map fun e=>(e.c,e.c - 4)
def BJ(P:Params):BT:=Ab P (ia P 259)
def Ln(l:List (Addr×Addr))(t:BT):BT:=l.foldl (fun t p=>t.set p.2 fun Y=>gE) t
def EJ(P:Params):BT:=Ln eG (BJ P)
noncomputable def lives(o:Obj):Bool:=!Nat.beq o.data.ctorIdx 10
theorem Dj(l:List (Addr×Addr))(t:BT)(b:Addr)(h:∀p∈l,b≠p.2):(Ln l t).get b=t.get b:=by
 induction l generalizing t with
 |nil=>rfl
 |cons p r ih=>exact(ih _ fun x m=>h x (cq _ m)).trans ((BT.get_set ..).trans (if_neg (h p bW)))
theorem Gx{t:BT}{b x:Addr}(hs:(t.get b).isSome=true):(t.set x fun Y=>gE).get b=some gE∨b≠x∧(t.set x fun Y=>gE).get b=t.get b:=by
 rw [BT.get_set];refine(Decidable.em (b=x)).elim (fun e=>.inl ?_) fun e=>.inr ⟨e,if_neg e⟩
 rw [if_pos e,←e];refine dC (Option.isSome_iff_exists.mp hs:) fun o q=>?_
 rw [q];rfl
theorem zY(l:List (Addr×Addr))(t:BT)(b:Addr)(hs:(t.get b).isSome=true)(h:(∃p∈l,b=p.2)∨t.get b=some gE):(Ln l t).get b=some gE:=by
 induction l generalizing t with
 |nil=>exact h.elim (fun h=>aC h fun p m Y=>nomatch m) id
 |cons p r ih=>
  refine(Gx (x:=p.2) hs).elim (fun q=>ih _ (by rw [q];rfl) (.inr q)) fun q=>ih _ (q.2▸hs) (h.elim (fun h=>?_) fun h=>.inr (q.2.trans h))
  refine aC h fun x m e=>(cO m).elim (fun z=>absurd (z▸e) q.1) fun m=>.inl ⟨x,m,e⟩
noncomputable def kf(a b:String):Bool:=a==b
noncomputable def vB(v:Value):Option Bool:=v.casesOn none none none (fun b=>some b) (fun Y Y=>none) (fun Y Y=>none) (fun Y Y=>none) (fun Y Y=>none) (fun Y=>none) (fun Y=>none) fun Y=>none
noncomputable def vI(v:Value):Option Int:=v.casesOn none none none (fun Y=>none) (fun i Y=>some i) (fun Y Y=>none) (fun Y Y=>none) (fun Y Y=>none) (fun Y=>none) (fun Y=>none) fun Y=>none
noncomputable def vStr(v:Value):Option Str:=v.casesOn none none none (fun Y=>none) (fun Y Y=>none) (fun Y Y=>none) (fun s Y=>some s) (fun Y Y=>none) (fun Y=>none) (fun Y=>none) fun Y=>none
noncomputable def vY(v:Value):Option (Array UInt8):=v.casesOn none none none (fun Y=>none) (fun Y Y=>none) (fun Y Y=>none) (fun Y Y=>none) (fun b Y=>some b) (fun Y=>none) (fun Y=>none) fun Y=>none
noncomputable def vT(v:Value):Option String:=v.casesOn none none none (fun Y=>none) (fun Y Y=>none) (fun Y Y=>none) (fun Y Y=>none) (fun Y Y=>none) (fun s=>some s) (fun Y=>none) fun Y=>none
noncomputable def vU(v:Value):Option String:=v.casesOn none none none (fun Y=>none) (fun Y Y=>none) (fun Y Y=>none) (fun Y Y=>none) (fun Y Y=>none) (fun Y=>none) (fun s=>some s) fun Y=>none
noncomputable def vR(v:Value):Option Addr:=v.casesOn none none none (fun Y=>none) (fun Y Y=>none) (fun Y Y=>none) (fun Y Y=>none) (fun Y Y=>none) (fun Y=>none) (fun Y=>none) fun a=>some a
theorem Ij{x:Bool}(h:vB v=some x):v=.bool x:=by cases v<;>first|exact no h|exact congrArg _ (bh h)
theorem Ii{x:Int}(h:vI v=some x):∃t,v=.int x t:=by cases v<;>first|exact no h|exact⟨_,congrArg (Value.int · _) (bh h)⟩
theorem qY{x:Str}(h:vStr v=some x):∃t,v=.str x t:=by cases v<;>first|exact no h|exact⟨_,congrArg (Value.str · _) (bh h)⟩
theorem M9{x:Array UInt8}(h:vY v=some x):∃t,v=.bytes x t:=by cases v<;>first|exact no h|exact⟨_,congrArg (Value.bytes · _) (bh h)⟩
theorem pP{x:String}(h:vT v=some x):v=.type x:=by cases v<;>first|exact no h|exact congrArg _ (bh h)
theorem Bt{x:String}(h:vU v=some x):v=.builtin x:=by cases v<;>first|exact no h|exact congrArg _ (bh h)
theorem pQ{x:Addr}(h:vR v=some x):v=.ref x:=by cases v<;>first|exact no h|exact congrArg _ (bh h)
noncomputable def LU(d:Data):Option (List Value):=d.casesOn none (fun Y=>none) (fun vs Y=>some vs.toList) (fun Y Y=>none) (fun Y Y Y=>none) (fun Y Y=>none) (fun Y=>none) (fun Y=>none) (fun Y=>none) (fun Y=>none) none
noncomputable def Jg(d:Data):Option (List DictEntry):=d.casesOn none (fun Y=>none) (fun Y Y=>none) (fun es Y=>some es.toList) (fun Y Y Y=>none) (fun Y Y=>none) (fun Y=>none) (fun Y=>none) (fun Y=>none) (fun Y=>none) none
noncomputable def Tt(d:Data):Option (List Value):=d.casesOn none (fun Y=>none) (fun Y Y=>none) (fun Y Y=>none) (fun Y Y Y=>none) (fun Y Y=>none) (fun Y=>none) (fun Y=>none) (fun Y=>none) (fun vs=>some vs.toList) none
theorem yF{d:Data}{l:List Value}(h:LU d=some l):∃n,d=.seq l.toArray n:=by cases d<;>first|exact no h|exact⟨_,by rw [←bh h]⟩
theorem DT{d:Data}{l:List DictEntry}(h:Jg d=some l):∃n,d=.dict l.toArray n:=by cases d<;>first|exact no h|exact⟨_,by rw [←bh h]⟩
theorem DS{d:Data}{l:List Value}(h:Tt d=some l):d=.fields l.toArray:=by cases d<;>first|exact no h|rw [←bh h]
theorem xp{d:Data}(h:Nat.beq d.ctorIdx 0=true):d=.plain:=by cases d<;>first|rfl|exact Bool.noConfusion h
def TB(v w:Value):Bool:=(vU w).elim ((vT w).any fun t=>(vT v).any (kf · t)) fun t=>(vU v).any (kf · t)
theorem L3{w:Value}(h:TB v w=true):v=w:=by
 unfold TB at h;cases q:vU w with
 |some t=>
  rw [q]at h;refine aC (bl h:) fun s q1 h=>?_
  rw [Bt q,Bt q1,show s=t from beq_iff_eq.mp h]
 |none=>
  rw [q]at h;refine aC (bl h:) fun t q h=>?_
  refine aC (bl h:) fun s q1 h=>?_
  rw [pP q,pP q1,show s=t from beq_iff_eq.mp h]
noncomputable def UE(e:IE):Option Int:=e.casesOn (fun i=>some i) (fun Y=>none) (fun Y Y=>none) (fun Y Y=>none) (fun Y Y=>none) (fun Y Y=>none) (fun Y Y=>none) fun Y Y=>none
theorem Lg{e:IE}{i:Int}(h:UE e=some i):e=.c i:=by cases e<;>first|exact no h|exact congrArg _ (bh h)
noncomputable def Kp(f:AV→Value→Bool)(l:List AV):List Value→Bool:=l.rec (fun r=>r.isEmpty) fun a Y k r=>r.casesOn false fun v r=>f a v&&k r
def FG(tr:BT)(f:AV→Value→Bool)(a:AV)(v:Value):Bool:=match a with
 |.none=>Nat.beq v.ctorIdx 0
 |.bool b=>(vB v).any (QT b)
 |.int e=>(UE e).any fun i=>(vI v).any (iy i)
 |.str l=>(vStr v).any fun s=>lEq l s.cps.toList
 |.bytes l=>(vY v).any fun b=>oO l b.toList
 |.t l=>(vR v).any fun x=>(tr.get x).any fun o=>(vT o.cls).any (kf · "tuple")&&(o.dict.isNone&&(o.slots.isEmpty&&(Nat.blt x 1790&&(LU o.data).any (Kp f l))))
 |.fn k=>(vR v).any (Nat.beq · (lX k))
 |.cls k=>(vR v).any (Nat.beq · (qD k))
 |.bi k=>TB v (ve k)
 |_=>false
def B6(tr:BT)(n:Nat):AV→Value→Bool:=n.rec (fun Y Y=>false) fun Y f=>FG tr f
theorem Ap:∀(l:List IE)(b:List UInt8),oO l b=true→(∀e∈l,∃i:Nat,i<256∧e=.c (i:Int))∧∀ν,l.map (cz ν)=b:=by
 intro l b h;have:=Jc (v:=.bytes l) (c:=.bytes b) h
 cases this with
 |bytes _ _ h1 h2=>
  refine⟨h1,fun ν=>?_⟩
  rw [←h2];refine List.map_congr_left fun e m=>?_
  obtain⟨i,_,rfl⟩:=h1 e m
  rfl
def oS(tr:BT)(h:Heap):Prop:=∀a o,tr.get a=some o→Nat.blt a 1790=true→lives o=true→h.get? a=some o
theorem xP{h:Heap}(ok:∀a v,f a v=true→ao C J M h a v):∀(l:List AV)(r:List Value),Kp f l r=true→ay C J M h l r:=by
 intro l
 induction l with
 |nil=>intro r q;exact(List.isEmpty_iff.mp q).symm▸.nil
 |cons a l ih=>
  intro r q;cases r with
  |nil=>exact Bool.noConfusion q
  |cons v r=>exact aw (ae q:) fun q1 q2=>.cons (ok a v q1) (ih r q2)
theorem KI{o:Obj}{c:Value}{d:Option Addr}{da:Data}{s:Array (Option Value)}(h1:o.cls=c)(h2:o.dict=d)(h3:o.data=da)(h4:o.slots=s):o=⟨c,d,da,s⟩:=by subst h1 h2;subst h3 h4;rfl
theorem ij{o:Obj}{d:Data}(e:o.data=d)(h:Nat.beq d.ctorIdx 10=false):lives o=true:=by unfold lives;rw [e,h];rfl
theorem B7{tr:BT}(hb:oS tr C.hb){h:Heap}(ext:∀b o,C.hb.get? b=some o→¬M b∧h.get? b=some o)(ok:∀a v,f a v=true→ao C J M h a v){l:List AV}(q:FG tr f (.t l) v=true):ao C J M h (.t l) v:=by
 refine aC (bl q:) fun x e q=>?_
 refine aC (bl q:) fun o g q=>?_
 refine aw (ae q:) fun a1 q=>?_
 refine aw (ae q:) fun a2 q=>?_
 refine aw (ae q:) fun a3 q=>?_
 refine aw (ae q:) fun a4 q=>?_
 refine aC (bl q:) fun vs d q=>?_
 refine aC (bl a1:) fun t b1 a1=>?_
 refine dC (yF d:) fun n d=>?_
 refine aw (ext _ _ (hb _ _ g a4 (ij d rfl)):) fun g1 g2=>?_
 rw [pQ e];refine .t _ _ vs n g1 (g2.trans (congrArg some (KI ((pP b1).trans (congrArg _ (beq_iff_eq.mp a1))) (Option.isNone_iff_eq_none.mp a2) d (Array.isEmpty_iff.mp a3)))) (xP ok _ _ q)
theorem vH{tr:BT}{h:Heap}{l:List IE}(q:FG tr f (.bytes l) v=true):ao C J M h (.bytes l) v:=by
 refine aC (bl q:) fun b e q=>?_
 refine dC (M9 e:) fun t e=>?_
 refine aw (Ap _ _ q:) fun h1 h2=>?_
 rw [e,show b=aS C.ν l by unfold aS;rw [h2]]
 exact .bytes _ _ fun x m=>aC (h1 x m) fun i hi e=>e▸⟨Int.natCast_nonneg i,Int.ofNat_lt.mpr hi⟩
theorem Hu{b c:Bool}(h:QT b c=true):c=b:=by cases b<;>cases c<;>first|rfl|exact Bool.noConfusion h
theorem FD{tr:BT}(hb:oS tr C.hb)(hf:C.mH=lX)(hc:C.dm=qD){h:Heap}(ext:∀b o,C.hb.get? b=some o→¬M b∧h.get? b=some o)(ok:∀a v,f a v=true→ao C J M h a v)(a:AV)(v:Value)(q:FG tr f a v=true):ao C J M h a v:=by
 cases a with
 |none=>cases v<;>first|exact .none|exact Bool.noConfusion q
 |bool b=>exact aC (bl q:) fun c e q=>by rw [Ij e,Hu q];exact .bool _
 |int e=>exact aC (bl q:) fun i e q=>aC (bl q:) fun j e2 q=>dC (Ii e2:) fun t e2=>by rw [Lg e,e2];exact .int _ _ _ ((PySem.W.Z.eqB_iff ..).mp q)
 |str l=>exact aC (bl q:) fun s e q=>dC (qY e:) fun t e=>by rw [e,ke q];exact .str _ _
 |bytes l=>exact vH q
 |t l=>exact B7 hb ext ok q
 |fn k=>exact aC (bl q:) fun x e q=>by rw [pQ e,aL q,←hf];exact .fn k
 |cls k=>exact aC (bl q:) fun x e q=>by rw [pQ e,aL q,←hc];exact .cls k
 |bi k=>rw [L3 q];exact .bi k
 |_=>exact Bool.noConfusion q
theorem xO{tr:BT}(hb:oS tr C.hb)(hf:C.mH=lX)(hc:C.dm=qD)(n:Nat){h:Heap}(ext:∀b o,C.hb.get? b=some o→¬M b∧h.get? b=some o):∀(a:AV)(v:Value),B6 tr n a v=true→ao C J M h a v:=by
 induction n with
 |zero=>intro a v h;exact Bool.noConfusion h
 |succ n ih=>exact FD hb hf hc ext ih
end
section
noncomputable def yG(k:Nat):List Nat:=((j7.get k).map fun p=>p.2.1).getD []
def LA:Option Tk:=(QQ zm AW body AY ⟨[],[],[],[]⟩).bind fun T=>Ac zm j7 lS T.pn T
noncomputable def iQ:Tk:=LA.getD ⟨[],[],[],[]⟩
def Sg(k:Nat)(fd:FuncData):Prop:=∃r∈iQ.pn,r.k=k∧fd.body=.expr r.body∧fd.params=r.params∧fd.scope=r.scope∧fd.globals=mainGlobals∧fd.builtins=builtinsNs∧fd.defaults=.none
def Uk(e:FE):Str:=(nN body e++(".<locals>.":Str))++("<lambda>":Str)
def IP(P:Addr)(_:Pos):Str:=(tW.find? fun e=>Nat.beq (e.c - 4) P).elim Str.empty Uk
def Ji(tr:BT)(c:Addr):Option Str:=(tr.get c).bind fun o=>(Tt o.data).bind fun vs=>vs[1]?.bind vStr
def Tr(tr:BT)(e:FE):Bool:=(AW.get e.k).any fun f=>e.df.elim f.df.isEmpty fun T=>Nat.blt T 1790&&(tr.get T).any fun o=>(LU o.data).any fun vs=>Nat.ble vs.length f.ps.length&&Kp (B6 tr 10) f.df vs
def UO(tr:BT)(e:FE):Bool:=Nat.beq (lX e.k) e.a&&(Nat.blt e.a 1790&&(Nat.blt e.c 1790&&Tr tr e))
noncomputable def MI(vs:List Value)(i:Nat)(p:Value→Bool):Bool:=vs[i]?.any p
theorem oA{vs:List Value}{i:Nat}{p:Value→Bool}(h:MI vs i p=true):∃v,vs.toArray[i]?=some v∧p v=true:=aC (bl h:) fun v e q=>⟨v,(List.getElem?_toArray ..).trans e,q⟩
theorem gD{vs:Array Value}{i:Nat}(h:vs[i]?=some v):vs.getD i .none=v:=by rw [Array.getD_eq_getD_getElem?,h];rfl
theorem yi(h:(vI v).isSome=true):∃i t,v=.int i t:=dC (Option.isSome_iff_exists.mp h:) fun i e=>⟨i,Ii e⟩
theorem Gp(h:(vB v).isSome=true):∃b,v=.bool b:=dC (Option.isSome_iff_exists.mp h:) fun i e=>⟨i,Ij e⟩
theorem yf(h:(vStr v).isSome=true):∃s t,v=.str s t:=dC (Option.isSome_iff_exists.mp h:) fun i e=>⟨i,qY e⟩
def Lc(P:Addr)(v:Value):Bool:=(vR v).any (Nat.beq · P)
theorem yg{P:Addr}(h:Lc P v=true):v=.ref P:=aC (bl h:) fun a e q=>(pQ e).trans (congrArg _ (aL q))
def UI(tr:BT)(p:Addr×Addr):Bool:=Nat.blt p.1 1790&&(tr.get p.1).any fun o=>(vT o.cls).any (kf · "code")&&(Tt o.data).any fun vs=>MI vs 7 (fun v=>(vI v).isSome)&&(MI vs 9 (fun v=>(vB v).isSome)&&(MI vs 10 (fun v=>(vI v).isSome)&&(MI vs 11 (Lc p.2)&&(MI vs 18 (fun v=>(vStr v).isSome)&&!Nat.beq p.1 p.2))))
def PJ(tr:BT)(a:Addr):Option (List DictEntry):=(tr.get a).bind fun o=>Jg o.data
def oJ(tr:BT)(a:Addr):List DictEntry:=(PJ tr a).getD []
def mW(tr:BT)(a:Addr):Bool:=(PJ tr a).any fun es=>es.all fun e=>(vStr e.key).isSome
def K7(v:Value)(l:List Nat):Bool:=(vStr v).any fun s=>lEq s.cps.toList l
def jz(l:List Nat)(es:List DictEntry):Option Value:=(es.find? fun e=>K7 e.key l).map (·.val)
def Dq(tr:BT)(es bs:List DictEntry)(v:AV)(l:List Nat):Bool:=(jz l es).elim ((jz l bs).any (B6 tr 10 v)) (B6 tr 10 v)
def OY(tr:BT)(es bs:List DictEntry)(p:Nat×AV):Bool:=Dq tr es bs p.2 (jT p.1).cps.toList
def Sk(r:Option (Option Value))(s:String):Bool:=r.any fun o=>o.any fun v=>(vU v).any (kf · s)
noncomputable def Sj(r:Option (Option Value)):Bool:=r.any (·.isNone)
def Si(r:Option (Option Value))(a:Addr):Bool:=r.any fun o=>o.any (Lc a)
def Ld(r:Option Value):Bool:=r.any fun v=>(vT v).any (kf · "function")
def PQ(K:Frag)(a f:Nat)(ms:List (Nat×Nat)):Bool:=(clsIn K a).any (·.hasDict)&&(Sk (findIn K (.ref a) "__getattribute__") "object.__getattribute__"&&(Sj (findIn K (.ref a) "__getattr__")&&
  (zm.attrs.all (fun n=>(gA ms n).isSome||Sj (findIn K (.ref a) (jT n)))&&(ms.all (fun q=>Si (findIn K (.ref a) (jT q.1)) (lX q.2)&&Ld (typeIn K (.ref (lX q.2))))&&
  (makesIn K a&&(Si (findIn K (.ref a) "__init__") (lX f)&&(Ld (typeIn K (.ref (lX f)))&&(plainOver K a&&Sk (findIn K (.ref a) "__setattr__") "object.__setattr__"))))))))
def Tw(K:Frag)(p:Nat×(Nat×List (Nat×Nat))):Bool:=PQ K (qD p.1) p.2.1 p.2.2
def TY:List Addr:=dm.flatMap (fun p=>[p.2.1,p.2.2])++G3.ents.flatMap (fun p=>p.2.2.map fun q=>lX q.2)
noncomputable def oe(tr:BT):Frag:=TY.map fun a=>(a,(tr.get a).getD default)
def O2(tr:BT):Bool:=TY.all fun a=>(tr.get a).any fun o=>lives o&&Nat.blt a 1790
def U5(v:Option Value)(p:Addr→Bool):Bool:=v.any fun v=>(vR v).any p
def R4(tr:BT):Bool:=U5 (jz ("__builtins__":Str).cps.toList (oJ tr 3)) fun bm=>!Nat.beq bm 0&&(!Nat.beq bm 3&&(Nat.blt bm 1790&&(tr.get bm).any fun o=>(vT o.cls).any (kf · "module")&&(o.dict.any (Nat.beq · 0)&&Nat.beq o.data.ctorIdx 0)))
def Sd(tr:BT):Bool:=U5 (jz ("law":Str).cps.toList (oJ tr 3)) (Nat.beq · (lX 185))
structure iM(tr trw:BT):Prop where
 fns:AY.map (fun e=>tr.get e.a)=AY.map (fun e=>some {cls:=.type "function",data:=.func (fdOf body e)})
 codes:AY.map (fun e=>Ji tr e.c)=AY.map (fun e=>some (nN body e))
 fe:AY.all (UO tr)=true
 tabs:eG.map (fun p=>trw.get p.2)=eG.map (fun Y=>some (tabObj #[]))
 hd:eG.all (UI tr)=true
 lq:tW.map (fun e=>IP (e.c - 4) default)=tW.map Uk
 yE:(mW tr 3&&(mW tr 0&&mW tr 2))=true
 lim:jz ("sys.recursionlimit":Str).cps.toList (oJ tr 2)=none
 mods:(tr.get 1).any lives=true
 glob:EO.ents.all (OY tr (oJ tr 3) (oJ tr 0))=true
 mod:R4 tr=true
 WB:Sd tr=true
 SU:O2 tr=true
 cls:G3.ents.all (Tw (oe tr))=true
structure kD:Prop where
 all:(LA.isSome,iQ.F4.map (·.1),iQ.rQ,iQ.pn.all (fun r=>lEq r.bR (yG r.k)))=(true,iQ.F4.map (fun p=>jT p.2),iQ.rQ.map (fun Y=>(".0":Str)),true)
 asc:Hw tL 0 0=true
 Xv:Cu.ents.all (fun p=>Nat.blt p.1 tL)=true
 dot:Cu.ents.all (fun p=>!lEq p.2.cps.toList [46,48])=true
 sp:[jT zm.d1,jT zm.d2,jT zm.en,jT zm.zp,jT dh.append,jT dh.extend,jT dh.pop,jT dh.split,jT dh.find,jT dh.join,jT dh.get,jT dh.init]=[("__debug__":Str),"__classdict__","enumerate","zip","append","extend","pop","split","find","join","get","__init__"]
 has:AW.ents.all (fun p=>AY.any fun e=>Nat.beq e.k p.1)=true
 O3:[EO.get zm.en,EO.get zm.zp]=[some (.bi 7),some (.bi 8)]
 pn:j7.ents.all (fun p=>iQ.pn.any fun r=>Nat.beq r.k p.1)=true
end
section
def DU(w:World)(ν:Nat→Int)(nf:Nat)(f0:aE AO)(h:Heap)(K:Frag)(U:Nat→Value):Cx:={prog:=prog,w:=w,ν:=ν,U:=U,hb:=h,nm:=jT,mH:=lX,dm:=qD,tabs:=eG,lam:=Sg,bR:=yG,tV:=IP,nf:=nf,f0:=f0,K:=K,attrs:=zm.attrs}
def NP(nf:Nat)(sm:Nat→List AV→AS→Option (aH (AV×AS)))(smd:Nat):Pg:=⟨AW,j7,G3,EO,nf,sm,smd⟩
section
variable{w:World}{ν:Nat→Int}{nf:Nat}{f0:aE AO}{hp:Heap}{K:Frag}{U:Nat→Value}{tr trw:BT}
theorem IT(F:kD):∀x y,jT x=jT y→x=y:=KP F.asc F.Xv
theorem all1{β:Type}{f g:α→β}{l:List α}(e:l.map f=l.map g){a:α}(m:a∈l):f a=g a:=List.map_inj_left.mp e a m
theorem Ro(F:kD):eT (DU w ν nf f0 hp K U) zm:=by
 have s:=F.sp
 simp only[List.cons.injEq,and_true]at s
 refine KN (s:) fun s1 s2 s3 s4 Y=>?_
 refine⟨s1,s2,s3,s4,fun n m=>jr m,IT F,fun x e=>?_⟩
 have e:jT x=".0":=e
 have e2:(".0":Str).cps.toList=[46,48]:=by decide+kernel
 cases q:Cu.get x with
 |some s=>
  rw [rE q]at e;have:(!lEq s.cps.toList [46,48])=true:=bS F.dot _ (aE.fA q)
  rw [e,e2,jt]at this;exact Bool.noConfusion this
 |none=>
  rw [Cv q]at e;have e:[x+1000]=(".0":Str).cps.toList:=congrArg (fun s:Str=>s.cps.toList) e
  exact nomatch List.tail_eq_of_cons_eq (e.trans e2)
theorem Lu(F:kD):aQ (DU w ν nf f0 hp K U) iQ:=by
 have h:=F.all
 refine aw (Prod.mk.inj h:) fun Y h=>?_
 refine aw (Prod.mk.inj h:) fun h1 h=>?_
 refine aw (Prod.mk.inj h:) fun h2 h3=>?_
 refine⟨fun p m=>all1 h1 m,fun r m=>⟨(kr (bS h3 r m)).symm,fun pm cdv ctv qual clos=>⟨r,m,rfl,rfl,rfl,rfl,rfl,rfl,rfl⟩⟩,fun s m=>?_⟩
 have:iQ.rQ.map id=iQ.rQ.map (fun Y=>(".0":Str)):=by rw [List.map_id];exact h2
 exact all1 this m
theorem LH(SO:eT C S){fs:aE Fn}{body:List Stmt}(HF:∀e f,fs.get e.k=some f→e∈AY→HF C body e f):∀(l:List FE)(T T':Tk),(∀e∈l,e∈AY)→QQ S fs body l T=some T'→aQ C T'→aQ C T∧∀e∈l,∀f,fs.get e.k=some f→u4 C e.k f:=by
 intro l
 induction l with
 |nil=>exact fun T T' Y h G=>⟨bh h▸G,fun Y m=>nomatch m⟩
 |cons e r ih=>
  intro T T' hm h G;unfold QQ at h;refine aC (aY h:) fun T1 h1 h2=>?_
  refine aw (ih T1 T' (fun x m=>hm x (cq _ m)) h2 G:) fun g fr=>?_
  have key:∀f,fs.get e.k=some f→aQ C T∧u4 C e.k f:=fun f hf=>Pd SO hf h1 g (HF e f hf (hm e bW))
  refine aC (aM h1:) fun f hf Y=>?_
  refine⟨(key f hf).1,fun x m f' QN=>?_⟩
  rcases cO m with rfl|m
  ·exact(key f' QN).2
  ·exact fr x m f' QN
theorem GO(SO:eT C S){gB:aE (List Nat×List Nat×CE)}{lt:List (Nat×List (List Nat))}:∀(l:List LR)(T T':Tk),Ac S gB lt l T=some T'→aQ C T'→aQ C T∧∀r∈l,∀ps cs e,gB.get r.k=some (ps,cs,e)→
  r.bR=cs∧∀fd:FuncData,fd.body=.expr r.body→fd.params=r.params→fd.scope=r.scope→fd.globals=mainGlobals→fd.builtins=builtinsNs→fd.defaults=.none→∃body kd,oT C r.k ps cs e fd body kd:=by
 intro l
 induction l with
 |nil=>exact fun T T' h G=>⟨bh h▸G,fun Y m=>nomatch m⟩
 |cons e r ih=>
  intro T T' h G;unfold Ac at h;refine aC (aY h:) fun T1 h1 h2=>?_
  refine aw (ih T1 T' h2 G:) fun g fr=>?_
  refine aw (LF SO h1 g:) fun g f1=>?_
  refine⟨g,fun x m=>?_⟩
  rcases cO m with rfl|m
  ·exact f1
  ·exact fr x m
theorem D1(HG:oS tr hp){c:Addr}{q:Str}(h:Ji tr c=some q)(hc:Nat.blt c 1790=true):hp.CodeRec (.ref c) q:=by
 refine aC (aY h:) fun o z h=>?_
 refine aC (aY h:) fun vs d h=>?_
 refine aC (aY h:) fun v e h=>?_
 refine dC (qY h:) fun t h=>?_
 have d:=DS d
 exact⟨c,o,vs.toArray,t,rfl,HG _ _ z hc (ij d rfl),d,(List.getElem?_toArray ..).trans (h▸e)⟩
theorem Sw(HG:oS tr hp)(F:iM tr trw)(e:FE)(f:Fn)(hf:AW.get e.k=some f)(m:e∈AY):HF (DU w ν nf f0 hp K U) body e f:=by
 have hb:=bS F.fe e m
 unfold UO at hb;refine aw (ae hb:) fun b1 hb=>?_
 refine aw (ae hb:) fun b2 hb=>?_
 refine aw (ae hb:) fun b3 b4=>?_
 refine⟨aL b1,HG _ _ (all1 F.fns m) b2 rfl,D1 HG (all1 F.codes m) b3,?_,fun hl=>?_⟩
 ·refine aC (bl b4:) fun f' q b4=>?_
  cases hf.symm.trans q
  cases hd:e.df with
  |none=>
   rw [hd]at b4;refine⟨[],Nat.zero_le _,.inl ⟨rfl,rfl⟩,fun J M h ext=>?_⟩
   rw [List.isEmpty_iff.mp b4];exact .nil
  |some T=>
   rw [hd]at b4;refine aw (ae b4:) fun c1 b4=>?_
   refine aC (bl b4:) fun o z b4=>?_
   refine aC (bl b4:) fun vs d b4=>?_
   refine aw (ae b4:) fun c2 c3=>?_
   refine dC (yF d:) fun n d=>?_
   exact⟨vs,bF c2,.inr ⟨T,o,n,rfl,HG _ _ z c1 (ij d rfl),d⟩,fun J M h ext=>xP (xO (C:=DU w ν nf f0 hp K U) HG rfl rfl 10 ext) _ _ c3⟩
 ·have hm:e∈tW:=List.mem_filter.mpr ⟨m,hl⟩
  exact⟨e.c - 4,List.mem_map.mpr ⟨e,hm,rfl⟩,fun Y=>all1 F.lq hm⟩
theorem CW(x:Str)(v:Value):v.isStr x=K7 v x.cps.toList:=by
 cases v with
 |str s t=>
  show(s==x)=lEq s.cps.toList x.cps.toList;rw [Bool.eq_iff_iff,beq_iff_eq];exact⟨fun q=>q▸jt _,fun q=>by rw [←ic s,←ic x,kr q]⟩
 |_=>rfl
theorem ly(HG:oS tr hp){a:Addr}(h:mW tr a=true)(ha:Nat.blt a 1790=true):hp.Ns a (hp.nsMap a)∧∀x:Str,hp.nsMap a x=jz x.cps.toList (oJ tr a):=by
 refine aC (bl h:) fun es q h=>?_
 refine aC (aY q:) fun o z d=>?_
 refine dC (DT d:) fun n d'=>?_
 have g:=HG _ _ z ha (ij d' rfl)
 obtain⟨c,dd,da,sl⟩:=o
 have d':da=_:=d'
 subst d';have hn:hp.isNs a=true:=by
  unfold Heap.isNs;rw [g];refine(Array.all_eq_true_iff_forall_mem).mpr fun e m=>?_
  refine F1 (yf (bS h e (List.mem_toArray.mp m)):) fun s t e=>?_
  rw [e]
 refine⟨.of_isNs hn,fun x=>?_⟩
 unfold Heap.nsMap jz oJ;rw [g,q];show(es.toArray.find? fun e=>e.key.isStr x).map (·.val)=_
 rw [←Array.find?_toList,show(fun e:DictEntry=>e.key.isStr x)=fun e=>K7 e.key x.cps.toList from funext fun e=>CW x e.key]
 rfl
theorem Dp{tr:BT}{es bs:List DictEntry}{v:AV}(h:Dq tr es bs v l=true):∃rv,B6 tr 10 v rv=true∧(jz l es=some rv∨jz l es=none∧jz l bs=some rv):=by
 unfold Dq at h;cases q:jz l es with
 |some rv=>rw [q]at h;exact⟨rv,h,.inl rfl⟩
 |none=>rw [q]at h;exact aC (bl h:) fun rv q' h=>⟨rv,h,.inr ⟨rfl,q'⟩⟩
theorem Lv(HG:oS tr hp)(F:iM tr trw)(x:Nat)(v:AV)(h:EO.get x=some v):sf (DU w ν nf f0 hp K U) x v:=by
 have hd:=F.yE
 refine aw (ae hd:) fun d1 hd=>?_
 refine aw (ae hd:) fun d2 d3=>?_
 refine aw (ly HG d1 (by rfl):) fun N1 E1=>?_
 refine aw (ly HG d2 (by rfl):) fun N2 E2=>?_
 refine aC (Dp (bS F.glob (x,v) (aE.fA h)):) fun rv hg q=>?_
 refine⟨rv,fun J M h ext=>xO (C:=DU w ν nf f0 hp K U) HG rfl rfl 10 ext v rv hg,_,N1,?_⟩
 exact q.elim (fun q=>.inl ((E1 _).trans q)) fun q=>.inr ⟨(E1 _).trans q.1,_,N2,(E2 _).trans q.2⟩
theorem C8{s:String}(h:Sk r s=true):r=some (some (.builtin s)):=
 aC (bl h:) fun o e h=>aC (bl h:) fun v e1 h=>aC (bl h:) fun t e2 h=>by rw [e,e1,Bt e2,show t=s from beq_iff_eq.mp h]
theorem C7(h:Sj r=true):r=some none:=
 aC (bl h:) fun o e h=>e.trans (congrArg some (Option.isNone_iff_eq_none.mp h))
theorem C5{a:Addr}(h:Si r a=true):r=some (some (.ref a)):=
 aC (bl h:) fun o e h=>aC (bl h:) fun v e1 h=>by rw [e,e1,yg h]
theorem yk{r:Option Value}(h:Ld r=true):r=some (.type "function"):=
 aC (bl h:) fun v e h=>aC (bl h:) fun s e1 h=>by rw [e,pP e1,show s="function" from beq_iff_eq.mp h]
theorem zK{ms:List (Nat×Nat)}(h:gA ms n=some k):(n,k)∈ms:=by
 induction ms with
 |nil=>exact no h
 |cons p r ih=>
  unfold gA at h;cases q:Nat.beq p.1 n with
  |true=>rw [q]at h;rw [←aL q,←bh h];exact bW
  |false=>rw [q]at h;exact cq _ (ih h)
theorem PO(HK:K=oe tr)(F:iM tr trw)(c f:Nat)(ms:List (Nat×Nat))(h:G3.get c=some (f,ms)):EF (DU w ν nf f0 hp K U) c f ms:=by
 subst HK;have hc:PQ (oe tr) (qD c) f ms=true:=bS F.cls _ (aE.fA h)
 refine aw (ae hc:) fun c1 hc=>?_
 refine aw (ae hc:) fun c2 hc=>?_
 refine aw (ae hc:) fun c3 hc=>?_
 refine aw (ae hc:) fun c4 hc=>?_
 refine aw (ae hc:) fun c5 hc=>?_
 refine aw (ae hc:) fun c6 hc=>?_
 refine aw (ae hc:) fun c7 hc=>?_
 refine aw (ae hc:) fun c8 hc=>?_
 refine aw (ae hc:) fun c9 Xu=>?_
 refine⟨?_,C8 c2,C7 c3,fun n m hn=>?_,fun n k hk=>?_,c6,⟨C5 c7,yk c8⟩,c9,C8 Xu⟩
 ·exact bl c1
 ·have:=bS c4 n m
  rw [hn]at this;exact C7 this
 ·have:=bS c5 _ (zK hk)
  refine aw (ae this:) fun a b=>?_
  exact⟨C5 a,yk b⟩
theorem OD(HG:oS tr hp)(F:iM tr trw):(oe tr).In hp:=by
 intro a o h;have hm:∀(l:List Addr),(l.map fun a=>(a,((tr).get a).getD default)).lookup a=some o→a∈l∧o=((tr).get a).getD default:=by
  intro l
  induction l with
  |nil=>intro q;injection q
  |cons b r ih=>
   intro q;rw [List.map_cons,List.lookup_cons]at q;cases z:a==b with
   |true=>
    rw [z]at q;have:=beq_iff_eq.mp z
    subst this;injection q with q;subst q;exact⟨bW,rfl⟩
   |false=>
    rw [z]at q;refine aw (ih q:) fun i1 i2=>?_
    exact⟨cq _ i1,i2⟩
 refine aw (hm TY h:) fun m e=>?_
 refine aC (bl (bS F.SU a m):) fun o' q this=>?_
 refine aw (ae this:) fun a1 a2=>?_
 rw [e,q];exact HG _ _ q a2 a1
theorem CV(HG:oS tr hp)(F:iM tr trw):Mu (DU w ν nf f0 hp K U):=by
 have hd:=F.yE
 refine aw (ae hd:) fun d1 hd=>?_
 refine aw (ly HG d1 (by rfl):) fun N1 E1=>?_
 refine⟨?_,fun p m=>?_⟩
 ·refine aC (bl F.mod:) fun v q hm=>?_
  refine aC (bl hm:) fun bm e hm=>?_
  refine aw (ae hm:) fun a1 hm=>?_
  refine aw (ae hm:) fun a2 hm=>?_
  refine aw (ae hm:) fun a3 hm=>?_
  refine aC (bl hm:) fun o z hm=>?_
  refine aw (ae hm:) fun b1 hm=>?_
  refine aw (ae hm:) fun b2 b3=>?_
  refine aC (bl b1:) fun s c1 b1=>?_
  refine aC (bl b2:) fun x c2 b2=>?_
  have dp:=xp b3
  refine⟨_,bm,_,N1,(E1 _).trans (q.trans (congrArg some (pQ e))),fun e=>?_,fun e=>?_,HG _ _ z a3 (ij dp rfl),(pP c1).trans (congrArg _ (beq_iff_eq.mp b1)),c2.trans (congrArg some (aL b2)),dp⟩
  ·rw [e]at a1;exact Bool.noConfusion a1
  ·rw [e]at a2;exact Bool.noConfusion a2
 ·refine aw (ae (bS F.hd p m):) fun a3 hh=>?_
  refine aC (bl hh:) fun o z hh=>?_
  refine aw (ae hh:) fun a1 hh=>?_
  refine aC (bl hh:) fun vs d hh=>?_
  refine aw (ae hh:) fun h7 hh=>?_
  refine aw (ae hh:) fun h9 hh=>?_
  refine aw (ae hh:) fun hx hh=>?_
  refine aw (ae hh:) fun hP hh=>?_
  refine aw (ae hh:) fun SM a4=>?_
  have d:=DS d
  refine aC (bl a1:) fun s c1 a1=>?_
  refine aC (oA h7:) fun v7 e7 h7=>F1 (yi h7:) fun i7 t7 q7=>?_
  refine aC (oA h9:) fun v9 e9 h9=>dC (Gp h9:) fun b9 q9=>?_
  refine aC (oA hx:) fun vx ex hx=>F1 (yi hx:) fun WG VP qx=>?_
  refine aC (oA hP:) fun vP eP hP=>?_
  refine aC (oA SM:) fun vb es SM=>F1 (yf SM:) fun VS VO qs=>?_
  rw [yg hP]at eP;refine⟨o,vs.toArray,VS,VO,i7,t7,b9,WG,VP,HG _ _ z a3 (ij d rfl),(pP c1).trans (congrArg _ (beq_iff_eq.mp a1)),d,eP,gD eP,(gD es).trans qs,(gD e7).trans q7,(gD e9).trans q9,(gD ex).trans qx,fun e=>?_⟩
  rw [e,Nat.beq_refl]at a4;exact Bool.noConfusion a4
theorem Q8(N:kD)(HG:oS tr hp)(HK:K=oe tr)(F:iM tr trw){sm:Nat→List AV→AS→Option (aH (AV×AS))}{smd:Nat}(hs:Ms (DU w ν nf f0 hp K U) (NP nf sm smd)):WF (DU w ν nf f0 hp K U) (NP nf sm smd) dh:=by
 have SO:=Ro (w:=w) (ν:=ν) (nf:=nf) (f0:=f0) (hp:=hp) (K:=K) (U:=U) N
 have hall:=N.all
 refine aw (Prod.mk.inj hall:) fun hsome Y=>?_
 refine dC (Option.isSome_iff_exists.mp hsome:) fun T2 hT=>?_
 have e2:iQ=T2:=by unfold iQ;rw [hT];rfl
 have G:=Lu (w:=w) (ν:=ν) (nf:=nf) (f0:=f0) (hp:=hp) (K:=K) (U:=U) N
 rw [e2]at G;have Lr:=hT
 unfold LA at Lr;refine aC (aY Lr:) fun T1 h1 h2=>?_
 refine aw (GO SO _ _ _ h2 G:) fun g1 lm=>?_
 refine aw (LH SO (fun e f hf m=>Sw HG F e f hf m) AY _ _ (fun Y m=>m) h1 g1:) fun Y fo=>?_
 have hd:=F.yE
 refine aw (ae hd:) fun d1 hd=>?_
 refine aw (ae hd:) fun d2 d3=>?_
 refine aw (ly HG d3 (by rfl):) fun N3 E3=>?_
 have hsp:=N.sp
 simp only[List.cons.injEq,and_true]at hsp
 obtain⟨_,_,sen,szp,s5,s6,s7,s8,s9,VW,VT,XC⟩:=hsp
 have same:T2.pn=T1.pn:=qu _ _ _ h2
 exact{
  wd:={
   inj:=IT N
   glob:=Lv HG F
   Uy:=by subst HK;exact OD HG F
   cls:=PO HK F
   nf:=rfl
   mods:=by
    exact aC (bl F.mods:) fun o q h=>⟨o,HG _ _ q (by rfl) h⟩
   cu:=AB}
  lim:=⟨_,N3,(E3 _).trans F.lim⟩
  fns:=fun k f hf=>by
   have:=bS N.has _ (aE.fA hf)
   refine aC (List.any_eq_true.mp this:) fun e m q=>?_
   have q:e.k=k:=aL q
   have hf:AW.get k=some f:=hf
   rw [←q]at hf⊢;exact fo e m f hf
  gB:=fun k ps cs e hl=>by
   have hl:j7.get k=some (ps,cs,e):=hl
   refine⟨by show yG k=cs;unfold yG;rw [hl];rfl,fun fd hfd=>?_⟩
   obtain⟨r,m,rfl,b1,b2,b3,b4,b5,b6⟩:=hfd
   rw [e2,same]at m;exact(lm r m ps cs e hl).2 fd b1 b2 b3 b4 b5 b6
  lw:=CV HG F
  dh:=⟨s5,s6,s7,s8,s9,VW,VT⟩
  bj:=Ao
  PV:=Hq
  bi:=TA Hr AD yK
  it:=Gj
  en:=GV
  zp:=JI
  UM:=by
   exact⟨⟨zm.en,sen,(List.cons.inj N.O3).1⟩,⟨zm.zp,szp,(List.cons.inj (List.cons.inj N.O3).2).1⟩⟩
  sm:=hs}
end
end
noncomputable def Cx.re(C:Cx)(ν:Nat→Int)(nf:Nat)(f0:aE AO)(U:Nat→Value):Cx:={C with ν:=ν,nf:=nf,f0:=f0,U:=U}
theorem cZ.re{ν:Nat→Int}{nf:Nat}{f0:aE AO}{U:Nat→Value}{kd:Kd}{cs:Bool}{c:List CS}{x:List Stmt}(h:cZ C kd cs c x):cZ (C.re ν nf f0 U) kd cs c x:=h
def VX(m:Nat)(π:Nat→Nat)(n:Nat)(a b:Nat×AV):Bool:=Nat.beq a.1 b.1&&xS m π n a.2 b.2
def Uj(m:Nat)(π:Nat→Nat)(n:Nat):List (Nat×AV)→List (Nat×AV)→Bool:=allR (VX m π n)
def Iq(m:Nat)(π:Nat→Nat)(a b:AO):Bool:=match a with
 |.list x=>(match b with|.list y=>xS.FI m π 20 x y|_=>false)
 |.inst c d=>(match b with|.inst c' d'=>Nat.beq c c'&&(Nat.blt d m&&Nat.beq (π d) d')|_=>false)
 |.ns x=>(match b with|.ns y=>Uj m π 20 x y|_=>false)
 |.cu x=>(match b with|.cu y=>Lj x y|_=>false)
section
variable{ν:Nat→Int}{nf:Nat}{f0:aE AO}{U:Nat→Value}{σ':List Addr}{M':Addr→Prop}{h:Heap}{m:Nat}{π:Nat→Nat}
theorem Ee{x y:IE}{g:Int→Int→Bool}(h:both x y g false=true):∃i j,x=.c i∧y=.c j∧g i j=true:=by
 unfold both at h;cases q:gM x with
 |none=>rw [q]at h;injection h
 |some i=>
  rw [q]at h
  dsimp only at h
  cases q':gM y with
  |none=>rw [q']at h;injection h
  |some j=>rw [q']at h;exact⟨i,j,de q,de q',h⟩
theorem wm{a b:IE}(h:QK a b=true):∃i,a=.c i∧b=.c i:=by
 obtain⟨i,j,rfl,rfl,h⟩:=Ee h
 rw [bL.mp h];exact⟨_,rfl,rfl⟩
theorem fZ{l:List α}(h:tP l=true):l=[]:=by
 cases l with
 |nil=>rfl
 |cons=>injection h
theorem l0{f:α→α→Bool}{a:α}{x y:List α}(h:allR f (a::x) y=true):∃b r,y=b::r∧f a b=true∧allR f x r=true:=by
 cases y with
 |nil=>injection h
 |cons b r=>exact⟨b,r,rfl,ae h⟩
theorem yq{a:List IE}:∀{b:List IE},Lj a b=true→a=b∧∀e∈a,∃i,e=.c i:=by
 induction a with
 |nil=>intro b h;exact⟨(fZ h).symm,fun Y m=>nomatch m⟩
 |cons a x ih=>
  intro b h;obtain⟨b,y,rfl,h1,h2⟩:=l0 h
  obtain⟨i,rfl,rfl⟩:=wm h1
  obtain⟨rfl,k⟩:=ih h2
  refine⟨rfl,fun e m=>?_⟩
  rcases cO m with rfl|m
  ·exact⟨i,rfl⟩
  ·exact k e m
theorem mw{l:List IE}(k:∀e∈l,∃i,e=.c i)(ν fi:Nat→Int):aS ν l=aS fi l∧(bq ν l→bq fi l):=by
 refine⟨?_,fun B e m=>?_⟩
 ·unfold aS
  congr 1
  refine List.map_congr_left fun e m=>?_
  obtain⟨i,rfl⟩:=k e m
  rfl
 ·obtain⟨i,rfl⟩:=k e m
  exact B _ m
theorem Mf{a b:Bool}(h:P5 a b=true):a=b:=by cases a<;>cases b<;>first|rfl|injection h
structure HO(C:Cx)(J σ':List Addr)(M M':Addr→Prop)(m:Nat)(π:Nat→Nat):Prop where
 at_:∀j a,j<m→J[π j]?=some a→σ'[j]?=some a
 less:∀a,M' a→M a
theorem Mg(v:AV):zy [v=.none,v=.bool (wA v).b,v=.int (wA v).i,v=.str (wA v).s,v=.bytes (wA v).y,v=.t (wA v).t,v=.eD (wA v).d,v=.ref (wA v).r,v=.fn (wA v).r,v=.cls (wA v).r,v=.bi (wA v).r,True,True,v=.mC (wA v).r] v.ctorIdx:=by
 cases v<;>first|exact rfl|exact trivial
theorem gU{v:AV}(h:Nat.beq k v.ctorIdx=true):zy [v=.none,v=.bool (wA v).b,v=.int (wA v).i,v=.str (wA v).s,v=.bytes (wA v).y,v=.t (wA v).t,v=.eD (wA v).d,v=.ref (wA v).r,v=.fn (wA v).r,v=.cls (wA v).r,v=.bi (wA v).r,True,True,v=.mC (wA v).r] k:=aL h▸Mg v
theorem dO{o:Option α}{g:α→Bool}(h:k9 o g=true):∃a,o=some a∧g a=true:=by
 cases o with
 |none=>injection h
 |some a=>exact⟨a,rfl,h⟩
theorem yN{f:AV→AV→Bool}(H:∀(a b:AV)(v:Value),f a b=true→ao C J M h b v→ao (C.re ν nf f0 U) σ' M' h a v){x:List AV}:∀{y:List AV}{vs:List Value},allR f x y=true→ay C J M h y vs→ay (C.re ν nf f0 U) σ' M' h x vs:=by
 induction x with
 |nil=>intro y vs q W;cases fZ q;exact W.nl▸.nil
 |cons a x ih=>
  intro y vs q W;obtain⟨b,y,rfl,q1,q2⟩:=l0 q
  exact W.oU fun v Y W1 W2=>.cons (H a b v q1 W1) (ih q2 W2)
theorem nB{a b:AV}(e:a=b)(V:ao C J M h a v):ao C J M h b v:=e▸V
theorem rp(X:HO C J σ' M M' m π):∀(n:Nat)(a b:AV)(v:Value),xS m π n a b=true→ao C J M h b v→ao (C.re ν nf f0 U) σ' M' h a v:=by
 intro n
 induction n with
 |zero=>intro a b v e;injection e
 |succ n ih=>
  intro a b v e V;refine aw (ae e:) fun t e=>?_
  have t:=gU t
  cases a with
  |none=>cases (nB (b:=.none) t V).inv;exact .none
  |bool x=>
   have V:=(nB (b:=.bool (wA b).b) t V).inv
   rw [show v=_ from V,←Mf e];exact .bool _
  |int x=>
   obtain⟨i,rfl,q⟩:=wm e
   obtain⟨t,rfl⟩:=(nB (b:=.int (wA b).i) t V).inv
   exact .int _ _ t (by rw [q];rfl)
  |str x=>
   obtain⟨t,rfl⟩:=(nB (b:=.str (wA b).s) t V).inv
   rw [←kr e];exact .str _ _
  |bytes x=>
   refine aw (yq e:) fun q k=>?_
   obtain⟨B,t,rfl⟩:=(nB (b:=.bytes (wA b).y) t V).inv
   rw [←q]at B⊢;refine aw (mw k C.ν ν:) fun k1 k2=>?_
   rw [k1];exact .bytes _ t (k2 B)
  |t x=>
   obtain⟨a,vs,k,rfl,h1,h2,h3⟩:=(nB (b:=.t (wA b).t) t V).inv
   exact .t _ a vs k (fun q=>h1 (X.less _ q)) h2 (yN ih e h3)
  |eD x=>
   obtain⟨a,es,k,rfl,h1,h2,h3,h4⟩:=(nB (b:=.eD (wA b).d) t V).inv
   rw [fZ (ae e).2]at h4;rw [fZ (ae e).1];rw [h4.nl]at h3;exact .eD _ a _ k (fun q=>h1 (X.less _ q)) h2 h3 .nil
  |ref i=>
   obtain⟨a,rfl,h1⟩:=(nB (b:=.ref (wA b).r) t V).inv
   exact .ref _ a (X.at_ _ _ (bF (ae e).1) (by rw [aL (ae e).2];exact h1))
  |fn i=>exact(ao.inv (aL e▸nB (b:=.fn (wA b).r) t V:ao C J M h (.fn i) v):v=_)▸.fn i
  |cls i=>exact(ao.inv (aL e▸nB (b:=.cls (wA b).r) t V:ao C J M h (.cls i) v):v=_)▸.cls i
  |bi i=>exact(ao.inv (aL e▸nB (b:=.bi (wA b).r) t V:ao C J M h (.bi i) v):v=_)▸.bi i
  |_=>injection e
theorem xR(X:HO C J σ' M M' m π)(n:Nat)(x y:List AV)(vs:List Value)(q:xS.FI m π n x y=true)(W:ay C J M h y vs):ay (C.re ν nf f0 U) σ' M' h x vs:=yN (rp X n) q W
theorem Kq(X:HO C J σ' M M' m π)(n:Nat):∀(x y:List (Nat×AV))(es:List DictEntry),Uj m π n x y=true→cj C J M h y es→cj (C.re ν nf f0 U) σ' M' h x es:=by
 intro x
 induction x with
 |nil=>intro y vs q W;cases fZ q;exact W.nl▸.nil
 |cons a x ih=>
  intro y vs q W;obtain⟨b,y,rfl,q1,q2⟩:=l0 q
  exact W.oU fun v t es W1 W2=>aL (ae q1).1▸.cons (x:=a.1) (a:=a.2) (rp X n _ _ _ (ae q1).2 W1) (ih y _ q2 W2)
theorem vK(X:HO C J σ' M M' m π){a b:AO}{x:Addr}(e:Iq m π a b=true)(O:cQ C J M h b x):cQ (C.re ν nf f0 U) σ' M' h a x:=by
 cases a with
 |list _=>cases b with
  |list _=>exact eJ O.listI fun vs n h1 h2=>.list _ _ vs n h1 (xR X _ _ _ _ e h2)
  |_=>injection e
 |inst _ _=>cases b with
  |inst _ _=>exact aC O.instI fun dx h1 h2=>aL (ae e).1▸.inst _ _ _ dx h1 (X.at_ _ _ (bF (ae (ae e).2).1) (aL (ae (ae e).2).2▸h2))
  |_=>injection e
 |ns _=>cases b with
  |ns _=>exact eJ O.QJ fun es n h1 h2=>.ns _ _ es n h1 (Kq X _ _ _ _ e h2)
  |_=>injection e
 |cu _=>cases b with
  |cu _=>
   obtain⟨rfl,k⟩:=yq e
   exact aw (mw k C.ν ν) fun k1 k2=>.cu _ _ (k1▸O.jE.1) (k2 O.jE.2)
  |_=>injection e
noncomputable def bY(J:List Addr)(π:Nat→Nat)(m:Nat):List Addr:=(List.range m).map fun j=>J.getD (π j) 0
theorem kW{j:Nat}(hj:j<m):(bY J π m)[j]?=some (J.getD (π j) 0):=by
 unfold bY;rw [List.getElem?_map,List.getElem?_range hj];rfl
theorem oa{i:Nat}(h:i<J.length):J[i]?=some (J.getD i 0):=by
 rw [List.getD_eq_getElem?_getD,List.getElem?_eq_getElem h];rfl
def sb(M:Addr→Prop)(l:List Addr)(nf:Nat)(a:Addr):Prop:=M a∧∀i,i<nf→l[i]?≠some a
def Jm(Z:Addr→Prop)(J l:List Addr)(a:Addr):Prop:=Z a∨(a∈J∧a∉l)
theorem cT{s:AS}(S:aq C J M s h)(dQ:∀j,j<m→π j<s.n){i:Nat}{a:Addr}(q:(bY J π m)[i]?=some a):J[π i]?=some a∧i<m:=by
 have hi:i<m:=by
  have:=(List.getElem?_eq_some_iff.mp q).1
  unfold bY at this
  rwa[List.length_map,List.length_range]at this
 exact⟨(oa (S.len▸dQ i hi)).trans ((kW hi).symm.trans q),hi⟩
theorem ji{s:AS}(S:aq C J M s h)(dQ:∀j,j<m→π j<s.n){a:Addr}(x:a∈bY J π m):a∈J:=
 (List.getElem?_of_mem x).elim fun Y q=>bO (cT S dQ q).1
theorem nL:HO C J (bY J π m) M (sb M (bY J π m) nf) m π:=⟨fun j a hj q=>(kW hj).trans (congrArg some (by rw [List.getD_eq_getElem?_getD,q];rfl)),fun a x=>x.1⟩
theorem FA{s:AS}(S:aq C J M s h)(dQ:∀j,j<m→π j<s.n)(hinj:∀i j,i<m→j<m→π i=π j→i=j):(bY J π m).Nodup:=by
 unfold bY;refine List.pairwise_map.mpr (List.Pairwise.imp_of_mem ?_ List.nodup_range);intro i j hi hj hne e;have hi:=List.mem_range.mp hi
 have hj:=List.mem_range.mp hj
 exact hne (hinj i j hi hj (S.inj (oa (S.len▸dQ i hi)) ((oa (S.len▸dQ j hj)).trans (congrArg some e.symm))))
theorem aq.ed{s:AS}(S:aq C J M s h){s':AS}(hm:s'.n≤1000000)(hnf:nf≤s'.n)(dQ:∀j,j<s'.n→π j<s.n)(hinj:∀i j,i<s'.n→j<s'.n→π i=π j→i=j)
  (hf:∀i,i<nf→s'.hp.get i=f0.get i)(hmut:∀i,nf≤i→i<s'.n→C.nf≤π i)(hlow:∀i o,s'.hp.get i=some o→i<s'.n)
  (hobj:∀i o,s'.hp.get i=some o→(∀(σ':List Addr)(M':Addr→Prop),HO C J σ' M M' s'.n π→cQ (C.re ν nf f0 U) σ' M' h o (J.getD (π i) 0)))(hrg:cg ν s'.rg):
  aq (C.re ν nf f0 U) (bY J π s'.n) (sb M (bY J π s'.n) nf) s' h:=by
 have len:(bY J π s'.n).length=s'.n:=by unfold bY;rw [List.length_map,List.length_range]
 have nm:∀p∈C.tabs,∀i:Nat,(bY J π s'.n)[i]?≠some p.2:=fun p hp i e=>(S.tab p hp).2 (bO (cT S dQ e).1)
 refine⟨len.symm,hm,⟨hnf,hf⟩,FA S dQ hinj,hlow,fun i o a e q=>?_,fun i a q hi=>⟨S.jq (π i) a (cT S dQ q).1 (hmut i hi (cT S dQ q).2),fun j hj e=>?_⟩,fun i a q hi x=>x.2 i hi q,fun a x=>S.there a (ji S dQ x),fun a x=>S.mlt a x.1,fun b o e=>?_,fun p hp=>⟨?_,fun x=>(List.getElem?_of_mem x).elim (nm p hp)⟩,hrg⟩
 ·rw [kW (cT S dQ q).2]at q
  exact bh q▸hobj i o e _ _ nL
 ·have hi:nf≤i:=hi
  have:=hinj i j (cT S dQ q).2 (cT S dQ e).2 (S.inj (cT S dQ q).1 (cT S dQ e).1)
  lia
 ·exact⟨fun x=>(S.base b o e).1 x.1,(S.base b o e).2⟩
 ·refine AR (S.tab p hp).1 fun ps a1 a2 a3 a4=>?_
  refine⟨ps,⟨a1,fun i Y=>nm p hp i⟩,a2,a3,fun pos cv e=>?_⟩
  refine vc (a4 pos cv e:) fun c oc vs t e1 e2 e3 e4=>?_
  exact⟨c,oc,vs,t,e1,fun x=>e2 x.1,e3,e4⟩
theorem cm.ed{Z:Addr→Prop}{s:AS}(S:aq C J M s h)(z:cm C Z J h)(dQ:∀j,j<m→π j<s.n):cm (C.re ν nf f0 U) (Jm Z J (bY J π m)) (bY J π m) h:=fun a q=>
 q.elim (fun q=>⟨(z a q).1,fun x=>(z a q).2.1 (ji S dQ x),(z a q).2.2⟩) fun q=>⟨S.there a q.1,q.2,fun p hp e=>(S.tab p hp).2 (e▸q.1)⟩
end
end
end Mine.Internal
namespace Mine.Internal
open PySem PySem.W PyProof.Rows PySem.SeqAt
open PySem.Sem (wp)
noncomputable section
variable{M₀ Z₀:Addr→Prop}
noncomputable def my{α:Type}(p:α→Bool):aH α→Bool
 |.ok a=>p a
 |.fork _ _ _ t f=>match my p t with|true=>my p f|false=>false
 |.bad _=>false
set_option tactic.hygienic true in
theorem fg{α:Type}{p:α→Bool}(ν:Nat→Int):∀{r:aH α},my p r=true→∃a,r.leaf ν=some a∧p a=true
 |.ok a,h=>⟨a,rfl,h⟩
 |.fork k a b t f,h=>by
  unfold my at h;split at h
  ·rename_i q
   refine aC (fg ν q:) fun x e1 p1=>?_
   refine aC (fg ν h:) fun y e2 p2=>?_
   unfold aH.leaf;cases eE ν k a b with
   |true=>exact⟨x,e1,p1⟩
   |false=>exact⟨y,e2,p2⟩
  ·injection h
 |.bad _,h=>by injection h
theorem kM{M:Model}{Γ:Ctx}{env:PySem.Env}{ys:List Stmt}{Q:Flow→Pos→Shared→Prop}{E:Value→Pos→Shared→Prop}:∀(xs:List Stmt)(p:Pos)(s:Shared),
  wp M Γ (execs xs env) (fun f p' s'=>match f with|.next=>wp M Γ (execs ys env) Q E p' s'|f=>Q f p' s') E p s→wp M Γ (execs (xs++ys) env) Q E p s
 |[],_,_,h=>h
 |x::xs,p,s,h=>by
  rw [List.cons_append,execs_cons,Sem.wp_bind'];rw [execs_cons,Sem.wp_bind']at h;refine Sem.wp_mono M Γ _ (fun f p' s' h'=>?_) (fun Y Y Y h'=>h') _ _ h
  cases f<;>first|exact kM xs p' s' h'|exact h'
theorem fJ{M:Model}{A:Around}{env:PySem.Env}{xs ys:List Stmt}{Q:Flow→Shared→Prop}{E:Value→Shared→Prop}{s:Shared}
  (h:ab M A (execs xs env) (fun f s'=>match f with|.next=>ab M A (execs ys env) Q E s'|f=>Q f s') E s):ab M A (execs (xs++ys) env) Q E s:=fun Γ p iz hc=>by
 refine kM xs p s (Sem.wp_mono M Γ _ (fun f p' s' h'=>?_) (fun Y Y Y h'=>h') _ _ (h Γ p iz hc))
 cases f<;>first|exact h' Γ p' iz hc|exact h'
theorem cZ.split{C:Cx}{kd:Kd}{cs:Bool}{m l:List CS}:∀{xs:List Stmt},cZ C kd cs (l++m) xs→∃ys zs,xs=ys++zs∧cZ C kd cs l ys∧cZ C kd cs m zs:=by
 induction l with
 |nil=>exact fun{xs} h=>⟨[],xs,rfl,.nil,h⟩
 |cons c l ih=>exact fun h=>jZ (cn.un h) fun x r q a b=>jZ (ih b) fun ys zs e h1 h2=>⟨x::ys,zs,by rw [q,e];rfl,.cons a h1,h2⟩
section
variable{C:Cx}{ν:Nat→Int}{nf:Nat}{f0:aE AO}{U:Nat→Value}{J σ' y8:List Addr}{M M' HQ Z Z' own:Addr→Prop}{h h':Heap}{kd:Kd}{cs:Bool}{env:PySem.Env}{ρ ρ':Env}
theorem di.ed{s:AS}(S:aq C J M s h)(F:di C Z J M own kd cs env ρ h)(hm:∀a,M' a→M a)(hM:∀a,own a→M' a)(hz:∀a,Z a→Z' a)(hZ:∀a,Z' a→Z a∨a∈J)(Dd:∀a,a∈σ'→a∈J)
  (hv:∀x v',az ρ' x=some v'→gV (kd.k (C.nm x))→∃rv,dI (fun a=>Z a∨own a) M env h (C.nm x) rv∧ao (C.re ν nf f0 U) σ' M' h v' rv):di (C.re ν nf f0 U) Z' σ' M' own kd cs env ρ' h:=by
 refine⟨⟨F.f.glob,F.f.iZ,F.f.kind,F.f.kinds,F.f.D5,F.f.w5,fun c q=>?_,fun x v' e k=>?_⟩,fun a q=>⟨hM a q,fun z=>?_⟩,fun a q=>?_,F.lo,F.ns,F.ce,F.lc,F.ap,F.fY⟩
 ·refine dJ (F.f.code c q:) fun a1 a2 a3=>?_
  exact⟨a1,a2,fun x a q z=>a3 x a q (hm a z)⟩
 ·refine aC (hv x v' e k:) fun rv R V=>?_
  refine⟨rv,?_,V⟩
  cases R with
  |loc m a b c d=>exact .loc m a (b.imp (hz _) id) c d
  |cell c o a b e f g=>exact .cell c o a b (e.imp (fun z=>z.imp (hz _) id) fun n z=>n (hm _ z)) f g
 ·rcases hZ a z with z|z
  ·exact(F.eO a q).2 z
  ·exact(F.gw a q).2.1 z
 ·refine dJ (F.gw a q:) fun a1 a2 a3=>?_
  exact⟨a1,fun m=>a2 (Dd a m),a3⟩
structure Way(h₀:Heap)(M₀ Z₀:Addr→Prop)(J:List Addr)(M Z:Addr→Prop)(h:Heap):Prop where
 more:∀a,M₀ a→M a
 fresh:∀a,M a→M₀ a∨h₀.get? a=none
 keep:∀a,Z₀ a→Z a
 ext:Ext (fun a=>M₀ a∧¬Z₀ a) h₀ h
 new:∀a,a∈J→h₀.get? a=none
theorem Way.start(h₀:Heap)(M₀ Z₀:Addr→Prop):Way h₀ M₀ Z₀ [] M₀ Z₀ h₀:=⟨fun Y x=>x,fun Y x=>.inl x,fun Y x=>x,Ext.refl _ _,fun Y m=>nomatch m⟩
theorem Way.go{h₀:Heap}(W:Way h₀ M₀ Z₀ J M Z h)(G:aJ Z J M h σ' M' h'):Way h₀ M₀ Z₀ σ' M' Z h':=by
 obtain⟨l,rfl,f⟩:=G.pre
 refine⟨fun a x=>G.more a (W.more a x),fun a x=>?_,W.keep,⟨fun b o e=>?_,fun b o hn e=>?_⟩,fun a m=>?_⟩
 ·rcases G.fresh a x with x|x
  ·exact W.fresh a x
  ·exact .inr (W.ext.dead x)
 ·refine dC (W.ext.live b o e:) fun o' e'=>?_
  exact G.ext.live b o' e'
 ·refine G.ext.keep b o (fun q=>?_) (W.ext.keep b o hn e)
  rcases W.fresh b q.1 with x|x
  ·exact hn ⟨x,fun z=>q.2 (W.keep b z)⟩
  ·exact aO e x
 ·rcases List.mem_append.mp m with m|m
  ·exact W.new a m
  ·exact W.ext.dead (f a m)
theorem Way.ed{h₀:Heap}(W:Way h₀ M₀ Z₀ J M Z h)(hl:∀a,M₀ a→∃o,h₀.get? a=some o)(hm:∀a,M' a→M a)(hM:∀a,M a→M' a∨a∈J)(hz:∀a,Z a→Z' a)(Dd:∀a,a∈σ'→a∈J):Way h₀ M₀ Z₀ σ' M' Z' h:=
 ⟨fun a x=>(hM a (W.more a x)).elim id fun m=>let⟨_,e⟩:=hl a x;(aO e (W.new a m)).elim,fun a x=>W.fresh a (hm a x),fun a x=>hz a (W.keep a x),W.ext,fun a m=>W.new a (Dd a m)⟩
theorem di.ki{s:AS}{π:Nat→Nat}{m:Nat}(S:aq C J M s h)(F:di C Z J M own kd cs env ρ h)(dQ:∀j,j<m→π j<s.n)
  (hv:∀x v',az ρ' x=some v'→gV (kd.k (C.nm x))→∃rv,dI (fun a=>Z a∨own a) M env h (C.nm x) rv∧ao (C.re ν nf f0 U) (bY J π m) (sb M (bY J π m) nf) h v' rv):
  di (C.re ν nf f0 U) (Jm Z J (bY J π m)) (bY J π m) (sb M (bY J π m) nf) own kd cs env ρ' h:=
 di.ed S F (fun a x=>x.1) (fun a x=>⟨(F.eO a x).1,fun i Y q=>(F.gw a x).2.1 (bO (cT S dQ q).1)⟩) (fun a x=>.inl x) (fun a x=>x.imp id fun x=>x.1) (fun a x=>ji S dQ x) hv
theorem di.tell{x:Nat}{v:AV}(F:di C Z J M own kd cs env ρ h)(g:az ρ x=some v){p:Value→Prop}(hv:∀rv,ao C J M h v rv→p rv)(k:gV (kd.k (C.nm x))):∃rv,dI (fun a=>Z a∨own a) M env h (C.nm x) rv∧p rv:=
 (F.f.vars x v g k).elim fun rv x=>⟨rv,x.1,hv rv x.2⟩
theorem Way.ki{h₀:Heap}{s:AS}{π:Nat→Nat}{m:Nat}(W:Way h₀ M₀ Z₀ J M Z h)(S:aq C J M s h)(dQ:∀j,j<m→π j<s.n)(hl:∀a,M₀ a→∃o,h₀.get? a=some o):Way h₀ M₀ Z₀ (bY J π m) (sb M (bY J π m) nf) (Jm Z J (bY J π m)) h:=
 Way.ed W hl (fun a x=>x.1) (fun a x=>(Classical.em (a∈bY J π m)).elim (fun q=>.inr (ji S dQ q)) fun q=>.inl ⟨x,fun i Y e=>q (bO e)⟩) (fun a x=>.inl x) (fun a x=>ji S dQ x)
noncomputable def l7(p:Nat→AV→Prop):Env→Prop
 |[]=>True
 |a::r=>p a.1 a.2∧l7 p r
theorem l7.at_{p:Nat→AV→Prop}{ρ:Env}:l7 p ρ→∀{x:Nat}{v:AV},az ρ x=some v→p x v:=by
 induction ρ with
 |nil=>exact fun _{x v}(h:none=some v)=>no h
 |cons a r ih=>
  intro H x v h;unfold az at h;cases q:Nat.beq a.1 x with
  |true=>rw [q]at h;exact pk q▸bh h▸H.1
  |false=>rw [q]at h;exact ih H.2 h
theorem rr{t:aE AO}{k i:Nat}{m0 o:AO}(hk:k<2^40 - 1)(q:(aE.put 40 t k m0).get i=some o):(i=k∧o=m0)∨t.get i=some o:=by
 by_cases hi:k=i
 ·subst hi;rw [AS.cp _ _ _ _ hk]at q;exact .inl ⟨rfl,(bh q).symm⟩
 ·rw [AS.bB _ _ _ _ _ hi]at q;exact .inr q
def Nc(e:IE)(v:AV):Bool:=Nat.beq 2 v.ctorIdx&&fR (wA v).i e
def J1(i:Nat)(v:AV):Bool:=Nat.beq 7 v.ctorIdx&&Nat.beq i (wA v).r
def Nb(i:Nat)(v:AV):Bool:=Nat.beq 13 v.ctorIdx&&Nat.beq i (wA v).r
theorem BH{e:IE}{v:AV}(h:Nc e v=true):∃x,v=.int x∧fR x e=true:=⟨_,gU (ae h).1,(ae h).2⟩
theorem vw{i:Nat}{v:AV}(h:J1 i v=true):v=.ref i:=(gU (k:=7) (ae h).1:v=.ref (wA v).r).trans (congrArg AV.ref (aL (ae h).2).symm)
theorem BG{i:Nat}{v:AV}(h:Nb i v=true):v=.mC i:=(gU (k:=13) (ae h).1:v=.mC (wA v).r).trans (congrArg AV.mC (aL (ae h).2).symm)
noncomputable def nx(q:Env→AS→Bool)(p:Fl×Env×AS):Bool:=match p.1 with|.nx=>q p.2.1 p.2.2|.rt _=>false
theorem Cn{q:Env→AS→Bool}{p:Fl×Env×AS}(h:nx q p=true):p.1=.nx∧q p.2.1 p.2.2=true:=by
 obtain⟨f,ρ,s⟩:=p
 cases f with
 |nx=>exact⟨rfl,h⟩
 |rt v=>exact Bool.noConfusion h
theorem rM{f:Fl}{fl:Flow}(e:f=.nx)(r:u5 C J M h f fl):fl=.next:=(e▸r:u5 C J M h .nx fl)
theorem kX{C C':Cx}{J σ':List Addr}{M M':Addr→Prop}{h h':Heap}{x x':IE}{v:Value}(q:x'.eval C'.ν=x.eval C.ν)(V:ao C J M h (.int x) v):ao C' σ' M' h' (.int x') v:=
 V.inv.elim fun t e=>e▸.int _ _ t q
theorem aq.back{C':Cx}{s cK gJ:AS}(hC:C'.hb=C.hb∧C'.tabs=C.tabs∧C'.tV=C.tV)(S:aq C J M s h)(G:aJ Z' σ' M' h y8 HQ h')(uX:aq C' y8 HQ gJ h')(hm:∀a,M' a→M a)(hM:∀a,M a→M' a)
  (e1:cK.n=s.n)(e2:cK.rg=s.rg)(hf:∀i,i<C.nf→cK.hp.get i=C.f0.get i)(hlow:∀i o,cK.hp.get i=some o→i<cK.n)(hobj:∀i o a,cK.hp.get i=some o→J[i]?=some a→cQ C J (fun a=>M a∨(h.get? a=none∧HQ a)) h' o a):
  aq C J (fun a=>M a∨(h.get? a=none∧HQ a)) cK h':=by
 refine⟨e1▸S.len,e1▸S.lim,⟨e1▸S.gL.1,hf⟩,S.nodup,hlow,hobj,fun i a q hi=>.inl (S.jq i a q hi),fun i a q hi x=>?_,fun a m=>?_,fun a x=>?_,fun b o e=>?_,fun p hp=>?_,e2▸S.rg⟩
 ·rcases x with x|x
  ·exact S.yu i a q hi x
  ·refine dC (S.there a (bO q):) fun o e=>?_
   exact aO e x.1
 ·refine dC (S.there a m:) fun o e=>?_
  exact G.ext.live a o e
 ·rcases x with x|x
  ·refine dC (S.mlt a x:) fun o e=>?_
   exact G.ext.live a o e
  ·exact uX.mlt a x.2
 ·refine aw (S.base b o e:) fun n y=>?_
  refine⟨fun x=>x.elim n fun x=>aO y x.1,(uX.base b o (hC.1▸e)).2⟩
 ·obtain⟨⟨ps,a1,a2,a3,a4⟩,a5⟩:=uX.tab p (hC.2.1▸hp)
  obtain⟨⟨XE,b1,b2,_⟩,b5⟩:=S.tab p hp
  refine⟨⟨ps,.inl b1,a2,a3,fun pos cv e=>?_⟩,b5⟩
  refine N4 (a4 pos cv e:) fun c oc vs t f1 f2 f3 f4 f5=>?_
  exact⟨c,oc,vs,t,f1,fun x=>x.elim (fun x=>f2 (G.more c (hM c x))) fun x=>f2 x.2,f3,f4,by rw [←hC.2.2];exact f5⟩
theorem aJ.yL(hm:∀a,M' a→M a)(hz:∀a,M' a→Z a→Z' a)(G:aJ Z' σ' M' h y8 HQ h'):aJ Z J M h J (fun a=>M a∨(h.get? a=none∧HQ a)) h':=
 ⟨⟨[],by simp,fun Y m=>nomatch m⟩,⟨G.ext.live,fun b o hn e=>G.ext.keep b o (fun q=>hn ⟨hm b q.1,fun z=>q.2 (hz b q.1 z)⟩) e⟩,fun a x=>.inl x,fun a x=>x.elim .inl fun x=>.inr x.1⟩
end
end
end Mine.Internal
namespace Mine.Internal
open PySem PySem.W PyProof.Rows PySem.SeqAt
noncomputable section
variable{C:Cx}{E:Value→Shared→Prop}{M M' M₀ aP Z Z₀:Addr→Prop}{Q:Flow→Shared→Prop}{U:Nat→Value}{W d0 d1:Int}{b:List IE}{h h₁:Heap}{i:Nat}{is:List Int}{la:Addr}{s ag:AS}{st:Shared}{v:AV}{w:World}{ν:Nat→Int}{J σ' aA:List Addr}
noncomputable def KU(d:Option Int)(j:Nat):IE:=match d,Nat.beq j 5 with|some i,true=>.c i|_,_=>.v j
def memD(d:Option Int):List IE:=(List.range 29).map (KU d)
def sD(f0:aE AO)(m:Nat)(d:Option Int):AS:=⟨aE.put 40 f0 m (.cu (memD d)),m+1,List.replicate 29 (0,255)⟩
noncomputable def mj:List IE→List IE→Bool
 |[],[]=>true
 |a::x,b::y=>match fR a b with|true=>mj x y|false=>false
 |_,_=>false
def MB(P:Pg)(N:oZ)(f0:aE AO)(m fuel dep:Nat)(e:SE):Bool:=match(run P N fuel dep).ca (.fn e.k) e.as (sD f0 m e.d)with
 |.ok (v,s)=>xS (m+1) id 20 e.v v&&(match s.hp.get m with|some (.cu l)=>mj l (memD e.d)|_=>false)
 |_=>false
set_option tactic.hygienic true in
theorem lb(ν:Nat→Int):∀{a b:List IE},mj a b=true→a.map (fun e=>e.eval ν)=b.map (fun e=>e.eval ν)
 |[],[],_=>rfl
 |a::x,b::y,h=>by
  unfold mj at h;split at h
  ·rename_i q;rw [List.map_cons,List.map_cons,eR ν q,lb ν h]
  ·injection h
 |[],_::_,h=>by injection h
 |_::_,[],h=>by injection h
theorem gT{fi:Nat→Int}{a:List IE}(h:a.map (fun e=>e.eval ν)=b.map (fun e=>e.eval fi)):aS ν a=aS fi b∧(bq fi b→bq ν a):=by
 refine⟨?_,fun B e m=>?_⟩
 ·unfold aS cz
  congr 1
  have:=congrArg (List.map fun i:Int=>UInt8.ofNat i.toNat) h
  rw [List.map_map,List.map_map]at this;exact this
 ·have:e.eval ν∈b.map (fun e=>e.eval fi):=h▸List.mem_map.mpr ⟨e,m,rfl⟩
  refine aC (List.mem_map.mp this:) fun x hx q=>?_
  rw [←q];exact B x hx
set_option tactic.hygienic true in
theorem oj{m k:Nat}{as:List AV}:∀{l:List SE},om m b k as l=some v→∃e∈l,e.k=k∧GX e.d b=true∧xS.FI m id 20 e.as as=true∧e.v=v
 |[],h=>by injection h
 |e::r,h=>by
  unfold om at h;split at h
  ·rename_i q
   obtain⟨q1,q⟩:=Bool.and_eq_true_iff.mp q
   obtain⟨q2,q3⟩:=Bool.and_eq_true_iff.mp q
   injection h with h;subst h;exact⟨e,bW,aL q1,q2,q3,rfl⟩
  ·refine aC (oj h:) fun x hx y=>?_
   exact⟨x,cq _ hx,y⟩
noncomputable def fz(ν:Nat→Int)(b:List IE)(j:Nat):Int:=(b.map fun e=>e.eval ν).getD j 0
set_option tactic.hygienic true in
theorem zI(hl:b.length=29){d:Option Int}(hd:GX d b=true):(memD d).map (fun e=>e.eval (fz ν b))=b.map (fun e=>e.eval ν):=by
 apply List.ext_getElem?
 intro j;unfold memD;rw [List.map_map,List.getElem?_map,List.getElem?_map];rcases Nat.lt_or_ge j 29 with hj|hj
 ·rw [List.getElem?_range hj,List.getElem?_eq_getElem (by lia)]
  show some (IE.eval (fz ν b) (KU d j))=some (b[j].eval ν);have hv:fz ν b j=b[j].eval ν:=by
   unfold fz;rw [List.getD_eq_getElem?_getD,List.getElem?_map,List.getElem?_eq_getElem (by lia)];rfl
  congr 1
  unfold KU;split
  ·rename_i i q
   have WW:j=5:=aL q
   subst WW;unfold GX at hd;simp only at hd;have:b.drop 5=b[5]::b.drop 6:=List.drop_eq_getElem_cons (by lia)
   rw [this]at hd;refine aC (wm hd:) fun i' e1 e2=>?_
   injection e1 with e1;subst e1;rw [e2];rfl
  ·exact hv
 ·rw [List.getElem?_eq_none (by rw [List.length_range];lia),List.getElem?_eq_none (by lia)];rfl
noncomputable def m3(ν:Nat→Int):Nat→Rg→Prop
 |_,[]=>True
 |k,p::r=>(p.1≤ν k∧ν k≤p.2)∧m3 ν (k+1) r
theorem m3.at_{l:Rg}:∀{k:Nat},m3 ν k l→∀{j:Nat}{p:Int×Int},l[j]?=some p→p.1≤ν (k+j)∧ν (k+j)≤p.2:=by
 induction l with
 |nil=>exact fun{k} _{j p}(h:none=some p)=>no h
 |cons a l ih=>
  intro k H j p h;cases j with
  |zero=>exact bh h▸H.1
  |succ j=>exact Nat.add_right_comm k 1 j▸ih H.2 h
theorem m3.ok{l:Rg}(H:m3 ν 0 l):cg ν l:=fun k Y h=>Nat.zero_add k▸H.at_ h
theorem m3.app{l m:Rg}:∀{k:Nat},m3 ν k l→m3 ν (k+l.length) m→m3 ν k (l++m):=by
 induction l with
 |nil=>exact fun Y h=>h
 |cons a l ih=>exact fun{k} H h=>⟨H.1,ih H.2 ((Nat.succ_add_eq_add_succ k l.length).symm▸h:m3 ν (k+1+l.length) m)⟩
theorem m3.rep{p:Int×Int}(n:Nat):∀{k:Nat},(∀j,k≤j→j<k+n→p.1≤ν j∧ν j≤p.2)→m3 ν k (List.replicate n p):=by
 induction n with
 |zero=>exact fun Y=>trivial
 |succ n ih=>exact fun{k} h=>⟨h k (Nat.le_refl k) (Nat.lt_add_of_pos_right (Nat.succ_pos n)),ih fun j a b=>h j (Nat.le_of_succ_le a) (Nat.succ_add_eq_add_succ k n▸b)⟩
theorem m3.map{l:List Int}:∀{k:Nat},(∀j m,l[j]?=some m→0≤ν (k+j)∧ν (k+j)≤m - 1)→m3 ν k (l.map fun m=>(0,m - 1)):=by
 induction l with
 |nil=>exact fun Y=>trivial
 |cons a l ih=>exact fun{k} h=>⟨h 0 a rfl,ih fun j m q=>Nat.add_right_comm k 1 j▸h (j+1) m q⟩
def Na(l:List IE)(v:AV):Bool:=Nat.beq 4 v.ctorIdx&&mj (wA v).y l
theorem BF{l:List IE}(h:Na l v=true):∃x,v=.bytes x∧mj x l=true:=⟨_,gU (ae h).1,(ae h).2⟩
theorem xQ{C':Cx}{x l:List IE}{a:Addr}(O:cQ C J M h (.cu x) a)(e:l.map (fun e=>e.eval C'.ν)=x.map (fun e=>e.eval C.ν)):cQ C' σ' M' h (.cu l) a:=by
 exact aw (gT e) fun b1 b2=>.cu _ _ (b1.symm▸O.jE.1) (b2 O.jE.2)
theorem mY{x:List IE}{a:Addr}(O:cQ C J M h (.cu x) a):h.get? a=some (c0 (aS C.ν x))∧bq C.ν x:=O.jE
theorem CF(B:bq ν b)(j:Nat):0≤fz ν b j∧fz ν b j≤255:=by
 unfold fz;rw [List.getD_eq_getElem?_getD,List.getElem?_map];cases q:b[j]? with
 |none=>exact⟨Int.le_refl 0,(by decide:(0:Int)≤255)⟩
 |some x=>
  have:=B x (bO q)
  exact⟨this.1,Int.le_of_lt_add_one this.2⟩
set_option tactic.hygienic true in
theorem Fq{tab:List SE}{m k:Nat}{as:List AV}{r:aH (AV×AS)}(h:Nl tab m k as s=some r):∃b v,s.hp.get m=some (.cu b)∧b.length=29∧om (m+1) b k as tab=some v∧r=.ok (v,s):=by
 unfold Nl at h;split at h
 ·injection h
 split at h
 case h_2=>injection h
 rename_i b hb
 split at h
 case h_2=>injection h
 rename_i hl
 split at h
 case h_2=>injection h
 rename_i v hv
 exact⟨b,v,hb,aL hl,hv,(bh h).symm⟩
set_option tactic.hygienic true in
theorem Fz{P:Pg}{N:oZ}{f0:aE AO}{m fuel dep:Nat}{e:SE}(h:MB P N f0 m fuel dep e=true):∃v s l,(run P N fuel dep).ca (.fn e.k) e.as (sD f0 m e.d)=.ok (v,s)∧xS (m+1) id 20 e.v v=true∧s.hp.get m=some (.cu l)∧mj l (memD e.d)=true:=by
 unfold MB at h;split at h
 case h_2=>injection h
 rename_i v s hr
 refine aw (ae h) fun hv h=>?_
 split at h
 case h_2=>injection h
 exact⟨v,s,_,hr,hv,‹_›,h⟩
section
variable{P:Pg}{N:oZ}
theorem Nk{m:Nat}(hm:m<1000)(hnf:C.nf=m)(Sx:∀i o,C.f0.get i=some o→i<m∧Iq (m+1) id o o=true)(S:aq C J M s h)(hb:s.hp.get m=some (.cu b)){d:Option Int}(mD:(memD d).map (fun e=>e.eval (fz C.ν b))=b.map (fun e=>e.eval C.ν))(dQ:∀j,j<m+1→id j<s.n):
  aq (C.re (fz C.ν b) C.nf C.f0 C.U) (bY J id (m+1)) (sb M (bY J id (m+1)) C.nf) (sD C.f0 m d) h:=by
 have Om:cQ C J M h (.cu b) (J.getD m 0):=S.obj m _ _ hb (oa (S.len▸S.low m _ hb))
 have lo:∀i o,(sD C.f0 m d).hp.get i=some o→i<m+1∧∀(σ':List Addr)(M':Addr→Prop),HO C J σ' M M' (m+1) id→cQ (C.re (fz C.ν b) C.nf C.f0 C.U) σ' M' h o (J.getD i 0):=fun i o q=>
  (rr (Nat.lt_trans hm (by decide)) q).elim (fun q=>by rw [q.1,q.2];exact⟨Nat.lt_succ_self m,fun Y Y Y=>xQ Om mD⟩) fun q=>have f:=Sx i o q;have hi:=Nat.lt_succ_of_lt f.1
   ⟨hi,fun Y Y X=>vK X f.2 (S.obj i o _ ((S.gL.2 i (hnf▸f.1)).trans q) (oa (S.len▸dQ i hi)))⟩
 exact aq.ed (s':=sD C.f0 m d) (π:=id) S (Nat.le_trans hm (by decide)) (hnf▸Nat.le_succ m) dQ (fun i j Y Y q=>q) (fun i hi=>AS.bB C.f0 40 m i _ (Nat.ne_of_gt (hnf▸hi))) (fun i hi Y=>hi) (fun i o q=>(lo i o q).1) (fun i o q=>(lo i o q).2) (m3.ok (m3.rep 29 fun j Y Y=>CF (mY Om).2 j))
theorem Rp{m:Nat}(hnf:C.nf=m)(S:aq C J M s st.heap)(hb:s.hp.get m=some (.cu b)){d:Option Int}(mD:(memD d).map (fun e=>e.eval (fz C.ν b))=b.map (fun e=>e.eval C.ν))(dQ:∀j,j<m+1→id j<s.n)
  {v v':AV}{gJ:AS}{l:List IE}(hv:xS (m+1) id 20 v v'=true)(hs:gJ.hp.get m=some (.cu l))(hmem:mj l (memD d)=true){Q:Value→Shared→Prop}(K:KV C Z J M st v s Q):
  KV (C.re (fz C.ν b) C.nf C.f0 C.U) (Jm Z J (bY J id (m+1))) (bY J id (m+1)) (sb M (bY J id (m+1)) C.nf) st v' gJ Q:=by
 intro aA aP h₁ tk rv G aD cb;refine aC (G.pre:) fun CN q Df=>?_
 subst q;have hM:∀a,M a→sb M (bY J id (m+1)) C.nf a:=fun a x=>⟨x,fun i hi q=>S.yu i a (cT S dQ q).1 hi x⟩
 have Gf:aJ Z J M st.heap J (fun a=>M a∨(st.heap.get? a=none∧aP a)) h₁:=aJ.yL (fun a x=>x.1) (fun a Y x=>.inl x) G
 have len:(bY J id (m+1)).length=m+1:=by unfold bY;rw [List.length_map,List.length_range]
 have U6:∀{i:Nat},i<m+1→(bY J id (m+1)++CN)[i]?=(bY J id (m+1))[i]?:=fun hi=>List.getElem?_append_left (len.symm▸hi)
 have ham:J[m]?=some (J.getD m 0):=oa (S.len▸S.low m _ hb)
 refine K J _ h₁ tk rv Gf (aq.back (C':=C.re (fz C.ν b) C.nf C.f0 C.U) ⟨rfl,rfl,rfl⟩ S G aD (fun a x=>x.1) hM rfl rfl S.gL.2 S.low fun i o a q1 q2=>(S.obj i o a q1 q2).chg Gf.chg fun x hx=>?_)
  (rp (ν:=C.ν) (nf:=C.nf) (f0:=C.f0) (U:=C.U) (⟨fun j a hj q=>(cT S dQ ((U6 hj).symm.trans q)).1,fun a x=>x.elim (fun x=>G.more a (hM a x)) fun x=>x.2⟩:HO (C.re (fz C.ν b) C.nf C.f0 C.U) (bY J id (m+1)++CN) J aP (fun a=>M a∨(st.heap.get? a=none∧aP a)) (m+1) id) 20 _ _ _ hv cb)
 by_cases hi:i<m+1
 ·by_cases him:i=m
  ·subst him
   have ea:a=J.getD i 0:=bh (q2.symm.trans ham)
   subst ea;have TN:=mY (aD.obj i _ (J.getD i 0) hs ((U6 (Nat.lt_succ_self i)).trans (kW (Nat.lt_succ_self i))))
   have O:=mY (S.obj i _ _ hb ham)
   exact(TN.1.trans (congrArg (fun x=>some (c0 x)) ((gT (lb (fz C.ν b) hmem)).1.trans (gT mD).1))).trans (O.1.symm.trans hx)
  ·exact G.kept (fun x=>S.yu i a q2 (by lia) x.1) hx
 ·refine G.dz (.inr ⟨bO q2,fun mm=>?_⟩) hx
  refine dC (List.getElem?_of_mem mm:) fun j q3=>?_
  exact hi (S.inj q2 (cT S dQ q3).1▸(cT S dQ q3).2)
theorem Ke{m fuel dep:Nat}{tab:List SE}(hm:m<1000)(hnf:C.nf=m)(hX:∀fi,WF (C.re fi C.nf C.f0 C.U) P N)(hfu:fuel≤100000)
  (Sx:∀i o,C.f0.get i=some o→i<m∧Iq (m+1) id o o=true)(jN:∀e∈tab,MB P N C.f0 m fuel dep e=true):
  ∀k as s r v s',Nl tab m k as s=some r→r.leaf C.ν=some (v,s')→∀Z J M A st ras,aq C J M s st.heap→bu A dep→cm C Z J st.heap→ay C J M st.heap as ras→∀Q E,KV C Z J M st v s' Q→ab (Md C) A (call (.ref (C.mH k)) ras []) Q E st:=by
 intro k as s r v s' hsm hr Z J M A st ras S R z V Q E K;refine KL (Fq hsm) fun b v0 hb hl hfind q=>?_
 subst q;have K:=K.ok hr
 refine QI (oj hfind) fun e he q1 hd has q2=>?_
 subst q1 q2;refine oW (Fz (jN e he)) fun v' gJ l hrun hv hs hmem=>?_
 have mD:=zI (ν:=C.ν) hl hd
 have dQ:∀j,j<m+1→id j<s.n:=fun j hj=>Nat.lt_of_le_of_lt (Nat.le_of_lt_succ hj) (S.low m _ hb)
 exact((sound (hX (fz C.ν b)) fuel hfu dep).2.2.2 (.fn e.k) e.as (sD C.f0 m e.d) v' gJ (hrun▸rfl) _ _ _ A st (.ref (C.mH e.k)) ras (Nk hm hnf Sx S hb mD dQ) R (cm.ed S z dQ) (.fn e.k) (xR (ν:=fz C.ν b) (nf:=C.nf) (f0:=C.f0) (U:=C.U) nL 20 _ _ _ has V)).2 Q E (Rp hnf S hb mD dQ hv hs hmem K)
end
section
def PH:Pg:=⟨AW,j7,G3,EO,1,fun Y Y Y=>none,0⟩
def iR:List CS:=match oo with|[_,.for _ _ _ _ b,_]=>b|_=>[]
noncomputable def R1(w i:Int):Env:=[(168,.ref 0),(138,.int (.c w)),(29,.int (.c i))]
theorem AA{n d:Nat}{op:Op}{a b:CE}{x y:AV}{ρ:Env}(h1:(run PH dh n d).ev a ρ s=.ok (x,s))(h2:(run PH dh n d).ev b ρ s=.ok (y,s)):(run PH dh (n+1) d).ev (.bin op a b) ρ s=binop op x y s:=by
 show((run PH dh n d).ev a ρ s).bind (fun(x,s)=>((run PH dh n d).ev b ρ s).bind fun(y,s)=>binop op x y s)=_
 rw [h1];show((run PH dh n d).ev b ρ s).bind (fun(y,s)=>binop op x y s)=_
 rw [h2];rfl
theorem Od(j:Int)(s:AS):binop .mul (.int (.c 2)) (.int (.c j)) s=.ok (.int (.c (2*j)),s):=by
 have h:fj s.rg (.c 2)=true:=by kernel_rfl
 show(match fj s.rg (.c j)||(fj s.rg (.c 2)||(mid s.rg (.c 2)&&mid s.rg (.c j)))with|true=>aH.ok (AV.int (mkMul (.c 2) (.c j)),s)|false=>.bad 12)=_
 rw [h,Bool.true_or,Bool.or_true]
 rfl
noncomputable def eA:CE:=.call (.eW 3) [.call (.eW 10) [.n 29]]
noncomputable def eB:CE:=.call (.eW 10) [.cmp .lt (.n 29) (.val (.int (.c (0))))]
theorem cell{n:Nat}{w i a b:Int}(h1:(run PH dh (n+7) 19).ev eA (R1 w i) s=.ok (.int (.c a),s))(h2:(run PH dh (n+8) 19).ev eB (R1 w i) s=.ok (.int (.c b),s)):
  (run PH dh (n+12) 19).xs iR (R1 w i) s=.ok (.nx,R1 (w*1543+Int.fmod (2*a+b) (10^36)) i,s):=by
 have e1:(run PH dh (n+8) 19).ev (.bin .mul (.val (.int (.c 2))) eA) (R1 w i) s=.ok (.int (.c (2*a)),s):=(AA (x:=.int (.c 2)) rfl h1).trans (Od a s)
 have e2:(run PH dh (n+9) 19).ev (.bin .add (.bin .mul (.val (.int (.c 2))) eA) eB) (R1 w i) s=.ok (.int (.c (2*a+b)),s):=(AA e1 h2).trans rfl
 have e3:(run PH dh (n+9) 19).ev (.bin .pow (.val (.int (.c 10))) (.val (.int (.c 36)))) (R1 w i) s=.ok (.int (.c (10^36)),s):=by kernel_rfl
 have e4:(run PH dh (n+10) 19).ev (.bin .mod (.bin .add (.bin .mul (.val (.int (.c 2))) eA) eB) (.bin .pow (.val (.int (.c 10))) (.val (.int (.c 36))))) (R1 w i) s=.ok (.int (.c (Int.fmod (2*a+b) (10^36))),s):=(AA e2 e3).trans (by kernel_rfl)
 have e5:(run PH dh (n+10) 19).ev (.bin .mul (.n 138) (.val (.int (.c 1543)))) (R1 w i) s=.ok (.int (.c (w*1543)),s):=by kernel_rfl
 have e6:=(AA (op:=.add) e5 e4).trans (show binop .add _ _ s=.ok (.int (.c (w*1543+Int.fmod (2*a+b) (10^36))),s)from rfl)
 show(((run PH dh (n+11) 19).ev (.bin .add (.bin .mul (.n 138) (.val (.int (.c 1543)))) (.bin .mod (.bin .add (.bin .mul (.val (.int (.c 2))) eA) eB) (.bin .pow (.val (.int (.c 10))) (.val (.int (.c 36)))))) (R1 w i) s).bind fun(v,s)=>aH.ok (Fl.nx,bU (R1 w i) 138 v,s)).bind _=_
 rw [e6]
 rfl
theorem D4(n:Nat)(w i:Int)(s:AS):∃r:Int,0≤r∧r<10^36∧(run PH dh (n+12) 19).xs iR (R1 w i) s=.ok (.nx,R1 (w*1543+r) i,s):=by
 have b:∀x:Int,0≤Int.fmod x (10^36)∧Int.fmod x (10^36)<10^36:=fun x=>by
  rw [Int.fmod_eq_emod_of_nonneg _ (by decide)]
  exact⟨Int.emod_nonneg _ (by decide),Int.emod_lt_of_pos _ (by decide)⟩
 cases i with
 |ofNat k=>
  have h1:(run PH dh (n+7) 19).ev eA (R1 w (Int.ofNat k)) s=.ok (.int (.c (Int.ofNat k)),s):=by kernel_rfl
  have h2:(run PH dh (n+8) 19).ev eB (R1 w (Int.ofNat k)) s=.ok (.int (.c 0),s):=by kernel_rfl
  exact⟨_,(b _).1,(b _).2,cell h1 h2⟩
 |negSucc k=>
  have h1:(run PH dh (n+7) 19).ev eA (R1 w (Int.negSucc k)) s=.ok (.int (.c (0+ -Int.negSucc k)),s):=by kernel_rfl
  have h2:(run PH dh (n+8) 19).ev eB (R1 w (Int.negSucc k)) s=.ok (.int (.c 1),s):=by kernel_rfl
  exact⟨_,(b _).1,(b _).2,cell h1 h2⟩
end
section
noncomputable def cI(is:List Int):List AV:=is.map fun i=>.int (.c i)
noncomputable def R0(w:Int):Env:=[(168,.ref 0),(138,.int (.c w))]
def AN(j:Nat)(w:Int):Prop:=0≤w∧w<2^(120+11*j)
theorem AN.step{j:Nat}{w r:Int}(h:AN j w)(h0:0≤r)(h1:r<10^36):AN (j+1) (w*1543+r):=by
 refine aw (h:) fun a b=>?_
 have e:(2:Int)^(120+11*(j+1))=2^(120+11*j)*2048:=by
  rw [show 120+11*(j+1)=(120+11*j)+11 by lia,Int.pow_add];rfl
 have p:(2:Int)^120≤2^(120+11*j):=by
  rw [Int.pow_add];have:(1:Int)≤2^(11*j):=by
   have:1≤2^(11*j):=Nat.one_le_two_pow
   exact_mod_cast this
  have q:(0:Int)<2^120:=by decide
  have:=Int.mul_le_mul_of_nonneg_left this (Int.le_of_lt q)
  lia
 have t:(10:Int)^36<2^120:=by decide
 unfold AN;rw [e];constructor<;>lia
theorem KA{β:Type}{l:List AV}{g:List AV→aH β}(h:s.get i=some (.list l)):kE s (.ref i) g=g l:=by
 unfold kE listOf
 dsimp only
 rw [h]
theorem Ce{β:Type}{l:List AV}{g:List AV→aH β}{k:List IE→aH β}(h:s.get i=some (.list l)):AP s (.ref i) g k=g l:=by
 unfold AP
 dsimp only
 rw [h]
theorem Ov{cs:List Int}(hs:s.hp.get 1=some (.list (cI cs))):∀(k j:Nat),j+k=cs.length→∀(m:Nat)(w:Int)(ρ:Env),(ρ=R0 w∨∃x,ρ=R1 w x)→AN j w→
  ∃w' ρ',AN cs.length w'∧(ρ'=R0 w'∨∃x,ρ'=R1 w' x)∧(run PH dh (m+14+k) 19).xs [.gZ [29] true 0 (.ref 1) j iR] ρ s=.ok (.nx,ρ',s):=by
 intro k;have hsrc:∀j,iN s 0 (.ref 1) j=.ok (cI cs)[j]?:=fun j=>KA hs
 have hstep:∀(n j:Nat)(ρ:Env),(run PH dh (n+1) 19).xs [.gZ [29] true 0 (.ref 1) j iR] ρ s=((iN s 0 (.ref 1) j).bind fun x=>match x with
   |none=>.ok (.nx,ρ,s)
   |some v=>bQ (iu [29] true v ρ) fun ρ=>((run PH dh n 19).xs iR ρ s).bind fun(f,ρ,s)=>match f with
     |.rt v=>.ok (.rt v,ρ,s)
     |.nx=>(run PH dh n 19).xs [.gZ [29] true 0 (.ref 1) (j+1) iR] ρ s:aH (Fl×Env×AS)).bind fun(f,ρ,s)=>match f with
     |.rt v=>.ok (.rt v,ρ,s)
     |.nx=>.ok (.nx,ρ,s):=fun n j ρ=>rfl
 induction k with
 |zero=>
  intro j hj m w ρ So hw;refine⟨w,ρ,by rw [←hj];exact hw,So,?_⟩
  rw [show m+14+0=(m+13)+1 by lia,hstep,hsrc]
  have:(cI cs)[j]?=none:=List.getElem?_eq_none (by unfold cI;rw [List.length_map];lia)
  rw [this];rfl
 |succ k ih=>
  intro j hj m w ρ So hw;have hlt:j<cs.length:=by lia
  refine lI (D4 (m+2+k) w cs[j] s:) fun r r0 r1 hc=>?_
  refine jZ (ih (j+1) (by lia) m (w*1543+r) (R1 (w*1543+r) cs[j]) (.inr ⟨_,rfl⟩) (hw.step r0 r1):) fun w' ρ' a1 a2 a3=>?_
  refine⟨w',ρ',a1,a2,?_⟩
  rw [show m+14+(k+1)=(m+14+k)+1 by lia,hstep,hsrc]
  have:(cI cs)[j]?=some (.int (.c cs[j])):=by unfold cI;rw [List.getElem?_map,List.getElem?_eq_getElem hlt];rfl
  rw [this];have hb:iu [29] true (.int (.c cs[j])) ρ=some (R1 w cs[j]):=by
   rcases So with rfl|⟨x,rfl⟩<;>rfl
  show((bQ (iu [29] true (.int (.c cs[j])) ρ) fun ρ=>((run PH dh (m+14+k) 19).xs iR ρ s).bind fun(f,ρ,s)=>match f with
     |.rt v=>.ok (.rt v,ρ,s)
     |.nx=>(run PH dh (m+14+k) 19).xs [.gZ [29] true 0 (.ref 1) (j+1) iR] ρ s:aH (Fl×Env×AS)).bind _)=_
  rw [hb];show((((run PH dh (m+14+k) 19).xs iR (R1 w cs[j]) s).bind _:aH (Fl×Env×AS)).bind _)=_;rw [show m+14+k=(m+2+k)+12 by lia,hc]
  show(((run PH dh ((m+2+k)+12) 19).xs [.gZ [29] true 0 (.ref 1) (j+1) iR] (R1 (w*1543+r) cs[j]) s).bind _)=_;rw [show(m+2+k)+12=m+14+k by lia,a3]
  rfl
def eI(is:List Int):AS:=⟨aE.put 40 .nil 0 (.list (cI is)),1,[]⟩
def dc(is:List Int):AS:=((eI is).new (.list (cI (is.take 24)))).2
def fN(is:List Int)(w:Int):AS:=((dc is).new (.list [.int (.c w),.int (.c 0),.int (.c (2*w+1))])).2
theorem GQ{ih:Ih}{ρ:Env}:qw ih [] ρ s=.ok ([],s):=rfl
theorem wD{ih:Ih}{ρ:Env}{s1 s2:AS}{e:CE}{r:List CE}{vs:List AV}(h1:ih.ev e ρ s=.ok (v,s1))(h2:qw ih r ρ s1=.ok (vs,s2)):qw ih (e::r) ρ s=.ok (v::vs,s2):=by
 show(ih.ev e ρ s).bind (fun(v,s)=>(qw ih r ρ s).bind fun(vs,s)=>aH.ok (v::vs,s))=_
 rw [h1];show(qw ih r ρ s1).bind (fun(vs,s)=>aH.ok (v::vs,s))=_
 rw [h2];rfl
theorem z0(is:List Int)(h:is.length≤63):∃w:Int,0≤w∧w<2^400∧(run PH dh 100 20).ca (.fn 171) [.ref 0] (eI is)=.ok (.ref 2,fN is w):=by
 have hl:(is.take 24).length≤24:=by rw [List.length_take];lia
 have g1:(dc is).hp.get 1=some (.list (cI (is.take 24))):=AS.cp (eI is).hp 40 1 (.list (cI (is.take 24))) (by decide)
 refine jZ (Ov g1 (is.take 24).length 0 (by lia) (83 - (is.take 24).length) 17 (R0 17) (.inl rfl) ⟨by decide,by decide⟩:) fun w ρ' i1 i2 i3=>?_
 have hw:w<2^400:=by
  have a:=i1.2
  have:(2:Int)^(120+11*(is.take 24).length)≤2^400:=by
   have:(2:Nat)^(120+11*(is.take 24).length)≤2^400:=Nat.pow_le_pow_right (by decide) (by lia)
   exact_mod_cast this
  lia
 refine⟨w,i1.1,hw,?_⟩
 rw [show 83 - (is.take 24).length+14+(is.take 24).length=97 by lia]at i3
 have hsl:slice (.ref 0) none (some (.int (.c 24))) (eI is)=.ok (.ref 1,dc is):=by
  have g0:(eI is).get 0=some (.list (cI is)):=AS.cp .nil 40 0 (.list (cI is)) (by decide)
  have hlen:(cI is).length=is.length:=by unfold cI;simp
  have hc:cut (cI is) 0 (Nat.min 24 (cI is).length)=cI (is.take 24):=by
   unfold cut cI;rw [List.drop_zero,List.length_map,←List.map_take]
   congr 1
   show is.take (min 24 is.length)=_;rw [List.take_eq_take_iff];lia
  have c1:Nat.ble (cI is).length 100000=true:=Nat.ble_eq_true_of_le (by lia)
  have c2:Nat.ble (cI (is.take 24)).length 100000=true:=Nat.ble_eq_true_of_le (by unfold cI;rw [List.length_map];lia)
  show rk (.ref 0) none (some (.int (.c 24))) (eI is)=_;unfold rk;rw [Ce g0];have e1:sliceOf (cI is) none (some (.int (.c 24))) (eI is)=.ok (cI (is.take 24),eI is):=by
   unfold sliceOf jN;simp only[c1];show aH.ok (cut (cI is) 0 (Nat.min 24 (cI is).length),eI is)=_;rw [hc]
  rw [e1];show newList (eI is) (cI (is.take 24))=_;unfold newList jN;simp only[c2]
  rfl
 have e7:(run PH dh 97 19).ev (.iB (.n 168) none (some (.val (.int (.c 24))))) (R0 17) (eI is)=.ok (.ref 1,dc is):=hsl
 have hm:∀(x:Int),(ρ'=R0 w∨∃x,ρ'=R1 w x)→az ρ' 138=some (.int (.c w)):=fun Y q=>by rcases q with rfl|⟨x,rfl⟩<;>rfl
 have hg:=hm 0 i2
 have IG:∀n d s,(run PH dh (n+1) d).ev (.n 138) ρ' s=.ok (.int (.c w),s):=fun n d s=>by
  show(bQ (az ρ' 138) fun v=>aH.ok (v,s))=_
  rw [hg];rfl
 have e8:(run PH dh 94 19).ev (.bin .mul (.val (.int (.c 2))) (.n 138)) ρ' (dc is)=.ok (.int (.c (2*w)),dc is):=(AA (x:=.int (.c 2)) rfl (IG 92 19 _)).trans (Od w _)
 have e9:(run PH dh 95 19).ev (.bin .add (.bin .mul (.val (.int (.c 2))) (.n 138)) (.val (.int (.c 1)))) ρ' (dc is)=.ok (.int (.c (2*w+1)),dc is):=(AA e8 (y:=.int (.c 1)) rfl).trans rfl
 have Xo:=wD e9 (GQ (ih:=run PH dh 95 19) (ρ:=ρ') (s:=dc is))
 have Tp:=wD (IG 94 19 (dc is)) (wD (v:=.int (.c 0)) (e:=.val (.int (.c 0))) (s:=dc is) rfl Xo)
 have Xs:(run PH dh 96 19).ev (.list [.n 138,.val (.int (.c 0)),.bin .add (.bin .mul (.val (.int (.c 2))) (.n 138)) (.val (.int (.c 1)))]) ρ' (dc is)=.ok (.ref 2,fN is w):=by
  show(qw (run PH dh 95 19) _ ρ' (dc is)).bind (fun(vs,s)=>newList s vs)=_
  rw [Tp]
  rfl
 have Xr:(run PH dh 97 19).xs [.ret (.list [.n 138,.val (.int (.c 0)),.bin .add (.bin .mul (.val (.int (.c 2))) (.n 138)) (.val (.int (.c 1)))])] ρ' (dc is)=.ok (.rt (.ref 2),ρ',fN is w):=by
  show((((run PH dh 96 19).ev _ ρ' (dc is)).bind fun(v,s)=>aH.ok (Fl.rt v,ρ',s)).bind _:aH (Fl×Env×AS))=_
  rw [Xs];rfl
 have Xq:(run PH dh 98 19).xs (oo.drop 1) (R0 17) (eI is)=.ok (.rt (.ref 2),ρ',fN is w):=by
  show((((run PH dh 97 19).ev (.iB (.n 168) none (some (.val (.int (.c 24))))) (R0 17) (eI is)).bind fun(v,s)=>(run PH dh 97 19).xs [.gZ [29] true 0 v 0 iR] (R0 17) s).bind fun(f,ρ,s)=>match f with
   |.rt v=>aH.ok (.rt v,ρ,s)
   |.nx=>(run PH dh 97 19).xs (oo.drop 2) ρ s)=_
  rw [e7];show((run PH dh 97 19).xs [.gZ [29] true 0 (.ref 1) 0 iR] (R0 17) (dc is)).bind (fun(f,ρ,s)=>match f with
   |.rt v=>aH.ok (.rt v,ρ,s)
   |.nx=>(run PH dh 97 19).xs (oo.drop 2) ρ s)=_
  rw [i3];exact Xr
 have Xp:(run PH dh 99 19).xs oo [(168,.ref 0)] (eI is)=.ok (.rt (.ref 2),ρ',fN is w):=Xq
 show((run PH dh 99 19).xs oo [(168,.ref 0)] (eI is)).bind (fun(f,_,s)=>aH.ok (match f with|.rt v=>v|.nx=>.none,s))=_
 rw [Xp]
 rfl
end
def PD:Pg:=⟨AW,j7,G3,EO,0,fun Y Y Y=>none,0⟩
noncomputable def jV:Int:=2^4000
def qB(j:Int):AS:=⟨aE.put 40 .nil 0 (.list [.int (.v 0),.int (.c j),.int (.v 1)]),1,[(0,jV),(0,jV)]⟩
noncomputable def pz(j:Int):Int:=1000003^(5+(j+1)).toNat
def ints3(o:AO):Option (IE×IE×IE):=match o with
 |.list l=>kc l fun x r=>kc r fun y r=>kc r fun z r=>ck (tP r&&(Nat.beq 2 x.ctorIdx&&(Nat.beq 2 y.ctorIdx&&Nat.beq 2 z.ctorIdx))) (some ((wA x).i,(wA y).i,(wA z).i))
 |_=>none
theorem t6{o:AO}{p:IE×IE×IE}(h:ints3 o=some p):o=.list [.int p.1,.int p.2.1,.int p.2.2]:=by
 cases o with
 |list l=>
  obtain⟨x,r,rfl,h⟩:=bD h
  obtain⟨y,r,rfl,h⟩:=bD h
  obtain⟨z,r,rfl,h⟩:=bD h
  refine aw (aB h:) fun c h=>?_
  injection h with h;subst h;rw [fZ (ae c).1];have hx:x=.int (wA x).i:=gU (ae (ae c).2).1
  have hy:y=.int (wA y).i:=gU (ae (ae (ae c).2).2).1
  have hz:z=.int (wA z).i:=gU (ae (ae (ae c).2).2).2
  exact congrArg AO.list (congr (congrArg List.cons hx) (congr (congrArg List.cons hy) (congrArg (fun z=>[z]) hz)))
 |_=>exact no h
def CO(s:AS)(a b c:IE):Bool:=k9 (s.hp.get 0) fun o=>k9 (ints3 o) fun p=>fR p.1 a&&(fR p.2.1 b&&fR p.2.2 c)
theorem rG(ν:Nat→Int){p q r:IE}(h:CO s p q r=true):∃x y z,s.hp.get 0=some (.list [.int x,.int y,.int z])∧x.eval ν=p.eval ν∧y.eval ν=q.eval ν∧z.eval ν=r.eval ν:=by
 refine aC (dO h:) fun o e h=>?_
 refine aC (dO h:) fun p e' h=>?_
 exact⟨p.1,p.2.1,p.2.2,e.trans (congrArg some (t6 e')),eR ν (ae h).1,eR ν (ae (ae h).2).1,eR ν (ae (ae h).2).2⟩
noncomputable def Cf(r:RV)(g:Nat→IE→IE→RV→RV→Bool):Bool:=match r with
 |.fork k a b t f=>g k a b t f
 |_=>false
def Ck(r:RV)(g:IE→AS→Bool):Bool:=match r with
 |.ok p=>Nat.beq 2 p.1.ctorIdx&&g (wA p.1).i p.2
 |_=>false
def Jf(m j:Int):Bool:=Cf ((run PD dh 60 10).ca (.fn 172) [.ref 0,.int (.c m)] (qB j)) fun k x y t f=>(Nat.beq k 0&&(fR x (.v 0)&&fR y (.c 0)))&&
 (Ck t (fun e s=>fR e (.mod (.mul (.v 1) (.c (pz j))) (.c m))&&CO s (.div (.mul (.v 1) (.c (pz j))) (.c m)) (.c (j+1)) (.v 1))&&
  Ck f (fun e s=>fR e (.mod (.v 0) (.c m))&&CO s (.div (.v 0) (.c m)) (.c j) (.v 1)))
theorem zx{r:RV}{g:Nat→IE→IE→RV→RV→Bool}(h:Cf r g=true):∃k a b t f,r=.fork k a b t f∧g k a b t f=true:=by
 cases r with
 |fork k a b t f=>exact⟨k,a,b,t,f,rfl,h⟩
 |_=>injection h
theorem tF{r:RV}{g:IE→AS→Bool}(h:Ck r g=true):∃e s,r=.ok (.int e,s)∧g e s=true:=by
 cases r with
 |ok p=>
  refine aw (ae h:) fun h1 h2=>?_
  have e:p.1=.int (wA p.1).i:=gU h1
  exact⟨_,_,congrArg aH.ok (Prod.ext e rfl),h2⟩
 |_=>injection h
def lZ(H:Int)(p:Int×Int):Int×Int:=if p.1=0 then(H*pz p.2,p.2+1)else p
theorem Ag{m j:Int}(h:Jf m j=true)(ν:Nat→Int):∃e s x y z,((run PD dh 60 10).ca (.fn 172) [.ref 0,.int (.c m)] (qB j)).leaf ν=some (.int e,s)∧s.hp.get 0=some (.list [.int x,.int y,.int z])∧
  e.eval ν=Int.fmod (lZ (ν 1) (ν 0,j)).1 m∧x.eval ν=Int.fdiv (lZ (ν 1) (ν 0,j)).1 m∧y.eval ν=(lZ (ν 1) (ν 0,j)).2∧z.eval ν=ν 1:=by
 refine RM (zx h:) fun k a b t f er h=>?_
 refine aw (ae h:) fun h1 h2=>?_
 refine aw (ae h1:) fun ek h1=>?_
 refine aw (ae h2:) fun ht hf=>?_
 refine eJ (tF ht:) fun e1 s1 et ht=>?_
 refine eJ (tF hf:) fun e2 s2 ef hf=>?_
 rw [er,et,ef];have ec:eE ν k a b=decide (ν 0=0):=by
  rw [aL ek];show decide (a.eval ν=b.eval ν)=_;rw [eR ν (ae h1).1,eR ν (ae h1).2];rfl
 unfold aH.leaf;rw [ec]
 by_cases hz:ν 0=0
 ·refine oW (rG ν (ae ht).2:) fun x y z g q1 q2 q3=>?_
  rw [decide_eq_true hz,show lZ (ν 1) (ν 0,j)=(ν 1*pz j,j+1)from if_pos hz]
  exact⟨e1,s1,x,y,z,rfl,g,eR ν (ae ht).1,q1,q2,q3⟩
 ·refine oW (rG ν (ae hf).2:) fun x y z g q1 q2 q3=>?_
  rw [decide_eq_false hz,show lZ (ν 1) (ν 0,j)=(ν 0,j)from if_neg hz]
  exact⟨e2,s2,x,y,z,rfl,g,eR ν (ae hf).1,q1,q2,q3⟩
noncomputable def wM:List Int:=[2,5,6,4,10,90,8]
def LM:Bool:=wM.all fun m=>(List.range 21).all fun j=>Jf m j
theorem DP:LM=true:=by kernel_rfl
section
noncomputable def nZ:List Int:=[2,5,6,6,6,6,6,4,10,10,10,10,90,90,90,90,8,8,8,8]
noncomputable def mK(k:Nat):Int:=nZ.getD k 2
noncomputable def stK(W:Int):Nat→Int×Int
 |0=>(W,0)
 |k+1=>(Int.fdiv (lZ (2*W+1) (stK W k)).1 (mK k),(lZ (2*W+1) (stK W k)).2)
def dK(W:Int)(k:Nat):Int:=Int.fmod (lZ (2*W+1) (stK W k)).1 (mK k)
def ν0(W:Int)(j:Nat):Int:=if j<20 then dK W j else if j<41 then(stK W (j - 20)).1 else if j<62 then(stK W (j - 41)).2 else 2*W+1
def RB:Rg:=nZ.map (fun m=>(0,m - 1))++(List.replicate 21 (0,jV)++(List.replicate 21 (0,20)++[(0,jV)]))
theorem CL(k:Nat):2≤mK k∧mK k≤90:=by
 unfold mK;rcases Nat.lt_or_ge k 20 with h|h
 ·have:∀k:Fin 20,2≤nZ.getD k.1 2∧nZ.getD k.1 2≤90:=by decide
  exact this ⟨k,h⟩
 ·rw [List.getD_eq_getElem?_getD,List.getElem?_eq_none (by exact h)]
  decide
theorem yy{a m:Int}(h:0≤a)(hm:2≤m):0≤Int.fdiv a m∧Int.fdiv a m≤a:=by
 rw [Int.fdiv_eq_ediv_of_nonneg _ (by lia)]
 exact⟨Int.ediv_nonneg h (by lia),Int.ediv_le_self m h⟩
set_option exponentiation.threshold 5000 in
theorem GK{j:Int}(h0:0≤j)(h:j≤20):0≤pz j∧pz j≤2^540:=by
 unfold pz;have e:(5+(j+1)).toNat≤26:=by lia
 have a:(1000003:Nat)^(5+(j+1)).toNat≤1000003^26:=Nat.pow_le_pow_right (by decide) e
 have b:(1000003:Nat)^26≤2^540:=by decide
 have c:(1000003:Nat)^(5+(j+1)).toNat≤2^540:=Nat.le_trans a b
 have d:(0:Int)≤1000003^(5+(j+1)).toNat:=Int.pow_nonneg (by decide)
 have c':=Int.ofNat_le.mpr c
 rw [Int.natCast_pow,Int.natCast_pow]at c';exact⟨d,c'⟩
theorem nI(h0:0≤W)(h1:W<2^400):∀k,k≤20→(0≤(stK W k).1∧(stK W k).1≤jV)∧(0≤(stK W k).2∧(stK W k).2≤k)
 |0,_=>⟨⟨h0,by
   have:(2:Int)^400≤jV:=by decide+kernel
   show W≤jV;lia⟩,by show(0:Int)≤0∧(0:Int)≤0;lia⟩
 |k+1,hk=>by
  obtain⟨⟨a1,a2⟩,a3,a4⟩:=nI h0 h1 k (by lia)
  have hm:=CL k
  show(0≤Int.fdiv (lZ (2*W+1) (stK W k)).1 (mK k)∧Int.fdiv (lZ (2*W+1) (stK W k)).1 (mK k)≤jV)∧(0≤(lZ (2*W+1) (stK W k)).2∧(lZ (2*W+1) (stK W k)).2≤((k+1:Nat):Int));unfold lZ;split
  ·refine aw (GK (j:=(stK W k).2) a3 (by lia):) fun f1 f2=>?_
   have p0:0≤(2*W+1)*pz (stK W k).2:=Int.mul_nonneg (by lia) f1
   have p4:(2:Int)^401=2*2^400:=by decide+kernel
   have p1:(2*W+1)*pz (stK W k).2≤2^401*2^540:=Int.mul_le_mul (by lia) f2 f1 (by decide+kernel)
   have p2:(2:Int)^401*2^540≤jV:=by decide+kernel
   have q:=yy p0 hm.1
   refine⟨⟨q.1,?_⟩,?_⟩
   ·show Int.fdiv ((2*W+1)*pz (stK W k).2) (mK k)≤jV
    lia
   ·show 0≤(stK W k).2+1∧(stK W k).2+1≤((k+1:Nat):Int)
    lia
  ·have q:=yy a1 hm.1
   refine⟨⟨q.1,by lia⟩,by lia⟩
theorem PM(j:Nat)(hj:j<20):0≤ν0 W j∧ν0 W j≤mK j - 1:=by
 have hm:=CL j
 rw [show ν0 W j=dK W j from if_pos hj]
 unfold dK;rw [Int.fmod_eq_emod_of_nonneg _ (by lia)]
 exact⟨Int.emod_nonneg _ (by lia),Int.le_sub_one_of_lt (Int.emod_lt_of_pos _ (by lia))⟩
theorem vF(h0:0≤W)(h1:W<2^400):cg (ν0 W) RB:=by
 refine m3.ok (m3.app (m3.map fun j m h=>?_) (m3.app (m3.rep 21 fun j a b=>?_) (m3.app (m3.rep 21 fun j a b=>?_) ⟨?_,trivial⟩)))
 ·have hj:j<20:=(List.getElem?_eq_some_iff.mp h).1
  have e:mK j=m:=by unfold mK;rw [List.getD_eq_getElem?_getD,h];rfl
  rw [Nat.zero_add,←e];exact PM j hj
 ·have a:20≤j:=a
  have b:j<41:=b
  rw [show ν0 W j=(stK W (j - 20)).1 from(if_neg (Nat.not_lt.mpr a)).trans (if_pos b)]
  exact(nI h0 h1 (j - 20) (Nat.sub_le_of_le_add (Nat.le_of_lt_succ b))).1
 ·have a:41≤j:=a
  have b:j<62:=b
  rw [show ν0 W j=(stK W (j - 41)).2 from(if_neg (Nat.not_lt.mpr (Nat.le_trans (by decide) a))).trans ((if_neg (Nat.not_lt.mpr a)).trans (if_pos b))]
  have hb:j - 41≤20:=Nat.sub_le_of_le_add (Nat.le_of_lt_succ b)
  have:=(nI h0 h1 (j - 41) hb).2
  exact⟨this.1,Int.le_trans this.2 (Int.ofNat_le.mpr hb)⟩
 ·have:2*W+1≤jV:=by
   have q:(2:Int)*2^400≤jV:=by decide+kernel
   lia
  exact⟨by show 0≤2*W+1;lia,this⟩
def Kf(as:List AV)(s:AS):Option RV:=kc as fun x r=>ck (tP r&&(Nat.beq 13 x.ctorIdx&&(Nat.beq (wA x).r 0&&Nat.blt s.n 1000000))) (some (.ok (.ref s.n,(s.new (.list [.int (.v 20),.int (.v 41),.int (.v 62)])).2)))
def Ud(o:AO):Option (Nat×Nat×Nat):=fW (ints3 o) fun p=>fW (EI p.1) fun a=>fW (EI p.2.1) fun b=>fW (EI p.2.2) fun c=>some (a,b,c)
theorem JV{o:AO}{p:Nat×Nat×Nat}(h:Ud o=some p):o=.list [.int (.v p.1),.int (.v p.2.1),.int (.v p.2.2)]:=by
 refine aC (aM h:) fun q e h=>?_
 refine aC (aM h:) fun a e1 h=>?_
 refine aC (aM h:) fun b e2 h=>?_
 refine aC (aM h:) fun c e3 h=>?_
 injection h with h;subst h;rw [t6 e,kb e1,kb e2,kb e3]
noncomputable def drawn(i a b:Nat)(s:AS):RV:=.ok (.int (.v (a - 20)),s.upd i (.list [.int (.v (a+1)),.int (.v (b+1)),.int (.v 62)]))
def Kg(as:List AV)(s:AS):Option RV:=kc as fun x r=>kc r fun y r=>ck (tP r&&(Nat.beq 7 x.ctorIdx&&Nat.beq 2 y.ctorIdx)) (fW (gM (wA y).i) fun m=>fW (s.hp.get (wA x).r) fun o=>fW (Ud o) fun p=>
 ck (Nat.ble 20 p.1&&(Nat.blt p.1 40&&(Nat.beq p.2.1 (p.1+21)&&(Nat.beq p.2.2 62&&iy m (mK (p.1 - 20)))))) (some (drawn (wA x).r p.1 p.2.1 s)))
def QE(k:Nat)(as:List AV)(s:AS):Option RV:=match Nat.beq k 171 with
 |true=>Kf as s
 |false=>match Nat.beq k 172 with
  |true=>Kg as s
  |false=>none
end
section
section
variable{vs:List Value}{nn:Nat}
theorem Gq{C':Cx}{h':Heap}{x y z x' y' z':IE}{vs:List Value}(V:ay C J M h [.int x,.int y,.int z] vs)(hx:x'.eval C'.ν=x.eval C.ν)(hy:y'.eval C'.ν=y.eval C.ν)(hz:z'.eval C'.ν=z.eval C.ν):ay C' σ' M' h' [.int x',.int y',.int z'] vs:=by
 refine jZ V.un fun v r e a V=>?_
 refine jZ V.un fun u r' e' b V=>?_
 refine aC V.one fun w Tq c=>?_
 exact e▸.cons (kX hx a) (e'▸.cons (kX hy b) (Tq▸.cons (kX hz c) .nil))
theorem mU{C':Cx}{x y z x' y' z':IE}{a:Addr}(O:cQ C J M h (.list [.int x,.int y,.int z]) a)(hx:x'.eval C'.ν=x.eval C.ν)(hy:y'.eval C'.ν=y.eval C.ν)(hz:z'.eval C'.ν=z.eval C.ν):cQ C' σ' M' h (.list [.int x',.int y',.int z']) a:=by
 exact eJ O.listI fun ws n o1 o2=>.list _ _ _ n o1 (Gq o2 hx hy hz)
theorem Ca{k:Nat}{ras:List Value}(V:ay C J M h [.mC k] ras):ras=[C.U k]:=
 V.one.elim fun v q=>q.1.trans (congrArg (fun v=>[v]) q.2.inv)
theorem ru{Kx o:AO}(q:(aE.put 40 .nil 0 Kx).get i=some o):i=0∧o=Kx:=by
 by_cases hi:0=i
 ·subst hi
  rw [AS.cp .nil 40 0 Kx (by decide)]at q
  exact⟨rfl,(bh q).symm⟩
 ·rw [AS.bB _ _ _ _ _ hi]at q
  exact no q
theorem Gz(S:aq C J M s h)(nm:¬M la)(hh:h.get? la=some (bZ vs nn))(hvs:∀(C:Cx) J M h,ay C J M h (cI is) vs):
  aq (C.re C.ν 1 (aE.put 40 .nil 0 (.list (cI is))) C.U) [la] M (eI is) h:=by
 have Ri:∀p∈C.tabs,M p.2:=fun p hp=>let⟨⟨_,a,_⟩,_⟩:=S.tab p hp;a
 refine⟨rfl,(by show 1≤1000000;decide),⟨Nat.le_refl 1,fun i Y=>rfl⟩,List.pairwise_singleton _ _,fun i o q=>?_,fun i o a q1 q2=>?_,fun i a q hi=>?_,fun i a q Y=>?_,fun a m=>?_,S.mlt,S.base,fun p hp=>⟨(S.tab p hp).1,fun m=>?_⟩,fun k p q=>no q⟩
 ·have:=(ru q).1;show i<1;lia
 ·refine aw (ru q1:) fun x y=>?_
  subst x y;injection q2 with q2;subst q2;exact .list _ _ vs nn hh (hvs _ _ _ _)
 ·rw [List.getElem?_eq_none hi]at q;exact no q
 ·have:a∈[la]:=bO q
  rw [List.mem_singleton.mp this];exact nm
 ·rw [List.mem_singleton.mp m];exact⟨_,hh⟩
 ·have:=Ri p hp
  rw [List.mem_singleton.mp m]at this;exact nm this
theorem Gy{f0:aE AO}(S:aq C J M s h)(hnf:C.nf=0)(nm:¬M la)(z:cm C Z J h):cm (C.re C.ν 1 f0 C.U) (fun a=>(Z a∧a≠la)∨a∈J) [la] h:=fun a q=>by
 have WE:∀a,a∈J→M a:=fun a m=>(List.getElem?_of_mem m).elim fun i q=>S.jq i a q (by lia)
 rcases q with⟨q,hn⟩|q
 ·exact⟨(z a q).1,fun m=>hn (List.mem_singleton.mp m),(z a q).2.2⟩
 ·exact⟨S.there a q,fun m=>nm (List.mem_singleton.mp m▸WE a q),fun p hp e=>(S.tab p hp).2 (e▸q)⟩
theorem z6:(fN is W).hp.get 2=some (.list [.int (.c W),.int (.c 0),.int (.c (2*W+1))]):=by
 have e:(fN is W).hp=aE.put 40 (dc is).hp (dc is).n (.list [.int (.c W),.int (.c 0),.int (.c (2*W+1))]):=rfl
 rw [e,show(dc is).n=2 from rfl]
 exact AS.cp (dc is).hp 40 2 _ (by decide)
theorem Dk(sr:C.ν=ν0 W){f0:aE AO}(hlt:Nat.blt s.n 1000000=true)(nm:¬M la)(S:aq C J M s st.heap){Q:Value→Shared→Prop}
  (K:KV C Z J M st (.ref s.n) (s.new (.list [.int (.v 20),.int (.v 41),.int (.v 62)])).2 Q):
  KV (C.re C.ν 1 f0 C.U) (fun a=>(Z a∧a≠la)∨a∈J) [la] M st (.ref 2) (fN is W) Q:=by
 intro aA aP h₁ tk rv G aD cb;refine aC (G.pre:) fun CN e Df=>?_
 subst e;refine aC (cb.inv:) fun a2 e SA=>?_
 subst e;have WT:a2∈CN:=bO (i:=1) SA
 have dead:=Df a2 WT
 have m2:aP a2:=aD.jq 2 a2 SA (by show 1≤2;decide)
 have Gf:aJ Z J M st.heap J (fun a=>M a∨(st.heap.get? a=none∧aP a)) h₁:=aJ.yL (Z':=fun a=>(Z a∧a≠la)∨a∈J) (fun Y x=>x) (fun a hm hz=>.inl ⟨hz,fun e=>nm (e▸hm)⟩) G
 have Sb:aq C J (fun a=>M a∨(st.heap.get? a=none∧aP a)) s h₁:=aq.back (C':=C.re C.ν 1 f0 C.U) ⟨rfl,rfl,rfl⟩ S G aD (fun Y x=>x) (fun Y x=>x) rfl rfl S.gL.2 S.low fun i o a q1 q2=>
  (S.obj i o a q1 q2).chg Gf.chg fun x hx=>G.dz (.inr (bO q2)) hx
 have On:cQ C J (fun a=>M a∨(st.heap.get? a=none∧aP a)) h₁ (.list [.int (.v 20),.int (.v 41),.int (.v 62)]) a2:=
  mU (aD.obj 2 (.list [.int (.c W),.int (.c 0),.int (.c (2*W+1))]) a2 z6 SA) (sr▸rfl) (sr▸rfl) (sr▸rfl)
 have Sn:a2∉J:=fun m=>let⟨_,e⟩:=S.there a2 m;aO e dead
 refine dJ (aq.adopt Sb hlt (.inr ⟨dead,m2⟩) Sn (fun p hp e=>(S.tab p hp).1.elim fun Y y=>aO (e▸y.2.1) dead) _ On:) fun S3 X3 Xw=>?_
 exact K (J++[a2]) _ h₁ tk (.ref a2) ⟨⟨[a2],rfl,fun a m=>by rw [List.mem_singleton.mp m];exact dead⟩,Gf.ext,Gf.more,Gf.fresh⟩ S3 (.ref _ _ Xw)
theorem wx(hnf:C.nf=0)(sr:C.ν=ν0 W)(hU:C.U 0=.ref la)(hX:∀fi DH,WF (C.re fi 1 DH C.U) PH dh)(hla:C.hb.get? la=some (bZ vs nn))(hvs:∀(C:Cx) J M h,ay C J M h (cI is) vs)
  (hW:(run PH dh 100 20).ca (.fn 171) [.ref 0] (eI is)=.ok (.ref 2,fN is W))
  {s:AS}{Z:Addr→Prop}{J:List Addr}{M:Addr→Prop}{A:Around}{st:Shared}{ras:List Value}(hlt:Nat.blt s.n 1000000=true)(S:aq C J M s st.heap)(R:bu A 20)(z:cm C Z J st.heap)(V:ay C J M st.heap [.mC 0] ras){Q E:Value→Shared→Prop}
  (K:KV C Z J M st (.ref s.n) (s.new (.list [.int (.v 20),.int (.v 41),.int (.v 62)])).2 Q):ab (Md C) A (call (.ref (C.mH 171)) ras []) Q E st:=by
 have e0:ras=[.ref la]:=hU▸Ca V
 subst e0;refine aw (S.base la _ hla:) fun nm hh=>?_
 exact((sound (hX C.ν (aE.put 40 .nil 0 (.list (cI is)))) 100 (by decide) 20).2.2.2 (.fn 171) [.ref 0] (eI is) (.ref 2) (fN is W) (hW▸rfl) _ _ _ A st (.ref (C.mH 171)) [.ref la] (Gz S nm hh hvs) R (Gy S hnf nm z) (.fn 171) (.cons (.ref 0 la rfl) .nil)).2 Q E (Dk sr hlt nm S K)
def νD(W:Int)(k:Nat):Nat→Int:=fun j=>if j=0 then(stK W k).1 else 2*W+1
section
variable{a:Nat}(Dn:20≤a)(GB:a<40)
include Dn GB
theorem JH:ν0 W a=(stK W (a - 20)).1:=(if_neg (by lia)).trans (if_pos (by lia))
theorem JF:ν0 W (a+21)=(stK W (a - 20)).2:=(if_neg (by lia)).trans ((if_neg (by lia)).trans ((if_pos (by lia)).trans (by rw [Nat.add_sub_add_right a 21 20])))
theorem JG:ν0 W (a+1)=(stK W (a - 20+1)).1:=(if_neg (by lia)).trans ((if_pos (by lia)).trans (by rw [Nat.sub_add_comm Dn]))
theorem JE:ν0 W (a+1+21)=(stK W (a - 20+1)).2:=(if_neg (by lia)).trans ((if_neg (by lia)).trans ((if_pos (by lia)).trans (by rw [show a+1+21 - 41=a - 20+1 from(Nat.add_sub_add_right (a+1) 21 20).trans (Nat.sub_add_comm Dn)])))
theorem MQ:ν0 W (a - 20)=dK W (a - 20):=if_pos (by lia)
end
theorem GW(h0:0≤W)(h1:W<2^400){k:Nat}(hk:k≤20):cg (νD W k) [(0,jV),(0,jV)]:=by
 have hb:(2:Int)^401≤jV:=by decide+kernel
 have he:(2:Int)^401=2*2^400:=by decide+kernel
 intro j p q
 match j,q with
 |0,q=>(injection q with q;subst q);exact(nI h0 h1 k hk).1
 |1,q=>(injection q with q;subst q);show 0≤2*W+1∧2*W+1≤jV;lia
 |j+2,q=>exact no q
theorem DQ(h0:0≤W)(h1:W<2^400){k:Nat}(hk:k<20):∃e s x y z,((run PD dh 60 10).ca (.fn 172) [.ref 0,.int (.c (mK k))] (qB (stK W k).2)).leaf (νD W k)=some (.int e,s)∧s.hp.get 0=some (.list [.int x,.int y,.int z])∧
  e.eval (νD W k)=dK W k∧x.eval (νD W k)=(stK W (k+1)).1∧y.eval (νD W k)=(stK W (k+1)).2∧z.eval (νD W k)=2*W+1:=by
 refine dJ (nI h0 h1 k (Nat.le_of_lt hk):) fun Y b3 b4=>?_
 have hm:mK k∈wM:=(show∀k:Fin 20,nZ.getD k.1 2∈wM by decide) ⟨k,hk⟩
 have hB:=bS (bS DP _ hm) (stK W k).2.toNat (List.mem_range.mpr (by lia))
 rw [show(((stK W k).2.toNat:Nat):Int)=(stK W k).2 by lia]at hB
 exact Ag hB (νD W k)
theorem qA{j:Int}{k:Nat}{o:AO}(q:(qB j).hp.get k=some o):k=0∧o=.list [.int (.v 0),.int (.c j),.int (.v 1)]:=by
 by_cases hk:0=k
 ·subst hk
  have q:(aE.put 40 .nil 0 (.list [.int (.v 0),.int (.c j),.int (.v 1)])).get 0=some o:=q
  rw [AS.cp _ _ _ _ (by decide)]at q
  exact⟨rfl,(bh q).symm⟩
 ·have q:(aE.put 40 .nil 0 _).get k=some o:=q
  rw [AS.bB _ _ _ _ _ hk]at q;exact no q
theorem te{ai:Addr}(hai:J[i]?=some ai):bY J (fun Y=>i) 1=[ai]:=by
 unfold bY;show [J.getD i 0]=_;rw [List.getD_eq_getElem?_getD,hai];rfl
theorem LN(hnf:C.nf=0)(sr:C.ν=ν0 W)(h0:0≤W)(h1:W<2^400){a:Nat}(Dn:20≤a)(GB:a<40)(hs:s.hp.get i=some (.list [.int (.v a),.int (.v (a+21)),.int (.v 62)]))(S:aq C J M s h){ai:Addr}(hai:J[i]?=some ai):
  aq (C.re (νD W (a - 20)) 0 .nil C.U) (bY J (fun Y=>i) 1) (sb M (bY J (fun Y=>i) 1) 0) (qB (stK W (a - 20)).2) h:=by
 have hin:i<s.n:=S.low i _ hs
 refine aq.ed (s':=qB _) (π:=fun Y=>i) S (by show 1≤_;decide) (Nat.zero_le _) (fun Y Y=>hin) (fun x y hx hy Y=>(Nat.lt_one_iff.mp hx).trans (Nat.lt_one_iff.mp hy).symm) (fun k hk=>absurd hk (Nat.not_lt_zero k)) (fun k Y Y=>by lia) (fun k o q=>by rw [(qA q).1];exact Nat.one_pos) (fun k o q σ' M' X=>?_) (GW h0 h1 (by lia))
 rw [(qA q).2,show J.getD i 0=ai by rw [List.getD_eq_getElem?_getD,hai];rfl]
 exact mU (S.obj i _ ai hs hai) (by rw [sr];exact(JH Dn GB).symm) (by rw [sr];exact(JF Dn GB).symm) (by rw [sr];rfl)
theorem Ah(hnf:C.nf=0){gJ:AS}{o o':AO}(S:aq C J M s h)(hs:s.hp.get i=some o){ai:Addr}(hai:J[i]?=some ai){fi:Nat→Int}
  (G:aJ (Jm Z J (bY J (fun Y=>i) 1)) (bY J (fun Y=>i) 1) (sb M (bY J (fun Y=>i) 1) 0) h aA aP h₁)(aD:aq (C.re fi 0 .nil C.U) aA aP gJ h₁)(On:cQ C J (fun a=>M a∨(h.get? a=none∧aP a)) h₁ o' ai):
  aq C J (fun a=>M a∨(h.get? a=none∧aP a)) (s.upd i o') h₁:=by
 have hin:i<s.n:=S.low i _ hs
 have Gf:aJ Z J M h J (fun a=>M a∨(h.get? a=none∧aP a)) h₁:=aJ.yL (fun a x=>x.1) (fun a Y x=>.inl x) G
 refine aq.back (C':=C.re fi 0 .nil C.U) ⟨rfl,rfl,rfl⟩ S G aD (fun a x=>x.1) (fun a x=>⟨x,fun k hk=>absurd hk (Nat.not_lt_zero k)⟩) rfl rfl (fun k hk=>by lia) (fun k o q=>?_) fun k o b q1 q2=>?_
 ·by_cases hk:i=k
  ·exact hk▸hin
  ·have q:(aE.put 40 s.hp i _).get k=some o:=q
   rw [AS.bB _ _ _ _ _ hk]at q;exact S.low k o q
 ·by_cases hk:i=k
  ·subst hk
   have q1:(aE.put 40 s.hp i _).get i=some o:=q1
   rw [AS.cp _ _ _ _ (Nat.lt_of_lt_of_le hin (Nat.le_trans S.lim (by decide)))]at q1
   injection q1 with q1;subst q1;rw [hai]at q2;injection q2 with q2;subst q2;exact On
  ·have q1:(aE.put 40 s.hp i _).get k=some o:=q1
   rw [AS.bB _ _ _ _ _ hk]at q1;refine(S.obj k o b q1 q2).chg Gf.chg fun x hx=>G.dz (.inr ⟨bO q2,fun m=>?_⟩) hx
   rw [te hai]at m;rw [List.mem_singleton.mp m]at q2;exact hk (S.inj hai q2)
theorem wL(hnf:C.nf=0)(sr:C.ν=ν0 W)(h0:0≤W)(h1:W<2^400)(hX:∀fi DH,WF (C.re fi 0 DH C.U) PD dh)
  {s:AS}{i a:Nat}(Dn:20≤a)(GB:a<40)(hs:s.hp.get i=some (.list [.int (.v a),.int (.v (a+21)),.int (.v 62)]))
  {Z:Addr→Prop}{J:List Addr}{M:Addr→Prop}{A:Around}{st:Shared}{ras:List Value}(S:aq C J M s st.heap)(R:bu A 10)(z:cm C Z J st.heap)(V:ay C J M st.heap [.ref i,.int (.c (mK (a - 20)))] ras){Q E:Value→Shared→Prop}
  (K:KV C Z J M st (.int (.v (a - 20))) (s.upd i (.list [.int (.v (a+1)),.int (.v (a+1+21)),.int (.v 62)])) Q):ab (Md C) A (call (.ref (C.mH 172)) ras []) Q E st:=by
 obtain⟨ai,hai⟩:∃x,J[i]?=some x:=⟨_,oa (by rw [←S.len];exact S.low i _ hs)⟩
 refine Ul (DQ h0 h1 (k:=a - 20) (by lia):) fun e gJ x y z' hleaf hget k1 k2 k3 k4=>?_
 have Ub:=te hai
 obtain⟨ra,rm,rfl,Va,Vm⟩:=V.two
 obtain⟨x1,rfl,hx⟩:=Va.inv
 obtain⟨t,rfl⟩:=Vm.inv
 cases hai.symm.trans hx
 refine((sound (hX (νD W (a - 20)) .nil) 60 (by decide) 10).2.2.2 (.fn 172) [.ref 0,.int (.c (mK (a - 20)))] _ (.int e) gJ hleaf _ _ _ A st (.ref (C.mH 172)) _ (LN hnf sr h0 h1 Dn GB hs S hai) R (cm.ed (ν:=νD W (a - 20)) (nf:=0) (f0:=.nil) (U:=C.U) (π:=fun Y=>i) (m:=1) S z (fun Y Y=>S.low i _ hs)) (.fn 172) (.cons (.ref 0 _ (by rw [Ub];rfl)) (.cons (.int _ _ t rfl) .nil))).2 Q E ?_
 intro aA aP h₁ tk rv G aD cb;obtain⟨CN,rfl,Df⟩:=G.pre
 have On:=mU (C':=C) (σ':=J) (M':=fun a=>M a∨(st.heap.get? a=none∧aP a)) (x':=.v (a+1)) (y':=.v (a+1+21)) (z':=.v 62) (aD.obj 0 _ ai hget (by rw [Ub];rfl)) (by rw [sr];exact(JG Dn GB).trans k2.symm) (by rw [sr];exact(JE Dn GB).trans k3.symm) (by rw [sr];exact k4.symm)
 obtain⟨u,rfl⟩:=cb.inv
 exact K J _ h₁ tk _ (aJ.yL (fun a x=>x.1) (fun a Y x=>.inl x) G) (Ah hnf S hs hai G aD On) (.int _ _ u (by rw [sr];exact(MQ Dn GB).trans k1.symm))
theorem Kh(hnf:C.nf=0)(sr:C.ν=ν0 W)(hU:C.U 0=.ref la)(h0:0≤W)(h1:W<2^400)(W6:∀fi DH,WF (C.re fi 1 DH C.U) PH dh)(hX:∀fi DH,WF (C.re fi 0 DH C.U) PD dh)(hla:C.hb.get? la=some (bZ vs nn))(hvs:∀(C:Cx) J M h,ay C J M h (cI is) vs)
  (hW:(run PH dh 100 20).ca (.fn 171) [.ref 0] (eI is)=.ok (.ref 2,fN is W))(k:Nat)(as:List AV)(s:AS)(r:aH (AV×AS))(v:AV)(s':AS)(hk:QE k as s=some r)(hr:r.leaf C.ν=some (v,s'))
  (Z:Addr→Prop)(J:List Addr)(M:Addr→Prop)(A:Around)(st:Shared)(ras:List Value)(S:aq C J M s st.heap)(R:bu A 20)(z:cm C Z J st.heap)(V:ay C J M st.heap as ras)(Q E:Value→Shared→Prop)(K:KV C Z J M st v s' Q):ab (Md C) A (call (.ref (C.mH k)) ras []) Q E st:=by
 unfold QE at hk;cases e1:Nat.beq k 171 with
 |true=>
  rw [e1]at hk;obtain⟨x,r,rfl,hk⟩:=bD hk
  refine aw (aB hk:) fun c hk=>?_
  injection hk with hk;subst hk;injection hr with hr;injection hr with hr aN;subst hr aN;have hx:x=.mC (wA x).r:=gU (ae (ae c).2).1
  rw [fZ (ae c).1,hx,aL (ae (ae (ae c).2).2).1]at V;rw [aL e1];exact wx hnf sr hU W6 hla hvs hW (ae (ae (ae c).2).2).2 S R z V K
 |false=>
  rw [e1]at hk
  dsimp only at hk
  cases e2:Nat.beq k 172 with
  |false=>rw [e2]at hk;injection hk
  |true=>
   rw [e2]at hk;refine eJ (bD hk:) fun x t ex hk=>?_
   refine eJ (bD hk:) fun y u ey hk=>?_
   refine aw (aB hk:) fun c hk=>?_
   refine aC (aM hk:) fun m em hk=>?_
   refine aC (aM hk:) fun o hs hk=>?_
   refine aC (aM hk:) fun p eo hk=>?_
   refine aw (aB hk:) fun d hk=>?_
   injection hk with hk;subst hk;injection hr with hr;injection hr with hr aN;subst hr aN;have hx:x=.ref (wA x).r:=gU (ae (ae c).2).1
   have hy:y=.int (wA y).i:=gU (ae (ae c).2).2
   refine aw (ae d:) fun c1 d=>?_
   refine aw (ae d:) fun c2 d=>?_
   refine aw (ae d:) fun c3 d=>?_
   have c1:=bF c1
   have c3:=aL c3
   rw [JV eo,c3,aL (ae d).1]at hs;rw [ex,ey,fZ (ae c).1,hx,hy,de em,bL.mp (ae d).2]at V;rw [c3]at K;rw [aL e2];exact wL hnf sr h0 h1 hX c1 (bF c2) hs S (R.mono (by decide)) z V (by rw [show p.1+1+21=p.1+21+1 by lia];exact K)
end
end
noncomputable def gF:aE AO:=(.node (some (.inst 14 1)) (.node (some (.ns [(201,.ref 2),(122,.none),(65,.ref 75),(286,.ref 76),(160,.ref 78),(187,.eD []),(101,.eD []),(186,.eD []),(310,.ref 77),(235,.bytes []),(124,.eD [])])) (.node (some (.ns [(56,.str [80]),(31,.ref 4),(94,.eD []),(315,.none),(299,.bool false)])) (.node (some (.inst 12 8)) (.node (some (.inst 10 16)) (.node (some (.list [])) (.node (some (.ns [(13,.int (.c (4))),(42,.int (.c (4))),(266,.none),(46,.t []),(187,.t [])])) .nil .nil) .nil) (.node (some (.ns [(73,.str [57]),(209,.ref 48),(220,.str [110,117,109,101,114,105,99]),(151,.int (.c (1))),(120,.int (.c (0))),(272,.bool false),(69,.int (.c (1)))])) .nil .nil)) (.node (some (.list [])) (.node (some (.ns [(100,.int (.c (2))),(56,.str [67]),(375,.str [57]),(136,.str []),(68,.str []),(342,.bool false),(162,.ref 40),(278,.str []),(137,.none),(369,.bool false),(391,.bool false),(294,.ref 42),(47,.ref 43),(165,.ref 7),(203,.none),(28,.str []),(164,.int (.c (9))),(69,.int (.c (1))),(121,.ref 44)])) (.node (some (.inst 10 72)) .nil .nil) .nil) (.node (some (.inst 10 56)) .nil .nil))) (.node (some (.inst 12 12)) (.node (some (.list [.t [.str [88],.int (.c (5))]])) (.node (some (.inst 6 36)) (.node (some (.ns [(220,.str [110,117,109,101,114,105,99]),(69,.int (.c (2))),(197,.ref 68),(136,.str [100,105,115,112,108,97,121]),(68,.str [116,114,97,105,108,105,110,103]),(342,.bool false),(369,.bool false),(391,.bool false),(151,.int (.c (2))),(120,.int (.c (0))),(272,.bool true)])) .nil .nil) .nil) (.node (some (.inst 11 52)) .nil .nil)) (.node (some (.ns [(73,.str [57]),(209,.ref 28),(220,.str [110,117,109,101,114,105,99]),(151,.int (.c (1))),(120,.int (.c (0))),(272,.bool false),(69,.int (.c (1)))])) (.node (some (.list [])) (.node (some (.list [])) .nil .nil) .nil) (.node (some (.list [.t [.str [57],.int (.c (2))]])) .nil .nil)))) (.node (some (.ns [(213,.ref 6),(192,.ref 73),(94,.eD []),(124,.ref 74),(69,.int (.c (29))),(187,.eD [])])) (.node (some (.list [])) (.node (some (.inst 6 18)) (.node (some (.inst 10 34)) (.node (some (.list [])) .nil .nil) .nil) (.node (some (.inst 12 50)) .nil .nil)) (.node (some (.ns [(220,.str [110,117,109,101,114,105,99]),(69,.int (.c (1))),(197,.ref 26),(136,.str [100,105,115,112,108,97,121]),(68,.str [116,114,97,105,108,105,110,103]),(342,.bool false),(369,.bool false),(391,.bool false),(151,.int (.c (1))),(120,.int (.c (0))),(272,.bool false)])) (.node (some (.ns [(13,.int (.c (4))),(42,.int (.c (4))),(266,.none),(46,.t []),(187,.t [])])) (.node (some (.list [])) .nil .nil) .nil) (.node (some (.inst 6 58)) .nil .nil))) (.node (some (.list [])) (.node (some (.ns [(100,.int (.c (2))),(56,.str [73]),(375,.str [57]),(136,.str []),(68,.str []),(342,.bool false),(162,.none),(278,.str []),(137,.none),(369,.bool false),(391,.bool false),(294,.ref 22),(47,.ref 23),(165,.ref 7),(203,.none),(28,.str []),(164,.int (.c (5))),(69,.int (.c (1))),(121,.ref 24)])) (.node (some (.list [.t [.str [88],.int (.c (3))]])) (.node (some (.ns [(73,.str [83,57,57]),(209,.ref 70),(220,.str [110,117,109,101,114,105,99]),(151,.int (.c (2))),(120,.int (.c (0))),(272,.bool true),(69,.int (.c (2)))])) .nil .nil) .nil) (.node (some (.list [])) .nil .nil)) (.node (some (.inst 12 30)) (.node (some (.ns [(220,.str [110,117,109,101,114,105,99]),(69,.int (.c (1))),(197,.ref 46),(136,.str [100,105,115,112,108,97,121]),(68,.str [116,114,97,105,108,105,110,103]),(342,.bool false),(369,.bool false),(391,.bool false),(151,.int (.c (1))),(120,.int (.c (0))),(272,.bool false)])) (.node (some (.list [])) .nil .nil) .nil) (.node (some (.ns [(100,.int (.c (2))),(56,.str [80]),(375,.str [83,57,57]),(136,.str []),(68,.str []),(342,.bool false),(162,.ref 62),(278,.str []),(137,.none),(369,.bool false),(391,.bool false),(294,.ref 64),(47,.ref 65),(165,.ref 7),(203,.none),(28,.str []),(164,.int (.c (21))),(69,.int (.c (2))),(121,.ref 66)])) .nil .nil))))) (.node (some (.inst 16 3)) (.node (some (.inst 13 5)) (.node (some (.ns [(100,.int (.c (1))),(56,.str [82,69,67]),(375,.none),(136,.str []),(68,.str []),(342,.bool false),(162,.none),(278,.str []),(137,.none),(369,.bool false),(391,.bool false),(294,.ref 9),(47,.ref 10),(165,.none),(203,.none),(28,.str []),(164,.int (.c (0))),(69,.int (.c (29))),(121,.ref 71)])) (.node (some (.ns [(220,.str [97,108,112,104,97,110,117,109,101,114,105,99]),(69,.int (.c (5))),(197,.ref 17),(136,.str [100,105,115,112,108,97,121]),(68,.str [116,114,97,105,108,105,110,103]),(342,.bool false),(369,.bool false),(391,.bool false),(151,.int (.c (0))),(120,.int (.c (0))),(272,.bool false)])) (.node (some (.list [])) (.node (some (.list [])) .nil .nil) .nil) (.node (some (.list [.t [.str [57],.int (.c (1))]])) .nil .nil)) (.node (some (.inst 10 25)) (.node (some (.inst 11 41)) (.node (some (.ns [(220,.str [103,114,111,117,112]),(69,.int (.c (29))),(197,.none),(136,.str [100,105,115,112,108,97,121]),(68,.str [116,114,97,105,108,105,110,103]),(342,.bool false),(369,.bool false),(391,.bool false),(151,.int (.c (0))),(120,.int (.c (0))),(272,.bool false)])) .nil .nil) .nil) (.node (some (.ns [(220,.str [110,117,109,101,114,105,99]),(69,.int (.c (2))),(197,.ref 57),(136,.str [100,105,115,112,108,97,121]),(68,.str [116,114,97,105,108,105,110,103]),(342,.bool false),(369,.bool false),(391,.bool false),(151,.int (.c (2))),(120,.int (.c (0))),(272,.bool false)])) .nil .nil))) (.node (some (.ns [(100,.int (.c (2))),(56,.str [83]),(375,.str [88,40,53,41]),(136,.str []),(68,.str []),(342,.bool false),(162,.none),(278,.str []),(137,.none),(369,.bool false),(391,.bool false),(294,.ref 13),(47,.ref 14),(165,.ref 7),(203,.none),(28,.str []),(164,.int (.c (0))),(69,.int (.c (5))),(121,.ref 15)])) (.node (some (.inst 12 21)) (.node (some (.ns [(73,.str [88,40,51,41]),(209,.ref 37),(220,.str [97,108,112,104,97,110,117,109,101,114,105,99]),(151,.int (.c (0))),(120,.int (.c (0))),(272,.bool false),(69,.int (.c (3)))])) (.node (some (.inst 6 69)) .nil .nil) .nil) (.node (some (.ns [(13,.int (.c (4))),(42,.int (.c (4))),(266,.none),(46,.t []),(187,.t [])])) .nil .nil)) (.node (some (.list [.t [.str [57],.int (.c (1))]])) (.node (some (.inst 10 45)) (.node (some (.list [])) .nil .nil) .nil) (.node (some (.inst 12 61)) .nil .nil)))) (.node (some (.list [.ref 7])) (.node (some (.list [.ref 11,.ref 20,.ref 29,.ref 38,.ref 49,.ref 60])) (.node (some (.ns [(73,.str [88,40,53,41]),(209,.ref 19),(220,.str [97,108,112,104,97,110,117,109,101,114,105,99]),(151,.int (.c (0))),(120,.int (.c (0))),(272,.bool false),(69,.int (.c (5)))])) (.node (some (.ns [(220,.str [97,108,112,104,97,110,117,109,101,114,105,99]),(69,.int (.c (3))),(197,.ref 35),(136,.str [100,105,115,112,108,97,121]),(68,.str [116,114,97,105,108,105,110,103]),(342,.bool false),(369,.bool false),(391,.bool false),(151,.int (.c (0))),(120,.int (.c (0))),(272,.bool false)])) (.node (some (.inst 10 67)) .nil .nil) .nil) (.node (some (.ns [(100,.int (.c (2))),(56,.str [78]),(375,.str [57,57]),(136,.str []),(68,.str []),(342,.bool false),(162,.ref 51),(278,.str []),(137,.none),(369,.bool false),(391,.bool false),(294,.ref 53),(47,.ref 54),(165,.ref 7),(203,.none),(28,.str []),(164,.int (.c (13))),(69,.int (.c (2))),(121,.ref 55)])) .nil .nil)) (.node (some (.inst 6 27)) (.node (some (.list [])) (.node (some (.list [])) .nil .nil) .nil) (.node (some (.ns [(73,.str [57,57]),(209,.ref 59),(220,.str [110,117,109,101,114,105,99]),(151,.int (.c (2))),(120,.int (.c (0))),(272,.bool false),(69,.int (.c (2)))])) .nil .nil))) (.node (some (.list [])) (.node (some (.list [])) (.node (some (.inst 12 39)) (.node (some (.list [.t [.str [83],.int (.c (1))],.t [.str [57],.int (.c (2))]])) .nil .nil) .nil) (.node (some (.list [])) .nil .nil)) (.node (some (.ns [(100,.int (.c (2))),(56,.str [71]),(375,.str [88,40,51,41]),(136,.str []),(68,.str []),(342,.bool false),(162,.none),(278,.str []),(137,.none),(369,.bool false),(391,.bool false),(294,.ref 31),(47,.ref 32),(165,.ref 7),(203,.none),(28,.str []),(164,.int (.c (6))),(69,.int (.c (3))),(121,.ref 33)])) (.node (some (.inst 6 47)) .nil .nil) (.node (some (.inst 11 63)) .nil .nil))))))
noncomputable def KY:AO:=.cu [.c (32),.c (32),.c (32),.c (32),.c (32),.c (48),.c (32),.c (32),.c (32),.c (48),.c (48),.c (48),.c (48),.c (48),.c (48),.c (48),.c (48),.c (48),.c (48),.c (48),.c (48),.c (48),.c (123),.c (48),.c (123),.c (48),.c (123),.c (48),.c (123)]
section
def PA:Pg:=⟨AW,j7,G3,EO,0,QE,19⟩
noncomputable def NO:List Nat:=[341,340,338,337,15,14,53,20,19,21,22,24,23,25,26,86,85,83,82,74,28,27,29,30,113,112,110,109,100,32,31,33,34,141,140,138,137,129,36,35,40,39,37,38,168,167,165,164,155,42,41,46,45,43,44,198,197,195,194,184,48,47,52,51,49,50,237,236,231,230,216,239,238,17,18,342,343,376,374]
noncomputable def πA(j:Nat):Nat:=NO.getD j 0
noncomputable def Kb:List CS:=il.take 2
noncomputable def Fp:List CS:=(il.drop 2).take 1
def vD:AS:=⟨.nil,0,RB⟩
noncomputable def Wu:List AV:=[.int (.v 22),.int (.v 43),.int (.v 62)]
def MC:AS:=⟨aE.put 40 .nil 0 (.list Wu),1,RB⟩
noncomputable def sZ:Env:=[(168,.mC 0)]
noncomputable def B1:Env:=[(40,.ref 0),(36,.int (.v 0)),(184,.mC 1)]
noncomputable def KW:List IE:=([2,3,4,5,6].map fun k=>IE.tab [50,44,51,49,52,44] (.v k))++([.add (.v 7) (.c 49),.c 103,.c 104,.c 105]++(([8,9,10,11].map fun k=>IE.add (.v k) (.c 48))++
 (([12,13,14,15].flatMap fun k=>[IE.add (.div (.v k) (.c 10)) (.c 48),.add (.mod (.v k) (.c 10)) (.c 48)])++([16,17,18,19].flatMap fun k=>[IE.add (.div (.v k) (.c 10)) (.c 48),.add (.v k) (.c 48)]))))
def wj(e:IE):Bool:=k9 (gM e) fun i=>jM 48 i&&jM i 57
def SY:List IE→Bool
 |[]=>false
 |a::r=>wj a&&(match r with|[]=>true|b::r=>wj b&&tP r)
def DC(v:AV):Bool:=Nat.beq 4 v.ctorIdx&&SY (wA v).y
def V8:Fl×Env×AS→Bool:=nx fun ρ s=>k9 (az ρ 40) (J1 0)&&(k9 (az ρ 36) (Nc (.v 0))&&(k9 (az ρ 184) DC&&(Nat.beq s.n 1&&CO s (.v 22) (.v 43) (.v 62))))
def M6(π:Nat→Nat)(s:AS):Bool:=gF.ents.all (fun p=>Nat.blt p.1 78&&k9 (s.hp.get (π p.1)) (Iq 79 π p.2))&&k9 (s.hp.get (π 78)) (Iq 79 π KY)
def V7:Fl×Env×AS→Bool:=nx fun ρ s=>k9 (az ρ 36) (Nc (.v 0))&&(k9 (az ρ 184) (Nb 1)&&(k9 (az ρ 160) (Na KW)&&(k9 (az ρ 139) (J1 (πA 0))&&(M6 πA s&&NO.all (fun i=>Nat.blt i s.n)))))
theorem Tb:my V8 ((run PA dh 3000 60).xs Kb sZ vD)=true:=by kernel_rfl
theorem Ta:my V7 ((run PA dh 3000 60).xs Fp B1 MC)=true:=by kernel_rfl
theorem Ku:gX NO=true:=by kernel_rfl
theorem xV:NO.length=79:=by kernel_rfl
theorem Jd:gF.ents.all (fun p=>Nat.blt p.1 78&&Iq 79 id p.2 p.2)=true:=by kernel_rfl
end
noncomputable def bP:AV:=.t []
noncomputable def iW(k:Int):AV:=.int (.c k)
def sN(k:Int):AV:=.t [.t [.str [110,117,109,98,101,114],.t [iW k,iW 0]]]
noncomputable def rf(c:Nat)(x:AV):AV:=.t [.str [114,101,102],.str [c],.t [],x,.none]
def us(a b c:AV):AV:=.t [.str [117,110,115,116,114,105,110,103],(rf 83 bP),.t [.t [.t [.str [116,101,120,116],.bytes [.c (44)]],.bool false]],.t [.t [(rf 73 bP),.none,a],.t [(rf 71 bP),.none,.none]],b,c]
def ML:List SE:=[⟨136,none,[.ref 0,(rf 83 bP)],.t [.ref 78,(iW 0),.ref 15]⟩,
 ⟨136,none,[.ref 0,(rf 73 bP)],.t [.ref 78,(iW 5),.ref 24]⟩,
 ⟨136,none,[.ref 0,(rf 71 bP)],.t [.ref 78,(iW 6),.ref 33]⟩,
 ⟨136,none,[.ref 0,(rf 67 (sN 1))],.t [.ref 78,(iW 9),.ref 44]⟩,
 ⟨136,none,[.ref 0,(rf 67 (sN 2))],.t [.ref 78,(iW 10),.ref 44]⟩,
 ⟨136,none,[.ref 0,(rf 67 (sN 3))],.t [.ref 78,(iW 11),.ref 44]⟩,
 ⟨136,none,[.ref 0,(rf 67 (sN 4))],.t [.ref 78,(iW 12),.ref 44]⟩,
 ⟨136,none,[.ref 0,(rf 78 (sN 1))],.t [.ref 78,(iW 13),.ref 55]⟩,
 ⟨136,none,[.ref 0,(rf 78 (sN 2))],.t [.ref 78,(iW 15),.ref 55]⟩,
 ⟨136,none,[.ref 0,(rf 78 (sN 3))],.t [.ref 78,(iW 17),.ref 55]⟩,
 ⟨136,none,[.ref 0,(rf 78 (sN 4))],.t [.ref 78,(iW 19),.ref 55]⟩,
 ⟨136,none,[.ref 0,(rf 80 (sN 1))],.t [.ref 78,(iW 21),.ref 66]⟩,
 ⟨136,none,[.ref 0,(rf 80 (sN 2))],.t [.ref 78,(iW 23),.ref 66]⟩,
 ⟨136,none,[.ref 0,(rf 80 (sN 3))],.t [.ref 78,(iW 25),.ref 66]⟩,
 ⟨136,none,[.ref 0,(rf 80 (sN 4))],.t [.ref 78,(iW 27),.ref 66]⟩,
 ⟨167,some 49,[.ref 0,(rf 80 (.t [(rf 73 bP)]))],(rf 80 (sN 1))⟩,
 ⟨168,some 49,[.ref 0,(us (rf 67 (.t [(rf 73 bP)])) (rf 80 (.t [(rf 73 bP)])) (rf 78 (.t [(rf 73 bP)])))],(us (rf 67 (sN 1)) (rf 80 (sN 1)) (rf 78 (sN 1)))⟩,
 ⟨167,some 50,[.ref 0,(rf 80 (.t [(rf 73 bP)]))],(rf 80 (sN 2))⟩,
 ⟨168,some 50,[.ref 0,(us (rf 67 (.t [(rf 73 bP)])) (rf 80 (.t [(rf 73 bP)])) (rf 78 (.t [(rf 73 bP)])))],(us (rf 67 (sN 2)) (rf 80 (sN 2)) (rf 78 (sN 2)))⟩,
 ⟨167,some 51,[.ref 0,(rf 80 (.t [(rf 73 bP)]))],(rf 80 (sN 3))⟩,
 ⟨168,some 51,[.ref 0,(us (rf 67 (.t [(rf 73 bP)])) (rf 80 (.t [(rf 73 bP)])) (rf 78 (.t [(rf 73 bP)])))],(us (rf 67 (sN 3)) (rf 80 (sN 3)) (rf 78 (sN 3)))⟩,
 ⟨167,some 52,[.ref 0,(rf 80 (.t [(rf 73 bP)]))],(rf 80 (sN 4))⟩,
 ⟨168,some 52,[.ref 0,(us (rf 67 (.t [(rf 73 bP)])) (rf 80 (.t [(rf 73 bP)])) (rf 78 (.t [(rf 73 bP)])))],(us (rf 67 (sN 4)) (rf 80 (sN 4)) (rf 78 (sN 4)))⟩,
 ⟨167,some 49,[.ref 0,(rf 80 (.t [.t [.str [45],.t [.str [43],(rf 73 bP),(rf 73 bP)],(rf 73 bP)]]))],(rf 80 (sN 1))⟩,
 ⟨168,some 49,[.ref 0,(us (rf 67 (.t [.t [.str [45],.t [.str [43],(rf 73 bP),(rf 73 bP)],(rf 73 bP)]])) (rf 80 (.t [.t [.str [45],.t [.str [43],(rf 73 bP),(rf 73 bP)],(rf 73 bP)]])) (rf 78 (.t [.t [.str [45],.t [.str [43],(rf 73 bP),(rf 73 bP)],(rf 73 bP)]])))],(us (rf 67 (sN 1)) (rf 80 (sN 1)) (rf 78 (sN 1)))⟩,
 ⟨167,some 50,[.ref 0,(rf 80 (.t [.t [.str [45],.t [.str [43],(rf 73 bP),(rf 73 bP)],(rf 73 bP)]]))],(rf 80 (sN 2))⟩,
 ⟨168,some 50,[.ref 0,(us (rf 67 (.t [.t [.str [45],.t [.str [43],(rf 73 bP),(rf 73 bP)],(rf 73 bP)]])) (rf 80 (.t [.t [.str [45],.t [.str [43],(rf 73 bP),(rf 73 bP)],(rf 73 bP)]])) (rf 78 (.t [.t [.str [45],.t [.str [43],(rf 73 bP),(rf 73 bP)],(rf 73 bP)]])))],(us (rf 67 (sN 2)) (rf 80 (sN 2)) (rf 78 (sN 2)))⟩,
 ⟨167,some 51,[.ref 0,(rf 80 (.t [.t [.str [45],.t [.str [43],(rf 73 bP),(rf 73 bP)],(rf 73 bP)]]))],(rf 80 (sN 3))⟩,
 ⟨168,some 51,[.ref 0,(us (rf 67 (.t [.t [.str [45],.t [.str [43],(rf 73 bP),(rf 73 bP)],(rf 73 bP)]])) (rf 80 (.t [.t [.str [45],.t [.str [43],(rf 73 bP),(rf 73 bP)],(rf 73 bP)]])) (rf 78 (.t [.t [.str [45],.t [.str [43],(rf 73 bP),(rf 73 bP)],(rf 73 bP)]])))],(us (rf 67 (sN 3)) (rf 80 (sN 3)) (rf 78 (sN 3)))⟩,
 ⟨167,some 52,[.ref 0,(rf 80 (.t [.t [.str [45],.t [.str [43],(rf 73 bP),(rf 73 bP)],(rf 73 bP)]]))],(rf 80 (sN 4))⟩,
 ⟨168,some 52,[.ref 0,(us (rf 67 (.t [.t [.str [45],.t [.str [43],(rf 73 bP),(rf 73 bP)],(rf 73 bP)]])) (rf 80 (.t [.t [.str [45],.t [.str [43],(rf 73 bP),(rf 73 bP)],(rf 73 bP)]])) (rf 78 (.t [.t [.str [45],.t [.str [43],(rf 73 bP),(rf 73 bP)],(rf 73 bP)]])))],(us (rf 67 (sN 4)) (rf 80 (sN 4)) (rf 78 (sN 4)))⟩]
section
def PS:Pg:=⟨AW,j7,G3,EO,78,Nl ML 78,39⟩
def QU:Pg:=⟨AW,j7,G3,EO,78,fun Y Y Y=>none,0⟩
noncomputable def sL(k:Nat):IE:=.tab [44,50,51,49,52] (.v k)
noncomputable def dig(k:Nat):IE:=.add (.v k) (.c 48)
def vW(a:Int):List IE:=[sL 0,sL 1,sL 2,sL 3,sL 4,.c (49+a),.c 103,.c 104,.c 105,dig 5,dig 6,dig 7,dig 8,dig 9,dig 13,dig 10,dig 14,dig 11,dig 15,dig 12,dig 16,.c 48,dig 17,.c 48,dig 18,.c 48,dig 19,.c 48,dig 20]
noncomputable def MD:Rg:=[(0,4),(0,4),(0,4),(0,4),(0,4),(0,9),(0,9),(0,9),(0,9),(0,8),(0,8),(0,8),(0,8),(0,9),(0,9),(0,9),(0,9),(0,7),(0,7),(0,7),(0,7),(0,9),(0,9)]
noncomputable def F6:List IE:=(List.range 29).map fun j=>.v (23+j)
def Rz:Rg:=MD++List.replicate 29 (0,255)
def sB:AS:=⟨aE.put 40 gF 78 KY,79,MD⟩
def sS:AS:=⟨aE.put 40 gF 78 (.cu F6),79,Rz⟩
noncomputable def Ni:List CS:=(il.drop 3).take 4
noncomputable def MA:List CS:=il.drop 7
noncomputable def FW:AV:=.t [.str [114,101,102],.str [73],.t [],.t [],.none]
def Ks(f:Int):AV:=.t [.str [114,101,102],.str [80],.t [],.t [match iy f 0 with|true=>FW|false=>.t [.str [45],.t [.str [43],FW,FW],FW]],.none]
def NI(f a:Int):Env:=[(36,.int (.c f)),(184,.mC 1),(160,.bytes (vW a)),(139,.ref 0)]
def O5:Bool→AV
 |true=>.bytes [dig 21]
 |false=>.bytes [dig 21,dig 22]
def NH(f a:Int)(l:Bool):Env:=[(184,O5 l),(160,.bytes (vW a)),(139,.ref 0),(199,Ks f)]
def pB(f a:Int):Fl×Env×AS→Bool:=nx fun ρ s=>k9 (az ρ 160) (Na (vW a))&&(k9 (az ρ 139) (J1 0)&&(k9 (az ρ 184) (Nb 1)&&(k9 (az ρ 199) (xS 79 id 20 (Ks f))&&k9 (rW s (.ref 78)) fun b=>Nat.beq b.length 29)))
def pS(p:Fl×Env×AS):Bool:=match p.1 with|.rt v=>Nat.beq 1 v.ctorIdx&&(wA v).b|.nx=>false
def GS(f a:Int):Bool:=my (pB f a) ((run PS dh 3000 60).xs Ni (NI f a) sB)
def uB(f a:Int)(l:Bool):Bool:=my pS ((run PS dh 3000 60).xs MA (NH f a l) sS)
structure mz:Prop where
 b:∀f a:Nat,f<2→a<4→GS f a=true
 s:∀(f a:Nat)(l:Bool),f<2→a<4→uB f a l=true
 t:ML.all (MB QU dh gF 78 3000 40)=true
end
section
noncomputable def j8:List (Addr×Addr)→Heap→Heap
 |[],h=>h
 |p::r,h=>j8 r (h.update p.2 fun Y=>gE)
theorem ze(h:Heap)(a:Addr):(h.update a fun Y=>gE).get? a=none:=by
 show(match(h.objs.modify a fun Y=>gE)[a]? with|some ⟨_,_,.freed,_⟩=>none|o=>o)=none
 rw [Array.getElem?_modify,if_pos rfl];cases h.objs[a]?<;>rfl
theorem n7(l:List (Addr×Addr))(h:Heap)(b:Addr)(o:Obj)(e:(j8 l h).get? b=some o):h.get? b=some o∧∀p∈l,b≠p.2:=by
 induction l generalizing h with
 |nil=>exact⟨e,fun Y m=>nomatch m⟩
 |cons p r ih=>
  refine aw (ih _ e:) fun a1 a2=>?_
  by_cases q:b=p.2
  ·subst q;rw [ze]at a1;injection a1
  ·rw [Heap.get?_update_ne _ _ _ _ q]at a1
   exact⟨a1,fun x m=>by
    rcases cO m with rfl|m
    ·exact q
    ·exact a2 x m⟩
theorem lW:∀(l:List (Addr×Addr))(h:Heap)(b:Addr),(∀p∈l,b≠p.2)→(j8 l h).get? b=h.get? b
 |[],h,b,_=>rfl
 |p::r,h,b,q=>by
  show(j8 r (h.update p.2 fun Y=>gE)).get? b=_
  rw [lW r _ b fun x m=>q x (cq _ m),Heap.get?_update_ne _ _ _ _ (q p bW)]
theorem pR{P:Params}(F:iM (EJ P) (BJ P))(hk:∀b o,(l5 P).get? b=some o→h.get? b=some o):oS (EJ P) (j8 eG h):=by
 intro a o e h1 h2
 by_cases q:∃p∈eG,a=p.2
 ·exfalso
  obtain⟨p,m,rfl⟩:=q
  have hs:((BJ P).get p.2).isSome=true:=by rw [all1 F.tabs m];rfl
  have:=zY eG (BJ P) p.2 hs (.inl ⟨p,m,rfl⟩)
  rw [show(EJ P).get p.2=some gE from this]at e
  injection e with e;subst e;injection h2
 ·have q:∀p∈eG,a≠p.2:=fun p m e=>q ⟨p,m,e⟩
  rw [lW eG h a q];refine hk a o ?_;have e':(BJ P).get a=some o:=(Dj eG (BJ P) a q).symm.trans e
  unfold l5;rw [abs_get (t:=Ab P (ia P 259)) (bF h1) e']
  obtain⟨c,d,dt,sl⟩:=o
  cases dt<;>first|rfl|injection h2
structure Base(w:World)(h:Heap)(la:Addr)(is:List Int)(W:Int)where
 vs:List Value
 nn:Nat
 N:kD
 F:iM (EJ w.params) (BJ w.params)
 keep:∀b o,(l5 w.params).get? b=some o→h.get? b=some o
 list:h.get? la=some (bZ vs nn)
 WC:∀(C:Cx) J M h,ay C J M h (cI is) vs
 N7:∀p∈eG,la≠p.2
 W0:0≤W
 W1:W<2^400
 hW:(run PH dh 100 20).ca (.fn 171) [.ref 0] (eI is)=.ok (.ref 2,fN is W)
section
variable(B:Base w h la is W)
def Cb(w:World)(h:Heap)(ν:Nat→Int)(nf:Nat)(f0:aE AO)(U:Nat→Value):Cx:=DU w ν nf f0 (j8 eG h) (oe (EJ w.params)) U
include B
theorem JT(ν:Nat→Int)(nf:Nat)(f0:aE AO)(U:Nat→Value){sm:Nat→List AV→AS→Option (aH (AV×AS))}{smd:Nat}(hs:Ms (Cb w h ν nf f0 U) (NP nf sm smd)):WF (Cb w h ν nf f0 U) (NP nf sm smd) dh:=
 Q8 B.N (pR B.F B.keep) rfl B.F hs
theorem qX(ν:Nat→Int)(nf:Nat)(f0:aE AO)(U:Nat→Value):WF (Cb w h ν nf f0 U) (NP nf (fun Y Y Y=>none) 0) dh:=JT B ν nf f0 U fun Y Y Y Y Y Y e=>by injection e
theorem JU(U:Nat→Value)(hU:U 0=.ref la):WF (Cb w h (ν0 W) 0 .nil U) PA dh:=
 JT B (ν0 W) 0 .nil U (sm:=QE) (smd:=19) fun k as s r v s' e1 e2 Z J M A st ras S R z V Q E K=>
  Kh (C:=Cb w h (ν0 W) 0 .nil U) (W:=W) (la:=la) (is:=is) (vs:=B.vs) (nn:=B.nn) rfl rfl hU B.W0 B.W1 (fun fi DH=>qX B fi 1 DH U) (fun fi DH=>qX B fi 0 DH U)
   (by show(j8 eG h).get? la=_;rw [lW eG h la B.N7];exact B.list) B.WC B.hW k as s r v s' e1 e2 Z J M A st ras S R z V Q E K
theorem M7(T:ML.all (MB QU dh gF 78 3000 40)=true)(ν:Nat→Int)(U:Nat→Value):WF (Cb w h ν 78 gF U) PS dh:=
 JT B ν 78 gF U (sm:=Nl ML 78) (smd:=39) (Ke (C:=Cb w h ν 78 gF U) (P:=QU) (N:=dh) (m:=78) (fuel:=3000) (dep:=40) (tab:=ML) (by decide) rfl (fun fi=>qX B fi 78 gF U) (by decide)
  (fun i o e=>by
   have:=bS Jd _ (aE.fA e)
   refine aw (ae this:) fun a b=>?_
   exact⟨bF a,b⟩) (fun e m=>bS T e m))
end
end
section
theorem bp{α:Type}{a b:α}{l m:List α}(h:a=b)(g:l=m):a::l=b::m:=by rw [h,g]
noncomputable def FO(d:Int):Int:=([1,0,2,3,4,0]:List Int).getD d.toNat 0
def ν1(W d0 d1:Int)(j:Nat):Int:=if j<5 then FO (ν0 W (2+j))else if j<9 then ν0 W (j+3)else if j<13 then Int.fdiv (ν0 W (j+3)) 10 else if j<17 then Int.fmod (ν0 W (j - 1)) 10 else if j<21 then ν0 W (j - 1)else if j=21 then d0 else if j=22 then d1 else 0
section
theorem mh(j:Nat)(m:Int)(h:mK j=m)(hj:j<20):0≤ν0 W j∧ν0 W j≤m - 1:=h▸PM j hj
theorem tE(j:Nat)(hj:j<5):IE.eval (ν1 W d0 d1) (sL j)=IE.eval (ν0 W) (.tab [50,44,51,49,52,44] (.v (2+j))):=by
 have hm:mK (2+j)=6:=by
  have:∀j:Fin 5,mK (2+j.1)=6:=by decide
  exact this ⟨j,hj⟩
 have b:=mh (W:=W) (2+j) 6 hm (Nat.lt_of_lt_of_le (Nat.add_lt_add_left hj 2) (by decide))
 show([44,50,51,49,52]:List Int).getD (ν1 W d0 d1 j).toNat 0=([50,44,51,49,52,44]:List Int).getD (ν0 W (2+j)).toNat 0;have e:ν1 W d0 d1 j=FO (ν0 W (2+j)):=by unfold ν1;rw [if_pos hj]
 rw [e]
 generalize ν0 W (2+j)=x at b
 have:x=0∨x=1∨x=2∨x=3∨x=4∨x=5:=by lia
 rcases this with rfl|rfl|rfl|rfl|rfl|rfl<;>rfl
theorem cE(j:Nat)(h1:5≤j)(h2:j<9):IE.eval (ν1 W d0 d1) (dig j)=IE.eval (ν0 W) (.add (.v (j+3)) (.c 48)):=by
 show ν1 W d0 d1 j+48=ν0 W (j+3)+48;unfold ν1;rw [if_neg (by lia),if_pos h2]
theorem dE(j:Nat)(h1:9≤j)(h2:j<13):IE.eval (ν1 W d0 d1) (dig j)=IE.eval (ν0 W) (.add (.div (.v (j+3)) (.c 10)) (.c 48)):=by
 show ν1 W d0 d1 j+48=Int.fdiv (ν0 W (j+3)) 10+48;unfold ν1;rw [if_neg (by lia),if_neg (by lia),if_pos h2]
theorem uE(j:Nat)(h1:13≤j)(h2:j<17):IE.eval (ν1 W d0 d1) (dig j)=IE.eval (ν0 W) (.add (.mod (.v (j - 1)) (.c 10)) (.c 48)):=by
 show ν1 W d0 d1 j+48=Int.fmod (ν0 W (j - 1)) 10+48;unfold ν1;rw [if_neg (by lia),if_neg (by lia),if_neg (by lia),if_pos h2]
theorem pE(j:Nat)(h1:17≤j)(h2:j<21):IE.eval (ν1 W d0 d1) (dig j)=IE.eval (ν0 W) (.add (.v (j - 1)) (.c 48)):=by
 show ν1 W d0 d1 j+48=ν0 W (j - 1)+48;unfold ν1;rw [if_neg (by lia),if_neg (by lia),if_neg (by lia),if_neg (by lia),if_pos h2]
theorem zE(k:Nat)(h1:16≤k)(h2:k<20)(ν:Nat→Int):IE.eval ν (.c 48)=IE.eval (ν0 W) (.add (.div (.v k) (.c 10)) (.c 48)):=by
 have hm:mK k=8:=by
  have:∀j:Fin 4,mK (16+j.1)=8:=by decide
  have:=this ⟨k - 16,Nat.sub_lt_left_of_lt_add h1 h2⟩
  rwa[Nat.add_sub_cancel' h1]at this
 have b:=mh (W:=W) k 8 hm h2
 show(48:Int)=Int.fdiv (ν0 W k) 10+48;rw [Int.fdiv_eq_ediv_of_nonneg _ (by decide),Int.ediv_eq_zero_of_lt b.1 (by lia)];rfl
theorem CG{a:Nat}(ha:ν0 W 7=a):(vW a).map (fun e=>e.eval (ν1 W d0 d1))=KW.map (fun e=>e.eval (ν0 W)):=by
 have hi:IE.eval (ν1 W d0 d1) (.c (49+a))=IE.eval (ν0 W) (.add (.v 7) (.c 49)):=by show(49+(a:Int))=ν0 W 7+49;lia
 refine bp (tE 0 (by decide))<|bp (tE 1 (by decide))<|bp (tE 2 (by decide))<|bp (tE 3 (by decide))<|bp (tE 4 (by decide))<|bp hi<|bp rfl<|bp rfl<|bp rfl<|
  bp (cE 5 (by decide) (by decide))<|bp (cE 6 (by decide) (by decide))<|bp (cE 7 (by decide) (by decide))<|bp (cE 8 (by decide) (by decide))<|
  bp (dE 9 (by decide) (by decide))<|bp (uE 13 (by decide) (by decide))<|bp (dE 10 (by decide) (by decide))<|bp (uE 14 (by decide) (by decide))<|
  bp (dE 11 (by decide) (by decide))<|bp (uE 15 (by decide) (by decide))<|bp (dE 12 (by decide) (by decide))<|bp (uE 16 (by decide) (by decide))<|
  bp (zE 16 (by decide) (by decide) _)<|bp (pE 17 (by decide) (by decide))<|bp (zE 17 (by decide) (by decide) _)<|bp (pE 18 (by decide) (by decide))<|
  bp (zE 18 (by decide) (by decide) _)<|bp (pE 19 (by decide) (by decide))<|bp (zE 19 (by decide) (by decide) _)<|bp (pE 20 (by decide) (by decide)) rfl
theorem NS(j:Nat)(h:mK j=6)(hj:j<20):0≤FO (ν0 W j)∧FO (ν0 W j)≤4:=by
 have b:=mh (W:=W) j 6 h hj
 generalize ν0 W j=x at b
 have:x=0∨x=1∨x=2∨x=3∨x=4∨x=5:=by lia
 rcases this with rfl|rfl|rfl|rfl|rfl|rfl<;>decide
theorem Kw(j:Nat)(h:mK j=10)(hj:j<20):0≤ν0 W j∧ν0 W j≤9:=mh j 10 h hj
theorem NT(j:Nat)(h:mK j=8)(hj:j<20):0≤ν0 W j∧ν0 W j≤7:=mh j 8 h hj
theorem NM(j:Nat)(h:mK j=90)(hj:j<20):0≤Int.fdiv (ν0 W j) 10∧Int.fdiv (ν0 W j) 10≤8:=by
 have b:=mh (W:=W) j 90 h hj
 rw [Int.fdiv_eq_ediv_of_nonneg _ (by decide)]
 lia
theorem xT(x:Int):0≤Int.fmod x 10∧Int.fmod x 10≤9:=by
 rw [Int.fmod_eq_emod_of_nonneg _ (by decide)]
 lia
theorem B2(h0:0≤d0∧d0≤9)(h1:0≤d1∧d1≤9):cg (ν1 W d0 d1) MD:=by
 refine m3.ok (ν:=ν1 W d0 d1) (l:=MD) ?_
 have T:=fun j a b=>NS (W:=W) j a b
 have U:=fun j a b=>Kw (W:=W) j a b
 have V:=fun j a b=>NM (W:=W) j a b
 have X:=fun j a b=>NT (W:=W) j a b
 exact⟨T 2 rfl (by decide),T 3 rfl (by decide),T 4 rfl (by decide),T 5 rfl (by decide),T 6 rfl (by decide),
  U 8 rfl (by decide),U 9 rfl (by decide),U 10 rfl (by decide),U 11 rfl (by decide),
  V 12 rfl (by decide),V 13 rfl (by decide),V 14 rfl (by decide),V 15 rfl (by decide),
  xT _,xT _,xT _,xT _,X 16 rfl (by decide),X 17 rfl (by decide),X 18 rfl (by decide),X 19 rfl (by decide),h0,h1,trivial⟩
noncomputable def ν2(ν:Nat→Int)(b:List IE)(j:Nat):Int:=if j<23 then ν j else(b.map fun e=>e.eval ν).getD (j - 23) 0
theorem CH{fi:Nat→Int}(h:∀j,j<23→fi j=ν j)(a:Int):(vW a).map (fun e=>e.eval fi)=(vW a).map (fun e=>e.eval ν):=by
 have t:∀j,j<23→IE.eval fi (sL j)=IE.eval ν (sL j):=fun j hj=>by show List.getD _ (fi j).toNat 0=List.getD _ (ν j).toNat 0;rw [h j hj]
 have d:∀j,j<23→IE.eval fi (dig j)=IE.eval ν (dig j):=fun j hj=>by show fi j+48=ν j+48;rw [h j hj]
 refine bp (t 0 (by decide))<|bp (t 1 (by decide))<|bp (t 2 (by decide))<|bp (t 3 (by decide))<|bp (t 4 (by decide))<|bp rfl<|bp rfl<|bp rfl<|bp rfl<|
  bp (d 5 (by decide))<|bp (d 6 (by decide))<|bp (d 7 (by decide))<|bp (d 8 (by decide))<|
  bp (d 9 (by decide))<|bp (d 13 (by decide))<|bp (d 10 (by decide))<|bp (d 14 (by decide))<|
  bp (d 11 (by decide))<|bp (d 15 (by decide))<|bp (d 12 (by decide))<|bp (d 16 (by decide))<|
  bp rfl<|bp (d 17 (by decide))<|bp rfl<|bp (d 18 (by decide))<|
  bp rfl<|bp (d 19 (by decide))<|bp rfl<|bp (d 20 (by decide)) rfl
theorem zH(hl:b.length=29):F6.map (fun e=>e.eval (ν2 ν b))=b.map (fun e=>e.eval ν):=by
 apply List.ext_getElem?
 intro j;unfold F6;rw [List.map_map,List.getElem?_map,List.getElem?_map];rcases Nat.lt_or_ge j 29 with hj|hj
 ·rw [List.getElem?_range hj,List.getElem?_eq_getElem (by lia)]
  show some (ν2 ν b (23+j))=some (b[j].eval ν);unfold ν2;rw [if_neg (by lia),show 23+j - 23=j by lia,List.getD_eq_getElem?_getD,List.getElem?_map,List.getElem?_eq_getElem (by lia)];rfl
 ·rw [List.getElem?_eq_none (by rw [List.length_range];lia),List.getElem?_eq_none (by lia)];rfl
set_option tactic.hygienic true in
theorem Ko(h:cg ν MD)(hl:b.length=29)(hb:bq ν b):cg (ν2 ν b) Rz:=by
 intro k p q;unfold Rz at q;rcases Nat.lt_or_ge k 23 with hk|hk
 ·rw [List.getElem?_append_left (by exact hk)]at q
  unfold ν2;rw [if_pos hk];exact h k p q
 ·rw [List.getElem?_append_right (by exact hk),List.getElem?_replicate]at q
  have MF:k - MD.length=k - 23:=rfl
  rw [MF]at q;split at q
  ·rename_i hj
   injection q with q;subst q;unfold ν2;rw [if_neg (by lia),List.getD_eq_getElem?_getD,List.getElem?_map,List.getElem?_eq_getElem (by lia)]
   have:=hb b[k - 23] (List.getElem_mem _)
   show 0≤b[k - 23].eval ν∧b[k - 23].eval ν≤255
   lia
  ·injection q
end
end
section
section
def KF(w:World)(h:Heap)(kd:Kd)(cs:Bool)(env:PySem.Env)(own:Addr→Prop)(h₀:Heap)(M₀ Z₀:Addr→Prop)(st:Shared)(Q:Flow→Shared→Prop):Prop:=
 ∀ν nf f0 U σ' M' Z' h' s' ρ' tk,Way h₀ M₀ Z₀ σ' M' Z' h'→aq (Cb w h ν nf f0 U) σ' M' s' h'→di (Cb w h ν nf f0 U) Z' σ' M' own kd cs env ρ' h'→Q (.ret (.bool true)) {st with heap:=h',toks:=tk}
variable{kd:Kd}{cs:Bool}{xs:List Stmt}{own:Addr→Prop}{h₀:Heap}{env:PySem.Env}{A:Around}
theorem FT{x:Fl×Env×AS}{fl:Flow}(p:pS x=true)(r:u5 C J M h x.1 fl):fl=.ret (.bool true):=by
 obtain⟨f,ρ,s⟩:=x
 cases f with
 |nx=>exact Bool.noConfusion p
 |rt v=>
  refine aw (ae (p:(Nat.beq 1 v.ctorIdx&&(wA v).b)=true)) fun t b=>?_
  have t:v=.bool (wA v).b:=gU t
  rw [b]at t;exact aC (r:) fun rv q V=>q.trans (congrArg Flow.ret ((t▸V:ao C J M h (.bool true) rv).inv))
theorem GG(B:Base w h la is W)(EV:mz){f a:Nat}{l:Bool}(hf:f<2)(ha:a<4)(hfit:cZ (Cb w h ν 78 gF U) kd cs MA xs)(F:di (Cb w h ν 78 gF U) Z J M own kd cs env (NH f a l) st.heap)
  (S:aq (Cb w h ν 78 gF U) J M sS st.heap)(R:bu A 60)(z:cm (Cb w h ν 78 gF U) Z J st.heap)(Wy:Way h₀ M₀ Z₀ J M Z st.heap)(K:KF w h kd cs env own h₀ M₀ Z₀ st Q):ab (Md (Cb w h ν 78 gF U)) A (execs xs env) Q E st:=by
 refine aC (fg ν (EV.s f a l hf ha)) fun x e p=>?_
 refine(sound (M7 B EV.t ν U) 3000 (by decide) 60).2.2.1 MA (NH f a l) sS x.1 x.2.1 x.2.2 e kd cs xs hfit Z J M own env A st F S R z Q E ?_
 intro σ' M' h' tk O4 G S' F' r;exact FT p r▸K ν 78 gF U σ' M' Z h' x.2.2 x.2.1 tk (Wy.go G) S' F'
theorem B9{rv:Value}(V:ao C J M h v rv)(e:v=.mC i):rv=C.U i:=(e▸V:ao C J M h (.mC i) rv).inv
theorem vJ{rv:Value}(V:ao C J M h v rv)(e:v=.ref i):∃a,rv=.ref a∧J[i]?=some a:=(e▸V:ao C J M h (.ref i) rv).inv
theorem nM{π:Nat→Nat}{m j:Nat}{a:Addr}(hj:j<m)(q:J[π j]?=some a):(bY J π m)[j]?=some a:=(kW hj).trans (congrArg some (by rw [List.getD_eq_getElem?_getD,q];rfl))
theorem kY{C':Cx}{h':Heap}{x l:List IE}{rv:Value}(V:ao C J M h (.bytes x) rv)(e:l.map (fun e=>e.eval C'.ν)=x.map (fun e=>e.eval C.ν)):ao C' σ' M' h' (.bytes l) rv:=
 aw V.inv fun B q=>q.elim fun t q=>aw (gT e) fun b1 b2=>q▸b1▸.bytes _ t (b2 B)
def yU(ν:Nat→Int)(l:Bool)(v:Value):Prop:=∀(C:Cx) J M h,C.ν=ν→ao C J M h (O5 l) v
theorem Pf{o:AO}(e:gF.get i=some o):i<78∧Iq 79 id o o=true:=
 (ae (bS Jd _ (aE.fA e))).imp bF id
theorem JB(aD:aq (Cb w h (ν1 W d0 d1) 78 gF U) aA aP ag h₁)(hb:ag.get 78=some (.cu b)):cQ (Cb w h (ν1 W d0 d1) 78 gF U) aA aP h₁ (.cu b) (aA.getD 78 0):=
 aD.obj 78 _ _ hb (oa (aD.len▸aD.low 78 _ hb))
theorem Xz(EN:0≤d0∧d0≤9)(wy:0≤d1∧d1≤9)(aD:aq (Cb w h (ν1 W d0 d1) 78 gF U) aA aP ag h₁)(hb:ag.get 78=some (.cu b))(hbl:b.length=29)(dQ:∀j,j<79→id j<ag.n):
  aq ((Cb w h (ν1 W d0 d1) 78 gF U).re (ν2 (ν1 W d0 d1) b) 78 gF U) (bY aA id 79) (sb aP (bY aA id 79) 78) sS h₁:=by
 have lo:∀i o,sS.hp.get i=some o→i<79∧∀(σ':List Addr)(M':Addr→Prop),HO (Cb w h (ν1 W d0 d1) 78 gF U) aA σ' aP M' 79 id→cQ ((Cb w h (ν1 W d0 d1) 78 gF U).re (ν2 (ν1 W d0 d1) b) 78 gF U) σ' M' h₁ o (aA.getD i 0):=fun i o q=>
  (rr (t:=gF) (k:=78) (m0:=.cu F6) (by decide) q).elim (fun q=>by rw [q.1,q.2];exact⟨by decide,fun Y Y Y=>xQ (JB aD hb) (zH hbl)⟩) fun q=>have f:=Pf q;have hi:=Nat.lt_succ_of_lt f.1
   ⟨hi,fun Y Y X=>vK X f.2 (aD.obj i o _ ((aD.gL.2 i f.1).trans q) (oa (aD.len▸dQ i hi)))⟩
 exact aq.ed (s':=sS) (π:=id) aD (by show 79≤1000000;decide) (by show 78≤79;decide) dQ (fun i j Y Y q=>q) (fun i hi=>AS.bB gF 40 78 i _ (Nat.ne_of_gt hi)) (fun i hi Y=>hi) (fun i o q=>(lo i o q).1) (fun i o q=>(lo i o q).2) (Ko (B2 EN wy) hbl (mY (JB aD hb)).2)
theorem XA{f a:Nat}{l:Bool}(hfig:∀fi,fi 21=d0→fi 22=d1→yU fi l (U 1)){b7:Env}(aD:aq (Cb w h (ν1 W d0 d1) 78 gF U) aA aP ag h₁)(cR:di (Cb w h (ν1 W d0 d1) 78 gF U) Z aA aP own kd cs env b7 h₁)(dQ:∀j,j<79→id j<ag.n)
  (p1:k9 (az b7 160) (Na (vW a))=true)(p2:k9 (az b7 139) (J1 0)=true)(p3:k9 (az b7 184) (Nb 1)=true)(p4:k9 (az b7 199) (xS 79 id 20 (Ks f))=true):
  di ((Cb w h (ν1 W d0 d1) 78 gF U).re (ν2 (ν1 W d0 d1) b) 78 gF U) (Jm Z aA (bY aA id 79)) (bY aA id 79) (sb aP (bY aA id 79) 78) own kd cs env (NH f a l) h₁:=by
 have low:∀j,j<23→ν2 (ν1 W d0 d1) b j=ν1 W d0 d1 j:=fun j hj=>if_pos hj
 refine aC (dO p1) fun x1 g1 e1=>?_
 refine aC (dO p2) fun x2 g2 e2=>?_
 refine aC (dO p3) fun x3 g3 e3=>?_
 refine aC (dO p4) fun x4 g4 e4=>?_
 refine cR.ki aD dQ fun y v' e=>l7.at_ (ρ:=NH f a l) (p:=fun y v'=>gV (kd.k ((Cb w h (ν1 W d0 d1) 78 gF U).nm y))→∃rv,dI (fun a=>Z a∨own a) aP env h₁ ((Cb w h (ν1 W d0 d1) 78 gF U).nm y) rv∧ao ((Cb w h (ν1 W d0 d1) 78 gF U).re (ν2 (ν1 W d0 d1) b) 78 gF U) (bY aA id 79) (sb aP (bY aA id 79) 78) h₁ v' rv) ⟨?_,?_,?_,?_,trivial⟩ e
 ·exact cR.tell g3 fun rv V=>(B9 V (BG e3)).symm▸hfig (ν2 (ν1 W d0 d1) b) (low 21 (by decide)) (low 22 (by decide)) _ _ _ _ rfl
 ·exact cR.tell g1 fun rv V=>aC (BF e1) fun x q e=>kY (q▸V) ((CH low a).trans (lb (ν1 W d0 d1) e).symm)
 ·exact cR.tell g2 fun rv V=>aC (vJ V (vw e2)) fun x q hx=>q▸.ref 0 x (nM (by decide) hx)
 ·exact cR.tell g4 fun rv V=>rp nL 20 _ _ _ e4 V
theorem Kv(B:Base w h la is W)(EV:mz)(EN:0≤d0∧d0≤9)(wy:0≤d1∧d1≤9){f a:Nat}{l:Bool}(hf:f<2)(ha:a<4)(hfig:∀fi,fi 21=d0→fi 22=d1→yU fi l (U 1))
  {xs ys:List Stmt}(hfit:cZ (Cb w h (ν1 W d0 d1) 78 gF U) kd cs Ni xs)(OP:cZ (Cb w h (ν1 W d0 d1) 78 gF U) kd cs MA ys)(F:di (Cb w h (ν1 W d0 d1) 78 gF U) Z J M own kd cs env (NI f a) st.heap)
  (S:aq (Cb w h (ν1 W d0 d1) 78 gF U) J M sB st.heap)(R:bu A 60)(z:cm (Cb w h (ν1 W d0 d1) 78 gF U) Z J st.heap)(n6:∀a,M₀ a→∃o,h₀.get? a=some o)(Wy:Way h₀ M₀ Z₀ J M Z st.heap)(K:KF w h kd cs env own h₀ M₀ Z₀ st Q):
  ab (Md (Cb w h (ν1 W d0 d1) 78 gF U)) A (execs (xs++ys) env) Q E st:=by
 refine aC (fg (ν1 W d0 d1) (EV.b f a hf ha)) fun x e p=>?_
 refine fJ ((sound (M7 B EV.t (ν1 W d0 d1) U) 3000 (by decide) 60).2.2.1 Ni (NI f a) sB x.1 x.2.1 x.2.2 e kd cs xs hfit Z J M own env A st F S R z _ E ?_)
 intro aA aP h₁ tk O4 G aD cR r;refine aw (Cn p) fun q p=>?_
 cases rM q r
 refine aw (ae p) fun p1 p=>?_
 refine aw (ae p) fun p2 p=>?_
 refine aw (ae p) fun p3 p=>?_
 refine aw (ae p) fun p4 p5=>?_
 refine aC (dO p5) fun b hb hbl=>?_
 have hb:=qG hb
 have dQ:∀j,j<79→id j<x.2.2.n:=fun j hj=>Nat.lt_of_le_of_lt (Nat.le_of_lt_succ hj) (aD.low 78 _ hb)
 exact GG (ν:=ν2 (ν1 W d0 d1) b) (U:=U) (st:={st with heap:=h₁,toks:=tk}) B EV hf ha OP.re (XA hfig aD cR dQ p1 p2 p3 p4) (Xz EN wy aD hb (aL hbl) dQ) R (cm.ed aD (z.bJ G) dQ) ((Wy.go G).ki aD dQ n6) K
end
end
section
theorem vo{j:Nat}(hj:j<79):NO[j]?=some (πA j):=by
 unfold πA;rw [List.getD_eq_getElem?_getD,List.getElem?_eq_getElem (by rw [xV];exact hj)];rfl
theorem EU{j:Nat}(hi:i<79)(hj:j<79)(e:πA i=πA j):i=j:=by
 have nd:=jL Ku
 have a:=vo hi
 have b:=vo hj
 rw [←e]at b;exact(List.getElem?_inj (by rw [xV];exact hi) nd).mp (a.trans b.symm)
section
variable{kd:Kd}{cs:Bool}{own:Addr→Prop}{h₀:Heap}{env:PySem.Env}{A:Around}
theorem CA{x m:Int}(b:0≤x∧x≤m - 1):∃a:Nat,x=a∧(x:Int)<m:=⟨x.toNat,(Int.toNat_of_nonneg b.1).symm,Int.lt_of_le_sub_one b.2⟩
theorem T7(EN:0≤d0∧d0≤9)(wy:0≤d1∧d1≤9)(aD:aq (Cb w h (ν0 W) 0 .nil U) aA aP ag h₁)(dQ:∀j,j<79→πA j<ag.n)(p5:M6 πA ag=true):
  aq ((Cb w h (ν0 W) 0 .nil U).re (ν1 W d0 d1) 78 gF U) (bY aA πA 79) (sb aP (bY aA πA 79) 78) sB h₁:=by
 have lo:∀i o,sB.hp.get i=some o→i<79∧k9 (ag.hp.get (πA i)) (Iq 79 πA o)=true:=fun i o q=>
  (rr (t:=gF) (k:=78) (m0:=KY) (by decide) q).elim (fun q=>by rw [q.1,q.2];exact⟨by decide,(ae p5).2⟩) fun q=>(ae (bS (ae p5).1 _ (aE.fA q))).imp (fun q=>Nat.lt_succ_of_lt (bF q)) id
 exact aq.ed (s':=sB) (π:=πA) aD (by show 79≤1000000;decide) (by show 78≤79;decide) dQ (fun i j hi hj q=>EU hi hj q) (fun i hi=>AS.bB gF 40 78 i _ (Nat.ne_of_gt hi)) (fun i Y Y=>Nat.zero_le _) (fun i o q=>(lo i o q).1)
  (fun i o q σ' M' X=>aC (dO (lo i o q).2) fun o' g e=>vK X e (aD.obj (πA i) o' _ g (oa (aD.len▸dQ i (lo i o q).1)))) (B2 EN wy)
theorem T8{f a:Nat}{b7:Env}(aD:aq (Cb w h (ν0 W) 0 .nil U) aA aP ag h₁)(cR:di (Cb w h (ν0 W) 0 .nil U) Z aA aP own kd cs env b7 h₁)(dQ:∀j,j<79→πA j<ag.n)(ha:ν0 W 7=a)(hf:ν0 W 0=f)
  (p1:k9 (az b7 36) (Nc (.v 0))=true)(p2:k9 (az b7 184) (Nb 1)=true)(p3:k9 (az b7 160) (Na KW)=true)(p4:k9 (az b7 139) (J1 (πA 0))=true):
  di ((Cb w h (ν0 W) 0 .nil U).re (ν1 W d0 d1) 78 gF U) (Jm Z aA (bY aA πA 79)) (bY aA πA 79) (sb aP (bY aA πA 79) 78) own kd cs env (NI f a) h₁:=by
 refine aC (dO p1) fun x1 g1 e1=>?_
 refine aC (dO p2) fun x2 g2 e2=>?_
 refine aC (dO p3) fun x3 g3 e3=>?_
 refine aC (dO p4) fun x4 g4 e4=>?_
 refine cR.ki aD dQ fun y v' e=>l7.at_ (ρ:=NI f a) (p:=fun y v'=>gV (kd.k ((Cb w h (ν0 W) 0 .nil U).nm y))→∃rv,dI (fun a=>Z a∨own a) aP env h₁ ((Cb w h (ν0 W) 0 .nil U).nm y) rv∧ao ((Cb w h (ν0 W) 0 .nil U).re (ν1 W d0 d1) 78 gF U) (bY aA πA 79) (sb aP (bY aA πA 79) 78) h₁ v' rv) ⟨?_,?_,?_,?_,trivial⟩ e
 ·exact cR.tell g1 fun rv V=>aC (BH e1) fun x q e=>kX (C:=(Cb w h (ν0 W) 0 .nil U)) (x:=x) (hf.symm.trans (eR (ν0 W) e).symm) (q▸V)
 ·exact cR.tell g2 fun rv V=>(B9 V (BG e2)).symm▸.mC 1
 ·exact cR.tell g3 fun rv V=>aC (BF e3) fun x q e=>kY (q▸V) ((Mine.Internal.CG ha).trans (lb (ν0 W) e).symm)
 ·exact cR.tell g4 fun rv V=>aC (vJ V (vw e4)) fun x q hx=>q▸.ref 0 x (nM (by decide) hx)
theorem FR(B:Base w h la is W)(EV:mz)(EN:0≤d0∧d0≤9)(wy:0≤d1∧d1≤9)(hU:U 0=.ref la){l:Bool}(hfig:∀fi,fi 21=d0→fi 22=d1→yU fi l (U 1))
  {xs ys zs:List Stmt}(hfit:cZ (Cb w h (ν0 W) 0 .nil U) kd cs Fp xs)(WZ:cZ (Cb w h (ν0 W) 0 .nil U) kd cs Ni ys)(WY:cZ (Cb w h (ν0 W) 0 .nil U) kd cs MA zs)(F:di (Cb w h (ν0 W) 0 .nil U) Z J M own kd cs env B1 st.heap)
  (S:aq (Cb w h (ν0 W) 0 .nil U) J M MC st.heap)(R:bu A 60)(z:cm (Cb w h (ν0 W) 0 .nil U) Z J st.heap)(n6:∀a,M₀ a→∃o,h₀.get? a=some o)(Wy:Way h₀ M₀ Z₀ J M Z st.heap)(K:KF w h kd cs env own h₀ M₀ Z₀ st Q):
  ab (Md (Cb w h (ν0 W) 0 .nil U)) A (execs (xs++(ys++zs)) env) Q E st:=by
 refine aC (fg (ν0 W) Ta) fun x e p=>?_
 refine fJ ((sound (JU B U hU) 3000 (by decide) 60).2.2.1 Fp B1 MC x.1 x.2.1 x.2.2 e kd cs xs hfit Z J M own env A st F S R z _ E ?_)
 intro aA aP h₁ tk O4 G aD cR r;refine aw (Cn p) fun q p=>?_
 cases rM q r
 refine aw (ae p) fun p1 p=>?_
 refine aw (ae p) fun p2 p=>?_
 refine aw (ae p) fun p3 p=>?_
 refine aw (ae p) fun p4 p=>?_
 refine aw (ae p) fun p5 p6=>?_
 have dQ:∀j,j<79→πA j<x.2.2.n:=fun j hj=>bF (bS p6 _ (bO (vo hj)))
 refine dC (CA (mh (W:=W) 7 4 rfl (by decide))) fun a ha=>?_
 refine dC (CA (mh (W:=W) 0 2 rfl (by decide))) fun f hf=>?_
 exact Kv (d0:=d0) (d1:=d1) (U:=U) (st:={st with heap:=h₁,toks:=tk}) B EV EN wy (Int.ofNat_lt.mp (hf.1▸hf.2)) (Int.ofNat_lt.mp (ha.1▸ha.2)) hfig WZ.re WY.re (T8 aD cR dQ ha.1 hf.1 p1 p2 p3 p4) (T7 EN wy aD dQ p5) R (cm.ed aD (z.bJ G) dQ) n6 ((Wy.go G).ki aD dQ n6) K
theorem yD{e:IE}(h:wj e=true):∃i:Int,e=.c (48+i)∧0≤i∧i≤9:=by
 refine aC (dO h) fun i q h=>?_
 have a:=bI.mp (ae h).1
 have b:=bI.mp (ae h).2
 exact⟨i - 48,(de q).trans (congrArg IE.c (by lia)),by lia,by lia⟩
theorem qr(h:DC v=true):∃i:Int,(0≤i∧i≤9)∧(v=.bytes [.c (48+i)]∨∃j:Int,(0≤j∧j≤9)∧v=.bytes [.c (48+i),.c (48+j)]):=by
 refine aw (ae h) fun t h=>?_
 have t:v=.bytes (wA v).y:=gU t
 generalize (wA v).y=y at t h
 cases y with
 |nil=>exact Bool.noConfusion h
 |cons a r=>
  refine aw (ae h) fun h1 h=>?_
  refine lI (yD h1) fun i e b1 b2=>?_
  cases r with
  |nil=>exact⟨i,⟨b1,b2⟩,.inl (e▸t)⟩
  |cons b r=>
   refine aw (ae h) fun h2 h=>?_
   refine lI (yD h2) fun j e' c1 c2=>?_
   exact⟨i,⟨b1,b2⟩,.inr ⟨j,⟨c1,c2⟩,e▸e'▸fZ h▸t⟩⟩
theorem Lz{rv:Value}(hv:DC v=true)(V:ao C J M h v rv):∃(l:Bool)(d0 d1:Int),(0≤d0∧d0≤9)∧(0≤d1∧d1≤9)∧∀fi:Nat→Int,fi 21=d0→fi 22=d1→yU fi l rv:=by
 refine aC (qr hv) fun i bi h=>?_
 rcases h with q|⟨j,bj,q⟩
 ·refine⟨true,i,0,bi,⟨by decide,by decide⟩,fun fi e0 Y C' σ' M' h' S7=>kY (q▸V) ?_⟩
  rw [S7];show [fi 21+48]=[48+i];rw [e0,Int.add_comm]
 ·refine⟨false,i,j,bi,bj,fun fi e0 e1 C' σ' M' h' S7=>kY (q▸V) ?_⟩
  rw [S7];show [fi 21+48,fi 22+48]=[48+i,48+j];rw [e0,e1,Int.add_comm 48 i,Int.add_comm 48 j]
end
end
section
section
variable{kd:Kd}{cs:Bool}{own:Addr→Prop}{h₀:Heap}{env:PySem.Env}{A:Around}
theorem xc:il=Kb++(Fp++(Ni++MA)):=rfl
theorem GJ(hv:DC v=true):∃rv,ao C J M h v rv:=by
 have ok:∀{i:Int},0≤i∧i≤9→0≤(IE.c (48+i)).eval C.ν∧(IE.c (48+i)).eval C.ν<256:=fun{i} q=>by
  show 0≤48+i∧48+i<256
  lia
 refine aC (qr hv) fun i bi h=>?_
 rcases h with q|⟨j,bj,q⟩
 ·rw [q];exact⟨_,.bytes _ 0 fun e m=>List.mem_singleton.mp m▸ok bi⟩
 ·rw [q];exact⟨_,.bytes _ 0 fun e m=>(cO m).elim (fun q=>q▸ok bi) fun m=>List.mem_singleton.mp m▸ok bj⟩
noncomputable def U0(la:Addr):Nat→Value:=fun Y=>.ref la
noncomputable def U1(la:Addr)(v:Value):Nat→Value:=fun i=>match i with|0=>.ref la|_=>v
theorem DB{ρ:Env}{x:Nat}(F:di C Z J M own kd cs env ρ h)(g:az ρ x=some v)(p:DC v=true):∃rv,ao C J M h v rv∧(gV (kd.k (C.nm x))→dI (fun a=>Z a∨own a) M env h (C.nm x) rv):=
 (Classical.em (gV (kd.k (C.nm x)))).elim (fun k=>(F.f.vars x v g k).elim fun rv y=>⟨rv,y.2,fun Y=>y.1⟩) fun k=>(GJ p).elim fun rv V=>⟨rv,V,fun q=>(k q).elim⟩
theorem T9(h0:0≤W)(h1:W<2^400)(aD:aq (Cb w h (ν0 W) 0 .nil (U0 la)) aA aP ag h₁)(dQ:∀j,j<1→id j<ag.n)(p5:CO ag (.v 22) (.v 43) (.v 62)=true):
  aq ((Cb w h (ν0 W) 0 .nil (U0 la)).re (ν0 W) 0 .nil U) (bY aA id 1) (sb aP (bY aA id 1) 0) MC h₁:=by
 refine oW (rG (ν0 W) p5) fun y1 y2 y3 hl q1 q2 q3=>?_
 have lo:∀i o,MC.hp.get i=some o→i<1∧∀(σ':List Addr)(M':Addr→Prop),cQ ((Cb w h (ν0 W) 0 .nil (U0 la)).re (ν0 W) 0 .nil U) σ' M' h₁ o (aA.getD i 0):=fun i o q=>by
  refine aw (ru q) fun x y=>?_
  rw [x,y];exact⟨Nat.one_pos,fun Y Y=>mU (aD.obj 0 _ (aA.getD 0 0) hl (oa (aD.len▸dQ 0 Nat.one_pos))) q1.symm q2.symm q3.symm⟩
 exact aq.ed (s':=MC) (π:=id) aD (by show 1≤1000000;decide) (Nat.zero_le _) dQ (fun i j Y Y q=>q) (fun i hi=>absurd hi (Nat.not_lt_zero i)) (fun i Y Y=>Nat.zero_le _) (fun i o q=>(lo i o q).1) (fun i o q σ' M' Y=>(lo i o q).2 σ' M') (vF h0 h1)
theorem Ua{rv:Value}{b7:Env}(aD:aq (Cb w h (ν0 W) 0 .nil (U0 la)) aA aP ag h₁)(cR:di (Cb w h (ν0 W) 0 .nil (U0 la)) Z aA aP own kd cs env b7 h₁)(dQ:∀j,j<1→id j<ag.n)
  (p1:k9 (az b7 40) (J1 0)=true)(p2:k9 (az b7 36) (Nc (.v 0))=true)(SH:gV (kd.k ((Cb w h (ν0 W) 0 .nil (U0 la)).nm 184))→dI (fun a=>Z a∨own a) aP env h₁ ((Cb w h (ν0 W) 0 .nil (U0 la)).nm 184) rv):
  di ((Cb w h (ν0 W) 0 .nil (U0 la)).re (ν0 W) 0 .nil (U1 la rv)) (Jm Z aA (bY aA id 1)) (bY aA id 1) (sb aP (bY aA id 1) 0) own kd cs env B1 h₁:=by
 refine aC (dO p1) fun x1 g1 e1=>?_
 refine aC (dO p2) fun x2 g2 e2=>?_
 refine cR.ki aD dQ fun y v' e=>l7.at_ (ρ:=B1) (p:=fun y v'=>gV (kd.k ((Cb w h (ν0 W) 0 .nil (U0 la)).nm y))→∃Ui,dI (fun a=>Z a∨own a) aP env h₁ ((Cb w h (ν0 W) 0 .nil (U0 la)).nm y) Ui∧ao ((Cb w h (ν0 W) 0 .nil (U0 la)).re (ν0 W) 0 .nil (U1 la rv)) (bY aA id 1) (sb aP (bY aA id 1) 0) h₁ v' Ui) ⟨?_,?_,?_,trivial⟩ e
 ·exact cR.tell g1 fun rv V=>aC (vJ V (vw e1)) fun x q hx=>q▸.ref 0 x (nM (by decide) hx)
 ·exact cR.tell g2 fun rv V=>aC (BH e2) fun x q e=>kX (C:=(Cb w h (ν0 W) 0 .nil (U0 la))) (x:=x) (eR (ν0 W) e).symm (q▸V)
 ·exact fun k=>⟨rv,SH k,.mC 1⟩
theorem He(B:Base w h la is W)(EV:mz){xs:List Stmt}(hfit:cZ (Cb w h (ν0 W) 0 .nil (U0 la)) kd cs il xs)(F:di (Cb w h (ν0 W) 0 .nil (U0 la)) Z J M own kd cs env sZ st.heap)
  (S:aq (Cb w h (ν0 W) 0 .nil (U0 la)) J M vD st.heap)(R:bu A 60)(z:cm (Cb w h (ν0 W) 0 .nil (U0 la)) Z J st.heap)(n6:∀a,M₀ a→∃o,h₀.get? a=some o)(Wy:Way h₀ M₀ Z₀ J M Z st.heap)(K:KF w h kd cs env own h₀ M₀ Z₀ st Q):
  ab (Md (Cb w h (ν0 W) 0 .nil (U0 la))) A (execs xs env) Q E st:=by
 rw [xc]at hfit;obtain⟨x1,xr,rfl,SJ,hfit⟩:=hfit.split
 obtain⟨x2,xr,rfl,SI,hfit⟩:=hfit.split
 obtain⟨x3,x4,rfl,hB,hS⟩:=hfit.split
 refine aC (fg (ν0 W) Tb) fun x e p=>?_
 refine fJ ((sound (JU B (U0 la) rfl) 3000 (by decide) 60).2.2.1 Kb sZ vD x.1 x.2.1 x.2.2 e kd cs x1 SJ Z J M own env A st F S R z _ E ?_)
 intro aA aP h₁ tk O4 G aD cR r;refine aw (Cn p) fun q p=>?_
 cases rM q r
 refine aw (ae p) fun p1 p=>?_
 refine aw (ae p) fun p2 p=>?_
 refine aw (ae p) fun p3 p=>?_
 refine aw (ae p) fun p4 p5=>?_
 have hn:x.2.2.n=1:=aL p4
 have dQ:∀j,j<1→id j<x.2.2.n:=fun j hj=>hn.symm▸hj
 refine aC (dO p3) fun fv g3 p3=>?_
 refine aC (DB cR g3 p3) fun rv V SH=>?_
 refine F0 (Lz p3 V) fun l d0 d1 EN wy hfig=>?_
 exact FR (U:=U1 la rv) (st:={st with heap:=h₁,toks:=tk}) B EV EN wy rfl hfig SI.re hB.re hS.re (Ua aD cR dQ p1 p2 SH) (T9 B.W0 B.W1 aD dQ p5) R (cm.ed aD (z.bJ G) dQ) n6 ((Wy.go G).ki aD dQ n6) K
end
end
section
def t9:Ih:=⟨fun Y Y Y=>.bad 0,fun Y Y Y=>.bad 0,fun cl ρ s=>@ite _ (cl=il∧ρ=sZ∧s=vD) (Classical.propDecidable _) (.ok (.rt (.bool true),[],vD)) (.bad 0),fun Y Y Y=>.bad 0⟩
section
theorem Fh(B:Base w h la is W)(EV:mz):vf (Cb w h (ν0 W) 0 .nil (U0 la)) t9 60:=by
 intro cl ρ s f ρ' s' e kd cs xs hf Z J M own env A st F S R z Q E K;have e:(@ite _ (cl=il∧ρ=sZ∧s=vD) (Classical.propDecidable _) (aH.ok (Fl.rt (.bool true),([]:Env),vD)) (.bad 0)).leaf (ν0 W)=some (f,ρ',s'):=e
 by_cases q:cl=il∧ρ=sZ∧s=vD
 ·rw [if_pos q]at e
  injection e with e;injection e with e aN;subst e;injection aN with aN nk;subst aN nk;obtain⟨rfl,rfl,rfl⟩:=q
  have Dd:J=[]:=by
   have:0=J.length:=S.len
   exact List.length_eq_zero_iff.mp this.symm
  subst Dd;refine He (M₀:=M) (Z₀:=Z) (h₀:=st.heap) B EV hf F S R z S.mlt (Way.start _ _ _) ?_
  intro ν nf f0 U σ' M' Z' h' s' ρ' tk Wy S' F';refine K [] M' h' tk _ ⟨⟨[],rfl,fun Y m=>nomatch m⟩,Wy.ext,Wy.more,Wy.fresh⟩ ?_ ?_ ⟨_,rfl,.bool true⟩
  ·exact⟨rfl,by decide,⟨Nat.le_refl 0,fun i hi=>absurd hi (Nat.not_lt_zero i)⟩,.nil,(fun i o e=>by injection e),(fun i o a e Y=>by injection e),(fun i a e Y=>by injection e),(fun i a e Y=>by injection e),(fun a m=>nomatch m),S'.mlt,S'.base,fun p hp=>⟨(S'.tab p hp).1,fun m=>nomatch m⟩,vF B.W0 B.W1⟩
  ·refine⟨⟨F'.f.glob,F'.f.iZ,F'.f.kind,F'.f.kinds,F'.f.D5,F'.f.w5,F'.f.code,fun x v e=>by injection e⟩,fun a x=>⟨(F'.eO a x).1,fun zz=>(F'.eO a x).2 (Wy.keep a zz)⟩,fun a x=>?_,F'.lo,F'.ns,F'.ce,F'.lc,F'.ap,F'.fY⟩
   refine dJ (F'.gw a x:) fun a1 a2 a3=>?_
   exact⟨a1,(fun m=>nomatch m),a3⟩
 ·rw [if_neg q]at e
  injection e
theorem Dx:AW.get 185=some ⟨[168],[],il⟩:=by kernel_rfl
theorem OR{tr:BT}{p:Addr×Addr}(e2:UI tr p=true):p.1<1790:=by
 exact bF (ae e2).1
theorem xI(F:iM (EJ w.params) (BJ w.params)):∀p∈eG,(l5 w.params).get? p.2=some (tabObj #[]):=fun p m=>by
 have e1:=all1 F.tabs m
 have e2:=bS F.hd p m
 have hlt:p.2<1790:=by
  obtain⟨e,he,rfl⟩:=List.mem_map.mp m
  exact Nat.lt_of_le_of_lt (Nat.sub_le e.c 4) (OR e2)
 unfold l5;rw [abs_get (t:=Ab w.params (ia w.params 259)) hlt e1]
 rfl
theorem CU(B:Base w h la is W)(EV:mz){A:Around}(SJ:A.handled=none)(SI:A.depth+125<recursionLimit)(Xb:A.units+763<cLine)(hst:st.heap=h){Q:Value→Shared→Prop}
  (K:∀h' tk,(∀b o,h.get? b=some o→(∀p∈eG,b≠p.2)→h'.get? b=some o)→(∀p∈eG,∃ps,h'.get? p.2=some (tabObj ps))→Q (.bool true) {st with heap:=h',toks:=tk}):ab (model prog w) A (call (.ref (lX 185)) [.ref la] []) Q E st:=by
 have X:=JU B (U0 la) rfl
 have tb:∀p∈eG,h.get? p.2=some (tabObj #[]):=fun p m=>B.keep _ _ (xI B.F p m)
 have hide:∀b o,(j8 eG h).get? b=some o→h.get? b=some o∧∀p∈eG,b≠p.2:=n7 eG h
 have S:aq (Cb w h (ν0 W) 0 .nil (U0 la)) [] (fun a=>∃p∈eG,a=p.2) vD st.heap:=by
  rw [hst];refine⟨rfl,by decide,⟨Nat.le_refl 0,fun i hi=>absurd hi (Nat.not_lt_zero i)⟩,.nil,(fun i o e=>by injection e),(fun i o a e Y=>by injection e),(fun i a e Y=>by injection e),(fun i a e Y=>by injection e),(fun a m=>nomatch m),?_,?_,?_,vF B.W0 B.W1⟩
  ·rintro a ⟨p,m,rfl⟩;exact⟨_,tb p m⟩
  ·intro b o e
   obtain⟨a1,a2⟩:=hide b o e
   exact⟨fun⟨p,m,q⟩=>a2 p m q,a1⟩
  ·intro p m
   exact⟨⟨#[],⟨p,m,rfl⟩,tb p m,trivial,fun pos cv e=>by injection e⟩,fun x=>nomatch x⟩
 have hleaf:(nK PA t9 185 [.mC 0] vD).leaf (ν0 W)=some (.bool true,vD):=by
  have e:t9.xs il sZ vD=.ok (.rt (.bool true),[],vD):=if_pos ⟨rfl,rfl,rfl⟩
  have:nK PA t9 185 [.mC 0] vD=((t9.xs il sZ vD).bind fun(f,_,s)=>.ok (match f with|.rt v=>v|.nx=>.none,s)):=by
   unfold nK;rw [show PA.fs.get 185=_ from Dx]
   rfl
  rw [this,e];rfl
 refine yx (C:=Cb w h (ν0 W) 0 .nil (U0 la)) (P:=PA) (k:=185) (d:=60) (Z:=fun Y=>False) X.lim (Fh B EV) Dx (X.fns 185 _ Dx) hleaf S ⟨SJ,SI,Xb⟩ (fun a x=>x.elim) (.cons (.mC 0) .nil) ?_
 intro σ' M' h' tk rv G S' V;subst V;refine K h' tk (fun b o e hn=>?_) fun p m=>let⟨⟨ps,_,a2,_⟩,_⟩:=S'.tab p m;⟨ps,a2⟩
 rw [hst]at G;exact G.ext.keep b o (fun q=>let⟨p,m,e⟩:=q.1;hn p m e) e
end
end
end
end Mine.Internal
namespace Mine.Internal
open PySem PySem.W PySem.Spec PySem.Calls PyProof.Rows
noncomputable section
theorem D7:Cl ⟨.builtin "claim.caller" {},none,none,[],none⟩:=⟨by decide+kernel,fun Y m=>nomatch m⟩
theorem Af{prog:Program}{w:World}{t:Sem Fin}{s:Shared}{R:Result→Shared→Prop}(hreg:s.asleep)
  (h:ab (model prog w) callerA t (fun fin s'=>∃f,fin=.done f∧(R (.ok f) s'∧leftWithCleanup s'.gens=false)) (fun e s'=>R (.error e) s'∧leftWithCleanup s'.gens=false) s):
  ∃n r s' gJ,runN (denote table) prog w n s ⟨t,.builtin "claim.caller" {},default,[]⟩=.halted (outcomeOf r) s'∧
   schedN (denote table) prog w n (.single s ⟨t,.builtin "claim.caller" {},default,[]⟩)=.halted (outcomeOf r) s'∧s'.forget=gJ.forget∧R r gJ:=by
 have h1:Sem.wp (model prog w) ⟨.builtin "claim.caller" {},none,none,[],none⟩ t (Sem.finPost (model prog w) ⟨.builtin "claim.caller" {},none,none,[],none⟩ fun r s'=>R r s'∧leftWithCleanup s'.gens=false)
   (fun e Y s'=>R (.error e) s'∧leftWithCleanup s'.gens=false) default s:=by
  refine Sem.wp_mono _ _ t (fun fin p' s' h'=>?_) (fun Y Y Y h'=>h') default s (h _ default caller_in D7)
  obtain⟨f,rfl,hf⟩:=h'
  exact hf
 refine vc (wp_halts_full (M:=model prog w) (R:=R) hreg h1:) fun n r ag aK hs hn hfo hR=>?_
 exact⟨n,r,aK,ag,hn,hs,hfo,hR⟩
theorem pH{c:ClaimW}{tree:List Value→Sem Fin}{w:World}{s:Shared}{free:Addr→Prop}{gens:Prop}{kept:Heap→Prop}(hz:s.asleep)(hgens:s.gens=#[])
  (hspec:∀args,c.pre args=true→WData.layableAll args=true→
   ∀ord:List DictEntry→List DictEntry,(∀l,(ord l).Perm l)→
   ∃vs ag,layAllW c.records (classAt s.heap) w.params ord args s=some (vs,ag)∧
    ab (model c.prog w) callerA (tree vs) (fun fin s'=>∃f,fin=.done f∧(c.Ends s args vs ag (.ok f) s'∧s'.os=s.os∧AllBare s'.gens∧kept s'.heap))
     (fun e s'=>c.Ends s args vs ag (.error e) s'∧s'.os=s.os∧AllBare s'.gens∧kept s'.heap) ag):
  c.CallFrom (fun vs=>⟨tree vs,.builtin "claim.caller" {},default,[]⟩) w free gens kept s:=by
 intro args hpre hlay ord hord;refine eJ (hspec args hpre hlay ord hord:) fun vs ag hlaid lh=>?_
 have hal:=layAllW_rest _ _ _ hlaid
 refine vc (Af (prog:=c.prog) (w:=w) (t:=tree vs) (s:=ag) (R:=fun r s'=>c.Ends s args vs ag r s'∧s'.os=s.os∧kept s'.heap) (Shared.asleep_of_life hal.2.2.2 hz)
  (aG lh (fun fin s' h=>h.elim fun f h=>⟨f,h.1,⟨h.2.1,h.2.2.1,h.2.2.2.2⟩,leftWithCleanup_false_of_bare h.2.2.2.1⟩) fun e s' h=>⟨⟨h.1,h.2.1,h.2.2.2⟩,leftWithCleanup_false_of_bare h.2.2.1⟩)) fun k r s' gJ hrun hsched hfo hR=>?_
 refine KN (Shared.forget_eq hfo:) fun eh Y Y eo Y=>?_
 have hlife:s'.heap.life=s.heap.life:=(runN_life _ _ _ hrun).trans hal.2.2.2
 refine⟨vs,ag,hlaid,k,_,s',hsched,?_,(fun Y i x hx=>by rw [hgens]at hx;simp at hx),eh▸hR.2.2,by rw [hlife],Shared.rest_eq (eo.trans hR.2.1)⟩
 exact Or.imp (fun h=>h.elim fun v h=>⟨v,congrArg outcomeOf h.1,h.2.1,h.2.2.1,h.2.2.2.1,fun b o y Y=>h.2.2.2.2.1 b o y,h.2.2.2.2.2⟩)
  (fun h=>h.elim fun e h=>h.elim fun ob h=>h.elim fun cls h=>⟨e,ob,cls,congrArg outcomeOf h.1,h.2.1,h.2.2.1,h.2.2.2.1,h.2.2.2.2.1,fun b o y Y=>h.2.2.2.2.2 b o y⟩) (hR.1.congr eh)
abbrev Jn(q:Program)(loose:List Str){α:Type}(Yf:Shared→α)(Ya:World→α)(r:RowW)(d:DefRec):Prop:=
 ∀(w:World)(cK ag:Shared),Yf cK=Ya w→ag.gens=#[]→
  ∀(args:List WData)(vals:List Value)(as:List Addr)(mg mb:Str→Option Value),Ground q loose r.records (fun Y Y=>True) w cK mg mb ag.heap→Laid r.records w cK ag args vals as→r.claim.pre args=true→WData.layableAll args=true→ReadsAllW r.records (classAt cK.heap) ag.heap vals args as→WellAll w.params ag.heap vals args→
   ∀f,mg d.name=some f→
   ab (model r.prog w) callerA (PySem.call f vals) (fun v s'=>GoodWG r.claim (classAt cK.heap) (ExcName.means cK.heap) args ag (.ok (.ret v)) s')
    (fun e s'=>GoodWG r.claim (classAt cK.heap) (ExcName.means cK.heap) args ag (.error e) s') ag
theorem Lx{q:Program}{loose:List Str}{R:WRecords}{XP:(Str→Option Value)→Heap→Prop}{w:World}{s:Shared}{mg mb:Str→Option Value}{h:Heap}(G:Ground q loose R XP w s mg mb h){n:Str}{d:DefRec}{kwd:List (Str×Expr)}(pq:defOf q n=some (d,kwd)):∃a,mg n=some (.ref a):=by
 obtain⟨a,_,_,_,_,_,_,h1,_⟩:=G.fn pq
 exact⟨a,h1⟩
theorem wu{r:OpenRow}{q:Program}{loose:List Str}{α:Type}{Yf:Shared→α}{Ya:World→α}{d:DefRec}{kwd:List (Str×Expr)}{N:Nat}
  (left:LeftO r.prog q loose (fun Y=>true) Yf Ya N)
  (pq:defOf q r.name=some (d,kwd))(hp:r.prog.theDef r.name=some (d.params,d.body,d.scope))(hk:kwWritten? d.params.kwonlyargs d.params.kw_defaults=some kwd)(W9:∀s,RecFacts r.toRowW.records (s:Shared).heap)(QL:(!r.writes||r.records.isEmpty)=true)
  (k1:r.wellSaid=true)(ok:(chainsOk q&&opensWell r.prog&&(frees r.toRowW&&r.within.isEmpty))=true)(hb:r.prog.bare)(hw:r.toRowW.promised)
  (call:Jn q loose Yf Ya r.toRowW d):r.Holds:=by
 refine⟨k1,hw,?_⟩
 refine aw (Bool.and_eq_true_iff.mp ok:) fun ok k5=>?_
 refine aw (Bool.and_eq_true_iff.mp ok:) fun hch o1=>?_
 refine aw (Bool.and_eq_true_iff.mp k5:) fun k5 k6=>?_
 refine KN (frees_parts k5:) fun hsame hu ha hap hm=>?_
 refine⟨⟨hb,o1,by show r.toRowW.makers.map _=[];rw [hm];rfl⟩,hw.witness,fun w=>⟨(left.behind (XP:=fun Y Y=>True) (fun Y Y=>trivial) hch w).1,fun s' qj=>?_⟩⟩
 refine lI ((left.behind (XP:=fun Y Y=>True) (fun Y Y=>trivial) hch w).2 s' qj:) fun cK hf WX h=>Uo h fun s hT hz hgens hg G0 y=>?_
 have RF:=W9 s
 have Lr:=hT
 refine⟨cK,hf,WX,s,hT,?_,RF.1,RF.2.1,?_⟩
 ·intro n hn
  have e:n=r.name:=by
   cases q:r.pinned with
   |true=>rw [q]at hn;exact List.mem_singleton.mp hn
   |false=>rw [q]at hn;exact absurd hn List.not_mem_nil
  exact e▸pinned_of_view hg G0 pq hp hk
 have hgens:s.gens=#[]:=Array.eq_empty_of_size_eq_zero (beq_iff_eq.mp hgens)
 have G:Ground q loose r.toRowW.records (fun Y Y=>True) w s _ _ s.heap:=RF.ground G0
 refine pH (c:=r.toRowW.claim) hz hgens fun args hpre hlay ord hord=>?_
 obtain⟨⟨vs,ag⟩,hlaid⟩:=Option.isSome_iff_exists.mp (layAllW_isSome (P:=w.params) (ord:=ord) G.has args r.toRowW.args s (pre_splitW hpre).1)
 have keeps:=layAllW_keeps _ _ _ hlaid
 have hal:=layAllW_rest _ _ _ hlaid
 refine lI (reads_layAllW hord _ _ _ hlaid hlay ag.heap (fun Y Y e=>e):) fun as hrd hin hold=>?_
 have L:Laid r.toRowW.records w s ag args vs as:=⟨⟨ord,hord,hlaid⟩,hrd,hin,hold,keeps,hal.1.trans hgens,hal.2.2.1⟩
 have aF:=G.keeps (fun Y Y Y x Y=>x) keeps
 refine dC (Lx aF pq) fun a h1=>?_
 have h:=call w s ag y L.gens args vs as _ _ aF L hpre hlay L.reads L.well _ (defOf_name pq▸h1)
 have hi:=ident_freeW hu ha hap
 have hwi:r.toRowW.claim.within=[]:=List.isEmpty_iff.mp k6
 refine⟨vs,ag,hlaid,?_⟩
 refine aa (lf (PySem.wpAny_nsGet aF.T.g ?_))
 rw [h1];exact aa (aG h (fun v s' g=>af ⟨_,rfl,have z:=g.laid (c:=r.toRowW.claim) hsame hwi hi L;⟨z.1,z.2.1,z.2.2,fun q=>⟨namesKept_of Lr hg _ keeps g.2.1.old,noTable QL q⟩⟩⟩) fun e s' g=>have z:=g.laid (c:=r.toRowW.claim) hsame hwi hi L;⟨z.1,z.2.1,z.2.2,fun q=>⟨namesKept_of Lr hg _ keeps g.2.1.old,noTable QL q⟩⟩)
end
end Mine.Internal
namespace Mine.Internal
open PySem PySem.W PyProof.Rows PySem.SeqAt
noncomputable section
section
noncomputable abbrev row:=(PySem.Challenge.rw_pq0659_01).row
theorem uc{R:WRecords}:∀{xs:List WData},WShape.hasItems R xs .int=true→∃is:List Int,xs=is.map .int
 |[],_=>⟨[],rfl⟩
 |d::r,h=>by
  unfold WShape.hasItems at h;refine aw (ae h:) fun h1 h2=>?_
  obtain⟨i,rfl⟩:=hasW_int h1
  obtain⟨is,rfl⟩:=uc h2
  exact⟨i::is,rfl⟩
theorem t5{P:Params}{h:Heap}:∀{is:List Int}{vs:List Value},WellAll P h vs (is.map .int)→∀(C:Cx) J M h',ay C J M h' (cI is) vs
 |[],_,.nil,_,_,_,_=>.nil
 |i::is,_,.cons a r,C,J,M,h'=>by
  cases a;exact .cons (.int _ _ _ rfl) (t5 r C J M h')
theorem Et{args:List WData}(hp:row.toRowW.claim.pre args=true):∃is:List Int,args=[.list (is.map .int)]∧is.length≤63:=by
 refine aw (pre_splitW hp:) fun h1 h2=>?_
 obtain⟨d,r,rfl,h3,h4⟩:=hasAllW_cons h1
 have:=hasAllW_nil h4
 subst this;obtain⟨xs,rfl,h5⟩:=hasW_list h3
 obtain⟨is,rfl⟩:=uc h5
 refine⟨is,rfl,?_⟩
 rcases Nat.lt_or_ge 63 is.length with q|q
 ·exfalso
  have e:WTm.holds row.toRowW.records row.toRowW.pre {args:=[.list (is.map .int)]}=false:=by
   show WTm.holds [] (.and (.not (.lt (.lit (.int 63)) (.len (.arg 0)))) (.lit (.bool true))) {args:=[.list (is.map .int)]}=false
   have hl:(List.map WData.int is).length=is.length:=List.length_map ..
   have d:decide ((63:Int)<((List.map WData.int is).length:Int))=true:=decide_eq_true (by rw [hl];lia)
   exact congrArg (fun b=>WTm.holds [] (.and (.not (.lit (.bool b))) (.lit (.bool true))) {args:=[.list (is.map .int)]}) d
  rw [e]at h2;injection h2
 ·exact q
structure Known:Prop where
 N:kD
 F:∀w:World,iM (EJ w.params) (BJ w.params)
 E:mz
def dd:DefRec:=match defOf qv row.name with|some (d,_)=>d|none=>⟨row.name,default,[],default,default⟩
theorem pq:defOf qv row.name=some (dd,[]):=by kernel_rfl
theorem zd{P:Params}{h:Heap}{vals:List Value}{is:List Int}(WA:WellAll P h vals [.list (is.map .int)]):∃la vs,∃_:Unit,vals=[.ref la]∧h.get? la=some {cls:=.type "list",data:=.seq (vs:List Value).toArray}∧WellAll P h vs (is.map .int)∧True:=by
 cases WA with
 |cons wl wn=>
 cases wn;cases wl with
 |@list la vs _ hl wa=>exact⟨la,vs,(),rfl,hl,wa,trivial⟩
theorem Bs(Kn:Known):Jn qv loose (fun s=>s.heap) (fun w=>l5 w.params) row.toRowW dd:=by
 intro w cK ag hY hg args vals as mg mb G L hpre hlay RA WA f hf;have hY:cK.heap=l5 w.params:=hY
 clear RA hlay;refine aC (Et hpre:) fun is W5 hlen=>?_
 clear hpre;subst W5;refine lI (z0 is hlen:) fun W W0 W1 hW=>?_
 refine oW (zd WA:) fun la vs Y WJ hl wa Y=>?_
 subst WJ;have hk:∀b o,(l5 w.params).get? b=some o→ag.heap.get? b=some o:=fun b o e=>L.keeps b o (hY▸e)
 have tb:∀p∈eG,(l5 w.params).get? p.2=some (tabObj #[]):=xI (Kn.F w)
 have nt:∀p∈eG,la≠p.2:=fun p m e=>by
  have:=hk _ _ (tb p m)
  rw [←e,hl]at this;cases this
 have B:Base w ag.heap la is W:=⟨vs,0,Kn.N,Kn.F w,hk,hl,t5 wa,nt,W0,W1,hW⟩
 have HG:=pR (Kn.F w) hk
 have hd:=(Kn.F w).yE
 refine aw (ae hd:) fun d1 Y=>?_
 refine aw (ly HG d1 (by rfl):) fun N1 E1=>?_
 have N2:ag.heap.Ns mainGlobals ((j8 eG ag.heap).nsMap 3):=N1.keeps fun b o e=>(n7 eG _ b o e).1
 refine aC (bl (Kn.F w).WB:) fun v hfind hlaw=>?_
 refine aC (bl hlaw:) fun a hv ha=>?_
 have ha:=aL ha
 have hmg:mg=(j8 eG ag.heap).nsMap 3:=G.T.g.eq_nsMap.trans N2.eq_nsMap.symm
 have hname:dd.name=("law":Str):=defOf_name pq
 have hfv:f=.ref (lX 185):=by
  rw [hmg,hname,E1,hfind]at hf;rw [←bh hf,pQ hv,ha]
 subst hfv;refine CU B Kn.E rfl (by decide) (by decide) rfl fun h' tk keep tabs=>?_
 refine⟨.inl ⟨.bool true,.bool true,[],rfl,fun Y=>rfl,.bool true,by kernel_rfl,fun Y=>⟨.nil,fun Y m=>nomatch m⟩⟩,⟨fun b o e=>?_,fun b o e=>?_⟩,rfl,?_⟩
 ·by_cases q:∃p∈eG,b=p.2
  ·obtain⟨p,m,rfl⟩:=q
   right;left
   have e0:=hk _ _ (tb p m)
   rw [e]at e0;have e0:=bh e0
   refine(tabs p m).elim fun ps e3=>⟨?_,e0▸rfl,#[],ps,e0▸rfl,?_⟩
   ·clear e e0 tabs keep e3
    obtain⟨o,vb,file,tf,flags,tg,XF,text,tt,c1,c2,c3,c4,_⟩:=(CV (w:=w) (ν:=ν0 W) (nf:=0) (f0:=.nil) (K:=oe (EJ w.params)) (U:=U0 la) HG (Kn.F w)).hd p m
    exact⟨p.1,o,vb,(n7 eG _ _ _ c1).1,c2,c3,c4⟩
   ·rw [e3,e0];simp
  ·exact .inl (keep b o e fun p m z=>q ⟨p,m,z⟩)
 ·by_cases q:∃p∈eG,b=p.2
  ·obtain⟨p,m,rfl⟩:=q
   obtain⟨ps,e3⟩:=tabs p m
   exact⟨_,e3⟩
  ·exact⟨o,keep b o e fun p m z=>q ⟨p,m,z⟩⟩
 ·show AllBare ag.gens
  rw [hg];exact AllBare.empty
end
section
theorem WO:row.prog.theDef row.name=some (dd.params,dd.body,dd.scope):=by kernel_rfl
theorem QM:kwWritten? dd.params.kwonlyargs dd.params.kw_defaults=some []:=by kernel_rfl
theorem RG:row.toRowW.records=[]:=by kernel_rfl
theorem Ss:(chainsOk qv&&opensWell row.prog&&(frees row.toRowW&&row.within.isEmpty))=true:=by kernel_rfl
theorem QL:(!row.writes||row.records.isEmpty)=true:=by kernel_rfl
theorem zt(left:LeftO prog qv loose (fun Y=>true) (fun s=>s.heap) (fun w=>l5 w.params) 30000)(k1:row.wellSaid=true)(hb:row.prog.bare)(hw:row.toRowW.promised)(Kn:Known):row.Holds:=
 wu (r:=row) (q:=qv) (loose:=loose) (Yf:=fun s=>s.heap) (Ya:=fun w=>l5 w.params) (N:=30000) left pq WO QM (fun Y=>recFacts_nil RG) QL k1 Ss hb hw (Bs Kn)
end
section
theorem LB:kD:=⟨by kernel_rfl,by kernel_rfl,by kernel_rfl,by kernel_rfl,by kernel_rfl,by kernel_rfl,by kernel_rfl,by kernel_rfl⟩
theorem LC:∀(w:World)(_:OsState),iM (EJ w.params) (BJ w.params):=gI (fun w Y=>iM (EJ w.params) (BJ w.params)) ⟨by kernel_rfl,by kernel_rfl,by kernel_rfl,by kernel_rfl,by kernel_rfl,by kernel_rfl,by kernel_rfl,by kernel_rfl,by kernel_rfl,by kernel_rfl,by kernel_rfl,by kernel_rfl,by kernel_rfl,by kernel_rfl⟩
end
section
theorem nH(P:Params):∀(l m:List Stmt)(s:TS),kg P (l++m) s=kg P m (kg P l s)
 |[],_,_=>rfl
 |x::l,m,s=>nH P l m (Io P s x)
theorem zg(P:Params){a b:Nat}(h:a≤b):ia P b=kg P (part a b) (ia P a):=by
 unfold ia part;rw [←nH]
 congr 1
 have:b=a+(b - a):=(Nat.add_sub_cancel' h).symm
 conv=>lhs;rw [this]
 exact List.take_add
theorem jm{a b c:Nat}(h:a≤b)(h':b≤c):part a c=part a b++part b c:=by
 unfold part;have:c - a=(b - a)+(c - b):=((Nat.add_comm _ _).trans (Nat.sub_add_sub_cancel h' h)).symm
 rw [this,List.take_add,List.drop_drop];rw [Nat.add_sub_cancel' h]
theorem FL(w:World)(os:OsState):topGo treeTable prog w 11 (some (.ref 6)) 12 ⟨boot_heap w.params,#[],boot_drawn,boot_toks,os⟩ (topStub prog)=some ((Ft w os (QC w.params)).abs,⟨denote treeTable codeB,codeB,fP,[topFrame fP]⟩):=by kernel_rfl
theorem Au(w:World)(os:OsState):segRunT treeTable prog w 11 (some (.ref 6)) 1 1 (Ft w os (QC w.params)) (blockOf body LK codeB fP [topFrame fP])=some (.next,Ft w os (QC w.params),codeB,fP):=by kernel_rfl
theorem Ef:part 0 259=body:=by kernel_rfl
theorem FV:opening prog=plainProg prog.main.scope.names:=by kernel_rfl
theorem DD(s:Shared):fenceModules? prog s=some s:=by kernel_rfl
theorem GH(w:World)(os:OsState)(s:TS):topRun treeTable prog w 11 (some (.ref 6)) 2 (Ft w os s).abs ⟨doneF .next,codeB,posAt 259,[topFrame fP]⟩=some (Ft w os s).abs:=by kernel_rfl
theorem Fc(w:World)(os:OsState)(p1:eZ 0 50 4000)(p2:eZ 50 100 4000)(p3:eZ 100 145 4000)(p4:eZ 145 190 4000)(p5:eZ 190 225 4000)(p6:eZ 225 259 4000):
  topRun treeTable prog w 11 (some (.ref 6)) (12+(1+(4000+(4000+(4000+(4000+(4000+(4000+2)))))))) ⟨boot_heap w.params,#[],boot_drawn,boot_toks,os⟩ (topStub prog)=some (Ft w os (ia w.params 259)).abs:=by
 have q1:=segRun_of (p1 w os)
 have q2:=segRun_of (p2 w os)
 have q3:=segRun_of (p3 w os)
 have q4:=segRun_of (p4 w os)
 have q5:=segRun_of (p5 w os)
 have q6:=segRun_of (p6 w os)
 rw [←zg w.params (by decide)]at q1 q2 q3 q4 q5 q6
 have hb:body=part 0 50++(part 50 100++(part 100 145++(part 145 190++(part 190 225++(part 225 259++([])))))):=by
  rw [List.append_nil,←jm (by decide) (by decide),←jm (by decide) (by decide),←jm (by decide) (by decide),←jm (by decide) (by decide),←jm (by decide) (by decide),Ef]
 refine go_top (FL w os) ?_
 refine piece_block (segRun_of (Au w os)) ?_
 rw [hb];exact piece_app q1 (piece_app q2 (piece_app q3 (piece_app q4 (piece_app q5 (piece_app q6 (piece_nil (GH w os _)))))))
end
section
theorem Sa:∀(w:World)(_:OsState),staticsOk mods (boot_heap w.params) (l5 w.params)=true:=gI (fun w Y=>staticsOk mods (boot_heap w.params) (l5 w.params)=true) (by kernel_rfl)
theorem R9:∀(w:World)(_:OsState),laidKept (boot_heap w.params) (l5 w.params)=true:=gI (fun w Y=>laidKept (boot_heap w.params) (l5 w.params)=true) (by kernel_rfl)
theorem R8:∀(w:World)(_:OsState),namesBound prog (l5 w.params)=true:=gI (fun w Y=>namesBound prog (l5 w.params)=true) (by kernel_rfl)
def Sf(w:World)(os:OsState):Shared:=⟨l5 w.params,#[],boot_drawn,(ia w.params 259).t,os⟩
theorem sk:∀(w:World)(os:OsState),openSeen qv loose mods (fun Y=>true) true (Sf w os)=openGood qv loose:=gI (fun w os=>openSeen qv loose mods (fun Y=>true) true (Sf w os)=openGood qv loose) (by kernel_rfl)
theorem Wx(w:World):staticsOk mods (boot_heap w.params) (l5 w.params)=true:=Sa w {}
theorem Ww(w:World):laidKept (boot_heap w.params) (l5 w.params)=true:=R9 w {}
theorem Wv(w:World):namesBound prog (l5 w.params)=true:=R8 w {}
end
section
theorem tk(P:Params):((ia P 259).n,(ia P 259).t)=(1790,2755):=by kernel_rfl
theorem sz(w:World):((boot_heap w.params).isNs mainGlobals&&(Array.mk []:Array GenState).size==0,(boot_heap w.params).objs.size,(boot_heap w.params).nsMap mainGlobals "__annotations__")=(true,11,some (.ref 6)):=by kernel_rfl
theorem Gd(p1:eZ 0 50 4000)(p2:eZ 50 100 4000)(p3:eZ 100 145 4000)(p4:eZ 145 190 4000)(p5:eZ 190 225 4000)(p6:eZ 225 259 4000):LeftO prog qv loose (fun Y=>true) (fun s=>s.heap) (fun w=>l5 w.params) 30000:=by
 have e:∀(w:World)(os:OsState),(Ft w os (ia w.params 259)).abs=⟨l5 w.params,#[],boot_drawn,2755,os⟩:=fun w os=>by
  have t:=tk w.params
  have t1:(ia w.params 259).n=1790:=congrArg Prod.fst t
  have t2:(ia w.params 259).t=2755:=congrArg Prod.snd t
  show(⟨absHeap (Ab w.params (ia w.params 259)) (ia w.params 259).n (boot_heap w.params).life,#[],boot_drawn,(ia w.params 259).t,os⟩:Shared)=_;rw [t1,t2]
  rfl
 refine LeftO.of_pieces (H₀:=boot_heap) (H₁:=l5) (gs₀:=Array.mk []) (gs₁:=#[]) (d₀:=boot_drawn) (d₁:=boot_drawn) (k₀:=boot_toks) (k₁:=2755) (m₀:=11) (ann:=some (.ref 6)) (M:=12+(1+(4000+(4000+(4000+(4000+(4000+(4000+2))))))))
  (boot_open FV (by decide) DD) sz (fun w os=>(Fc w os p1 p2 p3 p4 p5 p6).trans (congrArg some (e w os))) (by decide) fun w=>funext fun os=>?_
 have k:=sk w os
 have t2:(ia w.params 259).t=2755:=congrArg Prod.snd (tk w.params)
 unfold Sf at k;rw [t2]at k;refine Prod.ext ?_ (Prod.ext k rfl);show(staticsOk mods (boot_heap w.params) (l5 w.params)&&namesBound prog (l5 w.params)&&true&&laidKept (boot_heap w.params) (l5 w.params))=true;rw [Wx,Ww,Wv];rfl
end
section
theorem To:GS 0 0=true:=by kernel_rfl
theorem Tn:GS 0 1=true:=by kernel_rfl
theorem Tj:GS 0 2=true:=by kernel_rfl
theorem Ti:GS 0 3=true:=by kernel_rfl
theorem Th:GS 1 0=true:=by kernel_rfl
theorem Tg:GS 1 1=true:=by kernel_rfl
theorem Tf:GS 1 2=true:=by kernel_rfl
theorem Te:GS 1 3=true:=by kernel_rfl
theorem PB:uB 0 0 true=true:=by kernel_rfl
theorem PC:uB 0 0 false=true:=by kernel_rfl
theorem Py:uB 0 1 true=true:=by kernel_rfl
theorem Pz:uB 0 1 false=true:=by kernel_rfl
theorem Pw:uB 0 2 true=true:=by kernel_rfl
theorem Px:uB 0 2 false=true:=by kernel_rfl
theorem Pt:uB 0 3 true=true:=by kernel_rfl
theorem Pu:uB 0 3 false=true:=by kernel_rfl
theorem Pq:uB 1 0 true=true:=by kernel_rfl
theorem Pr:uB 1 0 false=true:=by kernel_rfl
theorem Po:uB 1 1 true=true:=by kernel_rfl
theorem Pp:uB 1 1 false=true:=by kernel_rfl
theorem Pl:uB 1 2 true=true:=by kernel_rfl
theorem Pm:uB 1 2 false=true:=by kernel_rfl
theorem Pj:uB 1 3 true=true:=by kernel_rfl
theorem Pk:uB 1 3 false=true:=by kernel_rfl
theorem et:ML.all (MB QU dh gF 78 3000 40)=true:=by kernel_rfl
theorem Ph:mz:=by
 refine⟨fun f a hf ha=>?_,fun f a l hf ha=>?_,et⟩
 ·have hf:f=0∨f=1:=by lia
  have ha:a=0∨a=1∨a=2∨a=3:=by lia
  rcases hf with rfl|rfl
  ·rcases ha with rfl|rfl|rfl|rfl
   ·exact To
   ·exact Tn
   ·exact Tj
   ·exact Ti
  ·rcases ha with rfl|rfl|rfl|rfl
   ·exact Th
   ·exact Tg
   ·exact Tf
   ·exact Te
 ·have hf:f=0∨f=1:=by lia
  have ha:a=0∨a=1∨a=2∨a=3:=by lia
  cases l
  ·rcases hf with rfl|rfl
   ·rcases ha with rfl|rfl|rfl|rfl
    ·exact PC
    ·exact Pz
    ·exact Px
    ·exact Pu
   ·rcases ha with rfl|rfl|rfl|rfl
    ·exact Pr
    ·exact Pp
    ·exact Pm
    ·exact Pk
  ·rcases hf with rfl|rfl
   ·rcases ha with rfl|rfl|rfl|rfl
    ·exact PB
    ·exact Py
    ·exact Pw
    ·exact Pt
   ·rcases ha with rfl|rfl|rfl|rfl
    ·exact Pq
    ·exact Po
    ·exact Pl
    ·exact Pj
end
end
end Mine.Internal
namespace Mine.Internal
open PySem PySem.W PyProof.Rows
open TablesWhole
noncomputable section
theorem pf(top:Scope)(cx:TablesWhole.Ctx)(sc:Scope)(a b:List Stmt):wSs holds top cx sc (a++b)=(wSs holds top cx sc a&&wSs holds top cx sc b):=by
 induction a with
 |nil=>rfl
 |cons s r ih=>
  show(wS holds top cx sc s&&wSs holds top cx sc (r++b))=((wS holds top cx sc s&&wSs holds top cx sc r)&&wSs holds top cx sc b);rw [ih,Bool.and_assoc]
theorem nA(top:Scope)(cx:TablesWhole.Ctx)(sc:Scope)(a b:List Stmt):wSs gather top cx sc (a++b)=(wSs gather top cx sc a++wSs gather top cx sc b):=by
 induction a with
 |nil=>rfl
 |cons s r ih=>
  show(wS gather top cx sc s++wSs gather top cx sc (r++b))=((wS gather top cx sc s++wSs gather top cx sc r)++wSs gather top cx sc b);rw [ih,List.append_assoc]
theorem J8(top:Scope)(cx:TablesWhole.Ctx)(sc:Scope)(l:List Stmt)(i k:Nat)(h:wSs holds top cx sc ((l.drop i).take k)=true)(r:wSs holds top cx sc (l.drop (i+k))=true):wSs holds top cx sc (l.drop i)=true:=by
 rw [←List.take_append_drop k (l.drop i),pf,h,List.drop_drop,r];rfl
theorem J9(top:Scope)(cx:TablesWhole.Ctx)(sc:Scope)(l:List Stmt)(i k:Nat)(h:(wSs gather top cx sc ((l.drop i).take k)).isEmpty=true)(r:(wSs gather top cx sc (l.drop (i+k))).isEmpty=true):(wSs gather top cx sc (l.drop i)).isEmpty=true:=by
 rw [←List.take_append_drop k (l.drop i),nA,List.isEmpty_iff.mp h,List.drop_drop,List.isEmpty_iff.mp r];rfl
theorem Br(m:Module)(hg:(wSs gather m.scope ⟨m.scope,[],[],[],none⟩ m.scope (m.body.drop 0)).isEmpty=true)(hn:noTwice m.scope=true)
  (hh:wSs holds m.scope ⟨m.scope,[],[],[],none⟩ m.scope (m.body.drop 0)=true):wModule holds m=true:=by
 rw [List.drop_zero]at hg hh;unfold wModule;simp only[List.isEmpty_iff.mp hg];show(true&&(noTwice m.scope&&(wSs holds m.scope ⟨m.scope,[],[],[],none⟩ m.scope m.body&&true)))=true;rw [hn,hh];rfl
theorem FK(p:Program)(h:wModule holds p.main=true)(h1:p.modules=[])(h2:p.parses=[])(h3:p.harvested=[]):p.tablesWhole=true:=by
 show(wModule holds p.main&&(Alg.all holds (p.modules.map _)&&(Alg.all holds (p.parses.map _)&&(Alg.all holds (p.harvested.map _)&&true))))=true;rw [h,h1,h2,h3];rfl
noncomputable abbrev pw:=PySem.Challenge.pw_pq0659_01
noncomputable def oV:Scope:=pw.main.scope
def EK:TablesWhole.Ctx:=⟨oV,[],[],[],none⟩
noncomputable def jl:List Stmt:=pw.main.body
abbrev HH(i:Nat):Prop:=(wSs holds oV EK oV ((jl.drop i).take 33)&&(wSs gather oV EK oV ((jl.drop i).take 33)).isEmpty)=true
theorem gR(i:Nat)(h:HH i)(r:wSs holds oV EK oV (jl.drop (i+33))=true∧(wSs gather oV EK oV (jl.drop (i+33))).isEmpty=true):wSs holds oV EK oV (jl.drop i)=true∧(wSs gather oV EK oV (jl.drop i)).isEmpty=true:=
 ⟨J8 oV EK oV jl i 33 (Bool.and_eq_true_iff.mp h).1 r.1,J9 oV EK oV jl i 33 (Bool.and_eq_true_iff.mp h).2 r.2⟩
theorem VN:HH 0:=by kernel_rfl
theorem VM:HH 33:=by kernel_rfl
theorem VK:HH 66:=by kernel_rfl
theorem VJ:HH 99:=by kernel_rfl
theorem VI:HH 132:=by kernel_rfl
theorem VH:HH 165:=by kernel_rfl
theorem VG:HH 198:=by kernel_rfl
theorem VF:HH 231:=by kernel_rfl
theorem JZ:jl.drop 264=[]:=by kernel_rfl
theorem BD:wSs holds oV EK oV (jl.drop 0)=true∧(wSs gather oV EK oV (jl.drop 0)).isEmpty=true:=gR 0 VN (gR 33 VM (gR 66 VK (gR 99 VJ (gR 132 VI (gR 165 VH (gR 198 VG (gR 231 VF (JZ▸⟨rfl,rfl⟩))))))))
theorem once:noTwice oV=true:=by decide+kernel
theorem tw:PySem.Challenge.pw_pq0659_01.tablesWhole=true:=FK _ (Br _ BD.2 once BD.1) rfl rfl rfl
theorem Hs:(PySem.Challenge.rw_pq0659_01).row.prog.bare:=⟨rfl,rfl,rfl,rfl,rfl,tw⟩
theorem FJ:(PySem.Challenge.rw_pq0659_01).row.toRowW.promised:=⟨[.list []],by kernel_rfl,by kernel_rfl⟩
end
end Mine.Internal
namespace Mine.Internal
open PySem PySem.W PyProof.Rows PySem.SeqAt
noncomputable section
noncomputable abbrev ll:OpenLaw:=PySem.Challenge.rw_pq0659_01
theorem tH(lk:Look)(l:List Stmt)(k:Nat)(h1:noRoadLSs lk (l.take k)=true)(h2:noRoadLSs lk (l.drop k)=true):noRoadLSs lk l=true:=by
 induction l generalizing k with
 |nil=>rfl
 |cons x r ih=>
  cases k with
  |zero=>exact h2
  |succ k=>exact look_both (ae h1).1 (ih k (ae h1).2 h2)
noncomputable def tS:Look:={strict:=!(importedModules ll.row.prog.main.body).all cThrough.contains,foot:=none,bare:=(["vars","dir","locals"]:List Str).filter (readsOut ll.row.prog ll.row.prog.main.body)}
theorem VC:namesResolve ll.row.prog=true:=by kernel_rfl
theorem VB:noRoadLSs tS (ll.row.prog.main.body.take 90)=true:=by kernel_rfl
theorem VA:noRoadLSs tS ((ll.row.prog.main.body.drop 90).take 90)=true:=by kernel_rfl
theorem Vz:noRoadLSs tS ((ll.row.prog.main.body.drop 90).drop 90)=true:=by kernel_rfl
theorem Vx:(namesMeet ll.row.prog ll.row.prog.main.body fun Y n=>attrL n)=true:=by kernel_rfl
theorem Vv:(sreFenced ll.row.prog.main&&((moduleNames ll.row.prog.main.body).isEmpty||lookedIntoSs (moduleNames ll.row.prog.main.body) ll.row.prog.main.body))=true:=by kernel_rfl
theorem Vr:ll.row.prog.boundNames.all (fun n=>!worldNames.contains n)=true:=by kernel_rfl
theorem Vo:looksOpen ll.row.prog=true:=look_both (look_both (look_both (look_both Vv VC) Vr) (tH tS _ 90 VB (tH tS _ 90 VA Vz))) Vx
theorem Vn:ll.row.wellSaid=true:=by
 unfold OpenRow.wellSaid OpenRow.partSaid
 iterate 15 refine look_both ?_ (by kernel_rfl)
 exact Vo
theorem Q7:(namesMeet ll.prog ll.above fun Y n=>!ll.own.contains n)=true:=by kernel_rfl
theorem Q6:(ll.prog.main.body.flatMap importedNames).all (fun n=>!ll.reads n||(drawsOf n ll.prog.main.body).all fun mn=>mn.2 !=("attrgetter":Str)&&mn.2 !=("methodcaller":Str))=true:=by kernel_rfl
theorem Q5:ll.wellSaid=true:=by
 unfold OpenLaw.wellSaid;refine look_both ?_ (by kernel_rfl)
 refine look_both ?_ Q7
 iterate 4 refine look_both ?_ (by kernel_rfl)
 refine look_both ?_ Q6
 iterate 11 refine look_both ?_ (by kernel_rfl)
 exact Vn
end
end Mine.Internal
open PySem PySem.W PyProof.Rows
theorem PySem.Challenge.cw_pq0659_01_holds : PySem.Challenge.rw_pq0659_01.Holds := by
 refine holds_law Mine.Internal.Q5 fun said=>?_
 exact Mine.Internal.zt (Mine.Internal.Gd Mine.Internal.V6 Mine.Internal.V5 Mine.Internal.V4 Mine.Internal.V3 Mine.Internal.V0 Mine.Internal.VZ) said Mine.Internal.Hs Mine.Internal.FJ ⟨Mine.Internal.LB,fun w=>Mine.Internal.LC w {},Mine.Internal.Ph⟩
