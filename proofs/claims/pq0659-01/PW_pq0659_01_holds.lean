import PyProof.Rows.All
import KE.IntBitsLaws
import KE.KBytesCut
import KE.KLam
import KE.KIntText
import KE.KRevSl
import KE.KItem
import KE.KDictSum
import KE.KxDecode
import KE.KIsBytes
import OpenK.ZBase
import KE.BytesMulAny
import PySem.Challenge.RW_pq0659_01
set_option Elab.async false
set_option linter.all false
set_option compiler.extract_closed false
set_option bootstrap.genMatcherCode false
set_option genSizeOf false
set_option genInjectivity false
set_option tactic.hygienic false
set_option maxRecDepth 1000000
set_option maxHeartbeats 0
set_option autoImplicit false

namespace Mine.Internal
open PySem PySem.W PyProof.Rows PySem.SeqAt
noncomputable section
variable{a b:Prop}
section
universe u
theorem aL{n m:Nat}(h:n.beq m=true):n=m:=Nat.eq_of_beq_eq_true h
theorem bF{n m:Nat}(h:n.ble m=true):n≤m:=Nat.le_of_ble_eq_true h
theorem bO{α:Type}{l:List α}{i:Nat}{a:α}(h:l[i]?=some a):a∈l:=List.mem_of_getElem? h
theorem bg{α:Type u}{a b:α}(h:some a=some b):a=b:=Option.some.inj h
theorem bT{α:Type}{p:α→Bool}{l:List α}(h:l.all p=true):∀x∈l,p x=true:=List.all_eq_true.mp h
theorem cq{α:Type}(y:α){a:α}{l:List α}(h:a∈l):a∈y::l:=List.mem_cons_of_mem y h
theorem bS{α:Type}{a:α}{l:List α}:a∈a::l:=List.mem_cons_self
theorem cP{h:Heap}{a:Addr}{p:Obj}(o:Obj)(e:h.get? a=some p):(h.push o).get? a=some p:=Heap.get?_push_of_some o e
theorem cW{α:Type u}{l:List α}:l.toArray.size=l.length:=List.size_toArray
theorem cK{α:Type}{a b:α}{l:List α}(h:a∈b::l):a=b∨a∈l:=List.mem_cons.mp h
variable{α:Sort u}{β γ δ ε:Type}{P:Prop}
theorem dF{a:α→Prop}(h:∃x0,a x0)(k:∀x0,a x0→P):P:=h.elim k
theorem Gb{a:α→β→Prop}(h:∃x0 x1,a x0 x1)(k:∀x0 x1,a x0 x1→P):P:=h.elim fun x h=>dF h (k x)
theorem Of{a:α→β→γ→Prop}(h:∃x0 x1 x2,a x0 x1 x2)(k:∀x0 x1 x2,a x0 x1 x2→P):P:=h.elim fun x h=>Gb h (k x)
theorem KZ{a:α→β→γ→δ→Prop}(h:∃x0 x1 x2 x3,a x0 x1 x2 x3)(k:∀x0 x1 x2 x3,a x0 x1 x2 x3→P):P:=h.elim fun x h=>Of h (k x)
theorem A1{a:α→β→γ→δ→ε→Prop}(h:∃x0 x1 x2 x3 x4,a x0 x1 x2 x3 x4)(k:∀x0 x1 x2 x3 x4,a x0 x1 x2 x3 x4→P):P:=h.elim fun x h=>KZ h (k x)
theorem aw(h:a∧b)(k:a→b→P):P:=k h.1 h.2
theorem aC{a b:α→Prop}(h:∃x0,a x0∧b x0)(k:∀x0,a x0→b x0→P):P:=h.elim fun x h=>aw h (k x)
theorem eM{a b:α→β→Prop}(h:∃x0 x1,a x0 x1∧b x0 x1)(k:∀x0 x1,a x0 x1→b x0 x1→P):P:=h.elim fun x h=>aC h (k x)
theorem mU{a b:α→β→γ→Prop}(h:∃x0 x1 x2,a x0 x1 x2∧b x0 x1 x2)(k:∀x0 x1 x2,a x0 x1 x2→b x0 x1 x2→P):P:=h.elim fun x h=>eM h (k x)
theorem IK{a b:α→β→γ→δ→Prop}(h:∃x0 x1 x2 x3,a x0 x1 x2 x3∧b x0 x1 x2 x3)(k:∀x0 x1 x2 x3,a x0 x1 x2 x3→b x0 x1 x2 x3→P):P:=h.elim fun x h=>mU h (k x)
theorem RZ{a b:α→β→γ→δ→ε→Prop}(h:∃x0 x1 x2 x3 x4,a x0 x1 x2 x3 x4∧b x0 x1 x2 x3 x4)(k:∀x0 x1 x2 x3 x4,a x0 x1 x2 x3 x4→b x0 x1 x2 x3 x4→P):P:=h.elim fun x h=>IK h (k x)
theorem dN{c:Prop}(h:a∧b∧c)(k:a→b→c→P):P:=aw h.2 (k h.1)
theorem lM{a b c:α→Prop}(h:∃x0,a x0∧b x0∧c x0)(k:∀x0,a x0→b x0→c x0→P):P:=h.elim fun x h=>dN h (k x)
theorem j8{a b c:α→β→Prop}(h:∃x0 x1,a x0 x1∧b x0 x1∧c x0 x1)(k:∀x0 x1,a x0 x1→b x0 x1→c x0 x1→P):P:=h.elim fun x h=>lM h (k x)
theorem Ga{a b c:α→β→γ→Prop}(h:∃x0 x1 x2,a x0 x1 x2∧b x0 x1 x2∧c x0 x1 x2)(k:∀x0 x1 x2,a x0 x1 x2→b x0 x1 x2→c x0 x1 x2→P):P:=h.elim fun x h=>j8 h (k x)
theorem R4{a b c:α→β→γ→δ→Prop}(h:∃x0 x1 x2 x3,a x0 x1 x2 x3∧b x0 x1 x2 x3∧c x0 x1 x2 x3)(k:∀x0 x1 x2 x3,a x0 x1 x2 x3→b x0 x1 x2 x3→c x0 x1 x2 x3→P):P:=h.elim fun x h=>Ga h (k x)
theorem Wq{a b c:α→β→γ→δ→ε→Prop}(h:∃x0 x1 x2 x3 x4,a x0 x1 x2 x3 x4∧b x0 x1 x2 x3 x4∧c x0 x1 x2 x3 x4)(k:∀x0 x1 x2 x3 x4,a x0 x1 x2 x3 x4→b x0 x1 x2 x3 x4→c x0 x1 x2 x3 x4→P):P:=h.elim fun x h=>R4 h (k x)
theorem lN{c d:Prop}(h:a∧b∧c∧d)(k:a→b→c→d→P):P:=dN h.2 (k h.1)
theorem A2{a b c d:α→Prop}(h:∃x0,a x0∧b x0∧c x0∧d x0)(k:∀x0,a x0→b x0→c x0→d x0→P):P:=h.elim fun x h=>lN h (k x)
theorem K0{a b c d:α→β→Prop}(h:∃x0 x1,a x0 x1∧b x0 x1∧c x0 x1∧d x0 x1)(k:∀x0 x1,a x0 x1→b x0 x1→c x0 x1→d x0 x1→P):P:=h.elim fun x h=>A2 h (k x)
theorem o7{a b c d:α→β→γ→Prop}(h:∃x0 x1 x2,a x0 x1 x2∧b x0 x1 x2∧c x0 x1 x2∧d x0 x1 x2)(k:∀x0 x1 x2,a x0 x1 x2→b x0 x1 x2→c x0 x1 x2→d x0 x1 x2→P):P:=h.elim fun x h=>K0 h (k x)
theorem vh{a b c d:α→β→γ→δ→Prop}(h:∃x0 x1 x2 x3,a x0 x1 x2 x3∧b x0 x1 x2 x3∧c x0 x1 x2 x3∧d x0 x1 x2 x3)(k:∀x0 x1 x2 x3,a x0 x1 x2 x3→b x0 x1 x2 x3→c x0 x1 x2 x3→d x0 x1 x2 x3→P):P:=h.elim fun x h=>o7 h (k x)
theorem Wo{a b c d:α→β→γ→δ→ε→Prop}(h:∃x0 x1 x2 x3 x4,a x0 x1 x2 x3 x4∧b x0 x1 x2 x3 x4∧c x0 x1 x2 x3 x4∧d x0 x1 x2 x3 x4)(k:∀x0 x1 x2 x3 x4,a x0 x1 x2 x3 x4→b x0 x1 x2 x3 x4→c x0 x1 x2 x3 x4→d x0 x1 x2 x3 x4→P):P:=h.elim fun x h=>vh h (k x)
theorem K2{c d e:Prop}(h:a∧b∧c∧d∧e)(k:a→b→c→d→e→P):P:=lN h.2 (k h.1)
theorem QS{a b c d e:α→Prop}(h:∃x0,a x0∧b x0∧c x0∧d x0∧e x0)(k:∀x0,a x0→b x0→c x0→d x0→e x0→P):P:=h.elim fun x h=>K2 h (k x)
theorem Uy{a b c d e:α→β→Prop}(h:∃x0 x1,a x0 x1∧b x0 x1∧c x0 x1∧d x0 x1∧e x0 x1)(k:∀x0 x1,a x0 x1→b x0 x1→c x0 x1→d x0 x1→e x0 x1→P):P:=h.elim fun x h=>QS h (k x)
theorem QR{a b c d e:α→β→γ→Prop}(h:∃x0 x1 x2,a x0 x1 x2∧b x0 x1 x2∧c x0 x1 x2∧d x0 x1 x2∧e x0 x1 x2)(k:∀x0 x1 x2,a x0 x1 x2→b x0 x1 x2→c x0 x1 x2→d x0 x1 x2→e x0 x1 x2→P):P:=h.elim fun x h=>Uy h (k x)
theorem Od{a b c d e:α→β→γ→δ→Prop}(h:∃x0 x1 x2 x3,a x0 x1 x2 x3∧b x0 x1 x2 x3∧c x0 x1 x2 x3∧d x0 x1 x2 x3∧e x0 x1 x2 x3)(k:∀x0 x1 x2 x3,a x0 x1 x2 x3→b x0 x1 x2 x3→c x0 x1 x2 x3→d x0 x1 x2 x3→e x0 x1 x2 x3→P):P:=h.elim fun x h=>QR h (k x)
theorem Ux{a b c d e:α→β→γ→δ→ε→Prop}(h:∃x0 x1 x2 x3 x4,a x0 x1 x2 x3 x4∧b x0 x1 x2 x3 x4∧c x0 x1 x2 x3 x4∧d x0 x1 x2 x3 x4∧e x0 x1 x2 x3 x4)(k:∀x0 x1 x2 x3 x4,a x0 x1 x2 x3 x4→b x0 x1 x2 x3 x4→c x0 x1 x2 x3 x4→d x0 x1 x2 x3 x4→e x0 x1 x2 x3 x4→P):P:=h.elim fun x h=>Od h (k x)
theorem R6{c d e f:Prop}(h:a∧b∧c∧d∧e∧f)(k:a→b→c→d→e→f→P):P:=K2 h.2 (k h.1)
theorem Uz{a b c d e f:α→Prop}(h:∃x0,a x0∧b x0∧c x0∧d x0∧e x0∧f x0)(k:∀x0,a x0→b x0→c x0→d x0→e x0→f x0→P):P:=h.elim fun x h=>R6 h (k x)
theorem R5{a b c d e f:α→β→Prop}(h:∃x0 x1,a x0 x1∧b x0 x1∧c x0 x1∧d x0 x1∧e x0 x1∧f x0 x1)(k:∀x0 x1,a x0 x1→b x0 x1→c x0 x1→d x0 x1→e x0 x1→f x0 x1→P):P:=h.elim fun x h=>Uz h (k x)
theorem Oe{a b c d e f:α→β→γ→Prop}(h:∃x0 x1 x2,a x0 x1 x2∧b x0 x1 x2∧c x0 x1 x2∧d x0 x1 x2∧e x0 x1 x2∧f x0 x1 x2)(k:∀x0 x1 x2,a x0 x1 x2→b x0 x1 x2→c x0 x1 x2→d x0 x1 x2→e x0 x1 x2→f x0 x1 x2→P):P:=h.elim fun x h=>R5 h (k x)
theorem Wr{a b c d e f:α→β→γ→δ→Prop}(h:∃x0 x1 x2 x3,a x0 x1 x2 x3∧b x0 x1 x2 x3∧c x0 x1 x2 x3∧d x0 x1 x2 x3∧e x0 x1 x2 x3∧f x0 x1 x2 x3)(k:∀x0 x1 x2 x3,a x0 x1 x2 x3→b x0 x1 x2 x3→c x0 x1 x2 x3→d x0 x1 x2 x3→e x0 x1 x2 x3→f x0 x1 x2 x3→P):P:=h.elim fun x h=>Oe h (k x)
theorem Uw{a b c d e f:α→β→γ→δ→ε→Prop}(h:∃x0 x1 x2 x3 x4,a x0 x1 x2 x3 x4∧b x0 x1 x2 x3 x4∧c x0 x1 x2 x3 x4∧d x0 x1 x2 x3 x4∧e x0 x1 x2 x3 x4∧f x0 x1 x2 x3 x4)(k:∀x0 x1 x2 x3 x4,a x0 x1 x2 x3 x4→b x0 x1 x2 x3 x4→c x0 x1 x2 x3 x4→d x0 x1 x2 x3 x4→e x0 x1 x2 x3 x4→f x0 x1 x2 x3 x4→P):P:=h.elim fun x h=>Wr h (k x)
theorem UB{c d e f g:Prop}(h:a∧b∧c∧d∧e∧f∧g)(k:a→b→c→d→e→f→g→P):P:=R6 h.2 (k h.1)
theorem Wz{a b c d e f g:α→Prop}(h:∃x0,a x0∧b x0∧c x0∧d x0∧e x0∧f x0∧g x0)(k:∀x0,a x0→b x0→c x0→d x0→e x0→f x0→g x0→P):P:=h.elim fun x h=>UB h (k x)
theorem Ww{a b c d e f g:α→β→Prop}(h:∃x0 x1,a x0 x1∧b x0 x1∧c x0 x1∧d x0 x1∧e x0 x1∧f x0 x1∧g x0 x1)(k:∀x0 x1,a x0 x1→b x0 x1→c x0 x1→d x0 x1→e x0 x1→f x0 x1→g x0 x1→P):P:=h.elim fun x h=>Wz h (k x)
theorem Wu{a b c d e f g:α→β→γ→Prop}(h:∃x0 x1 x2,a x0 x1 x2∧b x0 x1 x2∧c x0 x1 x2∧d x0 x1 x2∧e x0 x1 x2∧f x0 x1 x2∧g x0 x1 x2)(k:∀x0 x1 x2,a x0 x1 x2→b x0 x1 x2→c x0 x1 x2→d x0 x1 x2→e x0 x1 x2→f x0 x1 x2→g x0 x1 x2→P):P:=h.elim fun x h=>Ww h (k x)
theorem R3{a b c d e f g:α→β→γ→δ→Prop}(h:∃x0 x1 x2 x3,a x0 x1 x2 x3∧b x0 x1 x2 x3∧c x0 x1 x2 x3∧d x0 x1 x2 x3∧e x0 x1 x2 x3∧f x0 x1 x2 x3∧g x0 x1 x2 x3)(k:∀x0 x1 x2 x3,a x0 x1 x2 x3→b x0 x1 x2 x3→c x0 x1 x2 x3→d x0 x1 x2 x3→e x0 x1 x2 x3→f x0 x1 x2 x3→g x0 x1 x2 x3→P):P:=h.elim fun x h=>Wu h (k x)
theorem UA{c d e f g i:Prop}(h:a∧b∧c∧d∧e∧f∧g∧i)(k:a→b→c→d→e→f→g→i→P):P:=UB h.2 (k h.1)
theorem Wx{a b c d e f g i:α→Prop}(h:∃x0,a x0∧b x0∧c x0∧d x0∧e x0∧f x0∧g x0∧i x0)(k:∀x0,a x0→b x0→c x0→d x0→e x0→f x0→g x0→i x0→P):P:=h.elim fun x h=>UA h (k x)
theorem Wv{a b c d e f g i:α→β→Prop}(h:∃x0 x1,a x0 x1∧b x0 x1∧c x0 x1∧d x0 x1∧e x0 x1∧f x0 x1∧g x0 x1∧i x0 x1)(k:∀x0 x1,a x0 x1→b x0 x1→c x0 x1→d x0 x1→e x0 x1→f x0 x1→g x0 x1→i x0 x1→P):P:=h.elim fun x h=>Wx h (k x)
theorem Wt{a b c d e f g i:α→β→γ→Prop}(h:∃x0 x1 x2,a x0 x1 x2∧b x0 x1 x2∧c x0 x1 x2∧d x0 x1 x2∧e x0 x1 x2∧f x0 x1 x2∧g x0 x1 x2∧i x0 x1 x2)(k:∀x0 x1 x2,a x0 x1 x2→b x0 x1 x2→c x0 x1 x2→d x0 x1 x2→e x0 x1 x2→f x0 x1 x2→g x0 x1 x2→i x0 x1 x2→P):P:=h.elim fun x h=>Wv h (k x)
end
end
end Mine.Internal
namespace Mine.Internal
open PySem PyProof.Rows
open PySem.Sem (wp)
noncomputable section
variable{Q:Unit→Shared→Prop}{R:Result→Shared→Prop}
noncomputable def iG(id:String):Bool:=!(Builtin.Bytes.decodersThatHold.contains id)&&!(guardIds.contains id)
def j9:Code→Bool
 |.builtin id _=>iG id
 |_=>true
def XJ(l:List (Code×Pos)):Prop:=∀x∈l,j9 x.1=true
def Cl(Γ:Ctx):Prop:=j9 Γ.code=true∧XJ Γ.below
theorem Cl.goto{Γ:Ctx}(h:Cl Γ){c:Code}(hc:j9 c=true):Cl (Γ.goto c):=⟨hc,h.2⟩
theorem Cl.enter{Γ:Ctx}(h:Cl Γ){c:Code}(hc:j9 c=true)(hd:Option Value)(p:Pos):Cl (Γ.enter c hd p):=
 ⟨hc,fun x hx=>by
  rcases cK hx with rfl|hx
  ·exact h.1
  ·exact h.2 x hx⟩
def ab{α:Type}(M:Model)(A:Around)(t:Sem α)(Q:α→Shared→Prop)(E:Value→Shared→Prop)(s:Shared):Prop:=
 ∀Γ p,Γ.In A→Cl Γ→wp M Γ t (fun a Y s'=>Q a s') (fun e Y s'=>E e s') p s
def ba(M:Model)(A:Around)(c:Code)(R:Result→Shared→Prop)(s:Shared):Prop:=
 j9 c=true∧∀Γ p,Γ.code=c→Γ.Below A→Cl Γ→wpCode M Γ R p s
section
variable{α β:Type}{M:Model}{A:Around}{E:Value→Shared→Prop}{s:Shared}
theorem lf{t:Sem α}{Q:α→Shared→Prop}(h:PySem.wpAny M A t Q E s):ab M A t Q E s:=fun Γ p iC Y=>h Γ p iC
theorem WM{c:Code}(h:PySem.codeAny M A c R s)(hn:j9 c=true:=by rfl):ba M A c R s:=⟨hn,fun Γ p hc iC Y=>h Γ p hc iC⟩
theorem aG{t:Sem α}{Q Q':α→Shared→Prop}{E':Value→Shared→Prop}(h:ab M A t Q E s)
  (hQ:∀a s,Q a s→Q' a s)(hE:∀e s,E e s→E' e s):ab M A t Q' E' s:=
 fun Γ p iC hc=>Sem.wp_mono M Γ t (fun a Y s=>hQ a s) (fun e Y s=>hE e s) p s (h Γ p iC hc)
theorem af{a:α}{Q:α→Shared→Prop}(h:Q a s):ab M A (pure a) Q E s:=fun Y Y Y Y=>h
theorem dm{tag:String}(h:Q () s):ab M A (rule tag) Q E s:=fun Y Y Y Y=>h
theorem au{pos:Pos}(h:Q () s):ab M A (standAt pos) Q E s:=fun Y Y Y Y=>h
theorem gR(h:Q () s):ab M A point Q E s:=fun Y Y Y Y=>h
theorem aa{m:Sem α}{f:α→Sem β}{Q:β→Shared→Prop}(h:ab M A m (fun a s'=>ab M A (f a) Q E s') E s):
  ab M A (m>>=f) Q E s:=fun Γ p iC hc=>by
 rw [Sem.wp_bind'];exact Sem.wp_mono M Γ m (fun a p' s' k=>k Γ p' iC hc) (fun Y Y Y k=>k) p s (h Γ p iC hc)
theorem dw{m:Sem α}{k:Value→Sem Unit}{Q:α→Shared→Prop}
  (h:ab M A m Q (fun e s'=>ab M A (k e) (fun Y gN=>E e gN) E s') s):ab M A (m.onRaise k) Q E s:=fun Γ p iC hc=>by
 rw [Sem.wp_onRaise];exact Sem.wp_mono M Γ m (fun Y Y Y k=>k) (fun e p' s' k=>k Γ p' iC hc) p s (h Γ p iC hc)
theorem j0{m:Sem α}{Q:Except Value α→Shared→Prop}(h:ab M A m (fun a=>Q (.ok a)) (fun e=>Q (.error e)) s):
  ab M A m.attempt Q E s:=fun Γ p iC hc=>by rw [Sem.wp_attempt];exact h Γ p iC hc
theorem aj{vs:List Value}{m:Sem α}{Q:α→Shared→Prop}(h:ab M A m Q E s):ab M A (holding vs m) Q E s:=
 fun Γ p iC hc=>by rw [Sem.wp_holding];exact h Γ p iC hc
theorem pQ{c:Prop} [Decidable c]{a b:Sem α}{Q:α→Shared→Prop}(h:if c then ab M A a Q E s else ab M A b Q E s):
  ab M A (if c then a else b) Q E s:=by split<;>simp_all
theorem fZ{c:Code}{R':Result→Shared→Prop}(h:ba M A c R s)(hR:∀r s,R r s→R' r s):ba M A c R' s:=
 ⟨h.1,fun Γ p hc iC hk=>wpCode_mono hR (h.2 Γ p hc iC hk)⟩
theorem pP{c:Code}{h:Option Value}{Q:Flow→Shared→Prop}
  (hc:ba M (A.mark h) c (fun r s'=>match r with|.ok f=>Q f s'|.error e=>E e s') s)(hnb:h≠some byPass:=by intro x;cases x):
  ab M A (run c h) Q E s:=
 fun Γ p iC hk=>by rw [Sem.wp_run];exact hc.2 _ p rfl (iC.enter c h p hnb) (hk.enter hc.1 h p)
theorem m9{c:Code}{Q:Value→Shared→Prop}
  (hc:ba M A c (fun r s'=>match r with|.ok (.ret v)=>Q v s'|.ok _=>False|.error e=>E e s') s):
  ab M A (runValue c) Q E s:=fun Γ p iC hk=>by
 rw [Sem.wp_runValue];exact hc.2 _ p rfl (iC.enter c none p (by intro x;injection x)) (hk.enter hc.1 none p)
theorem dC{f:Value}{pos:List Value}{kw:List (Str×Value)}{Q:Value→Shared→Prop}
  (hc:ba M A (.call f ⟨pos,kw⟩) (fun r s'=>match r with|.ok (.ret v)=>Q v s'|.ok _=>False|.error e=>E e s') s):
  ab M A (call f pos kw) Q E s:=m9 hc
theorem bk{c:Code}
  (h:ab M (A.under c) (M.den c) (fun fin s'=>match fin with|.done f=>R (.ok f) s'|.again c'=>c'.quiet=true∧ba M A c' R s')
   (fun e s'=>R (.error e) s') s)(hn:j9 c=true:=by rfl):ba M A c R s:=⟨hn,fun Γ p hc iC hk=>by
 rw [wpCode_iff_wp,hc];refine Sem.wp_mono M Γ _ (fun fin p' s' h'=>?_) (fun Y Y Y h'=>h') p s (h Γ p (hc▸iC.in) hk)
 cases fin with
 |done f=>exact h'
 |again c'=>exact⟨h'.1,h'.2.2 (Γ.goto c') p' rfl (iC.goto c') (hk.goto h'.2.1)⟩⟩
theorem kM{c:Code}(hq:c.quiet=true)(I:Nat→Shared→Prop)
  (turn:∀n s,I n s→ab M (A.under c) (M.den c)
   (fun fin s'=>match fin with|.done f=>R (.ok f) s'|.again c'=>c'=c∧∃m,m<n∧I m s') (fun e s'=>R (.error e) s') s)
  (n:Nat)(h:I n s)(hn:j9 c=true:=by rfl):ba M A c R s:=by
 induction n using Nat.strongRecOn generalizing s with
 |ind n ih=>
  refine bk (aG (turn n s h) (fun fin s' hf=>?_) fun Y Y h'=>h') hn
  cases fin with
  |done f=>exact hf
  |again c'=>obtain⟨rfl,m,hm,hI⟩:=hf;exact⟨hq,ih m hm hI⟩
theorem pg{c:Code}(hq:c.quiet=true)(I:Nat→Shared→Prop)
  (turn:∀n s,I n s→ab M (A.under c) (M.den c)
   (fun fin s'=>match fin with
    |.done f=>R (.ok f) s'
    |.again c'=>(c'=c∧∃m,m<n∧I m s')∨(c'.quiet=true∧ba M A c' R s')) (fun e s'=>R (.error e) s') s)
  (n:Nat)(h:I n s)(hn:j9 c=true:=by rfl):ba M A c R s:=by
 induction n using Nat.strongRecOn generalizing s with
 |ind n ih=>
  refine bk (aG (turn n s h) (fun fin s' hf=>?_) fun Y Y h'=>h') hn
  cases fin with
  |done f=>exact hf
  |again c'=>
   rcases hf with⟨rfl,m,hm,hI⟩|hf
   ·exact⟨hq,ih m hm hI⟩
   ·exact hf
def cameBackBy(M:Model)(A:Around)(env:Env)(E:Value→Shared→Prop):Value→Shared→Prop:=
 fun x s'=>ab M A (do
  if(←field x 1)==.none then unsupported "frame.own-activation:exception-without-traceback"
  setFlight x env.frame) (fun Y gN=>E x gN) E s'
def notedBy(M:Model)(A:Around)(env:Env)(E:Value→Shared→Prop):Value→Shared→Prop:=
 fun x s'=>ab M A (noteFrame x env) (fun Y gN=>E x gN) E s'
theorem kJ{c:Code}{env:Env}{h:Option Value}{Q:Flow→Shared→Prop}
  (hc:ba M (A.mark h) c (fun r s'=>match r with|.ok f=>Q f s'|.error e=>cameBackBy M A env E e s') s)(hnb:h≠some byPass:=by intro x;cases x):
  ab M A (runOwn c env h) Q E s:=by
 unfold runOwn;exact dw (pP hc hnb)
theorem gS{env:Env}{m:Sem α}{Q:α→Shared→Prop}(h:ab M A m Q (notedBy M A env E) s):ab M A (m.onRaise fun x=>do noteFrame x env;theTreesLotGoes x) Q E s:=
 dw (aG h (fun Y Y q=>q) fun Y Y hx=>aa (aG hx (fun Y Y e=>lf (wpAny_theTreesLotGoes e)) fun Y Y e=>e))
theorem pe{env:Env}{m:Sem α}{pos:Pos}{Q:α→Shared→Prop}(h:ab M A m Q (notedBy M A env E) s):
  ab M A (m.onRaise fun x=>do noteFrame x env;standAt pos) Q E s:=
 dw (aG h (fun Y Y q=>q) fun Y Y hx=>aa (aG hx (fun Y Y e=>au e) fun Y Y e=>e))
end
end
end Mine.Internal
namespace Mine.Internal
open PySem PySem.W PyProof.Rows
open PySem.Sem (wp)
noncomputable section
variable{Q:Value→Shared→Prop}{pos:Pos}
section
variable{α:Type}{M:Model}{A:Around}{E:Value→Shared→Prop}{s:Shared}{env:PySem.Env}
theorem sq{β:Type}{m:Sem α}{f:α→Sem β}{Q:β→Shared→Prop}{P:α→Shared→Prop}(h:ab M A m P E s)(k:∀a s',P a s'→ab M A (f a) Q E s'):
  ab M A (m>>=f) Q E s:=aa (aG h k fun Y Y x=>x)
theorem vn{vs:List Value}{m:Sem α}{Q:α→Shared→Prop}(h:ab M A m Q E s):ab M A (m.keep vs) Q E s:=
 fun Γ p iC hc=>by rw [Sem.wp_keep];exact h Γ p iC hc
theorem cB{vs:List Value}{m:Sem Value}(h:ab M A m Q E s):ab M A (operate vs m) Q E s:=
 fun Γ p iC hc=>by rw [Sem.wp_operate];exact h Γ p iC hc
theorem fj{vs keep:List Value}{Q:Unit→Shared→Prop}(h:Q () s):ab M A (release vs keep) Q E s:=fun Γ p Y Y=>by
 rw [Sem.wp_release];exact h
theorem gv{x:Str}{v:Value}{Q:Unit→Shared→Prop}(h:ab M A (storeName env x v) Q E s):ab M A (bindName env x v) Q E s:=
 fun Γ p iC hc=>by rw [Sem.wp_bindName];exact h Γ p iC hc
theorem aV{t:Sem α}{a:α}{Q:α→Shared→Prop}(h:t=pure a)(hQ:Q a s):ab M A t Q E s:=h▸af hQ
theorem aZ{c:Prop} [Decidable c]{a b:Sem α}{Q:α→Shared→Prop}(hc:decide c=false)(h:ab M A b Q E s):
  ab M A (if c then a else b) Q E s:=by rw [if_neg (of_decide_eq_false hc)];exact h
theorem je{c:Prop} [Decidable c]{a b:Sem α}{Q:α→Shared→Prop}(hc:decide c=true)(h:ab M A a Q E s):
  ab M A (if c then a else b) Q E s:=by rw [if_pos (of_decide_eq_true hc)];exact h
set_option tactic.hygienic true in
theorem fJ{c:Prop} [Decidable c]{a b:Sem α}{Q:α→Shared→Prop}(ha:c→ab M A a Q E s)(hb:¬c→ab M A b Q E s):
  ab M A (if c then a else b) Q E s:=by
 split
 ·next h=>exact ha h
 ·next h=>exact hb h
theorem nh{x:Str}(h:ab M A (loadName env x) Q E s)(hd:(x==("__debug__":Str))=false:=by decide):
  ab M A (eval (.Name x pos) env) Q E s:=by
 rw [eval_Name env x pos hd];exact aa (au h)
theorem tY{x:Str}(hk:env.scope.kind=.function)(hx:env.kindOf x=some .globalImplicit):loadName env x=loadGlobal env x:=by
 unfold loadName Env.blockKind;rw [hk,hx]
 rfl
theorem fy{x:Str}(hk:env.scope.kind=.function)(hx:env.kindOf x=some .globalImplicit)
  (h:ab M A (loadGlobal env x) Q E s)(hd:(x==("__debug__":Str))=false:=by decide):ab M A (eval (.Name x pos) env) Q E s:=by
 refine nh ?_ hd
 exact(tY hk hx).symm▸h
theorem sI{l op r pos}
  (h:ab M A (eval l env) (fun a ag=>ab M A (eval r env) (fun b aK=>ab M A (binaryOp op a b) Q E aK) E ag) E s):
  ab M A (eval (.BinOp l op r pos) env) Q E s:=by
 rw [eval_BinOp];exact sq h fun a ag k=>sq (aj k) fun b aK k=>aa (au (cB k))
theorem pf{op:UnaryOp}{x:Expr}(h:ab M A (eval x env) (fun v ag=>ab M A (unaryOp op v) Q E ag) E s):
  ab M A (eval (.UnaryOp op x pos) env) Q E s:=by
 rw [arm_eval_UnaryOp];exact sq h fun v ag k=>aa (au (aj k))
theorem nj{l op r pos}
  (h:ab M A (eval l env) (fun a ag=>ab M A (eval r env) (fun b aK=>ab M A (compareOp op a b) Q E aK) E ag) E s)
  (hm:behindInMarks op r=false:=by with_unfolding_all rfl):
  ab M A (eval (.Compare l [op] [r] pos) env) Q E s:=by
 rw [eval_Compare1,markedBehindIn_of_false hm];exact sq h fun a ag k=>sq (aj k) fun b aK k=>aa (au (cB k))
theorem iY{l op r pos whole}{Q:Bool→Shared→Prop}
  (h:ab M A (eval l env) (fun a ag=>ab M A (eval r env) (fun b aK=>ab M A (compareOp op a b)
   (fun c bM=>ab M A (truthy c) Q E bM) E aK) E ag) E s)
  (hm:behindInMarks op r=false:=by with_unfolding_all rfl):ab M A (isTrue (.Compare l [op] [r] pos) env whole) Q E s:=by
 rw [isTrue_Compare1,markedBehindIn_of_false hm];exact sq h fun a ag k=>sq (aj k) fun b aK k=>aa (au (sq (cB k) fun c bM k=>aj k))
theorem nr{op e pos}(h:ab M A (eval e env) Q E s):ab M A (eval (.BoolOp op [e] pos) env) Q E s:=h
theorem vt{wK kA rest pos}
  (h:ab M A (eval wK env) (fun v ag=>ab M A (truthy v) (fun c aK=>if c then ab M A (eval (.BoolOp .And (kA::rest) pos) env) Q E aK else Q v aK) E ag) E s):
  ab M A (eval (.BoolOp .And (wK::kA::rest) pos) env) Q E s:=by
 show ab M A (eval wK env>>=fun v=>standAt pos>>=fun Y=>holding [v] (truthy v)>>=fun c=>_) Q E s
 refine sq h fun v ag k=>aa (au (sq (aj k) fun c aK k=>?_))
 cases c<;>first|exact k|exact af k
theorem ze{wK kA rest pos}
  (h:ab M A (eval wK env) (fun v ag=>ab M A (truthy v) (fun c aK=>if c then Q v aK else ab M A (eval (.BoolOp .Or (kA::rest) pos) env) Q E aK) E ag) E s):
  ab M A (eval (.BoolOp .Or (wK::kA::rest) pos) env) Q E s:=by
 show ab M A (eval wK env>>=fun v=>standAt pos>>=fun Y=>holding [v] (truthy v)>>=fun c=>_) Q E s
 refine sq h fun v ag k=>aa (au (sq (aj k) fun c aK k=>?_))
 cases c<;>first|exact k|exact af k
theorem sH{test body orelse:Expr}
  (h:ab M A (isTrue test env (eval test env)) (fun b ag=>if b then ab M A (eval body env) Q E ag else ab M A (eval orelse env) Q E ag) E s):
  ab M A (eval (.IfExp test body orelse pos) env) Q E s:=by
 rw [arm_eval_IfExp];exact sq h fun b ag k=>by cases b<;>exact k
theorem isTrue_not{x pos whole}{Q:Bool→Shared→Prop}(h:ab M A (isTrue x env (eval x env)) (fun c s'=>Q (!c) s') E s):
  ab M A (isTrue (.UnaryOp .Not x pos) env whole) Q E s:=by
 show ab M A (isTrue x env (eval x env)>>=fun c=>pure (!c)) Q E s
 exact sq h fun c s' k=>af k
theorem isTrue_and{x rest pos whole}{Q:Bool→Shared→Prop}
  (h:ab M A (isTrue x env (eval x env)) (fun c s'=>if c then ab M A (isTrue (.BoolOp .And rest pos) env whole) Q E s' else Q false s') E s):
  ab M A (isTrue (.BoolOp .And (x::rest) pos) env whole) Q E s:=by
 show ab M A (isTrue x env (eval x env)>>=fun c=>_) Q E s
 exact sq h fun c s' k=>by cases c<;>first|exact k|exact af k
theorem isTrue_or{x rest pos whole}{Q:Bool→Shared→Prop}
  (h:ab M A (isTrue x env (eval x env)) (fun c s'=>if c then Q true s' else ab M A (isTrue (.BoolOp .Or rest pos) env whole) Q E s') E s):
  ab M A (isTrue (.BoolOp .Or (x::rest) pos) env whole) Q E s:=by
 show ab M A (isTrue x env (eval x env)>>=fun c=>_) Q E s
 exact sq h fun c s' k=>by cases c<;>first|exact k|exact af k
theorem isTrue_chain{l tG tF ops px vK rs pos whole}{Q:Bool→Shared→Prop}
  (h:ab M A (eval l env) (fun a ag=>ab M A (testChain pos a (tG::tF::ops) (eval px env::eval vK env::evalEach rs env)) Q E ag) E s)
  (hm:lastMarks (tG::tF::ops) (px::vK::rs)=false:=by with_unfolding_all rfl):
  ab M A (isTrue (.Compare l (tG::tF::ops) (px::vK::rs) pos) env whole) Q E s:=by
 show ab M A (eval l env>>=fun a=>testChain pos a (tG::tF::ops) (markedEach (tG::tF::ops) (px::vK::rs) (evalEach (px::vK::rs) env))) Q E s
 rw [markedEach_of_false _ _ _ hm];exact aa h
theorem y9{a:Value}{op:CmpOp}{r:Sem Value}{Q:Bool→Shared→Prop}
  (h:ab M A r (fun b ag=>ab M A (compareOp op a b) (fun c aK=>ab M A (truthy c) Q E aK) E ag) E s):ab M A (testChain pos a [op] [r]) Q E s:=by
 show ab M A (holding [a] r>>=fun b=>standAt pos>>=fun Y=>operate [a,b] (compareOp op a b)>>=fun c=>holding [c] (truthy c)) Q E s
 exact sq (aj h) fun b ag k=>aa (au (sq (cB k) fun c aK k=>aj k))
theorem y8{a:Value}{op jU:CmpOp}{ops:List CmpOp}{r r':Sem Value}{rs:List (Sem Value)}{Q:Bool→Shared→Prop}
  (h:ab M A r (fun b ag=>ab M A (compareOp op a b) (fun c aK=>ab M A (truthy c)
   (fun t bM=>if t then ab M A (testChain pos b (jU::ops) (r'::rs)) Q E bM else Q false bM) E aK) E ag) E s):
  ab M A (testChain pos a (op::jU::ops) (r::r'::rs)) Q E s:=by
 show ab M A (holding [a] r>>=fun b=>standAt pos>>=fun Y=>holding [a,b] (compareOp op a b)>>=fun c=>release [a,b] [c]>>=fun Y=>holding [c,b] (truthy c)>>=fun t=>_) Q E s
 refine sq (aj h) fun b ag k=>aa (au (sq (aj k) fun c aK k=>aa (fj (sq (aj k) fun t bM k=>?_))))
 cases t<;>first|exact k|exact af k
theorem ic{e:Expr}{rest:List Expr}{Q:List Value→Shared→Prop}
  (h:ab M A (eval e env) (fun v ag=>ab M A (spliced (backTo pos (starEach rest env))) (fun vs aK=>Q (v::vs) aK) E ag) E s)
  (he:starEach (e::rest) env=(false,eval e env)::starEach rest env:=by rfl):ab M A (spliced (backTo pos (starEach (e::rest) env))) Q E s:=by
 rw [he];show ab M A (eval e env>>=fun v=>(pure [v]:Sem (List Value))>>=fun here=>holding here (spliced (backTo pos (starEach rest env)))>>=fun vs=>pure (here++vs)) Q E s
 exact sq h fun v ag k=>aa (af (sq (aj k) fun vs aK k=>af k))
theorem vo{elts:List Expr}
  (h:ab M A (spliced (backTo pos (starEach elts env)))
   (fun vs ag=>vs.length≤sizeLine∧Q (.ref ag.heap.objs.size) {ag with heap:=ag.heap.push {cls:=.type "list",data:=.seq vs.toArray}}) E s):ab M A (eval (.List elts pos) env) Q E s:=by
 rw [arm_eval_List];exact aa (au (sq h fun vs ag k=>lf (wpAny_newObj_type k.2 (by show vs.toArray.size≤sizeLine;rw [cW];exact k.1))))
theorem sG{elts:List Expr}{k:Nat}
  (h:ab M A (spliced (backTo pos (starEach elts env)))
   (fun vs ag=>vs.length≤sizeLine∧Q (.ref ag.heap.objs.size) {ag with heap:=ag.heap.push {cls:=.type "tuple",data:=.seq vs.toArray}}) E s):ab M A (eval (.Tuple elts k pos) env) Q E s:=by
 rw [arm_eval_Tuple];exact aa (au (sq h fun vs ag k=>lf (wpAny_newObj_type k.2 (by show vs.toArray.size≤sizeLine;rw [cW];exact k.1))))
theorem evalArgs_plain{f:Value}{x:Sem Value}{rest:List (Bool×Sem Value)}{Q:Args→Shared→Prop}
  (h:ab M A (spliced ((false,x)::rest)) (fun vs s'=>Q ⟨vs,[]⟩ s') E s):ab M A (evalArgs f true ((false,x)::rest) []) Q E s:=by
 unfold evalArgs;show ab M A (spliced ((false,x)::rest)>>=fun vs=>_) Q E s
 exact sq h fun vs s' k=>aj (aa (af (aa (af (af k)))))
theorem dO{e:Expr}(h:ab M A (eval e env) Q E s):ab M A (evalPart (some e) env) Q E s:=h
theorem jf{lower upper step:Option Expr}{p:Pos}
  (h:ab M A (evalPart lower env) (fun l ag=>ab M A (evalPart upper env) (fun u aK=>ab M A (evalPart step env) (fun st bM=>
   Q (.ref bM.heap.objs.size) {bM with heap:=bM.heap.push {cls:=.type "slice",data:=.fields #[l,u,st]}}) E aK) E ag) E s):
  ab M A (eval (.Slice lower upper step p) env) Q E s:=by
 rw [arm_eval_Slice];exact sq h fun l ag k=>sq (aj k) fun u aK k=>sq (aj k) fun st bM k=>lf (wpAny_newObj_type k)
theorem ke{value slice pos}
  (h:ab M A (eval value env) (fun o ag=>ab M A (eval slice env) (fun i aK=>ab M A (subscriptTail value slice o i) Q E aK) E ag) E s):
  ab M A (eval (.Subscript value slice pos) env) Q E s:=by
 rw [eval_Subscript];exact sq h fun o ag k=>sq (aj k) fun i aK k=>aa (au k)
theorem evalPairs_cons{k v:Sem Value}{rest:List (Sem Value×Sem Value)}{Q:List (Value×Value)→Shared→Prop}
  (h:ab M A k (fun kv ag=>ab M A v (fun vv aK=>ab M A (evalPairs rest) (fun vs bM=>Q ((kv,vv)::vs) bM) E aK) E ag) E s):
  ab M A (evalPairs ((k,v)::rest)) Q E s:=by
 rw [evalPairs];exact sq h fun kv ag k=>sq (aj k) fun vv aK k=>sq (aj k) fun vs bM k=>af k
theorem A9{params:Arguments}{body:Expr}{scope:Scope}(pC:defaultsOf params env=([],[]))
  (h:ab M A (makeFunction "<lambda>" (env.qual++"<lambda>") params (.expr body) scope env [] [] [] pos pos.line) Q E s):
  ab M A (eval (.Lambda params body scope pos) env) Q E s:=by
 rw [arm_eval_Lambda,pC];exact aa (af (aa (aj (af h))))
theorem bA{self:Value}{T:String}{name:Str}{id:String}{args:List Value}{kw:List (Str×Value)}
  {Q:Option Value→Shared→Prop}(hT:s.TypeIs self T)(h:Slot T name id)
  (hc:ab M A (call (.builtin id) (self::args) kw) (fun v=>Q (some v)) E s):ab M A (callSpecial? self name args kw) Q E s:=by
 unfold callSpecial?;refine aa (lf (wpAny_specialOf hT h.lookup ?_));simp only[h.bind];exact aj (aa (af (sq hc fun v s' k=>af k)))
theorem lO{st rest}{Q:Flow→Shared→Prop}
  (h:ab M A (exec st env) (fun f s'=>match f with|.next=>ab M A (execs rest env) Q E s'|f=>Q f s') E s):
  ab M A (execs (st::rest) env) Q E s:=by
 rw [execs_cons];exact sq h fun f s' k=>by cases f<;>first|exact k|exact af k
theorem A7{test body orelse pos}{Q:Flow→Shared→Prop}
  (h:ab M A (isTrue test env (eval test env))
   (fun b aK=>if b then ab M A (execs body env) Q E aK else ab M A (execs orelse env) Q E aK) E s):
  ab M A (exec (.If test body orelse pos) env) Q E s:=by
 rw [exec_If];exact aa (au (sq h fun b aK k=>by cases b<;>exact k))
theorem kK{e pos}{Q:Flow→Shared→Prop}(h:ab M A (eval e env) (fun v=>Q (.ret v)) E s):
  ab M A (exec (.Return (some e) pos) env) Q E s:=by
 rw [exec_Return_some];exact aa (au (sq h fun v ag k=>af k))
theorem sF{test body orelse pos}{Q:Flow→Shared→Prop}
  (h:ba M A (.whileLoop test body orelse env) (fun r s'=>match r with|.ok f=>Q f s'|.error e=>cameBackBy M A env E e s') s):
  ab M A (exec (.While test body orelse pos) env) Q E s:=by
 rw [exec_While];exact aa (au (kJ h))
theorem gT{x pos' value pos}{Q:Flow→Shared→Prop}
  (h:ab M A (eval value env) (fun v ag=>ab M A (storeName env x v) (fun Y=>Q .next) E ag) E s)
  (hs:swapsWith value (some (.Name x pos')) pos.line env=pure false:=by rfl):
  ab M A (exec (.Assign [.Name x pos'] value pos) env) Q E s:=by
 rw [exec_Assign_Name env x pos' value pos hs];exact aa (au (sq h fun v ag k=>aa (au (sq (gv k) fun Y aK k=>af k))))
theorem lS{o i pos v}{Q:Unit→Shared→Prop}(h:ab M A (eval o env) (fun ov aK=>ab M A (eval i env) (fun iv bM=>ab M A (setItem ov iv v) Q E bM) E aK) E s):ab M A (assign (.Subscript o i pos) env v) Q E s:=by
 show ab M A (holding [v] (eval o env)>>=_) Q E s;exact sq (aj h) fun ov aK k=>sq (aj k) fun iv bM k=>aa (au (sq (aj k) fun Y kV k=>fj k))
theorem eO{o i pos' value pos}{Q:Flow→Shared→Prop}
  (h:ab M A (eval value env) (fun v ag=>ab M A (eval o env) (fun ov aK=>ab M A (eval i env) (fun iv bM=>
   ab M A (setItem ov iv v) (fun Y=>Q .next) E bM) E aK) E ag) E s)
  (hs:swapsWith value (some (.Subscript o i pos')) pos.line env=pure false:=by rfl):
  ab M A (exec (.Assign [.Subscript o i pos'] value pos) env) Q E s:=fun Γ p iC hc=>by
 rw [exec_Assign_Subscript o i pos' value pos hs];exact aa (au (sq h fun v ag k=>sq (lS k) fun Y aK k=>af k)) Γ p iC hc
theorem plainObj_wpAny_Assign_Attribute{o attr pos' value pos}{Q:Flow→Shared→Prop}
  (h:ab M A (eval value env) (fun v ag=>ab M A (eval o env) (fun ov aK=>ab M A (setAttr ov attr v) (fun Y=>Q .next) E aK) E ag) E s)
  (hs:swapsWith value (some (.Attribute o attr pos')) pos.line env=pure false:=by rfl):
  ab M A (exec (.Assign [.Attribute o attr pos'] value pos) env) Q E s:=fun Γ p iC hc=>by
 rw [plainObj_exec_Assign_Attribute o attr pos' value pos hs];refine aa (au (sq h fun v ag k=>aa ?_)) Γ p iC hc
 show ab M A (holding [v] (eval o env)>>=_) _ E ag;exact sq (aj k) fun ov aK k=>aa (au (sq (aj k) fun Y bM k=>fj (af k)))
theorem dz{x pos v}{Q:Unit→Shared→Prop}(h:ab M A (storeName env x v) Q E s):
  ab M A (assign (.Name x pos) env v) Q E s:=by
 rw [PySem.assign_Name];exact aa (au (gv h))
theorem assignInOrder_cons{t:Value→Sem Unit}{ts:List (Value→Sem Unit)}{x:Value}{xs:List Value}{Q:Unit→Shared→Prop}
  (h:ab M A (t x) (fun Y ag=>ab M A (assignInOrder ts xs) Q E ag) E s):ab M A (assignInOrder (t::ts) (x::xs)) Q E s:=by
 show ab M A (holding xs (t x)>>=fun Y=>assignInOrder ts xs) Q E s
 exact aa (aj h)
theorem jd{body orelse:Sem Flow}{h₀:ExceptHandler}{hs:List ExceptHandler}{Q:Flow→Shared→Prop}
  (h:ab M A body (fun f ag=>match f with|.next=>ab M A orelse Q E ag|f=>Q f ag)
   (fun e ag=>ab M A (noteFrame e env) (fun Y aK=>ab M A (setFlight e none) (fun Y bM=>ab M A (handleBy e env (h₀::hs)) Q E bM) E aK) E ag) s):
  ab M A (tryStmt false body (h₀::hs) orelse [] env) Q E s:=by
 show ab M A (body.attempt>>=_) Q E s;refine aa (j0 (aG h (fun f ag k=>?_) fun e ag k=>?_))
 ·cases f<;>first|exact k|exact af k
 ·exact sq k fun Y Y k=>aa k
end
section
variable{prog:Program}{w:World}{A:Around}{E:Value→Shared→Prop}{R:Result→Shared→Prop}{s:Shared}{env:PySem.Env}
theorem lP{body orelse:List Stmt}{h₀:ExceptHandler}{hs:List ExceptHandler}{Q:Flow→Shared→Prop}
  (h:ab (model prog w) A (execs body env) (fun f ag=>match f with|.next=>ab (model prog w) A (execs orelse env) Q E ag|f=>Q f ag)
   (fun e ag=>ab (model prog w) A (noteFrame e env) (fun Y aK=>ab (model prog w) A (setFlight e none) (fun Y bM=>ab (model prog w) A (handleBy e env (h₀::hs)) Q E bM) E aK) E ag) s):
  ab (model prog w) A (exec (.Try body (h₀::hs) orelse [] pos) env) Q E s:=by
 rw [arm_exec_Try];exact aa (au (jd h))
theorem ni{e pos}{Q:Flow→Shared→Prop}(h:ab (model prog w) A (eval e env) (fun Y=>Q .next) E s)
  (hi:interactive env=false:=by rfl)(hs:swapsWith e none pos.line env=pure false:=by rfl):
  ab (model prog w) A (exec (.Expr e pos) env) Q E s:=by
 rw [exec_Expr env e pos hi hs];exact aa (au (sq h fun v s' k=>lf (wpAny_dropValue k)))
theorem ph{stmts:List Stmt}
  (h:ab (model prog w) A (execs stmts env) (fun f s'=>R (.ok f) s') (notedBy (model prog w) A env fun e s'=>R (.error e) s') s):ba (model prog w) A (.block stmts env) R s:=by
 refine bk ?_
 show ab _ _ ((execs stmts env).onRaise (fun x=>do noteFrame x env;theTreesLotGoes x)>>=fun f=>pure (Fin.done f)) _ _ s
 exact sq (gS h) fun f s' k=>af k
theorem kL{test body orelse}(I:Nat→Shared→Prop)
  (turn:∀n s,I n s→
   ab (model prog w) A (isTrue test env (eval test env)) (fun b aK=>
    if b then ab (model prog w) A (execs body env) (fun f bM=>match f with
      |.next|.cont=>∃m,m<n∧I m bM
      |.brk=>R (.ok .next) bM
      |.ret v=>R (.ok (.ret v)) bM) (notedBy (model prog w) A env fun e s'=>R (.error e) s') aK
    else ab (model prog w) A (execs orelse env) (fun f bM=>R (.ok f) bM) (notedBy (model prog w) A env fun e s'=>R (.error e) s') aK)
    (notedBy (model prog w) A env fun e s'=>R (.error e) s') s)
  (n:Nat)(h:I n s):ba (model prog w) A (.whileLoop test body orelse env) R s:=by
 refine kM rfl I (fun n s hI=>?_) n h
 show ab _ A ((whileTurn test body orelse env).onRaise (fun x=>do noteFrame x env;theTreesLotGoes x)) _ _ s
 refine gS ?_
 simp only[whileTurn]
 refine sq (turn n s hI) fun b aK k=>?_
 cases b with
 |false=>
  simp only[Bool.false_eq_true,if_false]at k⊢
  exact sq k fun f bM k=>af k
 |true=>
  simp only[if_true]at k⊢
  refine sq k fun f bM k=>?_
  cases f<;>first|exact af ⟨rfl,k⟩|exact af k
theorem jT{target it body orelse}(I:Nat→Shared→Prop)
  (turn:∀n s,I n s→ab (model prog w) A (pyNext it) (fun r ag=>match r with
   |none=>ab (model prog w) A (execs orelse env) (fun f bM=>R (.ok f) bM) (notedBy (model prog w) A env fun e s'=>R (.error e) s') ag
   |some v=>ab (model prog w) A (letOwnedTupleGo target it v) (fun Y sW=>
     ab (model prog w) A (assign target env v) (fun Y aK=>ab (model prog w) A (execs body env) (fun f bM=>match f with
      |.next|.cont=>∃m,m<n∧I m bM
      |.brk=>R (.ok .next) bM
      |.ret v=>R (.ok (.ret v)) bM) (notedBy (model prog w) A env fun e s'=>R (.error e) s') aK) (notedBy (model prog w) A env fun e s'=>R (.error e) s') sW) (notedBy (model prog w) A env fun e s'=>R (.error e) s') ag) (notedBy (model prog w) A env fun e s'=>R (.error e) s') s)
  (n:Nat)(h:I n s):ba (model prog w) A (.forLoop target it body orelse env) R s:=by
 refine pg rfl I (fun n s hI=>?_) n h
 show ab _ A ((forTurn target it body orelse env).onRaise (fun x=>do noteFrame x env;theTreesLotGoes x)) _ _ s
 refine gS ?_
 simp only[forTurn]
 refine aa (au (aa (dw (aG (turn n s hI) (fun r ag k=>?_) fun Y Y k=>au k))))
 cases r with
 |none=>exact af (.inr ⟨rfl,ph k⟩)
 |some v=>
  refine sq k fun Y sW k=>sq k fun Y aK k=>sq k fun f bM k=>?_
  cases f<;>first|exact af (.inl ⟨rfl,k⟩)|exact af k
theorem qW{body}
  (h:ab (model prog w) (A.deeper env) (execs body env) (fun f s'=>R (.ok (.ret (match f with|.ret v=>v|_=>.none))) s')
   (fun e s'=>ab (model prog w) (A.deeper env) (leaving env e) (fun Y gN=>R (.error e) gN) (fun e' gN=>R (.error e') gN) s') s):
  ba (model prog w) A (.func body env) R s:=by
 refine bk ?_
 show ab _ (A.deeper env) (point>>=fun Y=>(execs body env).onRaise (leaving env)>>=fun f=>_) _ _ s
 refine aa (gR (aa (dw (aG h (fun f s' k=>?_) fun Y Y k=>k))))
 cases f<;>exact af k
theorem qU{e:Expr}
  (h:ab (model prog w) (A.deeper env) (eval e env) (fun v s'=>R (.ok (.ret v)) s')
   (fun e' s'=>ab (model prog w) (A.deeper env) (leaving env e') (fun Y gN=>R (.error e') gN) (fun TF gN=>R (.error TF) gN) s') s):
  ba (model prog w) A (.expr e env) R s:=by
 refine bk ?_
 show ab _ (A.deeper env) (point>>=fun Y=>(eval e env).onRaise (leaving env)>>=fun v=>ret v) _ _ s
 exact aa (gR (aa (dw (aG h (fun v s' k=>af k) fun Y Y k=>k))))
theorem uS{a:Addr}{args:Args}{o:Obj}{fd:FuncData}(hroom:A.depth<recursionLimit)
  (ho:s.heap.get? a=some o)(Du:o.data=.func fd)(hco:fd.scope.isCoroutine=false)(hgen:fd.scope.isGenerator=false)(hcd:s.heap.CodeRec fd.code fd.qualname)
  (h:ab (model prog w) A.in1 (bindArgs fd args) (fun binds ag=>
   ab (model prog w) A.in1 (newFunctionEnv fd.scope fd.globals fd.closure binds (fd.qualname++".<locals>.") (some a) fd.code none fd.builtins)
    (fun env aK=>aK.heap.NoLimit∧ba (model prog w) A (match fd.body with|.stmts b=>.func b env|.expr b=>.expr b env) R aK) (fun e s'=>R (.error e) s') ag) (fun e s'=>R (.error e) s') s):
  ba (model prog w) A (.call (.ref a) args) R s:=by
 refine bk ?_
 show ab _ A.in1 (load a>>=_) _ _ s;refine aa (lf (wpAny_load ho ?_));rw [Du];show ab _ A.in1 (callFunction a fd args) _ _ s;unfold callFunction;rw [hco,hgen];refine vh hcd fun c oc vs tq hc hoc hdc hq=>?_
 rw [hc]at h⊢;refine aa (m:=field (.ref c) 1) (lf (wpAny_field hoc hdc hq ?_))
 refine aa (af ?_)
 exact sq h fun binds ag k=>sq k fun env aK k=>aa (lf (wpAny_enterFrame k.1 hroom (af (And.intro (by cases fd.body<;>rfl) k.2))))
theorem iZ{a:Addr}{args:Args}{o:Obj}{fd:FuncData}{body:List Stmt}(hroom:A.depth<recursionLimit)
  (ho:s.heap.get? a=some o)
  (Du:o.data=.func fd)(hco:fd.scope.isCoroutine=false)(hgen:fd.scope.isGenerator=false)(hbody:fd.body=.stmts body)(hcd:s.heap.CodeRec fd.code fd.qualname)
  (h:ab (model prog w) A.in1 (bindArgs fd args) (fun binds ag=>
   ab (model prog w) A.in1 (newFunctionEnv fd.scope fd.globals fd.closure binds (fd.qualname++".<locals>.") (some a) fd.code none fd.builtins)
    (fun env aK=>aK.heap.NoLimit∧ba (model prog w) A (.func body env) R aK) (fun e s'=>R (.error e) s') ag) (fun e s'=>R (.error e) s') s):
  ba (model prog w) A (.call (.ref a) args) R s:=
 uS hroom ho Du hco hgen hcd (by rw [hbody];exact h)
theorem qV{a:Addr}{args:Args}{o:Obj}{fd:FuncData}{body:Expr}(hroom:A.depth<recursionLimit)
  (ho:s.heap.get? a=some o)
  (Du:o.data=.func fd)(hco:fd.scope.isCoroutine=false)(hgen:fd.scope.isGenerator=false)(hbody:fd.body=.expr body)(hcd:s.heap.CodeRec fd.code fd.qualname)
  (h:ab (model prog w) A.in1 (bindArgs fd args) (fun binds ag=>
   ab (model prog w) A.in1 (newFunctionEnv fd.scope fd.globals fd.closure binds (fd.qualname++".<locals>.") (some a) fd.code none fd.builtins)
    (fun env aK=>aK.heap.NoLimit∧ba (model prog w) A (.expr body env) R aK) (fun e s'=>R (.error e) s') ag) (fun e s'=>R (.error e) s') s):
  ba (model prog w) A (.call (.ref a) args) R s:=
 uS hroom ho Du hco hgen hcd (by rw [hbody];exact h)
theorem iD{elt target iter ifs rest scope pos it acc}
  (h0:ba (model prog w) A (.compLoop (.ListComp elt (⟨target,iter,ifs,0⟩::rest) scope pos) 0 it acc env) R s)
  (h:ab (model prog w) A (pyIter it) (fun UL s'=>ba (model prog w) A (.compLoop (.ListComp elt (⟨target,iter,ifs,0⟩::rest) scope pos) 0 UL acc env) R s')
   (notedBy (model prog w) A env fun x s'=>R (.error x) s') s):
  ba (model prog w) A (.compStart (.ListComp elt (⟨target,iter,ifs,0⟩::rest) scope pos) 0 it acc env) R s:=by
 refine bk ?_
 show ab _ _ ((compStart (.ListComp elt (⟨target,iter,ifs,0⟩::rest) scope pos) 0 it acc env).onRaise (fun x=>do noteFrame x env;standAt theWindowsPlace)) _ _ s
 refine pe ?_
 unfold compStart;show ab _ _ (ask>>=_) _ _ s;refine aa (lf (wpAny_askSetting ?_));refine pQ ?_;split
 ·first
   |exact aa (af (af (And.intro rfl h0)))
   |exact af (And.intro rfl h0)
 ·refine aa (dm ?_)
  show ab _ _ (standAt iter.pos>>=_) _ _ s;exact aa (au (sq h fun UL s' k=>af (And.intro rfl k)))
end
end
end Mine.Internal
namespace Mine.Internal
open PySem PySem.W PySem.Calls PyProof.Rows Builtin Builtin.ObjectAttr Builtin.Getset_descriptor
open PySem.Sem (wp)
noncomputable section
section
variable{prog:Program}{w:World}{A:Around}{E:Value→Shared→Prop}{R:Result→Shared→Prop}{s:Shared}{env:PySem.Env}
theorem gw{elts:List Expr}{x1}{pos:Pos}{t:Addr}{items:Array Value}{Q:Unit→Shared→Prop}(hh:A.handled=none)(ht:IsTup s.heap t items)
  (hn:(assignEach elts env).length=items.size)(hstar:(assignEach elts env).findIdx? (·.1)=none)
  (h:∀h',Heap.ExtBut s.heap.objs.size s.heap h'→ab (model prog w) A (assignInOrder ((assignEach elts env).map (·.2)) items.toList) Q E {s with heap:=h'}):
  ab (model prog w) A (assign (.Tuple elts x1 pos) env (.ref t)) Q E s:=by
 rw [assign_Tuple];refine aa (au ?_);unfold unpack;rw [hn,hstar];exact aa (aj (lf (unpackItems_tuple hh ht h)))
theorem pH{pairs:List (Sem Value×Sem Value)}{Q:List (Value×Value)→Shared→Prop}(h:ab (model prog w) A (evalPairs pairs) Q E s):
  ab (model prog w) A (evalPairs pairs) (fun vs s'=>vs.length=pairs.length∧Q vs s') E s:=
 fun Γ p iC hc=>wp_evalPairs_len _ Γ pairs _ _ p s (h Γ p iC hc)
theorem pb{K:Type} [DecidableEq K]{knd:KeyKind prog w K}{pairs:List (Sem Value×Sem Value)}{Q:Addr→Shared→Prop}(hlen:pairs.length≤15)
  (h:ab (model prog w) A (evalPairs pairs) (fun vs ag=>∃kvs,Carries knd vs kvs∧ag.heap.DictOf knd s.heap.objs.size []∧
   ∀h',h'.DictOf knd s.heap.objs.size (merged [] kvs)→Heap.SameBut s.heap.objs.size ag.heap h'→Q s.heap.objs.size {ag with heap:=h',toks:=ag.toks+vs.length}) E
   {s with heap:=s.heap.push {cls:=.type "dict",data:=.dict #[]}}):
  ab (model prog w) A (subDict pairs) Q E s:=by
 unfold subDict;refine aa (lf (wpAny_alloc ?_));refine aa (aj ?_);rw [if_pos hlen];refine sq (pH h) fun vs ag k=>?_
 obtain⟨hvl,kvs,hc,hm,hQ⟩:=k
 have hsz:([]:List (K×Value)).length+kvs.length≤sizeLine:=by
  have e:=hc.length
  rw [sizeLine_eq,List.length_nil];lia
 exact aj (aa (lf (wpAny_storeAll (knd:=knd) vs kvs [] ag _ hc hm hsz fun h' Lv qn=>af (af (hQ h' Lv qn)))))
theorem lQ{K:Type} [DecidableEq K]{knd:KeyKind prog w K}{keys:List (Option Expr)}{values:List Expr}{pos:Pos}{pairs:List (Sem Value×Sem Value)}{Q:Value→Shared→Prop}
  (hshape:(evalEachOpt keys env).zip ((evalEach values env).map fun v=>do let x←v;standAt pos;pure x)=pairs.map fun p=>(some p.1,p.2))(h0:pairs≠[])(hlen:pairs.length≤15)
  (h:ab (model prog w) A (evalPairs pairs) (fun vs ag=>∃kvs,Carries knd vs kvs∧ag.heap.DictOf knd s.heap.objs.size []∧
   ∀h',h'.DictOf knd s.heap.objs.size (merged [] kvs)→Heap.SameBut s.heap.objs.size ag.heap h'→Q (.ref s.heap.objs.size) {ag with heap:=h',toks:=ag.toks+vs.length}) E
   {s with heap:=s.heap.push {cls:=.type "dict",data:=.dict #[]}}):
  ab (model prog w) A (eval (.Dict keys values pos) env) Q E s:=by
 rw [arm_eval_Dict,hshape,dictDisplay_pairs pairs h0 (by lia)]
 refine aa (au (aa (pb (knd:=knd) hlen (aG h (fun vs ag k=>?_) fun Y Y e=>e))))
 refine lM (k:) fun kvs hc hm hq=>?_
 exact⟨kvs,hc,hm,fun h' a b=>af (hq h' a b)⟩
def compPost(M:Model)(A:Around)(E:Value→Shared→Prop)(use:Option (Value→Sem Unit))(Q:Value→Shared→Prop)(acc:Value)(C:Addr)(r:Result)(s':Shared):Prop:=
 match r,use with
 |.ok _,none=>∃m,s'.heap.Ns C m∧∀h',Heap.SameBut C s'.heap h'→Q acc {s' with heap:=h'}
 |.ok _,some u=>ab M A (u acc) (fun Y gN=>∃m,gN.heap.Ns C m∧∀h',Heap.SameBut C gN.heap h'→Q .none {gN with heap:=h'}) E s'
 |.error x,_=>∃m,s'.heap.Ns C m∧∀h',Heap.SameBut C s'.heap h'→∀cenv:PySem.Env,cenv.locals=C→ab M A (passOn "comprehension.variables-let-go" x cenv:Sem Value) (fun Y Y=>False) E {s' with heap:=h'}
theorem pd{M:Model}{α:Type}{c:Prop} [Decidable c]{pos:Pos}{k:PUnit→Sem α}{Q:α→Shared→Prop}(h:ab M A (k ()) Q E s):
  ab M A (if c then(standAt pos>>=k)else k ()) Q E s:=by
 split
 ·exact aa (au h)
 ·exact h
theorem g9{M:Model}{e:Expr}{scope:Scope}{pos:Pos}{CH first:Sem Value}{g:Comprehension}{gs:List Comprehension}{cl:List (Str×Addr)}{use:Option (Value→Sem Unit)}
  {Q:Value→Shared→Prop}
  (hcl:clausesOf e=g::gs)(hs:∀x,foldedSetIterable g.iter env x=pure x)(hclos:closureFor scope env=pure cl)
  (hkind:scope.kind=.function)(hnames:∀x∈scope.names,x.2=.local→scope.names.lookup x.1=some .local)
  (h:ab M A first (fun x ag=>ab M A (pyIter x) (fun it aK=>ab M A CH (fun acc bM=>
   ab M A (newFunctionEnv scope env.globals cl [] env.qual none .none (some env)) (fun cenv kV=>
    ba M A (.compStart e 0 it acc {cenv with scope:=relabel scope env}) (compPost M A E use Q acc cenv.locals) kV) E bM) E aK) E ag) E s):
  ab M A (comprehension e scope env pos CH false first use) Q E s:=by
 unfold comprehension;rw [hclos,hcl];refine sq h fun x ag h₁=>aa (au (aa (aV (hs x) (sq (aj h₁) fun it aK br=>
  pd (sq br fun acc bM dR=>aa (af (sq dR fun cenv kV iK=>?_)))))))
 dsimp only
 have hv:∀x∈(scope.names.filter fun x=>(x.2==.local||x.2==.cell)&&x.1 !=(".0":Str)).reverse,x.2=.local→
   PySem.Env.kindOf {cenv with scope:=relabel scope env} x.1=some .local:=fun x hx hl=>lookup_relabel_local (hnames x (List.mem_filter.mp (List.mem_reverse.mp hx)).1 hl)
 have WX:∀x∈(scope.names.filter fun x=>(x.2==.local||x.2==.cell)&&x.1 !=(".0":Str)).reverse.drop 1++(scope.names.filter fun x=>(x.2==.local||x.2==.cell)&&x.1 !=(".0":Str)).reverse.take 1,
   x.2=.local→PySem.Env.kindOf {cenv with scope:=relabel scope env} x.1=some .local:=fun x hx hl=>by
  rcases List.mem_append.mp hx with h1|h1
  ·exact hv x (List.mem_of_mem_drop h1) hl
  ·exact hv x (List.mem_of_mem_take h1) hl
 refine aj (aa (j0 (aj (pP (fZ iK fun r s' hr=>?_)))))
 cases r with
 |ok f=>
  cases use with
  |none=>
   refine aC (hr:) fun m hn hr=>?_
   exact aa (aj (lf (wpAny_comp_letGo (cenv:={cenv with scope:=relabel scope env}) hkind _ s' m hv hn fun h' m' Y qn=>af (hr h' qn))))
  |some u=>
   refine aa (dm (sq (aj hr) fun Y gN k=>?_))
   refine aC (k:) fun m hn k=>?_
   exact aa (lf (wpAny_comp_letGo (cenv:={cenv with scope:=relabel scope env}) hkind _ gN m WX hn fun h' m' Y qn=>af (k h' qn)))
 |error x=>
  have SG:∃m,s'.heap.Ns cenv.locals m∧∀h',Heap.SameBut cenv.locals s'.heap h'→∀Jt:PySem.Env,Jt.locals=cenv.locals→ab M A (passOn "comprehension.variables-let-go" x Jt:Sem Value) (fun Y Y=>False) E {s' with heap:=h'}:=by cases use<;>exact hr
  refine aC (SG:) fun m hn hr=>?_
  exact aa (aj (lf (wpAny_comp_letGo (cenv:={cenv with scope:=relabel scope env}) hkind _ s' m hv hn fun h' m' Y qn=>aG (hr h' qn _ rfl) (fun Y Y f=>f.elim) fun Y Y y=>y)))
def GV(M:Model)(A:Around)(R:Result→Shared→Prop)(fin:Fin)(s':Shared):Prop:=
 match fin with|.done f=>R (.ok f) s'|.again c'=>c'.quiet=true∧ba M A c' R s'
theorem fM{id:String}{args:Args}{b:Builtin}(hb:entryFor table id=some b)
  (h:ab (model prog w) (A.under (.builtin id args)) (b args) (GV (model prog w) A R) (fun e s'=>R (.error e) s') s)(hn:iG id=true:=by decide+kernel):
  ba (model prog w) A (.builtin id args) R s:=by
 refine bk ?_ hn
 show ab _ _ (match entryFor table id with|some b=>b args|none=>unsupported ((withoutEnding? id "#data").getD id)) _ _ s
 rw [hb];exact h
theorem eJ{id:String}{args:Args}{b:Builtin}(hq:(Code.builtin id args).quiet=true)(hb:entryFor table id=some b)
  (h:ab (model prog w) A.in1 (checkBuiltinCall id args) (fun Y ag=>ab (model prog w) (A.under (.builtin id args)) (b args) (GV (model prog w) A R) (fun e s'=>R (.error e) s') ag)
   (fun e s'=>R (.error e) s') s)(hn:iG id=true:=by decide+kernel):ba (model prog w) A (.call (.builtin id) args) R s:=by
 refine bk ?_
 show ab _ A.in1 (checkBuiltinCall id args>>=fun Y=>pure (Fin.again (.builtin id args))) _ _ s
 exact sq h fun Y ag k=>af (And.intro hq (fM hb k hn))
theorem fw{id:String}{args:Args}{b:Builtin}(hq:plainId id=true)(hb:entryFor table id=some b)
  (h:ab (model prog w) A.in1 (checkBuiltinCall id args) (fun Y ag=>ab (model prog w) A.in1 (b args) (GV (model prog w) A R) (fun e s'=>R (.error e) s') ag)
   (fun e s'=>R (.error e) s') s)(hn:iG id=true:=by decide+kernel):ba (model prog w) A (.call (.builtin id) args) R s:=
 eJ (plainId_quiet hq args) hb (by rw [Around.under_plainId hq args];exact h) hn
theorem cf{T:String}{name:Str}
  {id:String}{b:Builtin}{self:Value}{rest:List Value}{Q:Value→Shared→Prop}(h:Slot T name id)(hT:s.TypeIs self T)
  (hb:entryFor table id=some b)
  (hc:ab (model prog w) A.in1 (b ⟨self::rest,[]⟩) (fun fin s'=>∃v,fin=.done (.ret v)∧Q v s') E s)
  (ha:argsOk id ⟨self::rest,[]⟩:=by rfl)(hn:iG id=true:=by decide+kernel):
  ab (model prog w) A (call (.builtin id) (self::rest)) Q E s:=by
 refine dC (fw h.plain hb (lf (h.check _ _ _ _ _ _ _ _ hT ha (aG hc (fun fin s' k=>?_) fun Y Y k=>k))) hn)
 obtain⟨v,rfl,hv⟩:=k;exact hv
theorem zb{C:Addr}{h:Heap}{g:_}{d:_}{t:Tok}{os:_}{rest:List Value}{kw:List (Str×Value)}{init:Value}(Y1:Makes (model prog w) h C)(hi:Looks (model prog w) h (typeLookup (.ref C) "__init__") (some init))
  (hb:∀self,Looks (model prog w) h (bindSpecial init self) (init,[self]))(hne:(some init !=some (Value.builtin "object.__init__"))=true∨(rest=[]∧kw=[]))
  (hq:ba (model prog w) (A.under (.builtin "type.__call__" ⟨.ref C::rest,kw⟩)) (.call init ⟨.ref (h.objs.size+1)::rest,kw⟩) (InitBack (h.objs.size+1) R) ⟨(h.push emptyDict).push (instObj C h.objs.size),g,d,t,os⟩):
  ba (model prog w) A (.call (.ref C) ⟨rest,kw⟩) R ⟨h,g,d,t,os⟩:=by
 have Y':=Y1
 obtain⟨⟨oc,od,cd,sl,hC,e1,e2,e4⟩,made,base,self,top,P5,typ⟩:=Y1
 refine bk ?_
 show ab _ _ (callAny (.ref C) _) _ _ _;refine aa (m:=load C) (lf (wpAny_load hC ?_))
 show ab _ _ (callAny.viaDunder (.ref C) _) _ _ _;unfold callAny.viaDunder;refine aa (lf (P5.at ?_))
 dsimp only
 rw [tc_bind];refine aa (af (aa (af ?_)));refine af (a:=Fin.again (.call (.builtin "type.__call__") ⟨.ref C::rest,kw⟩)) (And.intro rfl ?_)
 refine eJ (Code.quiet_builtin _ (by decide+kernel)) entry_typeCall (lf (check_slot tc_kind tc_split typ (tc_args _ _ _) ?_))
 have hm:Looks (model prog w) h (mroOf (.ref C)) cd.mro:=((Looks.ld (part:=none) hC).andThen .now).andThen .now
 show ab _ _ (mroOf (.ref C)>>=fun m=>_) _ _ _
 refine aa (lf (hm.at ?_))
 rw [e4];show ab _ _ (Bind.madeBy (.ref C)>>=fun m=>_) _ _ _
 refine aa (lf (made.at ?_))
 refine aa (af (aa (aj ?_)))
 refine lf (PySem.wpAny_call (new_K Y' hi hne ?_))
 have k:∀b o,h.get? b=some o→((h.push emptyDict).push (instObj C h.objs.size)).get? b=some o:=fun b o e=>cP _ (cP _ e)
 have hx:((h.push emptyDict).push (instObj C h.objs.size)).get? (h.objs.size+1)=some (instObj C h.objs.size):=by heap_get
 have t1:Looks (model prog w) ((h.push emptyDict).push (instObj C h.objs.size)) (typeOf (.ref (h.objs.size+1))) (.ref C):=(Looks.ld hx).andThen .now
 have s1:=self.keeps k
 have i1:=hi.keeps k
 have b1:=(hb (.ref (h.objs.size+1))).keeps k
 show ab _ _ (isInstance (.ref (h.objs.size+1)) (.ref C)>>=fun m=>_) _ _ _
 refine aa (lf ((t1.andThen s1:Looks _ _ (isInstance (.ref (h.objs.size+1)) (.ref C)) true).at ?_))
 simp only[Bool.not_true,Bool.false_eq_true,if_false]
 refine aa (aj ?_)
 unfold callSpecial?;refine aa (lf ((t1.andThen i1:Looks _ _ (specialOf (.ref (h.objs.size+1)) "__init__") (some init)).at ?_));refine aj (aa (lf (b1.at ?_)));refine aa (dC (fZ hq fun r s' z=>?_))
 rcases r with e|(v|_|_|_)<;>first|exact z|exact z.elim|skip
 obtain⟨rfl,z⟩:=z
 exact af (af z)
end
end
end Mine.Internal
namespace Mine.Internal
open PySem PySem.W PyProof.Rows PySem.SeqAt
noncomputable section
variable{A:Around}{E Q:Value→Shared→Prop}{M M' Z:Addr→Prop}{b r:Bool}{d i j k kind n:Nat}{es:List DictEntry}{h h':Heap}{hi:Option Int}{o:Obj}{pos:Pos}{ras vs:List Value}{rv:Value}{st:Shared}{tg:List Nat}{value x x1:Expr}{xs:List Expr}{α β:Type}{ν:Nat→Int}{J σ':List Addr}
inductive IE where
 |c (i:Int)|v (k:Nat)
 |add (a b:IE)|sub (a b:IE)|mul (a b:IE)|div (a b:IE)|mod (a b:IE)
 |tab (l:List Int) (a:IE)
 deriving Inhabited
noncomputable def IE.eval(ν:Nat→Int):IE→Int
 |.c i=>i
 |.v k=>ν k
 |.add a b=>a.eval ν+b.eval ν
 |.sub a b=>a.eval ν - b.eval ν
 |.mul a b=>a.eval ν*b.eval ν
 |.div a b=>Int.fdiv (a.eval ν) (b.eval ν)
 |.mod a b=>Int.fmod (a.eval ν) (b.eval ν)
 |.tab l a=>l.getD (a.eval ν).toNat 0
inductive AV where
 |none
 |bool (b:Bool)
 |int (e:IE)
 |str (s:List Nat)
 |bytes (b:List IE)
 |t (l:List AV)
 |eF (l:List (List Nat×AV))
 |ref (i:Nat)
 |fn (k:Nat)
 |cls (k:Nat)
 |bi (k:Nat)
 |vi (k:Nat) (bR:List AV)
 |xT (a b:Int)
 |mG (i:Nat)
 deriving Inhabited
variable{a v:AV}{as l:List AV}
inductive AO where
 |list (l:List AV)
 |inst (c d:Nat)
 |ns (l:List (Nat×AV))
 |cu (b:List IE)
 deriving Inhabited
inductive Op where
 |add|sub|mul|div|mod|pow
 deriving Inhabited
inductive Cm where
 |eq|ne|lt|le|gt|ge|is|t9|o8|CG
 deriving Inhabited
inductive CE where
 |n (x:Nat)
 |val (v:AV)
 |t (es:List CE)
 |list (es:List CE)
 |eF (ks:List (List Nat)) (es:List CE)
 |bin (op:Op) (a b:CE)
 |cmp (op:Cm) (a b:CE)
 |chain (op:Cm) (a b:CE) (jU:Cm) (c:CE)
 |and (es:List CE)
 |or (es:List CE)
 |not (a:CE)
 |neg (a:CE)
 |ite (t a b:CE)
 |attr (o:CE) (n:Nat)
 |idx (o i:CE)
 |iE (o:CE) (lo hi:Option CE)
 |rev (o:CE)
 |call (f:CE) (as:List CE)
 |bG (o:CE) (n:Nat) (as:List CE)
 |comp (elt:CE) (tg:List Nat) (flat:Bool) (it:CE) (ifs:List CE)
 |gM (elt:CE) (tg:List Nat) (flat:Bool) (ifs:List CE) (src:AV) (k:Nat) (acc:List AV)
 |lam (k:Nat) (bR:List Nat)
 |eZ (x:Nat)
 |bad (n:Nat)
 deriving Inhabited
variable{e:CE}
inductive CS where
 |b8 (x:Nat) (e:CE)
 |cQ (xs:List Nat) (e:CE)
 |aT (o:CE) (n:Nat) (e:CE)
 |jZ (o i:CE) (e:CE)
 |i9 (o lo hi:CE) (e:CE)
 |iX (o i:CE) (x:Nat) (e:CE)
 |ex (e:CE)
 |ret (e:CE)
 |ite (t:CE) (a b:List CS)
 |for (tg:List Nat) (flat:Bool) (kind:Nat) (it:CE) (b:List CS)
 |hH (tg:List Nat) (flat:Bool) (kind:Nat) (src:AV) (k:Nat) (b:List CS)
 |while (t:CE) (b:List CS)
 |try (b:List CS)
 |pass
 |bad (n:Nat)
 deriving Inhabited
inductive aE(α:Type)where
 |nil
 |node (v:Option α) (l r:aE α)
 deriving Inhabited
namespace aE
noncomputable def get(t:aE α):Nat→Option α:=
 aE.rec (motive:=fun Y=>Nat→Option α) (fun Y=>.none) (fun v Y Y gl gr i=>
  Nat.rec (motive:=fun Y=>Option α) v (fun Y Y=>Nat.rec (motive:=fun Y=>Option α) (gr (Nat.sub (Nat.div i 2) 1)) (fun Y Y=>gl (Nat.div i 2)) (Nat.mod i 2)) i) t
noncomputable def QN(f:aE α→Nat→α→aE α)(i:Nat)(o:α)(v:Option α)(l r:aE α):aE α:=
 Nat.rec (motive:=fun Y=>aE α) (.node (some o) l r) (fun Y Y=>Nat.rec (motive:=fun Y=>aE α) (.node v l (f r (Nat.sub (Nat.div i 2) 1) o)) (fun Y Y=>.node v (f l (Nat.div i 2) o) r) (Nat.mod i 2)) i
def put(n:Nat):aE α→Nat→α→aE α:=
 Nat.rec (motive:=fun Y=>aE α→Nat→α→aE α) (fun t Y Y=>t) (fun Y f t i o=>aE.rec (motive:=fun Y=>aE α) (QN f i o .none .nil .nil) (fun v l r Y Y=>QN f i o v l r) t) n
def ofList(l:List α):aE α:=(l.foldl (fun(p:aE α×Nat) o=>(put 40 p.1 p.2 o,p.2+1)) (.nil,0)).1
end aE
noncomputable def iB(a b:Int):Bool:=PySem.W.Z.eqB a b
noncomputable def i6(a b:Int):Bool:=PySem.W.Z.ltB a b
noncomputable def jO(a b:Int):Bool:=PySem.W.Z.leB a b
noncomputable def lEq:List Nat→List Nat→Bool
 |[],m=>(match m with|[]=>true|_::_=>false)
 |a::x,m=>match m with|[]=>false|b::y=>match Nat.beq a b with|true=>lEq x y|false=>false
abbrev Rg:=List (Int×Int)
variable{rg:Rg}
def mJ(a b:Int):Int:=match jO a b with|true=>a|false=>b
def imax(a b:Int):Int:=match jO a b with|true=>b|false=>a
noncomputable def C0:List Int→Int→Int
 |[],m=>m
 |a::l,m=>C0 l (mJ a m)
noncomputable def C1:List Int→Int→Int
 |[],m=>m
 |a::l,m=>C1 l (imax a m)
noncomputable def ck(b:Bool)(r:Option α):Option α:=match b with|true=>r|false=>none
noncomputable def gg(o:Option α)(g:α→Option β):Option β:=match o with|some a=>g a|none=>none
noncomputable def kg(l:List α)(g:α→List α→Option β):Option β:=match l with|a::r=>g a r|[]=>none
noncomputable def gQ(e:IE):Option Int:=match e with|.c i=>some i|_=>none
noncomputable def ER(e:IE):Option Nat:=match e with|.v i=>some i|_=>none
noncomputable def mI:IE→IE
 |.c i=>.c i|.v k=>.v k|.add a _=>a|.sub a _=>a|.mul a _=>a|.div a _=>a|.mod a _=>a|.tab _ a=>a
noncomputable def rB:IE→IE
 |.c i=>.c i|.v k=>.v k|.add _ a=>a|.sub _ a=>a|.mul _ a=>a|.div _ a=>a|.mod _ a=>a|.tab _ a=>a
noncomputable def Iy:IE→List Int
 |.c _=>[]|.v _=>[]|.add _ _=>[]|.sub _ _=>[]|.mul _ _=>[]|.div _ _=>[]|.mod _ _=>[]|.tab l _=>l
noncomputable def MN(e:IE)(k:Nat):Bool:=Nat.beq e.ctorIdx k
noncomputable def gk(rg:Rg):IE→Option (Int×Int)
 |.c i=>some (i,i)
 |.v k=>rg[k]?
 |.add a b=>gg (gk rg a) fun p=>gg (gk rg b) fun q=>some (p.1+q.1,p.2+q.2)
 |.sub a b=>gg (gk rg a) fun p=>gg (gk rg b) fun q=>some (p.1 - q.2,p.2 - q.1)
 |.mul a b=>gg (gk rg a) fun p=>gg (gQ b) fun i=>ck (jO 0 i) (some (p.1*i,p.2*i))
 |.div a b=>gg (gk rg a) fun p=>gg (gQ b) fun i=>ck (i6 0 i) (some (Int.fdiv p.1 i,Int.fdiv p.2 i))
 |.mod a b=>gg (gk rg a) fun Y=>gg (gQ b) fun i=>ck (i6 0 i) (some (0,i - 1))
 |.tab l a=>gg (gk rg a) fun p=>ck (jO 0 p.1&&i6 p.2 l.length) (kg ((l.take (p.2+1).toNat).drop p.1.toNat) fun x r=>some (C0 r x,C1 r x))
def l8(e:IE):Option (IE×Int):=ck (MN e 2) (gg (gQ (rB e)) fun i=>some (mI e,i))
def uZ(x:IE)(j:Int):IE:=match gQ x with
 |some i=>.c (i+j)
 |none=>match l8 x with
  |some p=>(match iB (p.2+j) 0 with|true=>p.1|false=>.add p.1 (.c (p.2+j)))
  |none=>match iB j 0 with|true=>x|false=>.add x (.c j)
def Mx(x y:IE):IE:=match l8 x with
 |some p=>(match l8 y with|some q=>uZ (.add p.1 q.1) (p.2+q.2)|none=>.add (.add p.1 y) (.c p.2))
 |none=>match l8 y with|some q=>.add (.add x q.1) (.c q.2)|none=>.add x y
def mkAdd(x y:IE):IE:=match gQ y with
 |some j=>uZ x j
 |none=>match gQ x with|some i=>uZ y i|none=>Mx x y
def mkSub(x y:IE):IE:=match gQ y with
 |some j=>uZ x (-j)
 |none=>.sub x y
def mulC(x:IE)(j:Int):IE:=match gQ x with
 |some i=>.c (i*j)
 |none=>match iB j 0 with
  |true=>.c 0
  |false=>match iB j 1 with
   |true=>x
   |false=>match l8 x with
    |some p=>.add (.mul p.1 (.c j)) (.c (p.2*j))
    |none=>.mul x (.c j)
def mkMul(x y:IE):IE:=match gQ y with
 |some j=>mulC x j
 |none=>match gQ x with|some i=>mulC y i|none=>.mul x y
def both(x y:IE)(g:Int→Int→α)(d:α):α:=match gQ x with
 |some i=>(match gQ y with|some j=>g i j|none=>d)
 |none=>d
def IW(x y:IE):IE:=both x y (fun i j=>.c (Int.fdiv i j)) (.div x y)
noncomputable def oO(m:Int):IE→IE
 |.add a b=>mkAdd (oO m a) (oO m b)
 |.mul a b=>(match gQ b with
  |some k=>(match iB (Int.emod k m) 0 with|true=>.c 0|false=>.mul a b)
  |none=>.mul a b)
 |.c i=>.c (Int.emod i m)
 |.v k=>.v k
 |.sub a b=>.sub a b
 |.div a b=>.div a b
 |.mod a b=>.mod a b
 |.tab l a=>.tab l a
def Ce(rg:Rg)(m:Int)(x y:IE):IE:=match gk rg y with
 |some p=>(match i6 (p.2 - Int.fdiv p.1 m*m) m with
  |true=>uZ y (-(Int.fdiv p.1 m*m))
  |false=>.mod x (.c m))
 |none=>.mod x (.c m)
def IV(rg:Rg)(x y:IE):IE:=both x y (fun i j=>.c (Int.fmod i j)) (match gQ y with
 |some m=>(match i6 0 m with
  |true=>Ce rg m x (oO m x)
  |false=>.mod x (.c m))
 |none=>.mod x y)
structure AS where
 hp:aE AO
 n:Nat
 rg:Rg
 deriving Inhabited
variable{s s':AS}
inductive aH(α:Type)where
 |ok (a:α)
 |fork (k:Nat) (a b:IE) (t f:aH α)
 |bad (n:Nat)
 deriving Inhabited
namespace aH
noncomputable def bind(r:aH α)(g:α→aH β):aH β:=
 aH.rec (motive:=fun Y=>aH β) (fun a=>g a) (fun k a b Y Y ht hf=>.fork k a b ht hf) (fun n=>.bad n) r
end aH
noncomputable def fz:Rg→Nat→Int×Int→Rg
 |[],_,_=>[]
 |x::r,k,y=>match Nat.beq k 0 with
  |true=>y::r
  |false=>x::fz r (k - 1) y
def pT(x:IE):Option (Nat×Int):=match ER x with
 |some k=>some (k,0)
 |none=>gg (l8 x) fun p=>gg (ER p.1) fun k=>some (k,p.2)
def dZ(kind:Nat)(i j:Int):Bool:=match kind with
 |0=>iB i j
 |1=>i6 i j
 |_=>jO i j
noncomputable def pick(sw b:Bool)(r1 r2 r3 r4:Rg):Rg:=match sw with
 |false=>(match b with|true=>r1|false=>r2)
 |true=>match b with|true=>r3|false=>r4
def mV(rg:Rg)(kind:Nat)(sw:Bool)(k:Nat)(m:Int)(b:Bool):Rg:=
 match rg[k]? with
 |none=>rg
 |some p=>match kind with
  |0=>(match b with
   |true=>fz rg k (imax p.1 m,mJ p.2 m)
   |false=>match iB p.1 m with
    |true=>fz rg k (p.1+1,p.2)
    |false=>match iB p.2 m with
     |true=>fz rg k (p.1,p.2 - 1)
     |false=>rg)
  |1=>pick sw b (fz rg k (p.1,mJ p.2 (m - 1))) (fz rg k (imax p.1 m,p.2)) (fz rg k (imax p.1 (m+1),p.2)) (fz rg k (p.1,mJ p.2 m))
  |_=>pick sw b (fz rg k (p.1,mJ p.2 m)) (fz rg k (imax p.1 (m+1),p.2)) (fz rg k (imax p.1 m,p.2)) (fz rg k (p.1,mJ p.2 (m - 1)))
def narrow(rg:Rg)(kind:Nat)(x y:IE)(b:Bool):Rg:=match gQ y with
 |some j=>(match pT x with
  |some p=>mV rg kind false p.1 (j - p.2) b
  |none=>rg)
 |none=>match gQ x with
  |some j=>(match pT y with
   |some p=>mV rg kind true p.1 (j - p.2) b
   |none=>rg)
  |none=>rg
noncomputable def GF:List Int→List Int→Bool
 |[],m=>(match m with|[]=>true|_::_=>false)
 |a::x,m=>match m with|[]=>false|b::y=>match iB a b with|true=>GF x y|false=>false
def sU(k:Nat)(y:IE)(f g:IE→Bool):Bool:=match MN y k with
 |true=>(match f (mI y)with|true=>g (rB y)|false=>false)
 |false=>false
noncomputable def fU:IE→IE→Bool
 |.c i,y=>(match gQ y with|some j=>iB i j|none=>false)
 |.v i,y=>(match ER y with|some j=>Nat.beq i j|none=>false)
 |.add a b,y=>sU 2 y (fun c=>fU a c) fun c=>fU b c
 |.sub a b,y=>sU 3 y (fun c=>fU a c) fun c=>fU b c
 |.mul a b,y=>sU 4 y (fun c=>fU a c) fun c=>fU b c
 |.div a b,y=>sU 5 y (fun c=>fU a c) fun c=>fU b c
 |.mod a b,y=>sU 6 y (fun c=>fU a c) fun c=>fU b c
 |.tab l a,y=>sU 7 y (fun c=>fU a c) fun Y=>GF l (Iy y)
def L2(p q:Int×Int)(a b:IE):Option Bool:=match i6 p.2 q.1||i6 q.2 p.1 with
 |true=>some false
 |false=>match iB p.1 p.2&&(iB q.1 q.2&&iB p.1 q.1)with
  |true=>some true
  |false=>ck (fU a b) (some true)
def L1(p q:Int×Int):Option Bool:=match i6 p.2 q.1 with
 |true=>some true
 |false=>ck (jO q.2 p.1) (some false)
def L0(p q:Int×Int):Option Bool:=match jO p.2 q.1 with
 |true=>some true
 |false=>ck (i6 q.2 p.1) (some false)
def rW(rg:Rg)(kind:Nat)(a b:IE):Option Bool:=
 gg (gk rg a) fun p=>gg (gk rg b) fun q=>match kind with
  |0=>L2 p q a b
  |1=>L1 p q
  |_=>L0 p q
noncomputable def rF(m:Int):List Int→Bool
 |[]=>true
 |x::r=>match iB x m with|true=>false|false=>rF m r
def tabAt(rg:Rg)(a b:IE):Option (IE×IE):=ck (MN a 7) (gg (ER (mI a)) fun k=>gg (gQ b) fun m=>gg rg[k]? fun p=>ck (jO 0 p.1&&i6 p.2 (Iy a).length) (kg (((Iy a).take (p.2+1).toNat).drop p.1.toNat) fun x r=>
 ck (iB x m&&rF m r) (some (.v k,.c p.1))))
def BX(rg:Rg)(kind:Nat)(a b:IE):Option (IE×IE):=match kind with
 |0=>tabAt rg a b
 |_=>none
def yC(kind:Nat)(x y:IE)(s:AS):aH (Bool×AS):=.fork kind x y (.ok (true,{s with rg:=narrow s.rg kind x y true})) (.ok (false,{s with rg:=narrow s.rg kind x y false}))
def ask'(kind:Nat)(a b:IE)(s:AS):aH (Bool×AS):=match rW s.rg kind a b with
 |some r=>.ok (r,s)
 |none=>match BX s.rg kind a b with
  |some p=>yC 0 p.1 p.2 s
  |none=>yC kind a b s
def ask(kind:Nat)(a b:IE)(s:AS):aH (Bool×AS):=both a b (fun i j=>.ok (dZ kind i j,s)) (ask' kind a b s)
noncomputable def oR:Nat→IE→AS→aH (Int×AS)
 |0,_,_=>.bad 1
 |n+1,e,s=>match gQ e with
  |some i=>.ok (i,s)
  |none=>match gk s.rg e with
   |none=>.bad 2
   |some p=>match iB p.1 p.2 with
    |true=>.ok (p.1,s)
    |false=>(ask 0 e (.c p.1) s).bind fun(b,s)=>match b with
     |true=>.ok (p.1,s)
     |false=>oR n e s
abbrev Env:=List (Nat×AV)
variable{env:PySem.Env}{ρ:Env}
noncomputable def az:Env→Nat→Option AV
 |[],_=>none
 |p::r,x=>match Nat.beq p.1 x with|true=>some p.2|false=>az r x
noncomputable def bV:Env→Nat→AV→Env
 |[],x,v=>[(x,v)]
 |p::r,x,v=>match Nat.beq p.1 x with|true=>(x,v)::r|false=>p::bV r x v
noncomputable def jn:AV→Bool
 |.bi _=>false
 |.mG _=>false
 |_=>true
noncomputable def gG:List (Nat×Nat)→Nat→Option Nat
 |[],_=>none
 |p::r,x=>match Nat.beq p.1 x with|true=>some p.2|false=>gG r x
inductive Fl where
 |nx
 |rt (v:AV)
 deriving Inhabited
structure Fn where
 ps:List Nat
 df:List AV
 body:List CS
 deriving Inhabited
structure Pg where
 fs:aE Fn
 gH:aE (List Nat×List Nat×CE)
 cs:aE (Nat×List (Nat×Nat))
 gl:aE AV
 nf:Nat
 sm:Nat→List AV→AS→Option (aH (AV×AS))
 smd:Nat
variable{P:Pg}
structure Ih where
 ev:CE→Env→AS→aH (AV×AS)
 ts:CE→Env→AS→aH (Bool×AS)
 xs:List CS→Env→AS→aH (Fl×Env×AS)
 ca:AV→List AV→AS→aH (AV×AS)
variable{ih:Ih}
noncomputable def AS.get(s:AS)(i:Nat):Option AO:=s.hp.get i
noncomputable def AS.new(s:AS)(o:AO):Nat×AS:=(s.n,{s with hp:=aE.put 40 s.hp s.n o,n:=s.n+1})
noncomputable def AS.alloc(s:AS)(o:AO):aH (Nat×AS):=match Nat.blt s.n 1000000 with
 |true=>.ok (s.new o)
 |false=>.bad 95
noncomputable def AS.upd(s:AS)(i:Nat)(o:AO):AS:={s with hp:=aE.put 40 s.hp i o}
structure pa where
 append:Nat
 extend:Nat
 pop:Nat
 split:Nat
 find:Nat
 join:Nat
 get:Nat
 init:Nat
variable{N:pa}
noncomputable def jP(n:Nat)(r:aH α):aH α:=match Nat.ble n 100000 with
 |true=>r
 |false=>.bad 96
def newList(s:AS)(l:List AV):aH (AV×AS):=jP l.length<|(s.alloc (.list l)).bind fun(i,s)=>.ok (.ref i,s)
noncomputable def listOf(s:AS):AV→Option (List AV)
 |.ref i=>match s.get i with
  |some (.list l)=>some l
  |_=>none
 |_=>none
noncomputable def instOf(s:AS):AV→Option (Nat×Nat×List (Nat×AV))
 |.ref i=>match s.get i with
  |some (.inst c d)=>match s.get d with
   |some (.ns l)=>some (c,d,l)
   |_=>none
  |_=>none
 |_=>none
noncomputable def r9(s:AS):AV→Option (List IE)
 |.ref i=>match s.get i with
  |some (.cu b)=>some b
  |_=>none
 |_=>none
abbrev RV:=aH (AV×AS)
section
noncomputable def one(as:List AV)(g:AV→aH β):aH β:=match as with
 |[a]=>g a
 |_=>.bad 30
noncomputable def two(as:List AV)(g:AV→AV→aH β):aH β:=match as with
 |[a,b]=>g a b
 |_=>.bad 30
noncomputable def cV(a:AV)(g:IE→aH β):aH β:=match a with
 |.int e=>g e
 |_=>.bad 30
noncomputable def onStr(a:AV)(g:List Nat→aH β):aH β:=match a with
 |.str x=>g x
 |_=>.bad 42
noncomputable def F8(a:AV)(g:List IE→aH β):aH β:=match a with
 |.bytes x=>g x
 |_=>.bad 42
noncomputable def qh(a:AV)(g:List AV→aH β):aH β:=match a with
 |.t x=>g x
 |_=>.bad 42
noncomputable def A0(s:AS)(a:AV)(gl:List AV→aH β)(gb:List IE→aH β):aH β:=match a with
 |.ref i=>match s.get i with
  |some (.list l)=>gl l
  |some (.cu l)=>gb l
  |_=>.bad 21
 |_=>.bad 30
def kH(s:AS)(a:AV)(g:List AV→aH β):aH β:=match listOf s a with
 |some l=>g l
 |none=>.bad 45
noncomputable def iff(b:Bool)(r r':aH β):aH β:=match b with
 |true=>r
 |false=>r'
noncomputable def gd(b:Bool)(r:aH β):aH β:=match b with
 |true=>r
 |false=>.bad 12
noncomputable def bQ(o:Option α)(g:α→aH β):aH β:=match o with
 |some a=>g a
 |none=>.bad 44
end
noncomputable def clamp(n:Nat)(i:Int):Nat:=match i with
 |.ofNat k=>Nat.min k n
 |.negSucc k=>n - (k+1)
noncomputable def cut(l:List α)(lo hi:Nat):List α:=(l.take hi).drop lo
noncomputable def index(n:Nat)(i:Int):Option Nat:=match i with
 |.ofNat k=>match Nat.blt k n with|true=>some k|false=>none
 |.negSucc k=>match Nat.ble (k+1) n with|true=>some (n - (k+1))|false=>none
noncomputable def strLt:List Nat→List Nat→Bool
 |[],[]=>false
 |[],_::_=>true
 |_::_,[]=>false
 |a::x,b::y=>match Nat.blt a b with
  |true=>true
  |false=>match Nat.beq a b with
   |true=>strLt x y
   |false=>false
noncomputable def gF(c:Nat):List Nat→Bool
 |[]=>false
 |b::y=>match Nat.beq b c with|true=>true|false=>gF c y
noncomputable def rU:List IE→List IE→AS→aH (Bool×AS)
 |[],m,s=>(match m with|[]=>.ok (true,s)|_::_=>.ok (false,s))
 |a::x,m,s=>match m with
  |[]=>.ok (false,s)
  |b::y=>(ask 0 a b s).bind fun(r,s)=>match r with
   |true=>rU x y s
   |false=>.ok (false,s)
def eqB(a b:AV)(s:AS):aH (Bool×AS):=match a with
 |.int x=>cV b fun y=>ask 0 x y s
 |.str x=>onStr b fun y=>.ok (lEq x y,s)
 |.bytes x=>F8 b fun y=>rU x y s
 |_=>.bad 3
noncomputable def DW:List AV→List AV→AS→aH (Bool×AS)
 |[],m,s=>(match m with|[]=>.ok (true,s)|_::_=>.ok (false,s))
 |a::x,m,s=>match m with
  |[]=>.ok (false,s)
  |b::y=>(eqB a b s).bind fun(r,s)=>(DW x y s).bind fun(r',s)=>.ok (r&&r',s)
def Jn(x y:List AV)(s:AS):aH (Bool×AS):=iff (Nat.beq x.length y.length) (DW x y s) (.ok (false,s))
def Tq(a b:AV)(s:AS):aH (Bool×AS):=match a with
 |.t x=>qh b fun y=>DW x y s
 |.ref i=>kH s (.ref i) fun x=>kH s b fun y=>Jn x y s
 |a=>eqB a b s
noncomputable def qP(a:AV):List AV→AS→aH (Bool×AS)
 |[],s=>.ok (false,s)
 |b::y,s=>(eqB b a s).bind fun(r,s)=>(qP a y s).bind fun(r',s)=>.ok (r||r',s)
noncomputable def EE(a:IE):List IE→AS→aH (Bool×AS)
 |[],s=>.ok (false,s)
 |b::y,s=>(ask 0 a b s).bind fun(r,s)=>match r with
  |true=>.ok (true,s)
  |false=>EE a y s
noncomputable def gL:List (List Nat×AV)→List Nat→Option AV
 |[],_=>none
 |p::r,k=>match lEq p.1 k with|true=>some p.2|false=>gL r k
noncomputable def Gj(r:aH (Bool×AS))(neg:Bool):aH (AV×AS):=r.bind fun(b,s)=>.ok (.bool (b !=neg),s)
def UP(x:IE)(y:List IE)(s:AS):aH (Bool×AS):=bQ (gk s.rg x) fun p=>gd (jO 0 p.1&&i6 p.2 256) (EE x y s)
def UO(x y:List Nat)(s:AS):aH (Bool×AS):=gd (Nat.beq x.length 1) (.ok (gF (x.headD 0) y,s))
def isIn(a b:AV)(s:AS):aH (Bool×AS):=match b with
 |.t l=>qP a l s
 |.ref i=>kH s (.ref i) fun l=>qP a l s
 |.str y=>onStr a fun x=>UO x y s
 |.bytes y=>cV a fun x=>UP x y s
 |.eF l=>onStr a fun x=>.ok ((gL l x).isSome,s)
 |_=>.bad 7
noncomputable def isNone(a b:AV)(s:AS):aH (Bool×AS):=match b with
 |.none=>(match a with
  |.none=>.ok (true,s)
  |.bool _=>.ok (false,s)
  |.int _=>.ok (false,s)
  |.str _=>.ok (false,s)
  |.t _=>.ok (false,s)
  |.ref _=>.ok (false,s)
  |_=>.bad 8)
 |_=>.bad 8
def Js(a b:AV)(s:AS):aH (Bool×AS):=match a with
 |.int x=>cV b fun y=>ask 2 x y s
 |.str x=>onStr b fun y=>.ok (!strLt y x,s)
 |_=>.bad 9
def compare(op:Cm)(a b:AV)(s:AS):aH (Bool×AS):=match op with
 |.eq=>Tq a b s
 |.ne=>(Tq a b s).bind fun(r,s)=>.ok (!r,s)
 |.is=>isNone a b s
 |.t9=>(isNone a b s).bind fun(r,s)=>.ok (!r,s)
 |.o8=>isIn a b s
 |.CG=>(isIn a b s).bind fun(r,s)=>.ok (!r,s)
 |.lt=>cV a fun x=>cV b fun y=>ask 1 x y s
 |.le=>Js a b s
 |.gt=>cV a fun x=>cV b fun y=>ask 1 y x s
 |.ge=>cV a fun x=>cV b fun y=>ask 2 y x s
noncomputable def mS(l:List α):Nat→List α
 |0=>[]
 |n+1=>l++mS l n
def fm(rg:Rg)(e:IE):Bool:=match gk rg e with
 |some p=>i6 (-18446744073709551616) p.1&&i6 p.2 18446744073709551616
 |none=>false
def mid(rg:Rg)(e:IE):Bool:=match gk rg e with
 |some p=>i6 (-(2^8192:Nat)) p.1&&i6 p.2 (2^8192:Nat)
 |none=>false
def QQ(e:IE)(g:Int→RV):RV:=bQ (gQ e) g
def RS(i j:Int)(s:AS):RV:=match j with
 |.ofNat n=>gd (Nat.ble n 200&&fm s.rg (.c i)) (.ok (.int (.c (i^n)),s))
 |.negSucc _=>.bad 11
def IJ(op:Op)(x y:IE)(s:AS):RV:=match op with
 |.add=>.ok (.int (mkAdd x y),s)
 |.sub=>.ok (.int (mkSub x y),s)
 |.mul=>gd (fm s.rg y||(fm s.rg x||(mid s.rg x&&mid s.rg y))) (.ok (.int (mkMul x y),s))
 |.div=>QQ y fun j=>gd (i6 0 j&&i6 j 1073741824) (.ok (.int (IW x (.c j)),s))
 |.mod=>QQ y fun j=>gd (i6 0 j) (.ok (.int (IV s.rg x (.c j)),s))
 |.pow=>QQ x fun i=>QQ y fun j=>RS i j s
def Qd(x:List IE)(y:IE)(s:AS):RV:=(oR 40 y s).bind fun(n,s)=>gd (Nat.ble 1 x.length&&(Nat.ble x.length 16&&(jO (-100000) n&&jO n 100000))) (.ok (.bytes (mS x n.toNat),s))
def RW(op:Op)(x:List IE)(b:AV)(s:AS):RV:=match op with
 |.add=>F8 b fun y=>jP (x.length+y.length) (.ok (.bytes (x++y),s))
 |.mul=>cV b fun y=>Qd x y s
 |_=>.bad 11
noncomputable def Cu(op:Op)(r:RV):RV:=match op with
 |.add=>r
 |_=>.bad 11
def binop(op:Op)(a b:AV)(s:AS):RV:=match a with
 |.int x=>cV b fun y=>IJ op x y s
 |.bytes x=>RW op x b s
 |.t x=>Cu op (qh b fun y=>jP (x.length+y.length) (.ok (.t (x++y),s)))
 |.ref i=>Cu op (kH s (.ref i) fun x=>kH s b fun y=>newList s (x++y))
 |_=>.bad 11
def getIdx(l:List α)(i:IE)(s:AS):aH (α×AS):=jP l.length<|(oR 40 i s).bind fun(i,s)=>bQ (index l.length i) fun k=>bQ l[k]? fun x=>.ok (x,s)
noncomputable def constsOf:List IE→Option (List Int)
 |[]=>some []
 |a::r=>gg (gQ a) fun i=>(constsOf r).map (i::·)
def De(l:List IE)(i:IE)(s:AS):RV:=(getIdx l i s).bind fun(x,s)=>.ok (.int x,s)
def t8(l:List IE)(i:IE)(s:AS):Option RV:=match gQ i with
 |some _=>none
 |none=>gg (gk s.rg i) fun p=>gg (constsOf l) fun vs=>ck (i6 p.1 p.2&&(jO 0 p.1&&i6 p.2 l.length)) (some (jP l.length (.ok (.int (.tab vs i),s))))
def item(o i:AV)(s:AS):RV:=match o with
 |.t l=>cV i fun i=>getIdx l i s
 |.str l=>cV i fun i=>(getIdx l i s).bind fun(x,s)=>.ok (.str [x],s)
 |.bytes l=>cV i fun i=>(match t8 l i s with|some r=>r|none=>De l i s)
 |.eF l=>onStr i fun k=>bQ (gL l k) fun v=>.ok (v,s)
 |.ref r=>cV i fun i=>kH s (.ref r) fun l=>getIdx l i s
 |_=>.bad 17
def bound(d:Nat)(n:Nat)(o:Option AV)(s:AS):aH (Nat×AS):=match o with
 |none=>.ok (d,s)
 |some v=>cV v fun e=>(oR 40 e s).bind fun(i,s)=>.ok (clamp n i,s)
def sliceOf(l:List α)(lo hi:Option AV)(s:AS):aH (List α×AS):=
 jP l.length<|(bound 0 l.length lo s).bind fun(a,s)=>(bound l.length l.length hi s).bind fun(b,s)=>.ok (cut l a b,s)
def ru(o:AV)(lo hi:Option AV)(s:AS):RV:=A0 s o (fun l=>(sliceOf l lo hi s).bind fun(x,s)=>newList s x) fun l=>(sliceOf l lo hi s).bind fun(x,s)=>(s.alloc (.cu x)).bind fun(i,s)=>.ok (.ref i,s)
def slice(o:AV)(lo hi:Option AV)(s:AS):RV:=match o with
 |.t l=>(sliceOf l lo hi s).bind fun(x,s)=>.ok (.t x,s)
 |.str l=>(sliceOf l lo hi s).bind fun(x,s)=>.ok (.str x,s)
 |.bytes l=>(sliceOf l lo hi s).bind fun(x,s)=>.ok (.bytes x,s)
 |o=>ru o lo hi s
noncomputable def intOf(a:AV):Option IE:=match a with|.int e=>some e|_=>none
noncomputable def strOf(a:AV):Option (List Nat):=match a with|.str x=>some x|_=>none
noncomputable def L9(a:AV):Option (List IE):=match a with|.bytes x=>some x|_=>none
noncomputable def allOf(f:AV→Option α):List AV→Option (List α)
 |[]=>some []
 |a::r=>gg (f a) fun x=>gg (allOf f r) fun xs=>some (x::xs)
def xm(rg:Rg)(e:IE):Bool:=match gk rg e with
 |some p=>jO 0 p.1&&i6 p.2 256
 |none=>false
noncomputable def Fw(a:IE):List IE→IE
 |[]=>a
 |e::r=>Fw (mkAdd a e) r
def tZ(n:Nat)(s:AS):RV:=jP n (.ok (.int (.c n),s))
def Vk(a:AV)(s:AS):RV:=match a with
 |.t l=>tZ l.length s
 |.str l=>tZ l.length s
 |.bytes l=>tZ l.length s
 |a=>A0 s a (fun l=>tZ l.length s) fun l=>tZ l.length s
def Vi(a:AV)(s:AS):RV:=cV a fun a=>(oR 40 a s).bind fun(a,s)=>.ok (.xT 0 a,s)
def Qb(a b:AV)(s:AS):RV:=cV a fun a=>cV b fun b=>(oR 40 a s).bind fun(a,s)=>(oR 40 b s).bind fun(b,s)=>.ok (.xT a b,s)
def Vh(a:AV)(s:AS):RV:=A0 s a (fun l=>bQ (allOf intOf l) fun b=>gd (b.all (xm s.rg)) (jP l.length (.ok (.bytes b,s)))) fun b=>jP b.length (.ok (.bytes b,s))
def Ve(a:AV)(s:AS):RV:=match a with
 |.bytes b=>jP b.length ((s.alloc (.cu b)).bind fun(i,s)=>.ok (.ref i,s))
 |_=>.bad 30
def Vc(a:AV)(s:AS):RV:=A0 s a (fun l=>newList s l) fun Y=>.bad 24
def U9(a:AV)(s:AS):RV:=match a with
 |.t l=>.ok (.t l,s)
 |a=>A0 s a (fun l=>jP l.length (.ok (.t l,s))) fun Y=>.bad 25
def U8(a:AV)(s:AS):RV:=match a with
 |.eF l=>match l with
  |[]=>newList s []
  |_=>.bad 30
 |_=>.bad 30
def U7(a b:AV)(s:AS):RV:=cV a fun a=>cV b fun b=>(ask 1 a b s).bind fun(r,s)=>.ok (.int (match r with|true=>b|false=>a),s)
def Qa(a b:AV)(s:AS):RV:=cV a fun a=>cV b fun b=>(ask 1 b a s).bind fun(r,s)=>.ok (.int (match r with|true=>b|false=>a),s)
def P9(a:AV)(s:AS):RV:=cV a fun a=>(ask 1 a (.c 0) s).bind fun(r,s)=>.ok (.int (match r with|true=>mkSub (.c 0) a|false=>a),s)
def Ml(a:AV)(s:AS):RV:=match a with
 |.str l=>match l with
  |[d]=>match Nat.ble 48 d&&Nat.ble d 57 with
   |true=>.ok (.int (.c (.ofNat (d - 48))),s)
   |false=>.bad 26
  |_=>.bad 30
 |.bool b=>.ok (.int (.c (match b with|true=>1|false=>0)),s)
 |a=>cV a fun a=>.ok (.int a,s)
def P8(a:AV)(s:AS):RV:=A0 s a (fun l=>bQ (allOf intOf l) fun es=>.ok (.int (Fw (.c 0) es),s)) fun Y=>.bad 28
noncomputable def Hu(a b:AV)(s:AS):RV:=match b with
 |.bi 5=>match a with
  |.t _=>.ok (.bool true,s)
  |.none=>.ok (.bool false,s)
  |.bool _=>.ok (.bool false,s)
  |.bytes _=>.ok (.bool false,s)
  |.str _=>.ok (.bool false,s)
  |_=>.bad 30
 |_=>.bad 30
def pN(g:AV→AS→RV)(as:List AV)(s:AS):RV:=one as fun a=>g a s
def Hr(g:AV→AV→AS→RV)(as:List AV)(s:AS):RV:=two as fun a b=>g a b s
def yQ(g:AV→AS→RV)(g':AV→AV→AS→RV)(as:List AV)(s:AS):RV:=match as with
 |[a]=>g a s
 |as=>two as fun a b=>g' a b s
noncomputable def Hq(_:List AV)(_:AS):RV:=.bad 30
def U5:List (List AV→AS→RV):=[pN Vk,yQ Vi Qb,pN Vh,pN Ve,pN Vc,pN U9,pN U8,Hq,Hq,Hr U7,Hr Qa,pN P9,pN Ml,pN P8,Hr Hu]
noncomputable def K3:List (List AV→AS→RV)→Nat→List AV→AS→RV
 |[],_=>Hq
 |f::r,k=>match k with
  |0=>f
  |k+1=>K3 r k
def builtin(k:Nat)(as:List AV)(s:AS):RV:=K3 U5 k as s
def Km(a b:Int)(k:Nat):aH (Option AV):=gd (jO (-1000000) a&&(jO a 1000000&&(jO (-1000000) b&&jO b 1000000))) (.ok (match i6 (a+k) b with|true=>some (.int (.c (a+k)))|false=>none))
def Rz(s:AS)(src:AV)(k:Nat):aH (Option AV):=match src with
 |.t l=>.ok l[k]?
 |.bytes l=>.ok (l[k]?.map .int)
 |.str l=>.ok (l[k]?.map fun c=>.str [c])
 |.eF l=>(match l with|[]=>.ok none|_=>.bad 31)
 |.xT a b=>Km a b k
 |.ref i=>kH s (.ref i) fun l=>.ok l[k]?
 |_=>.bad 31
def Ry(s:AS)(src:AV)(k:Nat):aH (Option AV):=match src with
 |.bytes l=>.ok (l[k]?.map fun v=>.t [.int (.c k),.int v])
 |a=>kH s a fun l=>.ok (l[k]?.map fun v=>.t [.int (.c k),v])
def x8(x y:Option AV):Option AV:=gg x fun x=>gg y fun y=>some (.t [x,y])
def Rx(s:AS)(src:AV)(k:Nat):aH (Option AV):=qh src fun l=>two l fun a b=>kH s a fun l=>kH s b fun m=>.ok (x8 l[k]? m[k]?)
def iQ(s:AS)(kind:Nat)(src:AV)(k:Nat):aH (Option AV):=match kind with
 |0=>Rz s src k
 |1=>Ry s src k
 |2=>Rx s src k
 |_=>.bad 34
def iy(tg:List Nat)(flat:Bool)(v:AV)(ρ:Env):Option Env:=match flat with
 |true=>(match tg with|[x]=>some (bV ρ x v)|_=>none)
 |false=>match v with
  |.t l=>ck (Nat.beq tg.length l.length) (some ((tg.zip l).foldl (fun ρ p=>bV ρ p.1 p.2) ρ))
  |_=>none
def bindArgs(ps:List Nat)(df:List AV)(as:List AV):Option Env:=
 ck (Nat.ble as.length ps.length&&Nat.ble ps.length (as.length+df.length)) (some (ps.zip (as++df.drop (as.length+df.length - ps.length))))
noncomputable def qC(ih:Ih):List CE→Env→AS→aH (List AV×AS)
 |[],_,s=>.ok ([],s)
 |e::r,ρ,s=>(ih.ev e ρ s).bind fun(v,s)=>(qC ih r ρ s).bind fun(vs,s)=>.ok (v::vs,s)
noncomputable def Tj(ih:Ih):Option CE→Env→AS→aH (Option AV×AS)
 |none,_,s=>.ok (none,s)
 |some e,ρ,s=>(ih.ev e ρ s).bind fun(v,s)=>.ok (some v,s)
def truthy(v:AV)(s:AS):aH (Bool×AS):=match v with
 |.bool b=>.ok (b,s)
 |v=>kH s v fun l=>jP l.length (.ok (match l with|[]=>false|_=>true,s))
noncomputable def DR(ih:Ih):List CE→Env→AS→aH (AV×AS)
 |[],_,_=>.bad 37
 |[e],ρ,s=>ih.ev e ρ s
 |e::r,ρ,s=>(ih.ev e ρ s).bind fun(v,s)=>(truthy v s).bind fun(b,s)=>match b with
  |true=>DR ih r ρ s
  |false=>.ok (v,s)
noncomputable def LS(ih:Ih):List CE→Env→AS→aH (AV×AS)
 |[],_,_=>.bad 37
 |[e],ρ,s=>ih.ev e ρ s
 |e::r,ρ,s=>(ih.ev e ρ s).bind fun(v,s)=>(truthy v s).bind fun(b,s)=>match b with
  |false=>LS ih r ρ s
  |true=>.ok (v,s)
noncomputable def BQ(ih:Ih):List CE→Env→AS→aH (Bool×AS)
 |[],_,s=>.ok (true,s)
 |e::r,ρ,s=>(ih.ts e ρ s).bind fun(b,s)=>match b with
  |true=>BQ ih r ρ s
  |false=>.ok (false,s)
noncomputable def Kb(ih:Ih):List CE→Env→AS→aH (Bool×AS)
 |[],_,s=>.ok (false,s)
 |e::r,ρ,s=>(ih.ts e ρ s).bind fun(b,s)=>match b with
  |false=>Kb ih r ρ s
  |true=>.ok (true,s)
noncomputable def xN(ih:Ih):List CE→Env→AS→aH (Bool×AS)
 |[],_,s=>.ok (true,s)
 |e::r,ρ,s=>(ih.ts e ρ s).bind fun(b,s)=>match b with
  |true=>xN ih r ρ s
  |false=>.ok (false,s)
noncomputable def xg(ρ:Env):List Nat→Option (List AV)
 |[]=>some []
 |x::r=>gg (az ρ x) fun v=>gg (xg ρ r) fun vs=>some (v::vs)
def xf(op:Cm)(jU:Cm)(a b:AV)(s:AS)(c:AS→aH (AV×AS)):aH (Bool×AS):=
 (compare op a b s).bind fun(r,s)=>match r with
  |false=>.ok (false,s)
  |true=>(c s).bind fun(d,s)=>compare jU b d s
inductive Callee where
 |own (g:AV) (first:List AV)
 |kind
 |no (k:Nat)
def jQ(v:AV)(o:Option AV)(m:Option Nat):Callee:=match o with
 |some g=>(match m with
  |none=>(match jn g with
   |true=>.own g []
   |false=>.no 57)
  |some _=>.no 55)
 |none=>match m with
  |some k=>.own (.fn k) [v]
  |none=>.no 55
def yO(P:Pg)(v:AV)(n:Nat)(c:Nat)(fl:List (Nat×AV)):Callee:=match P.cs.get c with
 |some p=>jQ v (az fl n) (gG p.2 n)
 |none=>.no 56
def lD(P:Pg)(s:AS)(v:AV)(n:Nat):Callee:=match instOf s v with
 |some p=>yO P v n p.1 p.2.2
 |none=>match listOf s v with
  |some _=>.kind
  |none=>.no 58
def callee(P:Pg)(s:AS)(v:AV)(n:Nat):Callee:=match v with
 |.str _=>.kind
 |.bytes _=>.kind
 |.eF _=>.kind
 |v=>lD P s v n
def CT(x:List Nat)(vs:List AV)(s:AS):RV:=one vs fun a=>onStr a fun y=>match Nat.ble 1 y.length with
    |true=>jP x.length (jP (Txt.split ⟨x.toArray⟩ ⟨y.toArray⟩).length (newList s ((Txt.split ⟨x.toArray⟩ ⟨y.toArray⟩).map fun(t:Str)=>AV.str t.cps.toList)))
    |false=>.bad 42
def IY(x:List Nat)(vs:List AV)(s:AS):RV:=two vs fun a b=>onStr a fun y=>cV b fun i=>match i with
    |.c k=>.ok (.int (.c (Txt.find3 ⟨x.toArray⟩ ⟨y.toArray⟩ k)),s)
    |_=>.bad 43
def IX(x:List Nat)(vs:List AV)(s:AS):RV:=one vs fun w=>kH s w fun l=>bQ (allOf strOf l) fun xs=>iff (JoinOk ⟨x.toArray⟩ (xs.map fun l=>⟨l.toArray⟩))
    (.ok (.str (Txt.join ⟨x.toArray⟩ (xs.map fun l=>⟨l.toArray⟩)).cps.toList,s)) (.bad 44)
def CV(x:List IE)(vs:List AV)(s:AS):RV:=one vs fun w=>kH s w fun l=>bQ (allOf L9 l) fun xs=>gd (Nat.ble 2 l.length&&Nat.beq x.length 0) (jP xs.flatten.length (jP l.length (.ok (.bytes xs.flatten,s))))
def Oz(l:List (List Nat×AV))(vs:List AV)(s:AS):RV:=two vs fun a d=>onStr a fun k=>.ok ((gL l k).getD d,s)
def OB(i:Nat)(l:List AV)(vs:List AV)(s:AS):RV:=one vs fun w=>jP (l.length+1) (.ok (.none,s.upd i (.list (l++[w]))))
def OA(i:Nat)(l:List AV)(vs:List AV)(s:AS):RV:=one vs fun w=>kH s w fun m=>jP (l.length+m.length) (.ok (.none,s.upd i (.list (l++m))))
def Ox(i:Nat)(l:List AV)(vs:List AV)(s:AS):RV:=match vs with
 |[]=>bQ l.getLast? fun w=>jP l.length (.ok (w,s.upd i (.list l.dropLast)))
 |_=>.bad 54
def Sk(N:pa)(x:List Nat)(n:Nat)(vs:List AV)(s:AS):RV:=
 iff (Nat.beq n N.split) (CT x vs s) (iff (Nat.beq n N.find) (IY x vs s) (iff (Nat.beq n N.join) (IX x vs s) (.bad 46)))
def Oy(P:Pg)(N:pa)(i:Nat)(l:List AV)(n:Nat)(vs:List AV)(s:AS):RV:=
 iff (Nat.ble P.nf i) (iff (Nat.beq n N.append) (OB i l vs s) (iff (Nat.beq n N.extend) (OA i l vs s) (iff (Nat.beq n N.pop) (Ox i l vs s) (.bad 54)))) (.bad 51)
def yf(P:Pg)(N:pa)(v:AV)(n:Nat)(vs:List AV)(s:AS):RV:=match v with
 |.str x=>Sk N x n vs s
 |.bytes x=>iff (Nat.beq n N.join) (CV x vs s) (.bad 49)
 |.eF l=>iff (Nat.beq n N.get) (Oz l vs s) (.bad 50)
 |.ref i=>match s.get i with
  |some (.list l)=>Oy P N i l n vs s
  |_=>.bad 58
 |_=>.bad 59
noncomputable def Sa(m:Option Nat)(r:aH β):aH β:=match m with
 |none=>r
 |some _=>.bad 39
def Qh(P:Pg)(v:AV)(n:Nat)(s:AS):RV:=bQ (instOf s v) fun q=>bQ (P.cs.get q.1) fun p=>Sa (gG p.2 n) (bQ (az q.2.2 n) fun w=>gd (jn w) (.ok (w,s)))
def cF(P:Pg)(N:pa)(ih:Ih)(e:CE)(ρ:Env)(s:AS):aH (AV×AS):=match e with
 |.n x=>bQ (az ρ x) fun v=>.ok (v,s)
 |.val v=>.ok (v,s)
 |.t es=>(qC ih es ρ s).bind fun(vs,s)=>jP vs.length (.ok (.t vs,s))
 |.list es=>(qC ih es ρ s).bind fun(vs,s)=>newList s vs
 |.eF ks es=>(qC ih es ρ s).bind fun(vs,s)=>jP vs.length (.ok (.eF (ks.zip vs),s))
 |.bin op a b=>(ih.ev a ρ s).bind fun(x,s)=>(ih.ev b ρ s).bind fun(y,s)=>binop op x y s
 |.cmp op a b=>(ih.ev a ρ s).bind fun(x,s)=>(ih.ev b ρ s).bind fun(y,s)=>Gj (compare op x y s) false
 |.chain _ _ _ _ _=>.bad 38
 |.and es=>DR ih es ρ s
 |.or es=>LS ih es ρ s
 |.not _=>.bad 38
 |.neg a=>(ih.ev a ρ s).bind fun(v,s)=>cV v fun e=>.ok (.int (mkSub (.c 0) e),s)
 |.ite t a b=>(ih.ts t ρ s).bind fun(r,s)=>match r with
  |true=>ih.ev a ρ s
  |false=>ih.ev b ρ s
 |.attr o n=>(ih.ev o ρ s).bind fun(v,s)=>Qh P v n s
 |.idx o i=>(ih.ev o ρ s).bind fun(v,s)=>(ih.ev i ρ s).bind fun(w,s)=>item v w s
 |.iE o lo hi=>(ih.ev o ρ s).bind fun(v,s)=>(Tj ih lo ρ s).bind fun(a,s)=>(Tj ih hi ρ s).bind fun(b,s)=>slice v a b s
 |.rev o=>(ih.ev o ρ s).bind fun(v,s)=>kH s v fun l=>newList s l.reverse
 |.call f as=>(ih.ev f ρ s).bind fun(g,s)=>(qC ih as ρ s).bind fun(vs,s)=>ih.ca g vs s
 |.bG o n as=>(ih.ev o ρ s).bind fun(v,s)=>match callee P s v n with
  |.own g first=>(qC ih as ρ s).bind fun(vs,s)=>ih.ca g (first++vs) s
  |.kind=>(qC ih as ρ s).bind fun(vs,s)=>yf P N v n vs s
  |.no k=>.bad k
 |.comp elt tg flat it ifs=>(ih.ev it ρ s).bind fun(v,s)=>ih.ev (.gM elt tg flat ifs v 0 []) ρ s
 |.gM elt tg flat ifs src k acc=>(iQ s 0 src k).bind fun x=>match x with
  |none=>newList s acc.reverse
  |some v=>bQ (iy tg flat v ρ) fun ρ'=>(xN ih ifs ρ' s).bind fun(b,s)=>match b with
    |false=>ih.ev (.gM elt tg flat ifs src (k+1) acc) ρ s
    |true=>(ih.ev elt ρ' s).bind fun(w,s)=>ih.ev (.gM elt tg flat ifs src (k+1) (w::acc)) ρ s
 |.lam k cs=>bQ (xg ρ cs) fun vs=>.ok (.vi k vs,s)
 |.eZ x=>bQ (P.gl.get x) fun v=>.ok (v,s)
 |.bad n=>.bad (100000+n)
def plainT(ih:Ih)(e:CE)(ρ:Env)(s:AS):aH (Bool×AS):=(ih.ev e ρ s).bind fun(v,s)=>truthy v s
def stepT(ih:Ih)(e:CE)(ρ:Env)(s:AS):aH (Bool×AS):=match e with
 |.not a=>(ih.ts a ρ s).bind fun(b,s)=>.ok (!b,s)
 |.and es=>BQ ih es ρ s
 |.or es=>Kb ih es ρ s
 |.cmp op a b=>(ih.ev a ρ s).bind fun(x,s)=>(ih.ev b ρ s).bind fun(y,s)=>compare op x y s
 |.chain op a b jU c=>(ih.ev a ρ s).bind fun(x,s)=>(ih.ev b ρ s).bind fun(y,s)=>xf op jU x y s fun s=>ih.ev c ρ s
 |.n x=>plainT ih (.n x) ρ s
 |.attr o n=>plainT ih (.attr o n) ρ s
 |.call f as=>plainT ih (.call f as) ρ s
 |.bG o n as=>plainT ih (.bG o n as) ρ s
 |_=>.bad 36
noncomputable def setAt:List α→Nat→α→List α
 |[],_,_=>[]
 |x::r,k,y=>match Nat.beq k 0 with
  |true=>y::r
  |false=>x::setAt r (k - 1) y
abbrev RX:=aH (Fl×Env×AS)
noncomputable def Co(a:AV)(g:Nat→RX):RX:=match a with
 |.ref i=>g i
 |_=>.bad 68
def NA(P:Pg)(w:AV)(n:Nat)(v:AV)(ρ:Env)(s:AS):RX:=bQ (instOf s w) fun q=>bQ (P.cs.get q.1) fun p=>Sa (gG p.2 n) (gd (Nat.ble P.nf q.2.1&&Nat.ble q.2.2.length 500) (.ok (.nx,ρ,s.upd q.2.1 (.ns (bV q.2.2 n v)))))
def Ks(P:Pg)(w j v:AV)(ρ:Env)(s:AS):RX:=Co w fun r=>cV j fun j=>kH s (.ref r) fun l=>gd (Nat.ble P.nf r) (jP l.length ((oR 40 j s).bind fun(j,s)=>bQ (index l.length j) fun k=>.ok (.nx,ρ,s.upd r (.list (setAt l k v)))))
def setB(r:Nat)(l x:List IE)(a b:AV)(ρ:Env)(s:AS):RX:=jP l.length<|(bound 0 l.length (some a) s).bind fun(a,s)=>(bound 0 l.length (some b) s).bind fun(b,s)=>gd (Nat.ble a b&&Nat.beq x.length (b - a)) (.ok (.nx,ρ,s.upd r (.cu (l.take a++x++l.drop b))))
def Nz(P:Pg)(w a b v:AV)(ρ:Env)(s:AS):RX:=Co w fun r=>F8 v fun x=>bQ (r9 s (.ref r)) fun l=>gd (Nat.ble P.nf r) (setB r l x a b ρ s)
def bX(P:Pg)(ih:Ih)(c:CS)(ρ:Env)(s:AS):aH (Fl×Env×AS):=match c with
 |.b8 x e=>(ih.ev e ρ s).bind fun(v,s)=>.ok (.nx,bV ρ x v,s)
 |.cQ xs e=>(ih.ev e ρ s).bind fun(v,s)=>qh v fun l=>gd (Nat.beq xs.length l.length) (.ok (.nx,(xs.zip l).foldl (fun ρ p=>bV ρ p.1 p.2) ρ,s))
 |.aT o n e=>(ih.ev e ρ s).bind fun(v,s)=>(ih.ev o ρ s).bind fun(w,s)=>NA P w n v ρ s
 |.jZ o i e=>(ih.ev e ρ s).bind fun(v,s)=>(ih.ev o ρ s).bind fun(w,s)=>(ih.ev i ρ s).bind fun(j,s)=>Ks P w j v ρ s
 |.iX o i x e=>(ih.ev e ρ s).bind fun(v,s)=>qh v fun l=>two l fun v u=>(ih.ev o ρ s).bind fun(w,s)=>(ih.ev i ρ s).bind fun(j,s)=>Ks P w j v (bV ρ x u) s
 |.i9 o lo hi e=>(ih.ev e ρ s).bind fun(v,s)=>(ih.ev o ρ s).bind fun(w,s)=>(ih.ev lo ρ s).bind fun(a,s)=>(ih.ev hi ρ s).bind fun(b,s)=>Nz P w a b v ρ s
 |.ex e=>(ih.ev e ρ s).bind fun(_,s)=>.ok (.nx,ρ,s)
 |.ret e=>(ih.ev e ρ s).bind fun(v,s)=>.ok (.rt v,ρ,s)
 |.ite t a b=>(ih.ts t ρ s).bind fun(r,s)=>match r with
  |true=>ih.xs a ρ s
  |false=>ih.xs b ρ s
 |.for tg flat kind it b=>(ih.ev it ρ s).bind fun(v,s)=>ih.xs [.hH tg flat kind v 0 b] ρ s
 |.hH tg flat kind src k b=>(iQ s kind src k).bind fun x=>match x with
  |none=>.ok (.nx,ρ,s)
  |some v=>bQ (iy tg flat v ρ) fun ρ=>(ih.xs b ρ s).bind fun(f,ρ,s)=>match f with
    |.rt v=>.ok (.rt v,ρ,s)
    |.nx=>ih.xs [.hH tg flat kind src (k+1) b] ρ s
 |.while t b=>(ih.ts t ρ s).bind fun(r,s)=>match r with
  |false=>.ok (.nx,ρ,s)
  |true=>(ih.xs b ρ s).bind fun(f,ρ,s)=>match f with
   |.rt v=>.ok (.rt v,ρ,s)
   |.nx=>ih.xs [.while t b] ρ s
 |.try b=>ih.xs b ρ s
 |.pass=>.ok (.nx,ρ,s)
 |.bad n=>.bad (200000+n)
def B2(P:Pg)(ih:Ih):List CS→Env→AS→aH (Fl×Env×AS)
 |[],ρ,s=>.ok (.nx,ρ,s)
 |c::r,ρ,s=>(bX P ih c ρ s).bind fun(f,ρ,s)=>match f with
  |.rt v=>.ok (.rt v,ρ,s)
  |.nx=>match r with
   |[]=>.ok (.nx,ρ,s)
   |_=>ih.xs r ρ s
def nN(P:Pg)(ih:Ih)(k:Nat)(as:List AV)(s:AS):aH (AV×AS):=bQ (P.fs.get k) fun f=>bQ (bindArgs f.ps f.df as) fun ρ=>(ih.xs f.body ρ s).bind fun(f,_,s)=>.ok (match f with|.rt v=>v|.nx=>.none,s)
noncomputable def Wm(o:Option RV)(r:RV):RV:=match o with
 |some q=>q
 |none=>r
noncomputable def Nx(P:Pg)(ok:Bool)(k:Nat)(as:List AV)(s:AS):Option RV:=match ok with
 |true=>P.sm k as s
 |false=>none
noncomputable def I1(v:AV):Bool:=Nat.beq v.ctorIdx 0
def xR(P:Pg)(ih:Ih)(ok:Bool)(g:AV)(as:List AV)(s:AS):aH (AV×AS):=match g with
 |.fn k=>bQ (P.fs.get k) fun Y=>Wm (Nx P ok k as s) (nN P ih k as s)
 |.cls c=>bQ (P.cs.get c) fun p=>(s.alloc (.ns [])).bind fun(d,s)=>(s.alloc (.inst c d)).bind fun(x,s)=>(nN P ih p.1 (.ref x::as) s).bind fun(v,s)=>gd (I1 v) (.ok (.ref x,s))
 |.vi k bR=>bQ (P.gH.get k) fun q=>bQ (bindArgs q.1 [] as) fun ρ=>ih.ev q.2.2 (ρ++q.2.1.zip bR) s
 |.bi k=>builtin k as s
 |_=>.bad 77
def step(P:Pg)(N:pa)(ih:Nat→Ih)(d:Nat):Ih:=⟨fun e ρ s=>cF P N (ih d) e ρ s,fun e ρ s=>stepT (ih d) e ρ s,fun c ρ s=>B2 P (ih d) c ρ s,fun g as s=>match d with|0=>.bad 94|d+1=>xR P (ih d) (Nat.ble P.smd d) g as s⟩
noncomputable def run(P:Pg)(N:pa):Nat→Nat→Ih
 |0=>fun Y=>⟨fun Y Y Y=>.bad 90,fun Y Y Y=>.bad 91,fun Y Y Y=>.bad 92,fun Y Y Y=>.bad 93⟩
 |n+1=>step P N (run P N n)
structure Tx where
 nm:Nat→Str
 tabs:List (Addr×Addr)
 lam:Nat→FuncData→Prop
 bR:Nat→List Nat
 t4:Addr→Pos→Str
 attrs:List Nat
structure Cx extends Tx where
 prog:Program
 w:World
 ν:Nat→Int
 U:Nat→Value
 hb:Heap
 mL:Nat→Addr
 dq:Nat→Addr
 nf:Nat
 f0:aE AO
 K:Frag
variable{C:Cx}
noncomputable def U6:List Value:=[.builtin "len",.type "range",.type "bytes",.type "bytearray",.type "list",.type "tuple",.builtin "sorted",.type "enumerate",.type "zip",.builtin "max",.builtin "min",.builtin "abs",.type "int",.builtin "sum",.builtin "isinstance",.builtin "chr",.builtin "ord"]
noncomputable def vj(k:Nat):Value:=U6.getD k .none
theorem DA{P:Value→Prop}(n:P .none)(l:List Value):l.foldr (fun v r=>P v∧r) True→∀k,P (l.getD k .none):=by
 induction l with
 |nil=>exact fun Y Y=>n
 |cons a l ih=>exact fun h k=>Nat.casesOn k h.1 fun k=>ih h.2 k
noncomputable def aR(l:List Nat):Str:=⟨l.toArray⟩
noncomputable def cz(ν:Nat→Int)(e:IE):UInt8:=UInt8.ofNat (e.eval ν).toNat
def bq(ν:Nat→Int)(l:List IE):Prop:=∀e∈l,0≤e.eval ν∧e.eval ν<256
def aS(ν:Nat→Int)(l:List IE):Array UInt8:=(l.map (cz ν)).toArray
noncomputable abbrev fP(vs:List Value)(n:Nat):Obj:={cls:=.type "tuple",data:=.seq vs.toArray n}
noncomputable abbrev bZ(vs:List Value)(n:Nat):Obj:={cls:=.type "list",data:=.seq vs.toArray n}
noncomputable abbrev bK(es:List DictEntry)(n:Nat):Obj:={cls:=.type "dict",data:=.dict es.toArray n}
noncomputable abbrev de(b:Array UInt8):Obj:={cls:=.type "bytearray",data:=.bytearray b 0}
noncomputable abbrev Aa(c dx:Addr):Obj:={cls:=.ref c,dict:=some dx,data:=.plain}
section
def dI(M:Addr→Prop)(h:Heap)(cl:List (Str×Addr))(nm:Nat→Str)(l:List Nat):List Addr→List Value→Prop:=List.rec (motive:=fun Y=>List Addr→List Value→Prop) (fun cs vs=>cs=[]∧vs=[])
 (fun x Y r cs vs=>∃c E0 v vg o,cs=c::E0∧vs=v::vg∧cl.lookup (nm x)=some c∧¬M c∧h.get? c=some o∧o.data=.cell (some v)∧r E0 vg) l
abbrev VV:=Value→Prop
abbrev HY:=List Value→Prop
abbrev MT:=List DictEntry→Prop
section
variable(C:Cx)(J:List Addr)(M:Addr→Prop)(h:Heap)
noncomputable def BF(e:IE):VV:=fun rv=>∃t,rv=.int (e.eval C.ν) t
def BD(l:List Nat):VV:=fun rv=>∃t,rv=.str (aR l) t
def rp(l:List IE):VV:=fun rv=>bq C.ν l∧∃t,rv=.bytes (aS C.ν l) t
noncomputable def BC(r:HY):VV:=fun rv=>∃a vs n,rv=.ref a∧¬M a∧h.get? a=some (fP vs n)∧r vs
noncomputable def BG(r:MT):VV:=fun rv=>∃a es n,rv=.ref a∧¬M a∧(a==sysModules)=false∧h.get? a=some (bK es n)∧r es
structure xB(k:Nat)(r:HY)(a c:Addr)(o oc:Obj)(fd:FuncData)(vs:Array Value)(t:Tok)(cs:List Addr)(rvs:List Value):Prop where
 out:¬M a
 at_:h.get? a=some o
 cls:o.cls=.type "function"
 dat:o.data=.func fd
 lam:C.lam k fd
 code:fd.code=.ref c
 N6:¬M c
 TR:h.get? c=some oc
 PX:oc.data=.fields vs
 qual:vs[1]?=some (.str fd.qualname t)
 bR:dI M h fd.closure C.nm (C.bR k) cs rvs
 vals:r rvs
 all:∀x c,fd.closure.lookup x=some c→∃y∈C.bR k,x=C.nm y
noncomputable def BH(k:Nat)(r:HY):VV:=fun rv=>∃a,rv=.ref a∧∃c o oc fd vs t cs rvs,xB C M h k r a c o oc fd vs t cs rvs
noncomputable def BE(a b:Int):VV:=fun rv=>∃x t u w,rv=.ref x∧¬M x∧h.get? x=some {cls:=.type "range",data:=.fields #[.int a t,.int b u,.int 1 w]}
noncomputable def vz(v:VV)(r:HY):HY:=fun rvs=>∃rv rs,rvs=rv::rs∧v rv∧r rs
noncomputable def wU(p:DictEntry→Prop)(r:MT):MT:=fun es=>∃e lA,es=e::lA∧p e∧r lA
def oN(k:List Nat)(v:VV)(e:DictEntry):Prop:=∃rv t,e=⟨PyData.keyHash C.w.params (aR k),.str (aR k) t,rv⟩∧v rv
def ao(v:AV):Value→Prop:=AV.rec (motive_1:=fun Y=>VV) (motive_2:=fun Y=>HY) (motive_3:=fun Y=>MT) (motive_4:=fun Y=>DictEntry→Prop)
 (fun rv=>rv=.none) (fun b rv=>rv=.bool b) (BF C) BD (rp C) (fun Y=>BC M h) (fun Y=>BG M h) (fun i rv=>∃a,rv=.ref a∧J[i]?=some a) (fun k rv=>rv=.ref (C.mL k)) (fun k rv=>rv=.ref (C.dq k)) (fun k rv=>rv=vj k) (fun k Y=>BH C M h k) (BE M h) (fun i rv=>rv=C.U i)
 (fun rvs=>rvs=[]) (fun Y Y=>vz) (fun es=>es=[]) (fun Y Y=>wU) (fun k Y=>oN C k) v
def ay(l:List AV):List Value→Prop:=AV.rec_1 (motive_1:=fun Y=>VV) (motive_2:=fun Y=>HY) (motive_3:=fun Y=>MT) (motive_4:=fun Y=>DictEntry→Prop)
 (fun rv=>rv=.none) (fun b rv=>rv=.bool b) (BF C) BD (rp C) (fun Y=>BC M h) (fun Y=>BG M h) (fun i rv=>∃a,rv=.ref a∧J[i]?=some a) (fun k rv=>rv=.ref (C.mL k)) (fun k rv=>rv=.ref (C.dq k)) (fun k rv=>rv=vj k) (fun k Y=>BH C M h k) (BE M h) (fun i rv=>rv=C.U i)
 (fun rvs=>rvs=[]) (fun Y Y=>vz) (fun es=>es=[]) (fun Y Y=>wU) (fun k Y=>oN C k) l
def cX(l:List (List Nat×AV)):List DictEntry→Prop:=AV.rec_2 (motive_1:=fun Y=>VV) (motive_2:=fun Y=>HY) (motive_3:=fun Y=>MT) (motive_4:=fun Y=>DictEntry→Prop)
 (fun rv=>rv=.none) (fun b rv=>rv=.bool b) (BF C) BD (rp C) (fun Y=>BC M h) (fun Y=>BG M h) (fun i rv=>∃a,rv=.ref a∧J[i]?=some a) (fun k rv=>rv=.ref (C.mL k)) (fun k rv=>rv=.ref (C.dq k)) (fun k rv=>rv=vj k) (fun k Y=>BH C M h k) (BE M h) (fun i rv=>rv=C.U i)
 (fun rvs=>rvs=[]) (fun Y Y=>vz) (fun es=>es=[]) (fun Y Y=>wU) (fun k Y=>oN C k) l
end
end
def H0(C:Cx)(J:List Addr)(M:Addr→Prop)(h:Heap)(v:AV)(rv:Value):Prop:=match v with
 |.none=>rv=.none
 |.bool b=>rv=.bool b
 |.int e=>∃t,rv=.int (e.eval C.ν) t
 |.str l=>∃t,rv=.str (aR l) t
 |.bytes l=>bq C.ν l∧∃t,rv=.bytes (aS C.ν l) t
 |.t l=>∃a vs n,rv=.ref a∧¬M a∧h.get? a=some (fP vs n)∧ay C J M h l vs
 |.eF l=>∃a es n,rv=.ref a∧¬M a∧(a==sysModules)=false∧h.get? a=some (bK es n)∧cX C J M h l es
 |.ref i=>∃a,rv=.ref a∧J[i]?=some a
 |.fn k=>rv=.ref (C.mL k)
 |.cls k=>rv=.ref (C.dq k)
 |.bi k=>rv=vj k
 |.vi k bR=>∃a,rv=.ref a∧∃c o oc fd vs t cs rvs,xB C M h k (ay C J M h bR) a c o oc fd vs t cs rvs
 |.xT a b=>∃x t u w,rv=.ref x∧¬M x∧h.get? x=some {cls:=.type "range",data:=.fields #[.int a t,.int b u,.int 1 w]}
 |.mG i=>rv=C.U i
section
theorem ao.of(V:H0 C J M h v rv):ao C J M h v rv:=AV.casesOn (motive_1:=fun v=>H0 C J M h v rv→ao C J M h v rv) v id (fun Y=>id) (fun Y=>id) (fun Y=>id) (fun Y=>id) (fun Y=>id) (fun Y=>id) (fun Y=>id) (fun Y=>id) (fun Y=>id) (fun Y=>id) (fun Y Y=>id) (fun Y Y=>id) (fun Y=>id) V
theorem ay.of(V:∃v r,ras=v::r∧ao C J M h a v∧ay C J M h l r):ay C J M h (a::l) ras:=V
theorem cX.of{k:List Nat}{l:List (List Nat×AV)}(V:∃e lA,es=e::lA∧(∃v t,e=⟨PyData.keyHash C.w.params (aR k),.str (aR k) t,v⟩∧ao C J M h a v)∧cX C J M h l lA):cX C J M h ((k,a)::l) es:=V
theorem dI.of{cl:List (Str×Addr)}{nm:Nat→Str}{x:Nat}{xs:List Nat}{cs:List Addr}(V:∃c E0 v vg o,cs=c::E0∧vs=v::vg∧cl.lookup (nm x)=some c∧¬M c∧h.get? c=some o∧o.data=.cell (some v)∧dI M h cl nm xs E0 vg):dI M h cl nm (x::xs) cs vs:=V
theorem ao.none:ao C J M h .none .none:=rfl
theorem ao.bool(b:Bool):ao C J M h (.bool b) (.bool b):=rfl
theorem ao.int(e:IE)(i:Int)(t:Tok)(q:e.eval C.ν=i):ao C J M h (.int e) (.int i t):=⟨t,q▸rfl⟩
theorem ao.str(l:List Nat)(t:Tok):ao C J M h (.str l) (.str (aR l) t):=⟨t,rfl⟩
theorem ao.bytes(l:List IE)(t:Tok)(q:bq C.ν l):ao C J M h (.bytes l) (.bytes (aS C.ν l) t):=⟨q,t,rfl⟩
theorem ao.t(l:List AV)(a:Addr)(vs:List Value)(n:Nat)(h1:¬M a)(h2:h.get? a=some (fP vs n))(h3:ay C J M h l vs):ao C J M h (.t l) (.ref a):=.of ⟨a,vs,n,rfl,h1,h2,h3⟩
theorem ao.eF(l:List (List Nat×AV))(a:Addr)(es:List DictEntry)(n:Nat)(h1:¬M a)(h2:(a==sysModules)=false)(h3:h.get? a=some (bK es n))(h4:cX C J M h l es):ao C J M h (.eF l) (.ref a):=.of ⟨a,es,n,rfl,h1,h2,h3,h4⟩
theorem ao.ref(i:Nat)(a:Addr)(q:J[i]?=some a):ao C J M h (.ref i) (.ref a):=⟨a,rfl,q⟩
theorem ao.fn(k:Nat):ao C J M h (.fn k) (.ref (C.mL k)):=rfl
theorem ao.cls(k:Nat):ao C J M h (.cls k) (.ref (C.dq k)):=rfl
theorem ao.bi(k:Nat):ao C J M h (.bi k) (vj k):=rfl
theorem ao.vi(k:Nat)(bR:List AV)(a c:Addr)(o oc:Obj)(fd:FuncData)(vs:Array Value)(t:Tok)(cs:List Addr)(rvs:List Value)(h1:¬M a)(h2:h.get? a=some o)(h3:o.cls=.type "function")(h4:o.data=.func fd)(h5:C.lam k fd)(h6:fd.code=.ref c)(h7:¬M c)(h8:h.get? c=some oc)(h9:oc.data=.fields vs)(Xp:vs[1]?=some (.str fd.qualname t))
  (S6:dI M h fd.closure C.nm (C.bR k) cs rvs)(S5:ay C J M h bR rvs)(S4:∀x c,fd.closure.lookup x=some c→∃y∈C.bR k,x=C.nm y):ao C J M h (.vi k bR) (.ref a):=.of ⟨a,rfl,c,o,oc,fd,vs,t,cs,rvs,⟨h1,h2,h3,h4,h5,h6,h7,h8,h9,Xp,S6,S5,S4⟩⟩
theorem ao.xT(a b:Int)(x:Addr)(t u v:Tok)(h1:¬M x)(h2:h.get? x=some {cls:=.type "range",data:=.fields #[.int a t,.int b u,.int 1 v]}):ao C J M h (.xT a b) (.ref x):=⟨x,t,u,v,rfl,h1,h2⟩
theorem ao.mG(i:Nat):ao C J M h (.mG i) (C.U i):=rfl
theorem ay.nil:ay C J M h [] []:=rfl
theorem ay.cons{v:Value}(V:ao C J M h a v)(R:ay C J M h l vs):ay C J M h (a::l) (v::vs):=.of ⟨v,vs,rfl,V,R⟩
theorem cX.nil:cX C J M h [] []:=rfl
theorem cX.cons{k:List Nat}{v:Value}{t:Tok}{l:List (List Nat×AV)}(V:ao C J M h a v)(R:cX C J M h l es):cX C J M h ((k,a)::l) (⟨PyData.keyHash C.w.params (aR k),.str (aR k) t,v⟩::es):=.of ⟨_,es,rfl,⟨v,t,rfl,V⟩,R⟩
theorem ao.inv(V:ao C J M h v rv):H0 C J M h v rv:=AV.casesOn (motive_1:=fun v=>ao C J M h v rv→H0 C J M h v rv) v id (fun Y=>id) (fun Y=>id) (fun Y=>id) (fun Y=>id) (fun Y=>id) (fun Y=>id) (fun Y=>id) (fun Y=>id) (fun Y=>id) (fun Y=>id) (fun Y Y=>id) (fun Y Y=>id) (fun Y=>id) V
section
variable{P:Value→Prop}
@[elab_as_elim] theorem ao.eN{e:IE}(V:ao C J M h (.int e) rv)(k:∀t,P (.int (e.eval C.ν) t)):P rv:=dF V.inv fun t q=>q▸k t
@[elab_as_elim] theorem ao.gO{l:List Nat}(V:ao C J M h (.str l) rv)(k:∀t,P (.str (aR l) t)):P rv:=dF V.inv fun t q=>q▸k t
@[elab_as_elim] theorem ao.eH{l:List IE}(V:ao C J M h (.bytes l) rv)(k:bq C.ν l→∀t,P (.bytes (aS C.ν l) t)):P rv:=aw V.inv fun b q=>dF q fun t q=>q▸k b t
@[elab_as_elim] theorem ao.kS(V:ao C J M h (.t l) rv)(k:∀a vs n,¬M a→h.get? a=some (fP vs n)→ay C J M h l vs→P (.ref a)):P rv:=o7 V.inv fun a vs n q a1 a2 a3=>q▸k a vs n a1 a2 a3
@[elab_as_elim] theorem ao.w3{l:List (List Nat×AV)}(V:ao C J M h (.eF l) rv)(k:∀a es n,¬M a→(a==sysModules)=false→h.get? a=some (bK es n)→cX C J M h l es→P (.ref a)):P rv:=QR V.inv fun a es n q a1 a2 a3 a4=>q▸k a es n a1 a2 a3 a4
end
theorem ay.un(V:ay C J M h (a::l) ras):∃v r,ras=v::r∧ao C J M h a v∧ay C J M h l r:=V
theorem ay.nl(V:ay C J M h [] ras):ras=[]:=V
@[elab_as_elim] theorem ay.ind{P:List AV→List Value→Prop}(V:ay C J M h l vs)(nil:P [] [])(cons:∀a v l vs,ao C J M h a v→ay C J M h l vs→P l vs→P (a::l) (v::vs)):P l vs:=
 List.rec (motive:=fun l=>∀vs,ay C J M h l vs→P l vs) (fun Y V=>V.nl▸nil) (fun a l ih Y V=>j8 V.un fun v vs q x r=>q▸cons a v l vs x r (ih vs r)) l vs V
@[elab_as_elim] theorem ay.oZ{P:List Value→Prop}(V:ay C J M h (a::l) vs)(k:∀v r,ao C J M h a v→ay C J M h l r→P (v::r)):P vs:=j8 V.un fun v r q x y=>q▸k v r x y
theorem ay.one(V:ay C J M h [a] ras):∃ra,ras=[ra]∧ao C J M h a ra:=j8 V.un fun v Y e f R=>⟨v,e.trans (congrArg (v::·) R.nl),f⟩
theorem ay.two{b:AV}(V:ay C J M h [a,b] ras):∃ra rb,ras=[ra,rb]∧ao C J M h a ra∧ao C J M h b rb:=j8 V.un fun v Y e f R=>aC R.one fun w q W=>⟨v,w,e.trans (congrArg (v::·) q),f,W⟩
theorem cX.at{k:List Nat}{l:List (List Nat×AV)}(V:cX C J M h ((k,a)::l) es):∃e lA,es=e::lA∧(∃v t,e=⟨PyData.keyHash C.w.params (aR k),.str (aR k) t,v⟩∧ao C J M h a v)∧cX C J M h l lA:=V
theorem cX.un{p:List Nat×AV}{l:List (List Nat×AV)}(V:cX C J M h (p::l) es):∃v t lA,es=⟨PyData.keyHash C.w.params (aR p.1),.str (aR p.1) t,v⟩::lA∧ao C J M h p.2 v∧cX C J M h l lA:=j8 V.at fun Y es q f g=>eM f fun v t e f=>⟨v,t,es,q.trans (congrArg (·::es) e),f,g⟩
theorem cX.nl(V:cX C J M h [] es):es=[]:=V
theorem dI.un{cl:List (Str×Addr)}{nm:Nat→Str}{x:Nat}{xs:List Nat}{cs:List Addr}(V:dI M h cl nm (x::xs) cs vs):∃c E0 v vg o,cs=c::E0∧vs=v::vg∧cl.lookup (nm x)=some c∧¬M c∧h.get? c=some o∧o.data=.cell (some v)∧dI M h cl nm xs E0 vg:=V
theorem dI.cons{cl:List (Str×Addr)}{nm:Nat→Str}{x:Nat}{c:Addr}{v:Value}{xs:List Nat}{cs:List Addr}(h1:cl.lookup (nm x)=some c)(h2:¬M c)(h3:h.get? c=some o)(h4:o.data=.cell (some v))(h5:dI M h cl nm xs cs vs):dI M h cl nm (x::xs) (c::cs) (v::vs):=.of ⟨c,cs,v,vs,o,rfl,rfl,h1,h2,h3,h4,h5⟩
theorem dI.nil{cl:List (Str×Addr)}{nm:Nat→Str}:dI M h cl nm [] [] []:=⟨rfl,rfl⟩
theorem ay.length:∀{vs:List Value},ay C J M h l vs→l.length=vs.length:=
 List.rec (motive:=fun l=>∀{vs:List Value},ay C J M h l vs→l.length=vs.length) (@fun Y e=>(congrArg List.length e.nl).symm) (fun Y Y ih Y V=>j8 V.un fun Y Y e Y R=>(congrArg Nat.succ (ih R)).trans (congrArg List.length e).symm) l
end
theorem oK{p:Nat×AV}{r:Env}{x:Nat}(q:Nat.beq p.1 x=true):az (p::r) x=some p.2:=by unfold az;rw [q]
theorem mw{p:Nat×AV}{r:Env}{x:Nat}(q:Nat.beq p.1 x=false):az (p::r) x=az r x:=by rw [az,q]
structure Ext(M:Addr→Prop)(h h':Heap):Prop where
 live:∀b o,h.get? b=some o→∃o',h'.get? b=some o'
 keep:∀b o,¬M b→h.get? b=some o→h'.get? b=some o
structure aJ(Z:Addr→Prop)(J:List Addr)(M:Addr→Prop)(h:Heap)(σ':List Addr)(M':Addr→Prop)(h':Heap):Prop where
 pre:∃l,σ'=J++l∧∀a∈l,h.get? a=none
 ext:Ext (fun a=>M a∧¬Z a) h h'
 more:∀a,M a→M' a
 fresh:∀a,M' a→M a∨h.get? a=none
theorem Heap.bc(h:Heap):h.get? h.objs.size=none:=by
 cases q:h.get? h.objs.size with
 |none=>rfl
 |some o=>exact absurd (Heap.lt_size q) (Nat.lt_irrefl _)
theorem aO{a:Addr}(e:h.get? a=some o)(n:h.get? a=none):False:=by rw [e]at n;injection n
section
variable{Z':Addr→Prop}{zf:List Addr}{aP H6:Addr→Prop}{qo:Heap}
theorem Ext.dead(X:Ext M h h'){a:Addr}(n:h'.get? a=none):h.get? a=none:=by
 cases q:h.get? a with
 |none=>rfl
 |some o=>refine dF (X.live a o q:) fun o' e=>?_;exact(aO e n).elim
theorem Ext.refl(M:Addr→Prop)(h:Heap):Ext M h h:=⟨fun Y o e=>⟨o,e⟩,fun Y Y Y e=>e⟩
theorem aJ.refl(Z:Addr→Prop)(J:List Addr)(M:Addr→Prop)(h:Heap):aJ Z J M h J M h:=⟨⟨[],by simp,fun Y m=>nomatch m⟩,Ext.refl _ h,fun Y x=>x,fun Y x=>.inl x⟩
theorem aJ.notM(G:aJ Z J M h σ' M' h'){a:Addr}(hn:¬M a)(e:h.get? a=some o):¬M' a:=fun q=>
 (G.fresh a q).elim hn fun q=>aO e q
theorem aJ.kept(G:aJ Z J M h σ' M' h'){a:Addr}(hn:¬M a)(e:h.get? a=some o):h'.get? a=some o:=G.ext.keep a o (fun q=>hn q.1) e
theorem aJ.dB(G:aJ Z J M h σ' M' h'){a:Addr}(hn:Z a)(e:h.get? a=some o):h'.get? a=some o:=G.ext.keep a o (fun q=>q.2 hn) e
theorem aJ.trans(G:aJ Z J M h σ' M' h')(G':aJ Z σ' M' h' zf H6 qo):aJ Z J M h zf H6 qo:=by
 obtain⟨l,rfl,f⟩:=G.pre
 obtain⟨l',rfl,f'⟩:=G'.pre
 refine⟨⟨l++l',by simp,fun a m=>(List.mem_append.mp m).elim (f a) fun m=>G.ext.dead (f' a m)⟩,⟨fun b o e=>?_,fun b o hn e=>?_⟩,fun a x=>G'.more a (G.more a x),fun a x=>(G'.fresh a x).elim (fun x=>G.fresh a x) fun x=>.inr (G.ext.dead x)⟩
 ·refine dF (G.ext.live b o e:) fun o' e'=>?_
  exact G'.ext.live b o' e'
 ·refine G'.ext.keep b o (fun q=>(G.fresh b q.1).elim (fun x=>hn ⟨x,q.2⟩) fun x=>aO e x) (G.ext.keep b o hn e)
theorem aJ.less(G:aJ Z J M h σ' M' h')(hz:∀a,Z' a→Z a):aJ Z' J M h σ' M' h':=
 ⟨G.pre,⟨G.ext.live,fun b o hn e=>G.ext.keep b o (fun q=>hn ⟨q.1,fun x=>q.2 (hz b x)⟩) e⟩,G.more,G.fresh⟩
theorem aJ.heap(Z:Addr→Prop)(J:List Addr)(M:Addr→Prop)(hk:∀b o,h.get? b=some o→h'.get? b=some o):aJ Z J M h J M h':=
 ⟨⟨[],by simp,fun Y m=>nomatch m⟩,⟨fun b o e=>⟨o,hk b o e⟩,fun b o Y e=>hk b o e⟩,fun Y x=>x,fun Y x=>.inl x⟩
end
structure vf(J:List Addr)(M:Addr→Prop)(h:Heap)(σ':List Addr)(M':Addr→Prop)(h':Heap):Prop where
 pre:∃l,σ'=J++l
 keep:∀a o,¬M a→h.get? a=some o→¬M' a∧h'.get? a=some o
theorem vf.notM(G:vf J M h σ' M' h'){a:Addr}(hn:¬M a)(e:h.get? a=some o):¬M' a:=(G.keep a o hn e).1
theorem vf.kept(G:vf J M h σ' M' h'){a:Addr}(hn:¬M a)(e:h.get? a=some o):h'.get? a=some o:=(G.keep a o hn e).2
theorem aJ.chg(G:aJ Z J M h σ' M' h'):vf J M h σ' M' h':=⟨let⟨l,e,_⟩:=G.pre;⟨l,e⟩,fun Y Y hn e=>⟨G.notM hn e,G.kept hn e⟩⟩
theorem dI.chg(G:vf J M h σ' M' h'){cl:List (Str×Addr)}{nm:Nat→Str}{xs:List Nat}:∀{cs:List Addr}{vs:List Value},dI M h cl nm xs cs vs→dI M' h' cl nm xs cs vs:=
 List.rec (motive:=fun xs=>∀{cs:List Addr}{vs:List Value},dI M h cl nm xs cs vs→dI M' h' cl nm xs cs vs) id (fun Y Y ih Y Y V=>A1 V.un fun c cs v vs o f=>.of ⟨c,cs,v,vs,o,f.1,f.2.1,f.2.2.1,G.notM f.2.2.2.1 f.2.2.2.2.1,G.kept f.2.2.2.1 f.2.2.2.2.1,f.2.2.2.2.2.1,ih f.2.2.2.2.2.2⟩) xs
section
variable(G:vf J M h σ' M' h')
include G
theorem xB.chg{r r':HY}{a c:Addr}{oc:Obj}{fd:FuncData}{vs:Array Value}{t:Tok}{cs:List Addr}{rvs:List Value}(hr:∀vs,r vs→r' vs)(V:xB C M h k r a c o oc fd vs t cs rvs):xB C M' h' k r' a c o oc fd vs t cs rvs:=
 ⟨G.notM V.out V.at_,G.kept V.out V.at_,V.cls,V.dat,V.lam,V.code,G.notM V.N6 V.TR,G.kept V.N6 V.TR,V.PX,V.qual,V.bR.chg G,hr _ V.vals,V.all⟩
theorem FT{v:Value}(V:ao C J M h (.ref i) v):ao C σ' M' h' (.ref i) v:=aC V fun a e q=>dF G.pre fun l z=>⟨a,e,z▸(List.getElem?_append_left (List.getElem?_eq_some_iff.mp q).1).trans q⟩
theorem ao.chg:∀{v:Value},ao C J M h a v→ao C σ' M' h' a v:=fun{v} V=>
 AV.rec (motive_1:=fun a=>∀v,ao C J M h a v→ao C σ' M' h' a v) (motive_2:=fun l=>∀vs,ay C J M h l vs→ay C σ' M' h' l vs) (motive_3:=fun l=>∀es,cX C J M h l es→cX C σ' M' h' l es)
  (motive_4:=fun p=>∀e,oN C p.1 (ao C J M h p.2) e→oN C p.1 (ao C σ' M' h' p.2) e)
  (fun Y V=>V) (fun Y Y V=>V) (fun Y Y V=>V) (fun Y Y V=>V) (fun Y Y V=>V) (fun l r v V=>o7 (show∃a vs n,v=Value.ref a∧¬M a∧h.get? a=some (fP vs n)∧ay C J M h l vs from V) fun a vs n e n' g x=>.of ⟨a,vs,n,e,G.notM n' g,G.kept n' g,r vs x⟩) (fun l r v V=>QR (show∃a es n,v=Value.ref a∧¬M a∧(a==sysModules)=false∧h.get? a=some (bK es n)∧cX C J M h l es from V) fun a es n e n' s g x=>.of ⟨a,es,n,e,G.notM n' g,s,G.kept n' g,r es x⟩)
  (fun Y Y V=>FT G V) (fun Y Y V=>V) (fun Y Y V=>V) (fun Y Y V=>V) (fun k l r v V=>aC (show∃a,v=Value.ref a∧∃c o oc fd vs t cs rvs,xB C M h k (ay C J M h l) a c o oc fd vs t cs rvs from V) fun a e X=>.of ⟨a,e,KZ X fun c o oc fd X=>KZ X fun vs t cs rvs X=>⟨c,o,oc,fd,vs,t,cs,rvs,X.chg G r⟩⟩)
  (fun a b v V=>R4 (show∃x t u w,v=Value.ref x∧¬M x∧h.get? x=some {cls:=.type "range",data:=.fields #[.int a t,.int b u,.int 1 w]}from V) fun x t u w e n g=>⟨x,t,u,w,e,G.notM n g,G.kept n g⟩) (fun Y Y V=>V) (fun Y V=>V) (fun Y Y x r Y V=>j8 V.un fun v vs e f g=>.of ⟨v,vs,e,x v f,r vs g⟩) (fun Y V=>V) (fun Y Y x r Y V=>j8 V.at fun v vs e f g=>.of ⟨v,vs,e,x v f,r vs g⟩)
  (fun Y Y x Y V=>eM V fun v t e f=>⟨v,t,e,x v f⟩) a v V
theorem ay.chg{a:List AV}:∀{v:List Value},ay C J M h a v→ay C σ' M' h' a v:=
 List.rec (motive:=fun a=>∀{v:List Value},ay C J M h a v→ay C σ' M' h' a v) id (fun Y Y ih Y V=>j8 V.un fun v vs e f g=>.of ⟨v,vs,e,f.chg G,ih g⟩) a
end
theorem ao.grow(G:aJ Z J M h σ' M' h'){v:Value}(V:ao C J M h a v):ao C σ' M' h' a v:=V.chg G.chg
theorem ay.grow(G:aJ Z J M h σ' M' h'){a:List AV}{v:List Value}(V:ay C J M h a v):ay C σ' M' h' a v:=V.chg G.chg
def cj(C:Cx)(J:List Addr)(M:Addr→Prop)(h:Heap)(l:List (Nat×AV)):List DictEntry→Prop:=List.rec (motive:=fun Y=>List DictEntry→Prop) (fun es=>es=[])
 (fun p Y r es=>∃v t lA,es=⟨PyData.keyHash C.w.params (C.nm p.1),.str (C.nm p.1) t,v⟩::lA∧ao C J M h p.2 v∧r lA) l
theorem cj.nil:cj C J M h [] []:=rfl
theorem cj.cons{x:Nat}{v:Value}{t:Tok}{l:List (Nat×AV)}(V:ao C J M h a v)(R:cj C J M h l es):cj C J M h ((x,a)::l) (⟨PyData.keyHash C.w.params (C.nm x),.str (C.nm x) t,v⟩::es):=⟨v,t,es,rfl,V,R⟩
theorem cj.un{p:Nat×AV}{l:List (Nat×AV)}(V:cj C J M h (p::l) es):∃v t lA,es=⟨PyData.keyHash C.w.params (C.nm p.1),.str (C.nm p.1) t,v⟩::lA∧ao C J M h p.2 v∧cj C J M h l lA:=V
theorem cj.nl(V:cj C J M h [] es):es=[]:=V
@[elab_as_elim] theorem cj.oZ{P:List DictEntry→Prop}{p:Nat×AV}{l:List (Nat×AV)}(V:cj C J M h (p::l) es)(k:∀v t lA,ao C J M h p.2 v→cj C J M h l lA→P (⟨PyData.keyHash C.w.params (C.nm p.1),.str (C.nm p.1) t,v⟩::lA)):P es:=Ga V.un fun v t es q a b=>q▸k v t es a b
@[elab_as_elim] theorem cj.ind{P:List (Nat×AV)→List DictEntry→Prop}{l:List (Nat×AV)}(V:cj C J M h l es)(nil:P [] [])(cons:∀p l v t es,ao C J M h p.2 v→cj C J M h l es→P l es→P (p::l) (⟨PyData.keyHash C.w.params (C.nm p.1),.str (C.nm p.1) t,v⟩::es)):P l es:=
 List.rec (motive:=fun l=>∀es,cj C J M h l es→P l es) (fun Y V=>V.nl▸nil) (fun p l ih Y V=>V.oZ fun v t es x r=>cons p l v t es x r (ih es r)) l es V
theorem cj.chg(G:vf J M h σ' M' h'){a:List (Nat×AV)}:∀{v:List DictEntry},cj C J M h a v→cj C σ' M' h' a v:=
 List.rec (motive:=fun a=>∀{v:List DictEntry},cj C J M h a v→cj C σ' M' h' a v) id (fun Y Y ih Y V=>Ga V.un fun v t es e f g=>⟨v,t,es,e,f.chg G,ih g⟩) a
theorem cj.grow(G:aJ Z J M h σ' M' h'){a:List (Nat×AV)}{v:List DictEntry}(V:cj C J M h a v):cj C σ' M' h' a v:=V.chg G.chg
def cR(C:Cx)(J:List Addr)(M:Addr→Prop)(h:Heap)(o:AO)(a:Addr):Prop:=match o with
 |.list l=>∃vs n,h.get? a=some (bZ vs n)∧ay C J M h l vs
 |.inst c d=>∃dx,h.get? a=some (Aa (C.dq c) dx)∧J[d]?=some dx
 |.ns l=>∃es n,h.get? a=some (bK es n)∧cj C J M h l es
 |.cu b=>h.get? a=some (de (aS C.ν b))∧bq C.ν b
section
theorem cR.list(l:List AV)(a:Addr)(vs:List Value)(n:Nat)(h1:h.get? a=some (bZ vs n))(h2:ay C J M h l vs):cR C J M h (.list l) a:=⟨vs,n,h1,h2⟩
theorem cR.inst(c d:Nat)(a dx:Addr)(h1:h.get? a=some (Aa (C.dq c) dx))(h2:J[d]?=some dx):cR C J M h (.inst c d) a:=⟨dx,h1,h2⟩
theorem cR.ns(l:List (Nat×AV))(a:Addr)(es:List DictEntry)(n:Nat)(h1:h.get? a=some (bK es n))(h2:cj C J M h l es):cR C J M h (.ns l) a:=⟨es,n,h1,h2⟩
theorem cR.cu(b:List IE)(a:Addr)(h1:h.get? a=some (de (aS C.ν b)))(h2:bq C.ν b):cR C J M h (.cu b) a:=⟨h1,h2⟩
theorem cR.listI{a:Addr}(R:cR C J M h (.list l) a):∃vs n,h.get? a=some (bZ vs n)∧ay C J M h l vs:=R
theorem cR.instI{c:Nat}{a:Addr}(R:cR C J M h (.inst c d) a):∃dx,h.get? a=some (Aa (C.dq c) dx)∧J[d]?=some dx:=R
theorem cR.QT{l:List (Nat×AV)}{a:Addr}(R:cR C J M h (.ns l) a):∃es n,h.get? a=some (bK es n)∧cj C J M h l es:=R
theorem cR.jH{b:List IE}{a:Addr}(R:cR C J M h (.cu b) a):h.get? a=some (de (aS C.ν b))∧bq C.ν b:=R
end
def qQ(C:Cx)(M:Addr→Prop)(h:Heap)(P:Addr):Prop:=
 ∃ps,M P∧h.get? P=some (tabObj ps)∧TriplesOk ps.toList∧∀pos cv,codeAmong pos ps.toList=some cv→∃c oc vs t,cv=.ref c∧¬M c∧h.get? c=some oc∧oc.data=.fields vs∧vs[1]?=some (.str (C.t4 P pos) t)
structure aq(C:Cx)(J:List Addr)(M:Addr→Prop)(s:AS)(h:Heap):Prop where
 len:s.n=J.length
 lim:s.n≤1000000
 gP:C.nf≤s.n∧∀i,i<C.nf→s.hp.get i=C.f0.get i
 nodup:J.Nodup
 low:∀i o,s.hp.get i=some o→i<s.n
 obj:∀i o a,s.hp.get i=some o→J[i]?=some a→cR C J M h o a
 jt:∀i a,J[i]?=some a→C.nf≤i→M a
 yB:∀i a,J[i]?=some a→i<C.nf→¬M a
 there:∀a,a∈J→∃o,h.get? a=some o
 mlt:∀a,M a→∃o,h.get? a=some o
 base:∀b o,C.hb.get? b=some o→¬M b∧h.get? b=some o
 tab:∀p∈C.tabs,qQ C M h p.2∧p.2∉J
 rg:∀(k:Nat)(p:Int×Int),s.rg[k]?=some p→p.1≤C.ν k∧C.ν k≤p.2
noncomputable def eG(ν:Nat→Int)(k:Nat)(a b:IE):Bool:=match k with
 |0=>decide (a.eval ν=b.eval ν)
 |1=>decide (a.eval ν<b.eval ν)
 |_=>decide (a.eval ν≤b.eval ν)
def aH.leaf(ν:Nat→Int):aH α→Option α
 |.ok a=>some a
 |.fork k a b t f=>match eG ν k a b with
  |true=>t.leaf ν
  |false=>f.leaf ν
 |.bad _=>none
theorem aH.lY(ν:Nat→Int)(g:α→aH β):∀r:aH α,(r.bind g).leaf ν=(r.leaf ν).bind fun a=>(g a).leaf ν
 |.ok a=>rfl
 |.bad n=>rfl
 |.fork k a b t f=>by
  have ht:=aH.lY ν g t
  have hf:=aH.lY ν g f
  show(match eG ν k a b with|true=>(t.bind g).leaf ν|false=>(f.bind g).leaf ν)=(match eG ν k a b with|true=>t.leaf ν|false=>f.leaf ν).bind fun a=>(g a).leaf ν
  cases eG ν k a b with
  |true=>exact ht
  |false=>exact hf
theorem aH.jM{g:α→aH β}{r:aH α}{y:β}(e:(r.bind g).leaf ν=some y):∃a,r.leaf ν=some a∧(g a).leaf ν=some y:=by
 rw [aH.lY]at e;cases q:r.leaf ν with
 |none=>rw [q]at e;injection e
 |some a=>rw [q]at e;exact⟨a,rfl,e⟩
theorem aH.bd{g:α→aH β}{r:aH α}{y:β}{P:Prop}(e:(r.bind g).leaf ν=some y)(k:∀a,r.leaf ν=some a→(g a).leaf ν=some y→P):P:=aC (aH.jM e) k
theorem aH.cM{γ:Type}{g:α×γ→aH β}{r:aH (α×γ)}{y:β}{P:Prop}(e:(r.bind g).leaf ν=some y)(k:∀a c,r.leaf ν=some (a,c)→(g (a,c)).leaf ν=some y→P):P:=aC (aH.jM e) fun a=>k a.1 a.2
theorem aH.Vn{γ δ:Type}{g:α×γ×δ→aH β}{r:aH (α×γ×δ)}{y:β}{P:Prop}(e:(r.bind g).leaf ν=some y)(k:∀a c d,r.leaf ν=some (a,c,d)→(g (a,c,d)).leaf ν=some y→P):P:=aC (aH.jM e) fun a=>k a.1 a.2.1 a.2.2
theorem Et{γ δ:Type}{R:aH (β×γ×δ)}{g:β×γ×δ→aH α}{r:α}(e:(R.bind g).leaf ν=some r):∃b c s,R.leaf ν=some (b,c,s)∧(g (b,c,s)).leaf ν=some r:=
 (aH.jM e).elim fun x h=>⟨x.1,x.2.1,x.2.2,h⟩
theorem P7{γ:Type}{R:aH (β×γ)}{g:β×γ→aH α}{r:α}(e:(R.bind g).leaf ν=some r):∃b s,R.leaf ν=some (b,s)∧(g (b,s)).leaf ν=some r:=
 (aH.jM e).elim fun x h=>⟨x.1,x.2,h⟩
theorem no{x:α}{P:Prop}(h:none=some x):P:=nomatch h
theorem z9{x:IE}(e:intOf a=some x):a=.int x:=by
 cases a with
 |int y=>exact congrArg AV.int (bg e)
 |_=>exact no e
theorem zt{x:List Nat}(e:strOf a=some x):a=.str x:=by
 cases a with
 |str y=>exact congrArg AV.str (bg e)
 |_=>exact no e
theorem Ek{x:List IE}(e:L9 a=some x):a=.bytes x:=by
 cases a with
 |bytes y=>exact congrArg AV.bytes (bg e)
 |_=>exact no e
section
variable{r:β}
theorem ij{g:AV→aH β}(e:(one as g).leaf ν=some r):∃a,as=[a]∧(g a).leaf ν=some r:=by
 cases as with
 |nil=>exact no e
 |cons a l=>cases l with
  |nil=>exact⟨a,rfl,e⟩
  |cons b l=>exact no e
theorem kR{g:AV→AV→aH β}(e:(two as g).leaf ν=some r):∃a b,as=[a,b]∧(g a b).leaf ν=some r:=by
 cases as with
 |nil=>exact no e
 |cons a l=>cases l with
  |nil=>exact no e
  |cons b l=>cases l with
   |nil=>exact⟨a,b,rfl,e⟩
   |cons _ _=>exact no e
theorem aX{g:IE→aH β}(e:(cV a g).leaf ν=some r):∃x,a=.int x∧(g x).leaf ν=some r:=by
 cases a with
 |int x=>exact⟨x,rfl,e⟩
 |_=>exact no e
theorem dD{g:List Nat→aH β}(e:(onStr a g).leaf ν=some r):∃x,a=.str x∧(g x).leaf ν=some r:=by
 cases a with
 |str x=>exact⟨x,rfl,e⟩
 |_=>exact no e
theorem aI{o:Option α}{g:α→aH β}(e:(bQ o g).leaf ν=some r):∃x,o=some x∧(g x).leaf ν=some r:=by
 cases o with
 |none=>exact no e
 |some x=>exact⟨x,rfl,e⟩
theorem ql(q:listOf s a=some l):∃i,a=.ref i∧s.get i=some (.list l):=by
 cases a with
 |ref i=>
  unfold listOf at q
  dsimp only at q
  cases z:s.get i with
  |none=>rw [z]at q;exact no q
  |some o=>
   rw [z]at q;cases o with
   |list m=>exact⟨i,rfl,z.trans (congrArg (fun m=>some (AO.list m)) (bg q))⟩
   |_=>exact no q
 |_=>exact no q
theorem eS{g:List AV→aH β}(e:(kH s a g).leaf ν=some r):∃i l,a=.ref i∧s.get i=some (.list l)∧(g l).leaf ν=some r:=by
 cases q:listOf s a with
 |none=>unfold kH at e;rw [q]at e;exact no e
 |some l=>
  unfold kH at e;rw [q]at e;refine aC (ql q:) fun i h1 h2=>?_
  exact⟨i,l,h1,h2,e⟩
theorem dG{p q:aH β}(e:(iff b p q).leaf ν=some r):(b=true∧p.leaf ν=some r)∨(b=false∧q.leaf ν=some r):=by
 cases b with
 |true=>exact .inl ⟨rfl,e⟩
 |false=>exact .inr ⟨rfl,e⟩
theorem ik{gl:List AV→aH β}{gb:List IE→aH β}(e:(A0 s a gl gb).leaf ν=some r):∃i,a=.ref i∧((∃l,s.get i=some (.list l)∧(gl l).leaf ν=some r)∨∃l,s.get i=some (.cu l)∧(gb l).leaf ν=some r):=by
 cases a with
 |ref i=>
  refine⟨i,rfl,?_⟩
  unfold A0 at e
  dsimp only at e
  cases q:s.get i with
  |none=>rw [q]at e;exact no e
  |some o=>
   rw [q]at e;cases o with
   |list l=>exact .inl ⟨l,rfl,e⟩
   |cu l=>exact .inr ⟨l,rfl,e⟩
   |_=>exact no e
 |_=>exact no e
theorem lU{g:List IE→aH β}(e:(F8 a g).leaf ν=some r):∃x,a=.bytes x∧(g x).leaf ν=some r:=by
 cases a with
 |bytes x=>exact⟨x,rfl,e⟩
 |_=>exact no e
theorem iF{g:List AV→aH β}(e:(qh a g).leaf ν=some r):∃x,a=.t x∧(g x).leaf ν=some r:=by
 cases a with
 |t x=>exact⟨x,rfl,e⟩
 |_=>exact no e
theorem cT{g:List AV→aH β}(e:(kH s (.ref i) g).leaf ν=some r):∃l,s.get i=some (.list l)∧(g l).leaf ν=some r:=by
 refine eM (eS e:) fun j l q h=>?_
 injection q with q;subst q;exact⟨l,h⟩
theorem cO{p:aH β}(e:(gd b p).leaf ν=some r):b=true∧p.leaf ν=some r:=by
 cases b with
 |true=>exact⟨rfl,e⟩
 |false=>exact no e
theorem tS{m:Option Nat}{p:aH β}(e:(Sa m p).leaf ν=some r):m=none∧p.leaf ν=some r:=by
 cases m with
 |none=>exact⟨rfl,e⟩
 |some _=>exact no e
theorem nT{g:Nat→RX}{r:Fl×Env×AS}(e:(Co a g).leaf ν=some r):∃i,a=.ref i∧(g i).leaf ν=some r:=by
 cases a with
 |ref x=>exact⟨x,rfl,e⟩
 |_=>exact no e
theorem instOf_eq{q:Nat×Nat×List (Nat×AV)}(e:instOf s a=some q):∃i,a=.ref i∧s.get i=some (.inst q.1 q.2.1)∧s.get q.2.1=some (.ns q.2.2):=by
 cases a with
 |ref i=>
  unfold instOf at e
  dsimp only at e
  cases z:s.get i with
  |none=>rw [z]at e;exact no e
  |some o=>
   rw [z]at e;cases o with
   |inst c d=>
    dsimp only at e
    cases y:s.get d with
    |none=>rw [y]at e;exact no e
    |some o=>
     rw [y]at e;cases o with
     |ns l=>(injection e with e;subst e);exact⟨i,rfl,z,y⟩
     |_=>exact no e
   |_=>exact no e
 |_=>exact no e
theorem qL{l:List IE}(e:r9 s (.ref i)=some l):s.get i=some (.cu l):=by
 unfold r9 at e
 dsimp only at e
 cases z:s.get i with
 |none=>rw [z]at e;exact no e
 |some o=>
  rw [z]at e;cases o with
  |cu m=>exact congrArg (fun m=>some (AO.cu m)) (bg e)
  |_=>exact no e
end
structure Kd where
 k:Str→Option NameKind
 code:Option Addr
 qual:Str
variable{kd:Kd}
inductive dM(Z M:Addr→Prop)(env:PySem.Env)(h:Heap)(x:Str)(v:Value):Prop
 |loc (m:Str→Option Value):env.kindOf x=some .local→Z env.locals→h.Ns env.locals m→m x=some v→dM Z M env h x v
 |cell (c:Addr) (o:Obj):(env.kindOf x=some .cell∨env.kindOf x=some .free)→env.cells.lookup x=some c→(Z c∨¬M c)→h.get? c=some o→o.data=.cell (some v)→dM Z M env h x v
def gZ(k:Option NameKind):Prop:=k=some .local∨k=some .cell∨k=some .free
structure fu(C:Cx)(Z:Addr→Prop)(J:List Addr)(M:Addr→Prop)(kd:Kd)(env:PySem.Env)(ρ:Env)(h:Heap):Prop where
 glob:env.globals=mainGlobals
 i8:env.builtins=builtinsNs
 kind:env.scope.kind=.function
 kinds:∀x,env.kindOf x=kd.k x
 Ed:∀x,kd.k x=some .cell∨kd.k x=some .free→∃c,env.cells.lookup x=some c
 xd:∀x c,env.cells.lookup x=some c→∃o,h.get? c=some o
 code:∀c,kd.code=some c→env.code=.ref c∧env.qual=kd.qual∧∀x a,env.cells.lookup x=some a→¬M a
 vars:∀x v,az ρ x=some v→gZ (kd.k (C.nm x))→∃rv,dM Z M env h (C.nm x) rv∧ao C J M h v rv
def bu(A:Around)(d:Nat):Prop:=A.handled=none∧A.depth+2*d+4<recursionLimit∧A.units+12*d+40<cLine
theorem bu.u(R:bu A d)(h:k≤40):A.units+k<cLine:=Nat.lt_of_le_of_lt (Nat.add_le_add (Nat.le_add_right ..) h) R.2.2
def cm(C:Cx)(Z:Addr→Prop)(J:List Addr)(h:Heap):Prop:=∀a,Z a→(∃o,h.get? a=some o)∧a∉J∧∀p∈C.tabs,a≠p.2
theorem dM.grow(G:aJ Z J M h σ' M' h'){x:Str}{v:Value}(R:dM Z M env h x v):dM Z M' env h' x v:=by
 cases R with
 |loc m a b c d=>
  refine mU (c:) fun o es ep e r=>?_
  exact .loc m a b ⟨o,es,ep,G.dB b e,r⟩ d
 |cell c o a b e f g=>exact .cell c o a b (e.imp id fun n=>G.notM n f) (e.elim (fun n=>G.dB n f) fun n=>G.kept n f) g
theorem fu.grow(G:aJ Z J M h σ' M' h')(F:fu C Z J M kd env ρ h):fu C Z σ' M' kd env ρ h':=
 ⟨F.glob,F.i8,F.kind,F.kinds,F.Ed,(fun x c q=>let⟨o,e⟩:=F.xd x c q;G.ext.live c o e),(fun c q=>let⟨a1,a2,a3⟩:=F.code c q;⟨a1,a2,fun x a q=>let⟨o,e⟩:=F.xd x a q;G.notM (a3 x a q) e⟩),fun x v e k=>let⟨rv,a,b⟩:=F.vars x v e k;⟨rv,a.grow G,b.grow G⟩⟩
def KV(C:Cx)(Z:Addr→Prop)(J:List Addr)(M:Addr→Prop)(st:Shared)(v:AV)(s':AS)(Q:Value→Shared→Prop):Prop:=
 ∀σ' M' h' tk rv,aJ Z J M st.heap σ' M' h'→aq C σ' M' s' h'→ao C σ' M' h' v rv→Q rv {st with heap:=h',toks:=tk}
def Q5(C:Cx)(Z:Addr→Prop)(J:List Addr)(M:Addr→Prop)(st:Shared)(v:List AV)(s':AS)(Q:List Value→Shared→Prop):Prop:=
 ∀σ' M' h' tk rv,aJ Z J M st.heap σ' M' h'→aq C σ' M' s' h'→ay C σ' M' h' v rv→Q rv {st with heap:=h',toks:=tk}
def KB(C:Cx)(Z:Addr→Prop)(J:List Addr)(M:Addr→Prop)(st:Shared)(b:Bool)(s':AS)(Q:Bool→Shared→Prop):Prop:=
 ∀σ' M' h' tk,aJ Z J M st.heap σ' M' h'→aq C σ' M' s' h'→Q b {st with heap:=h',toks:=tk}
theorem KV.ok(K:KV C Z J M st v s' Q){b:AS}(e:(aH.ok (a,b)).leaf ν=some (v,s')):KV C Z J M st a b Q:=by
 injection e with e;injection e with e aN;subst e aN;exact K
section
variable{tk:Tok}
theorem KV.after(K:KV C Z J M st v s' Q)(G:aJ Z J M st.heap σ' M' h'):KV C Z σ' M' {st with heap:=h',toks:=tk} v s' Q:=
 fun cy dU br bf rv bb S R=>K cy dU br bf rv (G.trans bb) S R
theorem KB.after{Q:Bool→Shared→Prop}(K:KB C Z J M st b s' Q)(G:aJ Z J M st.heap σ' M' h'):KB C Z σ' M' {st with heap:=h',toks:=tk} b s' Q:=
 fun cy dU br bf bb S=>K cy dU br bf (G.trans bb) S
theorem KV.of{v':AV}{gN:AS}(e:(aH.ok (v',gN):aH (AV×AS)).leaf ν=some (v,s'))(K:KV C Z J M st v s' Q):KV C Z J M st v' gN Q:=by injection e with e;injection e with e aN;subst e aN;exact K
theorem Q5.of{v v':List AV}{gN:AS}{Q:List Value→Shared→Prop}(e:(aH.ok (v',gN):aH (List AV×AS)).leaf ν=some (v,s'))(K:Q5 C Z J M st v s' Q):Q5 C Z J M st v' gN Q:=by injection e with e;injection e with e aN;subst e aN;exact K
theorem KB.of{b':Bool}{gN:AS}{Q:Bool→Shared→Prop}(e:(aH.ok (b',gN):aH (Bool×AS)).leaf ν=some (b,s'))(K:KB C Z J M st b s' Q):KB C Z J M st b' gN Q:=by injection e with e;injection e with e aN;subst e aN;exact K
theorem KV.now(K:KV C Z J M st v s' Q)(S:aq C J M s' st.heap)(R:ao C J M st.heap v rv)(tk:Tok):Q rv {st with toks:=tk}:=
 K J M st.heap tk rv (aJ.refl _ _ _ _) S R
theorem KB.now{Q:Bool→Shared→Prop}(K:KB C Z J M st b s' Q)(S:aq C J M s' st.heap)(tk:Tok):Q b {st with toks:=tk}:=
 K J M st.heap tk (aJ.refl _ _ _ _) S
end
noncomputable def II:Op→Operator
 |.add=>.Add|.sub=>.Sub|.mul=>.Mult|.div=>.FloorDiv|.mod=>.Mod|.pow=>.Pow
noncomputable def m3:Cm→CmpOp
 |.eq=>.Eq|.ne=>.NotEq|.lt=>.Lt|.le=>.LtE|.gt=>.Gt|.ge=>.GtE|.is=>.Is|.t9=>.IsNot|.o8=>.In|.CG=>.NotIn
inductive sr:AV→Const→Prop
 |none:sr .none .none
 |bool (b:Bool):sr (.bool b) (.bool b)
 |int (i:Int):sr (.int (.c i)) (.int i)
 |str (l:List Nat):sr (.str l) (.str (aR l))
 |bytes (l:List IE) (b:List UInt8):(∀e∈l,∃i:Nat,i<256∧e=.c (i:Int))→l.map (cz fun Y=>0)=b→sr (.bytes l) (.bytes b)
noncomputable def cC(kd:Kd)(sc:Scope):Kd:=⟨fun x=>(sc.names.map fun(p:Str×NameKind)=>if(p.2==NameKind.free&&kd.k p.1==some NameKind.cell)then(p.1,NameKind.cell)else(p.1,p.2)).lookup x,kd.code,kd.qual⟩
def jc(ks:List (List Nat)):List (Option Expr)→Prop:=List.rec (motive:=fun Y=>List (Option Expr)→Prop) (fun xs=>xs=[]) (fun k Y r xs=>∃n pos sO,xs=some (.Constant (.str (aR k)) n pos)::sO∧r sO) ks
theorem jc.nil:jc [] []:=rfl
theorem jc.cons{k:List Nat}{n pos ks xs}(h:jc ks xs):jc (k::ks) (some (.Constant (.str (aR k)) n pos)::xs):=⟨n,pos,xs,rfl,h⟩
theorem jc.nl{xs:List (Option Expr)}(h:jc [] xs):xs=[]:=h
theorem jc.un{k:List Nat}{ks:List (List Nat)}{xs:List (Option Expr)}(h:jc (k::ks) xs):∃n pos sO,xs=some (.Constant (.str (aR k)) n pos)::sO∧jc ks sO:=h
def cw(C:Tx)(p:Str→Prop)(tg:List Nat):List Expr→Prop:=List.rec (motive:=fun Y=>List Expr→Prop) (fun xs=>xs=[]) (fun x Y r xs=>∃s pos sO,xs=.Name s pos::sO∧s=C.nm x∧p s∧r sO) tg
def eW(C:Tx)(p:Str→Prop)(tg:List Nat)(flat:Bool)(x:Expr):Prop:=match flat with
 |true=>∃y s pos,tg=[y]∧x=.Name s pos∧s=C.nm y∧p s
 |false=>∃xs k pos,x=.Tuple xs k pos∧cw C p tg xs
section
variable{C:Tx}{p q:Str→Prop}
theorem cw.nil:cw C p [] []:=rfl
theorem cw.of{x:Nat}(h:∃s pos sO,xs=.Name s pos::sO∧s=C.nm x∧p s∧cw C p tg sO):cw C p (x::tg) xs:=h
theorem cw.un{x:Nat}(h:cw C p (x::tg) xs):∃s pos sO,xs=.Name s pos::sO∧s=C.nm x∧p s∧cw C p tg sO:=h
theorem cw.nl(h:cw C p [] xs):xs=[]:=h
theorem cw.cons{x:Nat}{s:Str}(h1:s=C.nm x)(h2:p s)(h3:cw C p tg xs):cw C p (x::tg) (.Name s pos::xs):=.of ⟨s,pos,xs,rfl,h1,h2,h3⟩
@[elab_as_elim] theorem cw.ind{P:List Nat→List Expr→Prop}(h:cw C p tg xs)(nil:P [] [])(cons:∀x s pos tg xs,s=C.nm x→p s→cw C p tg xs→P tg xs→P (x::tg) (.Name s pos::xs)):P tg xs:=
 List.rec (motive:=fun tg=>∀xs,cw C p tg xs→P tg xs) (fun Y h=>h.nl▸nil) (fun x tg ih Y h=>o7 h.un fun s pos xs q a b c=>q▸cons x s pos tg xs a b c (ih xs c)) tg xs h
theorem cw.mono(h:cw C p tg xs)(k:∀s,p s→q s):cw C q tg xs:=h.ind .nil fun Y s Y Y Y a b Y ih=>.cons a (k s b) ih
theorem eW.one{x:Nat}{s:Str}(h1:s=C.nm x)(h2:p s):eW C p [x] true (.Name s pos):=⟨x,s,pos,rfl,rfl,h1,h2⟩
theorem eW.many(h:cw C p tg xs):eW C p tg false (.Tuple xs k pos):=⟨xs,k,pos,rfl,h⟩
theorem eW.N8(h:eW C p tg true x):∃y s pos,tg=[y]∧x=.Name s pos∧s=C.nm y∧p s:=h
theorem eW.CQ(h:eW C p tg false x):∃xs k pos,x=.Tuple xs k pos∧cw C p tg xs:=h
theorem eW.mono{flat:Bool}(h:eW C p tg flat x)(k:∀s,p s→q s):eW C q tg flat x:=by
 cases flat with
 |true=>exact o7 h.N8 fun y s pos a b c d=>⟨y,s,pos,a,b,c,k s d⟩
 |false=>exact mU h.CQ fun xs n pos a b=>⟨xs,n,pos,a,b.mono k⟩
end
abbrev MF(C:Tx)(kd:Str→Option NameKind):List Nat→List Expr→Prop:=cw C fun s=>kd s=some .local
abbrev JD(C:Tx)(kd:Str→Option NameKind):List Nat→Bool→Expr→Prop:=eW C fun s=>kd s=some .local
structure xw(C:Tx)(kd:Kd)(k:Nat)(bR:List Nat)(params:Arguments)(body:Expr)(scope:Scope)(pos:Pos):Prop where
 at_:∃c P,kd.code=some c∧(c,P)∈C.tabs∧∀pos,C.t4 P pos=kd.qual++"<lambda>"
 dflt:∀env,defaultsOf params env=([],[])
 kc:C.bR k=bR
 free:∀y∈scope.names,y.2=.free→kd.k y.1=some .cell∨kd.k y.1=some .free
 has:∀x∈bR,(C.nm x,NameKind.free)∈scope.names
 all:∀y∈scope.names,y.2=.free→∃x∈bR,y.1=C.nm x
 lam:∀pm cdv ctv qual clos,C.lam k {name:="<lambda>",qualname:=qual,params,body:=.expr body,scope,globals:=mainGlobals,closure:=clos,defaults:=.none,kwdefaults:=.none,doc:=.none,pyModule:=pm,annotations:=none,code:=cdv,closureTuple:=ctv,builtins:=builtinsNs}
section
abbrev FF:=Kd→Expr→Prop
abbrev y6:=Kd→List Expr→Prop
abbrev MX:=Kd→Option Expr→Prop
section
variable(C:Tx)
noncomputable def DO(x:Nat):FF:=fun kd e=>∃s pos,e=.Name s pos∧s=C.nm x∧gZ (kd.k s)∧(s==("__debug__":Str))=false∧(s==("__classdict__":Str))=false
noncomputable def uB(x:Nat):FF:=fun kd e=>∃s pos,e=.Name s pos∧s=C.nm x∧kd.k s=some .globalImplicit∧(s==("__debug__":Str))=false
noncomputable def ur(v:AV):FF:=fun Y e=>∃c k pos,e=.Constant c k pos∧sr v c
noncomputable def uu(l:y6):FF:=fun kd e=>∃xs k pos,e=.Tuple xs k pos∧l kd xs
noncomputable def oB(l:y6):FF:=fun kd e=>∃xs pos,e=.List xs pos∧l kd xs
def uC(ks:List (List Nat))(es:List CE)(l:y6):FF:=fun kd e=>∃kx xs pos,e=.Dict kx xs pos∧jc ks kx∧l kd xs∧ks.length=es.length∧(ks.map aR).Nodup∧ks.length≤15
def uF(op:Op)(a b:FF):FF:=fun kd e=>∃x y pos,e=.BinOp x (II op) y pos∧a kd x∧b kd y
def uD(op:Cm)(a b:FF):FF:=fun kd e=>∃x y pos,e=.Compare x [m3 op] [y] pos∧a kd x∧b kd y∧behindInMarks (m3 op) y=false
def lz(op jU:Cm)(a b c:FF):FF:=fun kd e=>∃x y z pos,e=.Compare x [m3 op,m3 jU] [y,z] pos∧a kd x∧b kd y∧c kd z∧lastMarks [m3 op,m3 jU] [y,z]=false
noncomputable def hJ(op:BoolOp)(l:y6):FF:=fun kd e=>∃xs pos,e=.BoolOp op xs pos∧l kd xs
noncomputable def pG(op:UnaryOp)(a:FF):FF:=fun kd e=>∃x pos,e=.UnaryOp op x pos∧a kd x
noncomputable def uz(a b c:FF):FF:=fun kd e=>∃x y z pos,e=.IfExp x y z pos∧a kd x∧b kd y∧c kd z
noncomputable def oE(n:Nat)(a:FF):FF:=fun kd e=>∃x s pos,e=.Attribute x s pos∧s=C.nm n∧n∈C.attrs∧(∀id p q,x≠.Call (.Name id p) [] [] q)∧a kd x
noncomputable def uA(a b:FF):FF:=fun kd e=>∃x y pos,e=.Subscript x y pos∧a kd x∧b kd y
noncomputable def uv(a:FF)(lo hi:MX):FF:=fun kd e=>∃x l u p pos,e=.Subscript x (.Slice l u none p) pos∧a kd x∧lo kd l∧hi kd u
noncomputable def uw(a:FF):FF:=fun kd e=>∃x k p1 p2 p3 p4,e=.Subscript x (.Slice none none (some (.UnaryOp .USub (.Constant (.int 1) k p1) p2)) p3) p4∧a kd x
noncomputable def uy(k:Nat)(bR:List Nat):FF:=fun kd e=>∃params body scope pos,e=.Lambda params body scope pos∧xw C kd k bR params body scope pos
noncomputable def oD(f:FF)(l:y6):FF:=fun kd e=>∃x xs pos,e=.Call x xs [] pos∧f kd x∧(∀o n p,x≠.Attribute o n p)∧l kd xs
noncomputable def oA(n:Nat)(a:FF)(l:y6):FF:=fun kd e=>∃x s apos xs pos,e=.Call (.Attribute x s apos) xs [] pos∧s=C.nm n∧n∈C.attrs∧(∀id p q,x≠.Call (.Name id p) [] [] q)∧a kd x∧l kd xs∧xs.length<30∧(apos.endLine==pos.line)=true
structure EL(elt:FF)(tg:List Nat)(flat:Bool)(it:FF)(ifs:y6)(kd:Kd)(xe xt xi:Expr)(xs:List Expr)(sc:Scope):Prop where
 XW:JD C (fun n=>sc.names.lookup n) tg flat xt
 fit:it kd xi
 Xr:elt (cC kd sc) xe
 Xq:ifs (cC kd sc) xs
 kind:sc.kind=.function
 R9:∀y∈sc.names,y.2≠.cell
 loc:∀y∈sc.names,y.2=.local→sc.names.lookup y.1=some .local
 free:∀y∈sc.names,y.2=.free→kd.k y.1=some .cell∨kd.k y.1=some .free
 mem:∀x,sc.names.lookup (C.nm x)=some .local→x∈tg
 UC:∀x k p,xi≠.Set x k p
 R8:sc.isCoroutine=false
 UD:sc.isGenerator=false
noncomputable def oC(tg:List Nat)(flat:Bool)(elt it:FF)(ifs:y6):FF:=fun kd e=>∃xe xt xi xs sc pos,e=.ListComp xe [⟨xt,xi,xs,0⟩] sc pos∧EL C elt tg flat it ifs kd xe xt xi xs sc
noncomputable def yI:FF:=fun Y e=>∀xs k p,e≠.Set xs k p
noncomputable def wJ(a:FF)(l:y6):y6:=fun kd ys=>∃x xs,ys=x::xs∧a kd x∧(∀y p,x≠.Starred y p)∧l kd xs
noncomputable def wI(a:FF):MX:=fun kd o=>∃x,o=some x∧a kd x
def ak(kd:Kd)(e:CE):Expr→Prop:=CE.rec (motive_1:=fun Y=>FF) (motive_2:=fun Y=>y6) (motive_3:=fun Y=>MX)
 (DO C) ur (fun Y=>uu) (fun Y=>oB) uC (fun op Y Y=>uF op) (fun op Y Y=>uD op) (fun op Y Y jU Y=>lz op jU) (fun Y=>hJ .And) (fun Y=>hJ .Or) (fun Y=>pG .Not) (fun Y=>pG .USub) (fun Y Y Y=>uz) (fun Y n=>oE C n) (fun Y Y=>uA) (fun Y Y Y=>uv) (fun Y=>uw) (fun Y Y=>oD) (fun Y n Y=>oA C n) (fun Y tg flat Y Y=>oC C tg flat) (fun Y Y Y Y Y Y Y Y Y Y Y=>False) (uy C) (uB C) (fun Y=>yI)
 (fun Y xs=>xs=[]) (fun Y Y=>wJ) (fun Y o=>o=none) (fun Y=>wI) e kd
def cD(kd:Kd)(e:List CE):List Expr→Prop:=CE.rec_1 (motive_1:=fun Y=>FF) (motive_2:=fun Y=>y6) (motive_3:=fun Y=>MX)
 (DO C) ur (fun Y=>uu) (fun Y=>oB) uC (fun op Y Y=>uF op) (fun op Y Y=>uD op) (fun op Y Y jU Y=>lz op jU) (fun Y=>hJ .And) (fun Y=>hJ .Or) (fun Y=>pG .Not) (fun Y=>pG .USub) (fun Y Y Y=>uz) (fun Y n=>oE C n) (fun Y Y=>uA) (fun Y Y Y=>uv) (fun Y=>uw) (fun Y Y=>oD) (fun Y n Y=>oA C n) (fun Y tg flat Y Y=>oC C tg flat) (fun Y Y Y Y Y Y Y Y Y Y Y=>False) (uy C) (uB C) (fun Y=>yI)
 (fun Y xs=>xs=[]) (fun Y Y=>wJ) (fun Y o=>o=none) (fun Y=>wI) e kd
def eY(kd:Kd)(e:Option CE):Option Expr→Prop:=CE.rec_2 (motive_1:=fun Y=>FF) (motive_2:=fun Y=>y6) (motive_3:=fun Y=>MX)
 (DO C) ur (fun Y=>uu) (fun Y=>oB) uC (fun op Y Y=>uF op) (fun op Y Y=>uD op) (fun op Y Y jU Y=>lz op jU) (fun Y=>hJ .And) (fun Y=>hJ .Or) (fun Y=>pG .Not) (fun Y=>pG .USub) (fun Y Y Y=>uz) (fun Y n=>oE C n) (fun Y Y=>uA) (fun Y Y Y=>uv) (fun Y=>uw) (fun Y Y=>oD) (fun Y n Y=>oA C n) (fun Y tg flat Y Y=>oC C tg flat) (fun Y Y Y Y Y Y Y Y Y Y Y=>False) (uy C) (uB C) (fun Y=>yI)
 (fun Y xs=>xs=[]) (fun Y Y=>wJ) (fun Y o=>o=none) (fun Y=>wI) e kd
end
end
abbrev FS(C:Tx)(a:CE):FF:=fun kd=>ak C kd a
abbrev ve(C:Tx)(a:List CE):y6:=fun kd=>cD C kd a
abbrev Q7(C:Tx)(a:Option CE):MX:=fun kd=>eY C kd a
section
variable{C:Tx}
namespace ak
section
variable{op jU:Op}{o1 o2:Cm}{x:Nat}{a b c:CE}{es:List CE}{ks:List (List Nat)}{lo hi:Option CE}{flat:Bool}{e:Expr}
theorem Sd(h:ak C kd (.n x) e):DO C x kd e:=h
theorem O9(h:ak C kd (.eZ x) e):uB C x kd e:=h
theorem Ni(h:ak C kd (.val v) e):ur v kd e:=h
theorem tupI(h:ak C kd (.t es) e):uu (ve C es) kd e:=h
theorem listI(h:ak C kd (.list es) e):oB (ve C es) kd e:=h
theorem PW(h:ak C kd (.eF ks es) e):uC ks es (ve C es) kd e:=h
theorem binI(h:ak C kd (.bin op a b) e):uF op (FS C a) (FS C b) kd e:=h
theorem L6(h:ak C kd (.cmp o1 a b) e):uD o1 (FS C a) (FS C b) kd e:=h
theorem Eb(h:ak C kd (.chain o1 a b o2 c) e):lz o1 o2 (FS C a) (FS C b) (FS C c) kd e:=h
theorem Mw(h:ak C kd (.and es) e):hJ .And (ve C es) kd e:=h
theorem RU(h:ak C kd (.or es) e):hJ .Or (ve C es) kd e:=h
theorem Oh(h:ak C kd (.not a) e):pG .Not (FS C a) kd e:=h
theorem Oj(h:ak C kd (.neg a) e):pG .USub (FS C a) kd e:=h
theorem Gz(h:ak C kd (.ite a b c) e):uz (FS C a) (FS C b) (FS C c) kd e:=h
theorem EA(h:ak C kd (.attr a n) e):oE C n (FS C a) kd e:=h
theorem OT(h:ak C kd (.idx a b) e):uA (FS C a) (FS C b) kd e:=h
theorem Ny(h:ak C kd (.iE a lo hi) e):uv (FS C a) (Q7 C lo) (Q7 C hi) kd e:=h
theorem NS(h:ak C kd (.rev a) e):uw (FS C a) kd e:=h
theorem OK(h:ak C kd (.lam n tg) e):uy C n tg kd e:=h
theorem Eh(h:ak C kd (.call a es) e):oD (FS C a) (ve C es) kd e:=h
theorem CM(h:ak C kd (.bG a n es) e):oA C n (FS C a) (ve C es) kd e:=h
theorem D7(h:ak C kd (.comp a tg flat b es) e):oC C tg flat (FS C a) (FS C b) (ve C es) kd e:=h
theorem TQ(h:ak C kd (.bad n) e):yI kd e:=h
theorem WD(h:DO C x kd e):ak C kd (.n x) e:=h
theorem S7(h:uB C x kd e):ak C kd (.eZ x) e:=h
theorem Ro(h:ur v kd e):ak C kd (.val v) e:=h
theorem pn(h:uu (ve C es) kd e):ak C kd (.t es) e:=h
theorem OG(h:oB (ve C es) kd e):ak C kd (.list es) e:=h
theorem TH(h:uC ks es (ve C es) kd e):ak C kd (.eF ks es) e:=h
theorem TN(h:uF op (FS C a) (FS C b) kd e):ak C kd (.bin op a b) e:=h
theorem TK(h:uD o1 (FS C a) (FS C b) kd e):ak C kd (.cmp o1 a b) e:=h
theorem L7(h:lz o1 o2 (FS C a) (FS C b) (FS C c) kd e):ak C kd (.chain o1 a b o2 c) e:=h
theorem TX(h:hJ .And (ve C es) kd e):ak C kd (.and es) e:=h
theorem Wn(h:hJ .Or (ve C es) kd e):ak C kd (.or es) e:=h
theorem R7(h:pG .Not (FS C a) kd e):ak C kd (.not a) e:=h
theorem Se(h:pG .USub (FS C a) kd e):ak C kd (.neg a) e:=h
theorem Lk(h:uz (FS C a) (FS C b) (FS C c) kd e):ak C kd (.ite a b c) e:=h
theorem Qi(h:oE C n (FS C a) kd e):ak C kd (.attr a n) e:=h
theorem Sy(h:uA (FS C a) (FS C b) kd e):ak C kd (.idx a b) e:=h
theorem RD(h:uv (FS C a) (Q7 C lo) (Q7 C hi) kd e):ak C kd (.iE a lo hi) e:=h
theorem RN(h:uw (FS C a) kd e):ak C kd (.rev a) e:=h
theorem Sr(h:uy C n tg kd e):ak C kd (.lam n tg) e:=h
theorem P4(h:oD (FS C a) (ve C es) kd e):ak C kd (.call a es) e:=h
theorem Ov(h:oA C n (FS C a) (ve C es) kd e):ak C kd (.bG a n es) e:=h
theorem PZ(h:oC C tg flat (FS C a) (FS C b) (ve C es) kd e):ak C kd (.comp a tg flat b es) e:=h
theorem bad(h:∀xs k p,e≠.Set xs k p):ak C kd (.bad n) e:=h
section
variable{s:Str}{pos' p1 p2 p3 p4 apos:Pos}{cst:Const}{y z l u:Expr}{X:Expr}{kx:List (Option Expr)}{ol ou:Option Expr}
theorem nm(h1:s=C.nm x)(h2:gZ (kd.k s))(h3:(s==("__debug__":Str))=false)(h4:(s==("__classdict__":Str))=false):ak C kd (.n x) (.Name s pos):=WD ⟨s,pos,rfl,h1,h2,h3,h4⟩
theorem eZ(h1:s=C.nm x)(h2:kd.k s=some .globalImplicit)(h3:(s==("__debug__":Str))=false):ak C kd (.eZ x) (.Name s pos):=S7 ⟨s,pos,rfl,h1,h2,h3⟩
theorem val(h:sr v cst):ak C kd (.val v) (.Constant cst k pos):=Ro ⟨cst,k,pos,rfl,h⟩
theorem t(h:cD C kd es xs):ak C kd (.t es) (.Tuple xs k pos):=pn ⟨xs,k,pos,rfl,h⟩
theorem list(h:cD C kd es xs):ak C kd (.list es) (.List xs pos):=OG ⟨xs,pos,rfl,h⟩
theorem eF(h1:jc ks kx)(h2:cD C kd es xs)(h3:ks.length=es.length)(h4:(ks.map aR).Nodup)(h5:ks.length≤15):ak C kd (.eF ks es) (.Dict kx xs pos):=TH ⟨kx,xs,pos,rfl,h1,h2,h3,h4,h5⟩
theorem bin(h1:ak C kd a X)(h2:ak C kd b y):ak C kd (.bin op a b) (.BinOp X (II op) y pos):=TN ⟨X,y,pos,rfl,h1,h2⟩
theorem cmp(h1:ak C kd a X)(h2:ak C kd b y)(h3:behindInMarks (m3 o1) y=false):ak C kd (.cmp o1 a b) (.Compare X [m3 o1] [y] pos):=TK ⟨X,y,pos,rfl,h1,h2,h3⟩
theorem chain(h1:ak C kd a X)(h2:ak C kd b y)(h3:ak C kd c z)(h4:lastMarks [m3 o1,m3 o2] [y,z]=false):ak C kd (.chain o1 a b o2 c) (.Compare X [m3 o1,m3 o2] [y,z] pos):=L7 ⟨X,y,z,pos,rfl,h1,h2,h3,h4⟩
theorem and(h:cD C kd es xs):ak C kd (.and es) (.BoolOp .And xs pos):=TX ⟨xs,pos,rfl,h⟩
theorem or(h:cD C kd es xs):ak C kd (.or es) (.BoolOp .Or xs pos):=Wn ⟨xs,pos,rfl,h⟩
theorem not(h:ak C kd a X):ak C kd (.not a) (.UnaryOp .Not X pos):=R7 ⟨X,pos,rfl,h⟩
theorem neg(h:ak C kd a X):ak C kd (.neg a) (.UnaryOp .USub X pos):=Se ⟨X,pos,rfl,h⟩
theorem ite(h1:ak C kd a X)(h2:ak C kd b y)(h3:ak C kd c z):ak C kd (.ite a b c) (.IfExp X y z pos):=Lk ⟨X,y,z,pos,rfl,h1,h2,h3⟩
theorem attr(h1:s=C.nm n)(h2:n∈C.attrs)(h3:∀id p q,X≠.Call (.Name id p) [] [] q)(h4:ak C kd a X):ak C kd (.attr a n) (.Attribute X s pos):=Qi ⟨X,s,pos,rfl,h1,h2,h3,h4⟩
theorem idx(h1:ak C kd a X)(h2:ak C kd b y):ak C kd (.idx a b) (.Subscript X y pos):=Sy ⟨X,y,pos,rfl,h1,h2⟩
theorem iE(h1:ak C kd a X)(h2:eY C kd lo ol)(h3:eY C kd hi ou):ak C kd (.iE a lo hi) (.Subscript X (.Slice ol ou none pos') pos):=RD ⟨X,ol,ou,pos',pos,rfl,h1,h2,h3⟩
theorem rev(h1:ak C kd a X):ak C kd (.rev a) (.Subscript X (.Slice none none (some (.UnaryOp .USub (.Constant (.int 1) k p1) p2)) p3) p4):=RN ⟨X,k,p1,p2,p3,p4,rfl,h1⟩
theorem lam{params:Arguments}{body:Expr}{scope:Scope}(h:xw C kd n tg params body scope pos):ak C kd (.lam n tg) (.Lambda params body scope pos):=Sr ⟨params,body,scope,pos,rfl,h⟩
theorem call(h1:ak C kd a X)(h2:∀o n p,X≠.Attribute o n p)(h3:cD C kd es xs):ak C kd (.call a es) (.Call X xs [] pos):=P4 ⟨X,xs,pos,rfl,h1,h2,h3⟩
theorem bG(h1:s=C.nm n)(h2:n∈C.attrs)(h3:∀id p q,X≠.Call (.Name id p) [] [] q)(h4:ak C kd a X)(h5:cD C kd es xs)(h6:xs.length<30)(h7:(apos.endLine==pos.line)=true):ak C kd (.bG a n es) (.Call (.Attribute X s apos) xs [] pos):=Ov ⟨X,s,apos,xs,pos,rfl,h1,h2,h3,h4,h5,h6,h7⟩
end
end
end ak
theorem cD.nl(h:cD C kd [] xs):xs=[]:=h
theorem cD.un{es:List CE}(h:cD C kd (e::es) xs):∃x r,xs=x::r∧ak C kd e x∧(∀y p,x≠.Starred y p)∧cD C kd es r:=h
@[elab_as_elim] theorem cD.oZ{es:List CE}{P:List Expr→Prop}(h:cD C kd (e::es) xs)(k:∀x r,ak C kd e x→(∀y p,x≠.Starred y p)→cD C kd es r→P (x::r)):P xs:=K0 h.un fun x r q a b c=>q▸k x r a b c
theorem cD.nil:cD C kd [] []:=rfl
theorem cD.of{es:List CE}(h:∃x r,xs=x::r∧ak C kd e x∧(∀y p,x≠.Starred y p)∧cD C kd es r):cD C kd (e::es) xs:=h
theorem cD.cons{es:List CE}(h1:ak C kd e x)(h2:∀y p,x≠.Starred y p)(h3:cD C kd es xs):cD C kd (e::es) (x::xs):=.of ⟨x,xs,rfl,h1,h2,h3⟩
theorem eY.WC{x:Option Expr}(h:eY C kd .none x):x=.none:=h
theorem eY.Nu{x:Option Expr}(h:eY C kd (.some e) x):∃y,x=.some y∧ak C kd e y:=h
theorem eY.none:eY C kd .none .none:=rfl
theorem eY.of{x:Option Expr}(h:∃y,x=.some y∧ak C kd e y):eY C kd (.some e) x:=h
theorem eY.some(h:ak C kd e x):eY C kd (.some e) (.some x):=.of ⟨x,rfl,h⟩
end
abbrev JC(C:Cx):=MF C.toTx
abbrev vd(C:Cx):=JD C.toTx
abbrev Qx(C:Cx):=xw C.toTx
abbrev aW(C:Cx):=ak C.toTx
abbrev c0(C:Cx):=cD C.toTx
abbrev y4(C:Cx):=eY C.toTx
abbrev Md(C:Cx):Model:=model C.prog C.w
def gu(C:Cx)(ih:Ih)(d:Nat):Prop:=∀e ρ s v s',(ih.ev e ρ s).leaf C.ν=some (v,s')→∀kd ex,aW C kd e ex→∀Z J M env A st,fu C Z J M kd env ρ st.heap→aq C J M s st.heap→bu A d→cm C Z J st.heap→
 ∀Q E,KV C Z J M st v s' Q→ab (Md C) A (eval ex env) Q E st
def vm(C:Cx)(ih:Ih)(d:Nat):Prop:=∀e ρ s b s',(ih.ts e ρ s).leaf C.ν=some (b,s')→∀kd ex,aW C kd e ex→∀Z J M env A st,fu C Z J M kd env ρ st.heap→aq C J M s st.heap→bu A d→cm C Z J st.heap→
 ∀Q E,KB C Z J M st b s' Q→ab (Md C) A (isTrue ex env (eval ex env)) Q E st
noncomputable def aE.vl(t:aE α):Option α:=t.casesOn none fun v Y Y=>v
noncomputable def aE.lf(t:aE α):aE α:=t.casesOn .nil fun Y l Y=>l
noncomputable def aE.rt(t:aE α):aE α:=t.casesOn .nil fun Y Y r=>r
section
variable{t:aE α}{o:α}
theorem aE.Je:t.get 0=t.vl:=by cases t<;>rfl
theorem aE.oh(q:(i+1) %2=0):t.get (i+1)=t.rt.get ((i+1)/2 - 1):=by
 cases t with
 |nil=>rfl
 |node v l r=>exact congrArg (Nat.rec (motive:=fun Y=>Option α) (r.get ((i+1)/2 - 1)) fun Y Y=>l.get ((i+1)/2)) q
theorem aE.og(q:(i+1) %2=k+1):t.get (i+1)=t.lf.get ((i+1)/2):=by
 cases t with
 |nil=>rfl
 |node v l r=>exact congrArg (Nat.rec (motive:=fun Y=>Option α) (r.get ((i+1)/2 - 1)) fun Y Y=>l.get ((i+1)/2)) q
theorem aE.Nr{f:aE α→Nat→α→aE α}{v:Option α}{l r:aE α}(q:(i+1) %2=0):QN f (i+1) o v l r=.node v l (f r ((i+1)/2 - 1) o):=congrArg (Nat.rec (motive:=fun Y=>aE α) (.node v l (f r ((i+1)/2 - 1) o)) fun Y Y=>.node v (f l ((i+1)/2) o) r) q
theorem aE.Nq{f:aE α→Nat→α→aE α}{v:Option α}{l r:aE α}(q:(i+1) %2=k+1):QN f (i+1) o v l r=.node v (f l ((i+1)/2) o) r:=congrArg (Nat.rec (motive:=fun Y=>aE α) (.node v l (f r ((i+1)/2 - 1) o)) fun Y Y=>.node v (f l ((i+1)/2) o) r) q
theorem aE.ID:put (n+1) t 0 o=.node (some o) t.lf t.rt:=by cases t<;>rfl
theorem aE.IG(q:(i+1) %2=0):put (n+1) t (i+1) o=.node t.vl t.lf (put n t.rt ((i+1)/2 - 1) o):=by cases t<;>exact Nr q
theorem aE.IF(q:(i+1) %2=k+1):put (n+1) t (i+1) o=.node t.vl (put n t.lf ((i+1)/2) o) t.rt:=by cases t<;>exact Nq q
end
theorem LA{m p:Nat}(d:2*m+0=i+1)(h:i+1<2*p - 1):m - 1<p - 1:=
 Nat.sub_lt_sub_right (Nat.pos_of_ne_zero fun e=>by rw [e]at d;exact nomatch d) (Nat.lt_of_mul_lt_mul_left (a:=2) (Nat.lt_of_le_of_lt (Nat.le_of_eq d) (Nat.lt_of_lt_of_le h (Nat.sub_le _ _))))
theorem Lz{m p:Nat}(d:2*m+1=i+1)(h:i+1<2*p - 1):m<p - 1:=
 Nat.lt_sub_of_add_lt (Nat.lt_of_mul_lt_mul_left (a:=2) (Nat.lt_of_le_of_lt (Nat.le_of_eq (congrArg (·+1) d)) (Nat.add_lt_of_lt_sub h)))
theorem vW{m:Nat}(q:m %2=k+1):k=0:=Nat.le_zero.mp (Nat.le_of_lt_succ (Nat.lt_of_succ_lt_succ ((congrArg (·<2) q).mp (Nat.mod_lt m Nat.two_pos))))
theorem AS.cp(t:aE AO)(n:Nat):∀(i:Nat)(o:AO),i<2^n - 1→(aE.put n t i o).get i=some o:=by
 induction n generalizing t with
 |zero=>exact fun i Y h=>absurd h (Nat.not_lt_zero i)
 |succ n ih=>
  intro i o h;cases i with
  |zero=>rw [aE.ID];rfl
  |succ i=>
   have d:=Nat.div_add_mod (i+1) 2
   rw [Nat.pow_succ,Nat.mul_comm]at h;cases q:(i+1) %2 with
   |zero=>rw [aE.IG q,aE.oh q];exact ih _ _ _ (LA (q▸d) h)
   |succ k=>rw [aE.IF q,aE.og q];exact ih _ _ _ (Lz ((congrArg (2*((i+1)/2)+·) (q.trans (congrArg (·+1) (vW q)))).symm.trans d) h)
theorem ya{b:Nat}(hij:i+1≠j+1)(q:(i+1) %2=b)(r:(j+1) %2=b):(i+1)/2≠(j+1)/2:=fun e=>
 hij ((Nat.div_add_mod (i+1) 2).symm.trans ((congrArg (2*·+_) e).trans ((congrArg (_+·) (q.trans r.symm)).trans (Nat.div_add_mod (j+1) 2))))
theorem ui(q:(i+1) %2=0):0<(i+1)/2:=Nat.pos_of_ne_zero fun e=>by
 have d:=Nat.div_add_mod (i+1) 2
 rw [q,e]at d;exact nomatch d
theorem AS.bB(t:aE AO)(n:Nat):∀(i j:Nat)(o:AO),i≠j→(aE.put n t i o).get j=t.get j:=by
 induction n generalizing t with
 |zero=>intro i j o _;rfl
 |succ n ih=>
  intro i j o hij;cases i with
  |zero=>
   rw [aE.ID];cases j with
   |zero=>exact absurd rfl hij
   |succ j=>
    cases r:(j+1) %2 with
    |zero=>exact(aE.oh r).trans (aE.oh (t:=t) r).symm
    |succ k=>exact(aE.og r).trans (aE.og (t:=t) r).symm
  |succ i=>
   cases q:(i+1) %2 with
   |zero=>
    rw [aE.IG q];cases j with
    |zero=>exact(aE.Je (t:=t)).symm
    |succ j=>
     cases r:(j+1) %2 with
     |zero=>exact(aE.oh r).trans ((ih _ _ _ _ fun e=>ya hij q r (Nat.sub_one_cancel (ui q) (ui r) e)).trans (aE.oh (t:=t) r).symm)
     |succ k=>exact(aE.og r).trans (aE.og (t:=t) r).symm
   |succ k=>
    rw [aE.IF q];cases j with
    |zero=>exact(aE.Je (t:=t)).symm
    |succ j=>
     cases r:(j+1) %2 with
     |zero=>exact(aE.oh r).trans (aE.oh (t:=t) r).symm
     |succ k'=>exact(aE.og r).trans ((ih _ _ _ _ (ya hij q (r.trans (congrArg (·+1) ((vW r).trans (vW q).symm))))).trans (aE.og (t:=t) r).symm)
section
theorem cR.chg(G:vf J M h σ' M' h'){o:AO}{a:Addr}(R:cR C J M h o a)(e:∀x,h.get? a=some x→h'.get? a=some x):cR C σ' M' h' o a:=by
 cases o with
 |list l=>exact eM R.listI fun vs n q r=>.list l a vs n (e _ q) (r.chg G)
 |inst c d=>exact aC R.instI fun dx q r=>.inst c d a dx (e _ q) (dF G.pre fun l z=>z▸(List.getElem?_append_left (List.getElem?_eq_some_iff.mp r).1).trans r)
 |ns l=>exact eM R.QT fun es n q r=>.ns l a es n (e _ q) (r.chg G)
 |cu b=>exact⟨e _ R.jH.1,R.jH.2⟩
theorem cR.grow(G:aJ Z J M h σ' M' h'){o:AO}{a:Addr}(R:cR C J M h o a)(e:∀x,h.get? a=some x→h'.get? a=some x):cR C σ' M' h' o a:=R.chg G.chg e
theorem aq.nY(S:aq C J M s h){a:Addr}(ha:h.get? a=none):¬M a:=fun q=>let⟨_,e⟩:=S.mlt a q;aO e ha
theorem cR.live{o:AO}{a:Addr}(R:cR C J M h o a):∃x,h.get? a=some x:=by
 cases o with
 |list l=>exact eM R.listI fun Y Y q Y=>⟨_,q⟩
 |inst c d=>exact aC R.instI fun Y q Y=>⟨_,q⟩
 |ns l=>exact eM R.QT fun Y Y q Y=>⟨_,q⟩
 |cu b=>exact⟨_,R.jH.1⟩
theorem aq.inj(S:aq C J M s h){a:Addr}(e:J[i]?=some a)(e':J[j]?=some a):i=j:=by
 refine dF (List.getElem?_eq_some_iff.mp e:) fun hi Ly=>?_
 refine dF (List.getElem?_eq_some_iff.mp e':) fun hj US=>?_
 have P:=List.pairwise_iff_getElem.mp S.nodup
 rcases Nat.lt_trichotomy i j with q|q|q
 ·exact absurd (Ly.trans US.symm) (P i j hi hj q)
 ·exact q
 ·exact absurd (US.trans Ly.symm) (P j i hj hi q)
theorem qQ.keep{P:Addr}(T:qQ C M h P)(hk:∀b o,h.get? b=some o→h'.get? b=some o):qQ C M h' P:=
 let⟨ps,a,b,c,d⟩:=T;⟨ps,a,hk _ _ b,c,fun pos cv e=>let⟨c,oc,vs,t,e1,e2,e3,e4⟩:=d pos cv e;⟨c,oc,vs,t,e1,e2,hk _ _ e3,e4⟩⟩
theorem aq.heap(S:aq C J M s h)(hk:∀b o,h.get? b=some o→h'.get? b=some o):aq C J M s h':=
 ⟨S.len,S.lim,S.gP,S.nodup,S.low,fun i o a e q=>(S.obj i o a e q).grow (aJ.heap (fun Y=>False) J M hk) (fun x=>hk a x),S.jt,S.yB,fun a m=>let⟨o,e⟩:=S.there a m;⟨o,hk _ _ e⟩,fun a m=>let⟨o,e⟩:=S.mlt a m;⟨o,hk _ _ e⟩,fun b o e=>⟨(S.base b o e).1,hk b o (S.base b o e).2⟩,fun p hp=>⟨(S.tab p hp).1.keep hk,(S.tab p hp).2⟩,S.rg⟩
theorem aq.alloc(S:aq C J M s h)(Lw:Nat.blt s.n 1000000=true){a:Addr}(hk:∀b o,h.get? b=some o→h'.get? b=some o)(ha:h.get? a=none)(o:AO)
  (ho:cR C (J++[a]) (fun b=>M b∨b=a) h' o a):aq C (J++[a]) (fun b=>M b∨b=a) (s.new o).2 h'∧aJ Z J M h (J++[a]) (fun b=>M b∨b=a) h'∧(J++[a])[s.n]?=some a:=by
 have G:aJ Z J M h (J++[a]) (fun b=>M b∨b=a) h':=⟨⟨[a],rfl,fun b m=>by rw [List.mem_singleton]at m;rw [m];exact ha⟩,⟨fun b o e=>⟨o,hk b o e⟩,fun b o Y e=>hk b o e⟩,fun Y x=>.inl x,fun b x=>x.elim .inl fun q=>.inr (q▸ha)⟩
 have hn:a∉J:=fun m=>let⟨_,e⟩:=S.there a m;aO e ha
 have OX:s.n<1000000:=bF Lw
 have hnf:=S.gP
 have hroom:s.n<2^40 - 1:=Nat.lt_trans OX (by decide)
 have he:(J++[a])[s.n]?=some a:=by rw [S.len,List.getElem?_append_right (Nat.le_refl _),Nat.sub_self];rfl
 refine⟨⟨?_,OX,⟨Nat.le_succ_of_le hnf.1,fun i hi=>(AS.bB s.hp 40 s.n i o (by have:=hnf.1;lia)).trans (hnf.2 i hi)⟩,?_,?_,?_,?_,?_,?_,fun b m=>m.elim (fun m=>let⟨o,e⟩:=S.mlt b m;⟨o,hk _ _ e⟩) fun m=>m▸ho.live,?_,?_,S.rg⟩,G,he⟩
 ·show s.n+1=_
  rw [S.len];simp
 ·rw [List.nodup_append]
  exact⟨S.nodup,by simp,fun x hx y hy=>by rw [List.mem_singleton]at hy;subst hy;rintro rfl;exact hn hx⟩
 ·intro i o' e
  show i<s.n+1
  by_cases hi:s.n=i
  ·lia
  ·have:(aE.put 40 s.hp s.n o).get i=some o':=e
   rw [AS.bB _ _ _ _ _ hi]at this;have:=S.low i o' this
   lia
 ·intro i o' b e q
  by_cases hi:s.n=i
  ·subst hi
   have e':(aE.put 40 s.hp s.n o).get s.n=some o':=e
   rw [AS.cp _ _ _ _ hroom]at e';injection e' with e';subst e';rw [he]at q;injection q with q;subst q;exact ho
  ·have e':(aE.put 40 s.hp s.n o).get i=some o':=e
   rw [AS.bB _ _ _ _ _ hi]at e';have hl:=S.low i o' e'
   rw [S.len]at hl;rw [List.getElem?_append_left hl]at q;exact(S.obj i o' b e' q).grow G (fun x y=>hk b x y)
 ·intro i b q hle
  rcases Nat.lt_or_ge i J.length with hl|hl
  ·rw [List.getElem?_append_left hl]at q
   exact .inl (S.jt i b q hle)
  ·rw [List.getElem?_append_right hl]at q
   have:b∈[a]:=bO q
   exact .inr (List.mem_singleton.mp this)
 ·intro i b q Dp hb
  have hl:i<J.length:=by rw [←S.len];exact Nat.lt_of_lt_of_le Dp hnf.1
  rw [List.getElem?_append_left hl]at q;refine hb.elim (S.yB i b q Dp) fun x=>?_
  subst x;exact hn (bO q)
 ·intro b m
  rcases List.mem_append.mp m with m|m
  ·refine dF (S.there b m:) fun o e=>?_
   exact⟨o,hk _ _ e⟩
  ·rw [List.mem_singleton]at m;subst m;exact ho.live
 ·intro b o' e
  refine aw (S.base b o' e:) fun x y=>?_
  refine⟨fun q=>q.elim x fun q=>?_,hk b o' y⟩
  subst q;exact aO y ha
 ·intro p hp
  obtain⟨⟨ps,a1,a2,a3,a4⟩,a5⟩:=S.tab p hp
  refine⟨⟨ps,.inl a1,hk _ _ a2,a3,fun pos cv e=>?_⟩,fun m=>?_⟩
  ·refine vh (a4 pos cv e:) fun c oc vs t e1 e2 e3 e4=>?_
   exact⟨c,oc,vs,t,e1,G.notM e2 e3,hk _ _ e3,e4⟩
  ·rcases List.mem_append.mp m with m|m
   ·exact a5 m
   ·rw [List.mem_singleton]at m
    rw [m]at a2;exact aO a2 ha
theorem aq.push(S:aq C J M s h)(o:Obj):aq C J M s (h.push o):=S.heap fun Y Y e=>cP _ e
theorem aJ.push(Z:Addr→Prop)(J:List Addr)(M:Addr→Prop)(h:Heap)(o:Obj):aJ Z J M h J M (h.push o):=aJ.heap Z J M fun Y Y e=>cP _ e
theorem aq.update(S:aq C J M s h){a:Addr}{x:Obj}{f:Obj→Obj}{o o':AO}(hi:J[i]?=some a)(hn:C.nf≤i)(hz:cm C Z J h)(he:s.hp.get i=some o')(hx:h.get? a=some x)(hf:(f x).isFreed=false)
  (ho:aJ Z J M h J M (h.update a f)→(h.update a f).get? a=some (f x)→cR C J M (h.update a f) o a):aq C J M (s.upd i o) (h.update a f)∧aJ Z J M h J M (h.update a f):=by
 have hs:∀b,b≠a→(h.update a f).get? b=h.get? b:=fun b hb=>Heap.get?_update_ne _ _ _ _ hb
 have hm:=S.jt i a hi hn
 have nz:¬Z a:=fun q=>(hz a q).2.1 (bO hi)
 have hu:=Heap.get?_update_self f hx hf
 have hv:∀b o,h.get? b=some o→∃o',(h.update a f).get? b=some o':=fun b o e=>by
  by_cases hb:b=a
  ·subst hb;exact⟨_,hu⟩
  ·exact⟨o,(hs b hb).trans e⟩
 have G:aJ Z J M h J M (h.update a f):=⟨⟨[],by simp,fun Y m=>nomatch m⟩,⟨hv,fun b o hb e=>(hs b fun q=>hb (by rw [q];exact⟨hm,nz⟩)).trans e⟩,fun Y x=>x,fun Y x=>.inl x⟩
 have hl:=S.low i o' he
 have hr:s.n<2^40 - 1:=Nat.lt_of_le_of_lt S.lim (by decide)
 refine⟨⟨S.len,S.lim,⟨S.gP.1,fun j hj=>(AS.bB s.hp 40 i j o (by lia)).trans (S.gP.2 j hj)⟩,S.nodup,?_,?_,S.jt,S.yB,fun b m=>let⟨o,e⟩:=S.there b m;hv b o e,fun b m=>let⟨o,e⟩:=S.mlt b m;hv b o e,?_,?_,S.rg⟩,G⟩
 ·intro j tL e
  by_cases hj:i=j
  ·subst hj;exact hl
  ·have e':(aE.put 40 s.hp i o).get j=some tL:=e
   rw [AS.bB _ _ _ _ _ hj]at e';exact S.low j tL e'
 ·intro j tL b e q
  by_cases hj:i=j
  ·subst hj
   have e':(aE.put 40 s.hp i o).get i=some tL:=e
   rw [AS.cp _ _ _ _ (Nat.lt_trans hl hr)]at e';injection e' with e';subst e';rw [hi]at q;injection q with q;subst q;exact ho G hu
  ·have e':(aE.put 40 s.hp i o).get j=some tL:=e
   rw [AS.bB _ _ _ _ _ hj]at e';have hb:b≠a:=fun z=>hj (S.inj hi (z▸q))
   exact(S.obj j tL b e' q).grow G fun y hy=>(hs b hb).trans hy
 ·intro b tL e
  refine aw (S.base b tL e:) fun n y=>?_
  exact⟨n,(hs b fun z=>n (z▸hm)).trans y⟩
 ·intro p hp
  obtain⟨⟨ps,a1,a2,a3,a4⟩,a5⟩:=S.tab p hp
  refine⟨⟨ps,a1,(hs _ fun z=>a5 (by rw [z];exact bO hi)).trans a2,a3,fun pos cv e=>?_⟩,a5⟩
  refine vh (a4 pos cv e:) fun c oc vs t e1 e2 e3 e4=>?_
  exact⟨c,oc,vs,t,e1,e2,(hs _ fun z=>e2 (by rw [z];exact hm)).trans e3,e4⟩
theorem cm.grow(z:cm C Z J h)(G:aJ Z J M h σ' M' h'):cm C Z σ' h':=fun a q=>by
 obtain⟨l,rfl,f⟩:=G.pre
 obtain⟨⟨o,z1⟩,z2,z3⟩:=z a q
 exact⟨G.ext.live a o z1,fun m=>(List.mem_append.mp m).elim z2 fun m=>aO z1 (f a m),z3⟩
end
def so(C:Cx)(x:Nat)(v:AV):Prop:=∃rv,(∀J M h,(∀b o,C.hb.get? b=some o→¬M b∧h.get? b=some o)→ao C J M h v rv)∧∃mg,C.hb.Ns mainGlobals mg∧
 (mg (C.nm x)=some rv∨(mg (C.nm x)=none∧∃mb,C.hb.Ns builtinsNs mb∧mb (C.nm x)=some rv))
section
theorem dM.wp{x:Str}(R:dM Z M env st.heap x rv)(hk:env.scope.kind=.function)(h1:(x==("__debug__":Str))=false)(h2:(x==("__classdict__":Str))=false)(q:Q rv st):
  ab (Md C) A (eval (.Name x pos) env) Q E st:=by
 refine nh ?_ h1
 cases R with
 |loc m a b c e=>exact lf<|wpAny_loadName_local hk a c e q
 |cell c o a b e f g=>exact a.elim (fun a=>lf<|wpAny_loadName_cell hk a b ⟨o,f,g⟩ q) fun a=>lf<|wpAny_loadName_free hk a b ⟨o,f,g⟩ q h2
theorem RE{x:Nat}(e:(cF P N ih (.n x) ρ s).leaf C.ν=some (v,s')){sN:Str}(h1:sN=C.nm x)(h2:gZ (kd.k sN))(h3:(sN==("__debug__":Str))=false)(h4:(sN==("__classdict__":Str))=false)(F:fu C Z J M kd env ρ st.heap)(S:aq C J M s st.heap)(K:KV C Z J M st v s' Q):
  ab (Md C) A (eval (.Name sN pos) env) Q E st:=by
  subst h1;exact aC (aI e) fun w q e=>aC (F.vars x w q h2) fun rv R V=>R.wp F.kind h3 h4 ((K.of e).now S V st.toks)
theorem NB(e:(cF P N ih (.val a) ρ s).leaf C.ν=some (v,s')){cc:Const}{kk:Nat}(h:sr a cc)(S:aq C J M s st.heap)(K:KV C Z J M st v s' Q):
  ab (Md C) A (eval (.Constant cc kk pos) env) Q E st:=by
  unfold cF at e;injection e with e;injection e with e aN;subst e aN;rw [arm_eval_Constant];cases h with
  |none=>exact af (K.now S .none st.toks)
  |bool b=>exact af (K.now S (.bool b) st.toks)
  |int i=>exact lf<|wpAny_mkInt (K.now S (.int (.c i) i _ rfl) _)
  |str l=>exact lf<|wpAny_mkText (K.now S (.str l _) _)
  |bytes l b hb hl=>
   refine aa (lf<|wpAny_fresh (af ?_))
   have hE:∀ν:Nat→Int,∀e∈l,∃i:Nat,i<256∧e.eval ν=(i:Int):=fun ν e he=>by
    obtain⟨i,hi,rfl⟩:=hb e he
    exact⟨i,hi,rfl⟩
   have hq:l.map (cz C.ν)=b:=by
    rw [←hl];refine List.map_congr_left fun e he=>?_
    obtain⟨i,hi,rfl⟩:=hb e he
    rfl
   have:b.toArray=aS C.ν l:=by unfold aS;rw [hq]
   rw [this];exact K.now S (.bytes l _ fun e he=>by
    refine aC (hE C.ν e he:) fun i hi q=>?_
    rw [q];lia) _
theorem Ae{x:Nat}{w:AV}(W:so C x w)(S:aq C J M s st.heap)(F:fu C Z J M kd env ρ st.heap)(k:∀rv,ao C J M st.heap w rv→Q rv st):ab (Md C) A (loadGlobal env (C.nm x)) Q E st:=
 aC W fun rv V W=>aC W fun mg G hm=>by
  have kp:∀b o,C.hb.get? b=some o→st.heap.get? b=some o:=fun b o e=>(S.base b o e).2
  have G':st.heap.Ns env.globals mg:=by rw [F.glob];exact G.keeps kp
  exact hm.elim (fun hm=>lf<|Calls.loadGlobal_global G' hm (k rv (V _ _ _ S.base))) fun hm=>aw hm fun hm h=>aC h fun mb B hb=>lf<|Calls.loadGlobal_builtin G' hm (by rw [F.i8];exact B.keeps kp) hb (k rv (V _ _ _ S.base))
theorem NK(W:∀x v,P.gl.get x=some v→so C x v){x:Nat}(e:(cF P N ih (.eZ x) ρ s).leaf C.ν=some (v,s')){sN:Str}(h1:sN=C.nm x)(h2:kd.k sN=some .globalImplicit)(h3:(sN==("__debug__":Str))=false)(F:fu C Z J M kd env ρ st.heap)(S:aq C J M s st.heap)(K:KV C Z J M st v s' Q):
  ab (Md C) A (eval (.Name sN pos) env) Q E st:=by
  subst h1;refine aC (aI e) fun w q e=>fy F.kind ((F.kinds _).trans h2) (Ae (W x w q) S F fun rv V=>(K.of e).now S V st.toks) h3
theorem bC{r:aH α}{a:α}(e:(jP n r).leaf ν=some a):n≤100000∧r.leaf ν=some a:=by
 unfold jP at e;cases q:Nat.ble n 100000 with
 |true=>rw [q]at e;exact⟨bF q,e⟩
 |false=>rw [q]at e;injection e
theorem bN(h:n≤100000):n≤sizeLine:=Nat.le_trans h (by decide)
theorem dX(h:∀y p,x≠.Starred y p):starEach (x::xs) env=(false,eval x env)::starEach xs env:=by
 cases x<;>first|rfl|exact absurd rfl (h _ _)
theorem gn(H:gu C ih d):∀{es:List CE}{ρ:Env}{s:AS}{vs:List AV}{s':AS},(qC ih es ρ s).leaf C.ν=some (vs,s')→∀{kd:Kd}{xs:List Expr},c0 C kd es xs→∀{Z:Addr→Prop}{J:List Addr}{M:Addr→Prop}{env:PySem.Env}{A:Around}{st:Shared}(pos:Pos),
  fu C Z J M kd env ρ st.heap→aq C J M s st.heap→bu A d→cm C Z J st.heap→∀{Q:List Value→Shared→Prop}{E:Value→Shared→Prop},Q5 C Z J M st vs s' Q→ab (Md C) A (spliced (backTo pos (starEach xs env))) Q E st:=by
 intro es
 induction es with
 |nil=>
  intro ρ s vs s' e kd xs hf Z J M env A st pos F S R z Q E K;exact hf.nl▸lf (wpAny_items_nil (K.of e J M st.heap st.toks [] (aJ.refl _ _ _ _) S .nil))
 |cons a es Dk=>
  intro ρ s vs s' e kd xs hf Z J M env A st pos F S R z Q E K;refine aH.bd e fun p e1 e=>aH.bd e fun q e2 e=>hf.oZ fun x sO f1 f2 f3=>?_
  refine ic (H a ρ s p.1 p.2 e1 kd x f1 Z J M env A st F S R z _ _ fun aA aP h₁ aU rv G aD V=>?_) (dX f2)
  exact Dk e2 f3 pos (F.grow G) aD R (z.grow G) fun cy dU br bf rvs bb bU d7=>K.of e cy dU br bf _ (G.trans bb) bU (.cons (V.grow bb) d7)
theorem NC(H:gu C ih d){es:List CE}(e:(cF P N ih (.t es) ρ s).leaf C.ν=some (v,s')){kk:Nat}(h:c0 C kd es xs)(F:fu C Z J M kd env ρ st.heap)(S:aq C J M s st.heap)(R:bu A d)(z:cm C Z J st.heap)(K:KV C Z J M st v s' Q):
  ab (Md C) A (eval (.Tuple xs kk pos) env) Q E st:=by
  unfold cF at e;refine aH.cM e fun vs ag e1 e=>?_
  refine aw (bC e:) fun hl e=>?_
  injection e with e;injection e with e aN;subst e aN;refine sG (gn H e1 h _ F S R z fun aA aP h₁ aU rvs G aD V=>⟨by rw [←V.length];exact bN hl,?_⟩)
  have G':=aJ.push Z aA aP h₁ (fP rvs 0)
  exact K aA aP _ aU _ (G.trans G') (aD.push _) (.t vs _ rvs 0 (aD.nY (Heap.bc _)) (Heap.get?_push_size _ rfl) (V.grow G'))
theorem fh{o:AO}(e:(s.alloc o).leaf ν=some (i,s')):Nat.blt s.n 1000000=true∧i=s.n∧s'=(s.new o).2:=by
 unfold AS.alloc at e;cases q:Nat.blt s.n 1000000 with
 |true=>rw [q]at e;injection e with e;injection e with e aN;subst e aN;exact⟨rfl,rfl,rfl⟩
 |false=>rw [q]at e;injection e
theorem newList_K{rvs:List Value}(e:(newList s l).leaf C.ν=some (v,s'))(S:aq C J M s st.heap)(V:ay C J M st.heap l rvs)(K:KV C Z J M st v s' Q)(tk:Tok):
  rvs.length≤sizeLine∧Q (.ref st.heap.objs.size) {st with heap:=st.heap.push (bZ rvs 0),toks:=tk}:=by
 unfold newList at e;refine aw (bC e:) fun hl e=>?_
 refine aH.cM e fun i ag e1 e=>?_
 injection e with e;injection e with e aN;subst e aN;obtain⟨hb,rfl,rfl⟩:=fh e1
 refine⟨by rw [←V.length];exact bN hl,?_⟩
 have hg:=Heap.get?_push_size st.heap (o:=bZ rvs 0) rfl
 have G:aJ Z J M st.heap (J++[st.heap.objs.size]) (fun b=>M b∨b=st.heap.objs.size) (st.heap.push (bZ rvs 0)):=
  ⟨⟨[st.heap.objs.size],rfl,fun b m=>by rw [List.mem_singleton]at m;rw [m];exact Heap.bc _⟩,⟨fun b o e=>⟨o,cP _ e⟩,fun b o Y e=>cP _ e⟩,fun Y x=>.inl x,fun b x=>x.elim .inl fun q=>.inr (q▸Heap.bc _)⟩
 obtain⟨S',G',he⟩:=S.alloc (Z:=Z) hb (h':=st.heap.push (bZ rvs 0)) (a:=st.heap.objs.size) (fun Y Y e=>cP _ e) (Heap.bc _) (.list l)
  (.list l _ rvs 0 hg (V.grow G))
 exact K _ _ _ tk _ G' S' (.ref _ _ he)
theorem Ku(H:gu C ih d){es:List CE}(e:(cF P N ih (.list es) ρ s).leaf C.ν=some (v,s'))(h:c0 C kd es xs)(F:fu C Z J M kd env ρ st.heap)(S:aq C J M s st.heap)(R:bu A d)(z:cm C Z J st.heap)(K:KV C Z J M st v s' Q):
  ab (Md C) A (eval (.List xs pos) env) Q E st:=by
  unfold cF at e;refine aH.cM e fun vs ag e1 e=>?_
  exact vo (gn H e1 h _ F S R z fun aA aP h₁ aU rvs G aD V=>newList_K (st:={st with heap:=h₁,toks:=aU}) e aD V (K.after G) aU)
theorem B7(H:gu C ih d){a b:CE}{y:Expr}{op:AV→AV→AS→aH (AV×AS)}{t:Value→Value→Sem Value}
  (e:((ih.ev a ρ s).bind fun(x,s)=>(ih.ev b ρ s).bind fun(y,s)=>op x y s).leaf C.ν=some (v,s'))(h1:aW C kd a x)(h2:aW C kd b y)(F:fu C Z J M kd env ρ st.heap)(S:aq C J M s st.heap)(R:bu A d)(z:cm C Z J st.heap)(K:KV C Z J M st v s' Q)
  (ht:∀{av bv:AV}{ag:AS}{rv rw:Value}{J:List Addr}{M:Addr→Prop}{st:Shared}{Q:Value→Shared→Prop},(op av bv ag).leaf C.ν=some (v,s')→ao C J M st.heap av rv→ao C J M st.heap bv rw→aq C J M ag st.heap→cm C Z J st.heap→KV C Z J M st v s' Q→ab (Md C) A (t rv rw) Q E st):
  ab (Md C) A (eval x env) (fun a ag=>ab (Md C) A (eval y env) (fun b aK=>ab (Md C) A (t a b) Q E aK) E ag) E st:=by
 refine aH.cM e fun av ag e1 e=>?_
 refine aH.cM e fun bv aK e2 e=>?_
 refine H a ρ s av ag e1 kd x h1 Z J M env A st F S R z _ _ fun aA aP h₁ aU rv aF aD cb=>?_
 refine H b ρ ag bv aK e2 kd y h2 Z aA aP env A _ (F.grow aF) aD R (z.grow aF) _ _ fun cy dU br bf rw bb bU d7=>?_
 exact ht (st:={st with heap:=br,toks:=bf}) e (cb.grow bb) d7 bU ((z.grow aF).grow bb) (K.after (aF.trans bb))
theorem NI(H:gu C ih d)(HT:vm C ih d){t a b:CE}(e:(cF P N ih (.ite t a b) ρ s).leaf C.ν=some (v,s')){x2 x3:Expr}(h1:aW C kd t x1)(h2:aW C kd a x2)(h3:aW C kd b x3)(F:fu C Z J M kd env ρ st.heap)(S:aq C J M s st.heap)(R:bu A d)(z:cm C Z J st.heap)(K:KV C Z J M st v s' Q):
  ab (Md C) A (eval (.IfExp x1 x2 x3 pos) env) Q E st:=by
  unfold cF at e;refine aH.cM e fun r ag e1 e=>?_
  refine sH (HT t ρ s r ag e1 kd _ h1 Z J M env A st F S R z _ _ fun aA aP h₁ aU aF aD=>?_)
  cases r with
  |true=>exact H a ρ ag v s' e kd _ h2 Z aA aP env A _ (F.grow aF) aD R (z.grow aF) _ _ (K.after aF)
  |false=>exact H b ρ ag v s' e kd _ h3 Z aA aP env A _ (F.grow aF) aD R (z.grow aF) _ _ (K.after aF)
end
theorem bL{a b:Int}:iB a b=true↔a=b:=PySem.W.Z.eqB_iff a b
theorem bz{a b:Int}:i6 a b=true↔a<b:=PySem.W.Z.ltB_iff a b
theorem bI{a b:Int}:jO a b=true↔a≤b:=PySem.W.Z.leB_iff a b
theorem I5{a b:Int}(h:iB a b=false):a≠b:=fun q=>by rw [bL.mpr q]at h;injection h
theorem I4{a b:Int}(h:i6 a b=false):b≤a:=Int.not_lt.mp fun q=>by rw [bz.mpr q]at h;injection h
theorem yz{a b:Int}(h:jO a b=false):b<a:=Int.not_le.mp fun q=>by rw [bI.mpr q]at h;injection h
def cg(ν:Nat→Int)(rg:Rg):Prop:=∀(k:Nat)(p:Int×Int),rg[k]?=some p→p.1≤ν k∧ν k≤p.2
theorem yu(a b:Int):mJ a b≤a∧mJ a b≤b:=by
 unfold mJ;cases q:jO a b with
 |true=>have:=bI.mp q;simp only;lia
 |false=>have:=yz q;simp only;lia
theorem yk(a b:Int):a≤imax a b∧b≤imax a b:=by
 unfold imax;cases q:jO a b with
 |true=>have:=bI.mp q;simp only;lia
 |false=>have:=yz q;simp only;lia
theorem mW:∀(l:List Int)(m x:Int),x=m∨x∈l→C0 l m≤x
 |[],m,x,h=>by rcases h with rfl|h;exact Int.le_refl _;cases h
 |a::l,m,x,h=>by
  unfold C0;rcases h with rfl|h
  ·exact Int.le_trans (mW l _ _ (.inl rfl)) (yu a x).2
  ·rcases cK h with rfl|h
   ·exact Int.le_trans (mW l _ _ (.inl rfl)) (yu x m).1
   ·exact mW l _ _ (.inr h)
theorem mY:∀(l:List Int)(m x:Int),x=m∨x∈l→x≤C1 l m
 |[],m,x,h=>by rcases h with rfl|h;exact Int.le_refl _;cases h
 |a::l,m,x,h=>by
  unfold C1;rcases h with rfl|h
  ·exact Int.le_trans (yk a x).2 (mY l _ _ (.inl rfl))
  ·rcases cK h with rfl|h
   ·exact Int.le_trans (yk x m).1 (mY l _ _ (.inl rfl))
   ·exact mY l _ _ (.inr h)
theorem xP{t:List Int}{lo hi i:Int}(h0:0≤lo)(h1:hi<t.length)(h2:lo≤i)(h3:i≤hi):t.getD i.toNat 0∈(t.take (hi+1).toNat).drop lo.toNat:=by
 refine dF (Int.eq_ofNat_of_zero_le h0:) fun a ea=>?_
 refine dF (Int.eq_ofNat_of_zero_le (Int.le_trans h0 h2):) fun k ek=>?_
 refine dF (Int.eq_ofNat_of_zero_le (Int.le_trans h0 (Int.le_trans h2 h3)):) fun b eb=>?_
 subst ea ek eb;have h2:=Int.ofNat_le.mp h2
 have h3:=Int.ofNat_le.mp h3
 have hlt:k<t.length:=Nat.lt_of_le_of_lt h3 (Int.ofNat_lt.mp h1)
 show t.getD k 0∈(t.take (b+1)).drop a;rw [List.getD_eq_getElem?_getD,List.getElem?_eq_getElem hlt];refine bO (i:=k - a) ?_
 rw [List.getElem?_drop,Nat.add_sub_cancel' h2,List.getElem?_take,if_pos (Nat.lt_succ_of_le h3),List.getElem?_eq_getElem hlt]
 rfl
theorem qz{a b m:Int}(h:a≤b)(hm:0<m):Int.fdiv a m≤Int.fdiv b m:=by
 rw [Int.fdiv_eq_ediv_of_nonneg _ (Int.le_of_lt hm),Int.fdiv_eq_ediv_of_nonneg _ (Int.le_of_lt hm)];exact Int.ediv_le_ediv hm h
theorem aB{r:Option α}{y:α}(h:ck b r=some y):b=true∧r=some y:=by
 cases b with
 |true=>exact⟨rfl,h⟩
 |false=>injection h
theorem aM{o:Option α}{g:α→Option β}{y:β}(h:gg o g=some y):∃a,o=some a∧g a=some y:=by
 cases o with
 |none=>injection h
 |some a=>exact⟨a,rfl,h⟩
theorem bD{l:List α}{g:α→List α→Option β}{y:β}(h:kg l g=some y):∃a r,l=a::r∧g a r=some y:=by
 cases l with
 |nil=>injection h
 |cons a r=>exact⟨a,r,rfl,h⟩
theorem ae{a:Bool}(h:(a&&b)=true):a=true∧b=true:=(Bool.and_eq_true a b).mp h
theorem fS{a:Bool}(h:(a||b)=true):a=true∨b=true:=(Bool.or_eq_true a b).mp h
theorem dA{a:Bool}(h:(!a)=true):a=false:=by cases a with
 |true=>injection h
 |false=>rfl
theorem dh{x:IE}{i:Int}(h:gQ x=some i):x=.c i:=by cases x<;>first|exact congrArg IE.c (bg h)|injection h
theorem kf{x:IE}(h:ER x=some k):x=.v k:=by cases x<;>first|exact congrArg IE.v (bg h)|injection h
def zI(l:List Prop)(k:Nat):Prop:=Nat.rec (motive:=fun Y=>List Prop→Prop) (fun l=>l.headD True) (fun Y r l=>r l.tail) k l
theorem OS(e:IE):zI [True,True,e=.add (mI e) (rB e),e=.sub (mI e) (rB e),e=.mul (mI e) (rB e),e=.div (mI e) (rB e),e=.mod (mI e) (rB e),e=.tab (Iy e) (mI e)] e.ctorIdx:=by
 cases e<;>first|exact trivial|exact rfl
theorem jy{e:IE}(h:MN e k=true):zI [True,True,e=.add (mI e) (rB e),e=.sub (mI e) (rB e),e=.mul (mI e) (rB e),e=.div (mI e) (rB e),e=.mod (mI e) (rB e),e=.tab (Iy e) (mI e)] k:=aL h▸OS e
theorem HW{x:IE}{p:IE×Int}(h:l8 x=some p):x=.add p.1 (.c p.2):=by
 refine aw (aB h:) fun h0 h=>?_
 refine aC (aM h:) fun i e h=>?_
 injection h with h;subst h;exact(show x=.add (mI x) (rB x)from jy h0).trans (congrArg (IE.add _) (dh e))
theorem jR{x:IE}{p:IE×Int}(ν:Nat→Int)(h:l8 x=some p):x.eval ν=p.1.eval ν+p.2:=congrArg (IE.eval ν) (HW h)
theorem ia{x:IE}{i:Int}(ν:Nat→Int)(h:gQ x=some i):x.eval ν=i:=congrArg (IE.eval ν) (dh h)
section
def Wi(p:Int×Int)(x:Int):Prop:=p.1≤x∧x≤p.2
theorem Wi.add{p q:Int×Int}{x y:Int}(a:Wi p x)(b:Wi q y):Wi (p.1+q.1,p.2+q.2) (x+y):=⟨Int.add_le_add a.1 b.1,Int.add_le_add a.2 b.2⟩
theorem Wi.sub{p q:Int×Int}{x y:Int}(a:Wi p x)(b:Wi q y):Wi (p.1 - q.2,p.2 - q.1) (x - y):=⟨Int.sub_le_sub a.1 b.2,Int.sub_le_sub a.2 b.1⟩
theorem Wi.tab{t:List Int}{p:Int×Int}{i x:Int}{r:List Int}(b1:0≤p.1)(b2:p.2<t.length)(hv:Wi p i)(hl:(t.take (p.2+1).toNat).drop p.1.toNat=x::r):Wi (C0 r x,C1 r x) (t.getD i.toNat 0):=by
 have hm:t.getD i.toNat 0∈x::r:=hl▸xP b1 b2 hv.1 hv.2
 exact⟨mW r x _ (cK hm),mY r x _ (cK hm)⟩
theorem dJ(R:cg ν rg):∀{e:IE}{p:Int×Int},gk rg e=some p→Wi p (e.eval ν):=by
 intro e
 induction e with
 |c i=>intro p q;injection q with q;subst q;exact⟨Int.le_refl _,Int.le_refl _⟩
 |v k=>exact fun q=>R k _ q
 |add a b ha hb=>
  intro p q;refine aC (aM q:) fun x e1 q=>?_
  refine aC (aM q:) fun y e2 q=>?_
  injection q with q;subst q;exact(ha e1).add (hb e2)
 |sub a b ha hb=>
  intro p q;refine aC (aM q:) fun x e1 q=>?_
  refine aC (aM q:) fun y e2 q=>?_
  injection q with q;subst q;exact(ha e1).sub (hb e2)
 |mul a b ha hb=>
  intro p q;refine aC (aM q:) fun x e1 q=>?_
  refine aC (aM q:) fun i e2 q=>?_
  refine aw (aB q:) fun hi q=>?_
  injection q with q;subst q;rw [dh e2];exact⟨Int.mul_le_mul_of_nonneg_right (ha e1).1 (bI.mp hi),Int.mul_le_mul_of_nonneg_right (ha e1).2 (bI.mp hi)⟩
 |div a b ha hb=>
  intro p q;refine aC (aM q:) fun x e1 q=>?_
  refine aC (aM q:) fun i e2 q=>?_
  refine aw (aB q:) fun hi q=>?_
  injection q with q;subst q;rw [dh e2];exact⟨qz (ha e1).1 (bz.mp hi),qz (ha e1).2 (bz.mp hi)⟩
 |mod a b ha hb=>
  intro p q;refine aC (aM q:) fun x e1 q=>?_
  refine aC (aM q:) fun i e2 q=>?_
  refine aw (aB q:) fun hi q=>?_
  injection q with q;subst q;rw [dh e2];exact⟨Int.fmod_nonneg_of_pos _ (bz.mp hi),Int.le_sub_one_of_lt (Int.fmod_lt_of_pos _ (bz.mp hi))⟩
 |tab t a ha=>
  intro p q;refine aC (aM q:) fun x e1 q=>?_
  refine aw (aB q:) fun hb q=>?_
  refine eM (bD q:) fun y r hl q=>?_
  injection q with q;subst q;exact Wi.tab (bI.mp (ae hb).1) (bz.mp (ae hb).2) (ha e1) hl
theorem yl(R:cg ν rg){e:IE}{l h:Int}(q:gk rg e=some (l,h)):l≤e.eval ν∧e.eval ν≤h:=dJ R q
end
theorem iz(ν:Nat→Int)(x:IE)(j:Int):(uZ x j).eval ν=x.eval ν+j:=by
 unfold uZ;cases q:gQ x with
 |some i=>rw [dh q];rfl
 |none=>
  simp only
  cases q:l8 x with
  |some p=>
   dsimp only
   rw [jR ν q,Int.add_assoc];cases q:iB (p.2+j) 0 with
   |true=>rw [bL.mp q,Int.add_zero]
   |false=>rfl
  |none=>
   dsimp only
   cases q:iB j 0 with
   |true=>rw [bL.mp q,Int.add_zero]
   |false=>rfl
theorem AX(ν:Nat→Int)(x y:IE):(Mx x y).eval ν=x.eval ν+y.eval ν:=by
 unfold Mx;cases q:l8 x with
 |some p=>
  dsimp only
  rw [jR ν q];cases q:l8 y with
  |some r=>
   rw [jR ν q];show(uZ _ _).eval ν=_;rw [iz];show p.1.eval ν+r.1.eval ν+(p.2+r.2)=_
   lia
  |none=>exact Int.add_right_comm ..
 |none=>
  dsimp only
  cases q:l8 y with
  |some r=>rw [jR ν q];exact Int.add_assoc ..
  |none=>rfl
theorem ky(ν:Nat→Int)(x y:IE):(mkAdd x y).eval ν=x.eval ν+y.eval ν:=by
 unfold mkAdd;cases q:gQ y with
 |some j=>rw [ia ν q];exact iz ..
 |none=>
  dsimp only
  cases q:gQ x with
  |some i=>rw [ia ν q];exact(iz ..).trans (Int.add_comm ..)
  |none=>exact AX ..
theorem ku(ν:Nat→Int)(x y:IE):(mkSub x y).eval ν=x.eval ν - y.eval ν:=by
 unfold mkSub;cases q:gQ y with
 |some j=>rw [ia ν q];exact iz ..
 |none=>rfl
theorem qk(ν:Nat→Int)(x:IE)(j:Int):(mulC x j).eval ν=x.eval ν*j:=by
 unfold mulC;cases q:gQ x with
 |some i=>rw [dh q];rfl
 |none=>
  dsimp only
  cases q:iB j 0 with
  |true=>rw [bL.mp q,Int.mul_zero];rfl
  |false=>
   dsimp only
   cases q:iB j 1 with
   |true=>rw [bL.mp q,Int.mul_one]
   |false=>
    dsimp only
    cases q:l8 x with
    |some p=>rw [jR ν q,Int.add_mul];rfl
    |none=>rfl
theorem v5(ν:Nat→Int)(x y:IE):(mkMul x y).eval ν=x.eval ν*y.eval ν:=by
 unfold mkMul;cases q:gQ y with
 |some j=>rw [ia ν q];exact qk ..
 |none=>
  dsimp only
  cases q:gQ x with
  |some i=>rw [ia ν q];exact(qk ..).trans (Int.mul_comm ..)
  |none=>rfl
theorem r8{P:α→Prop}{x y:IE}{g:Int→Int→α}{d:α}(h:∀i j,x=.c i→y=.c j→P (g i j))(hd:P d):P (both x y g d):=by
 unfold both;cases q:gQ x with
 |none=>exact hd
 |some i=>
  cases q':gQ y with
  |none=>exact hd
  |some j=>exact h i j (dh q) (dh q')
theorem wb(ν:Nat→Int)(x y:IE):(IW x y).eval ν=Int.fdiv (x.eval ν) (y.eval ν):=r8 (P:=fun z:IE=>z.eval ν=_) (fun i j ex ey=>by rw [ex,ey];rfl) rfl
theorem kC(ν:Nat→Int){m:Int}:∀x:IE,(oO m x).eval ν % m=x.eval ν % m
 |.c i=>by
  show(Int.emod i m) % m=i % m;exact Int.emod_emod_of_dvd _ (Int.dvd_refl m)
 |.v k=>rfl
 |.add a b=>by
  have h1:=kC ν (m:=m) a
  have h2:=kC ν (m:=m) b
  show(mkAdd (oO m a) (oO m b)).eval ν % m=(a.eval ν+b.eval ν) % m;rw [ky,Int.add_emod,h1,h2,←Int.add_emod]
 |.sub a b=>rfl
 |.mul a b=>by
  unfold oO;cases q:gQ b with
  |none=>rfl
  |some k=>
   dsimp only
   cases q':iB (Int.emod k m) 0 with
   |false=>rfl
   |true=>
    show(0:Int) % m=(a.eval ν*b.eval ν) % m;rw [ia ν q,Int.mul_emod,show k % m=0 from bL.mp q',Int.mul_zero]
 |.div a b=>rfl
 |.mod a b=>rfl
 |.tab l a=>rfl
theorem vM(R:cg ν rg){m:Int}(hm:0<m){x y:IE}(h:y.eval ν % m=x.eval ν % m):(Ce rg m x y).eval ν=Int.fmod (x.eval ν) m:=by
 unfold Ce;cases q:gk rg y with
 |none=>rfl
 |some p=>
  dsimp only
  cases q':i6 (p.2 - Int.fdiv p.1 m*m) m with
  |false=>rfl
  |true=>
   dsimp only
   have b:=bz.mp q'
   refine aw (dJ R q:) fun v1 v2=>?_
   rw [iz,Int.fmod_eq_emod_of_nonneg _ (Int.le_of_lt hm),←h];rw [Int.fdiv_eq_ediv_of_nonneg _ (Int.le_of_lt hm)]at b⊢;have key:(y.eval ν - p.1/m*m) % m=y.eval ν - p.1/m*m:=Int.emod_eq_of_lt (Int.sub_nonneg_of_le (Int.le_trans (Int.ediv_mul_le p.1 (Int.ne_of_gt hm)) v1)) (Int.lt_of_le_of_lt (Int.sub_le_sub_right v2 _) b)
   exact Int.sub_eq_add_neg.symm.trans (key.symm.trans (Int.sub_mul_emod_self_right ..))
theorem v8(R:cg ν rg)(x y:IE):(IV rg x y).eval ν=Int.fmod (x.eval ν) (y.eval ν):=by
 refine r8 (P:=fun z:IE=>z.eval ν=_) (fun i j ex ey=>by rw [ex,ey];rfl) ?_
 cases q:gQ y with
 |none=>rfl
 |some m=>
  dsimp only
  rw [dh q];cases q':i6 0 m with
  |false=>rfl
  |true=>exact vM R (bz.mp q') (kC ν _)
theorem kl(R:cg ν rg){e:IE}(h:fm rg e=true):Builtin.Int.intBits (e.eval ν)≤64:=by
 unfold fm at h;cases q:gk rg e with
 |none=>rw [q]at h;injection h
 |some p=>
  rw [q]at h;refine aw (ae h:) fun b1 b2=>?_
  refine aw (dJ R q:) fun v1 v2=>?_
  exact intBits_le_64 (Int.lt_of_lt_of_le (bz.mp b1) v1) (Int.lt_of_le_of_lt v2 (bz.mp b2))
theorem My{B:Nat}{l x h:Int}(a: -(B:Int)<l)(b:l≤x)(c:x≤h)(d:h<(B:Int)):x.natAbs<B:=by
 have p:=Int.lt_of_lt_of_le a b
 have q:=Int.lt_of_le_of_lt c d
 cases x with
 |ofNat n=>exact Int.ofNat_lt.mp q
 |negSucc n=>exact Int.ofNat_lt.mp (Int.neg_lt_neg_iff.mp p)
theorem CK(R:cg ν rg){e:IE}(h:mid rg e=true):Builtin.Int.intBits (e.eval ν)≤8192:=by
 unfold mid at h;cases q:gk rg e with
 |none=>rw [q]at h;injection h
 |some p=>
  rw [q]at h;refine aw (ae h:) fun b1 b2=>?_
  refine aw (dJ R q:) fun v1 v2=>?_
  exact PySem.intBits_le_iff.mpr (My (bz.mp b1) v1 v2 (bz.mp b2))
section
theorem Oq(R:cg ν rg){x y:IE}(hb:(fm rg y||(fm rg x||(mid rg x&&mid rg y)))=true):IntMulOk (x.eval ν) (y.eval ν):=by
 rcases fS hb with hb|hb
 ·exact IntMulOk.of_right (kl R hb)
 ·rcases fS hb with hb|hb
  ·exact IntMulOk.of_left (kl R hb)
  ·exact IntMulOk.of_bits (Nat.le_trans (CK R (ae hb).1) (by decide)) (Nat.le_trans (CK R (ae hb).2) (by decide))
theorem NW{i:Int}(b1:n≤200)(b3:Builtin.Int.intBits i≤64):(Builtin.Int.intBits i:Int)*(n:Int)≤64*200:=Int.mul_le_mul (by exact_mod_cast b3) (by lia) (by lia) (by decide)
theorem EO{x y:IE}{op:Op}{rw:Value}(e:(IJ op x y s).leaf C.ν=some (v,s'))(V:ao C J M st.heap (.int x) rv)(W:ao C J M st.heap (.int y) rw)(S:aq C J M s st.heap)
  (K:KV C Z J M st v s' Q):ab (Md C) A (binaryOp (II op) rv rw) Q E st:=by
 refine V.eN fun t=>?_
 refine W.eN fun u=>?_
 have R:cg C.ν s.rg:=S.rg
 cases op with
 |add=>(injection e with e;injection e with e aN;subst e aN);exact lf<|add_int (K.now S (.int _ _ _ (ky _ _ _)) _)
 |sub=>(injection e with e;injection e with e aN;subst e aN);exact lf<|PyProof.Rows.sub_int (K.now S (.int _ _ _ (ku _ _ _)) _)
 |mul=>
  refine aw (cO e:) fun hb e=>?_
  injection e with e;injection e with e aN;subst e aN;exact lf<|mul_int (K.now S (.int _ _ _ (v5 _ _ _)) _) (Oq R hb)
 |div=>
  refine aC (aI e:) fun j q e=>?_
  refine aw (cO e:) fun hb e=>?_
  injection e with e;injection e with e aN;subst e aN;have b1:=bz.mp (ae hb).1
  have b2:=bz.mp (ae hb).2
  rw [dh q];exact lf<|floordiv_int (Int.ne_of_gt b1) (K.now S (.int _ _ _ (wb _ _ _)) _) (.inl (PyProof.noPylong_small (Int.ofNat_lt.mp (show((j.natAbs:Nat):Int)<_ by rw [Int.natAbs_of_nonneg (Int.le_of_lt b1)];exact b2))))
 |mod=>
  refine aC (aI e:) fun j q e=>?_
  refine aw (cO e:) fun hb e=>?_
  injection e with e;injection e with e aN;subst e aN;have b1:=bz.mp hb
  rw [dh q];exact lf<|mod_int' (Int.ne_of_gt b1) (K.now S (.int _ _ _ (v8 R _ _)) _)
 |pow=>
  refine aC (aI e:) fun i q e=>?_
  refine aC (aI e:) fun j q' e=>?_
  cases j with
  |negSucc n=>exact no e
  |ofNat n=>
   refine aw (cO e:) fun hb e=>?_
   injection e with e;injection e with e aN;subst e aN;rw [dh q,dh q'];exact lf<|pow_int (n:=((n:Nat):Int)) (Int.natCast_nonneg n) (Int.le_trans (NW (bF (ae hb).1) (kl (e:=.c i) R (ae hb).2)) (by decide)) (by rw [Int.toNat_natCast];exact K.now S (.int (.c (i^n)) (i^n) st.toks rfl) _)
end
theorem qc:∀(rg:Rg)(k:Nat)(y:Int×Int)(j:Nat)(p:Int×Int),(fz rg k y)[j]?=some p→(j=k∧p=y)∨rg[j]?=some p
 |[],_,_,_,_,h=>by injection h
 |x::r,k,y,j,p,h=>by
  unfold fz at h;cases q:Nat.beq k 0 with
  |true=>
   rw [q]at h;have:k=0:=aL q
   subst this;cases j with
   |zero=>left;simpa using h.symm
   |succ j=>right;simpa using h
  |false=>
   rw [q]at h;have hk:k≠0:=Nat.ne_of_beq_eq_false q
   cases j with
   |zero=>right;simpa using h
   |succ j=>
    rcases qc r (k - 1) y j p (by simpa using h)with⟨a,b⟩|a
    ·left;exact⟨a▸Nat.sub_one_add_one hk,b⟩
    ·right;simpa using a
theorem cg.set(R:cg ν rg){l h:Int}(h1:l≤ν k)(h2:ν k≤h):cg ν (fz rg k (l,h)):=fun j p e=>by
 rcases qc rg k (l,h) j p e with⟨rfl,rfl⟩|e
 ·exact⟨h1,h2⟩
 ·exact R j p e
theorem sP{x:IE}{p:Nat×Int}(h:pT x=some p):x.eval ν=ν p.1+p.2:=by
 unfold pT at h;cases q:ER x with
 |some k=>
  rw [q]at h;injection h with h;subst h;rw [kf q];exact(Int.add_zero _).symm
 |none=>
  rw [q]at h;refine aC (aM h:) fun r q1 h=>?_
  refine aC (aM h:) fun k q2 h=>?_
  injection h with h;subst h;rw [jR ν q1,kf q2];rfl
theorem iL(ν:Nat→Int)(kind:Nat)(a b:IE):eG ν kind a b=dZ kind (a.eval ν) (b.eval ν):=by
 have e0:∀i j:Int,decide (i=j)=iB i j:=fun i j=>by rw [Bool.eq_iff_iff,decide_eq_true_iff,bL]
 have e1:∀i j:Int,decide (i<j)=i6 i j:=fun i j=>by rw [Bool.eq_iff_iff,decide_eq_true_iff,bz]
 have e2:∀i j:Int,decide (i≤j)=jO i j:=fun i j=>by rw [Bool.eq_iff_iff,decide_eq_true_iff,bI]
 match kind with
 |0=>exact e0 _ _
 |1=>exact e1 _ _
 |_+2=>exact e2 _ _
theorem qO(kind:Nat)(x d j:Int):dZ kind (x+d) j=dZ kind x (j - d)∧dZ kind j (x+d)=dZ kind (j - d) x:=by
 match kind with
 |0=>exact⟨Bool.eq_iff_iff.mpr (bL.trans (Iff.trans (eq_comm.trans (Int.sub_eq_iff_eq_add.symm.trans eq_comm)) bL.symm)),Bool.eq_iff_iff.mpr (bL.trans (Iff.trans Int.sub_eq_iff_eq_add.symm bL.symm))⟩
 |1=>exact⟨Bool.eq_iff_iff.mpr (bz.trans (Iff.trans ⟨Int.lt_sub_right_of_add_lt,Int.add_lt_of_lt_sub_right⟩ bz.symm)),Bool.eq_iff_iff.mpr (bz.trans (Iff.trans ⟨Int.sub_right_lt_of_lt_add,Int.lt_add_of_sub_right_lt⟩ bz.symm))⟩
 |_+2=>exact⟨Bool.eq_iff_iff.mpr (bI.trans (Iff.trans ⟨Int.le_sub_right_of_add_le,Int.add_le_of_le_sub_right⟩ bI.symm)),Bool.eq_iff_iff.mpr (bI.trans (Iff.trans ⟨Int.sub_right_le_of_le_add,Int.le_add_of_sub_right_le⟩ bI.symm))⟩
theorem yj{x a b:Int}(h1:x≤a)(h2:x≤b):x≤mJ a b:=by
 unfold mJ;cases jO a b<;>assumption
theorem yv{x a b:Int}(h1:a≤x)(h2:b≤x):imax a b≤x:=by
 unfold imax;cases jO a b<;>assumption
section
theorem cg.upTo(R:cg ν rg){p:Int×Int}{u:Int}(e:rg[k]?=some p)(h:ν k≤u):cg ν (fz rg k (p.1,mJ p.2 u)):=
 R.set (R k p e).1 (yj (R k p e).2 h)
theorem cg.from(R:cg ν rg){p:Int×Int}{l:Int}(e:rg[k]?=some p)(h:l≤ν k):cg ν (fz rg k (imax p.1 l,p.2)):=
 R.set (yv (R k p e).1 h) (R k p e).2
theorem tA{P:Rg→Prop}{sw:Bool}{r1 r2 r3 r4:Rg}(h1:sw=false→b=true→P r1)(h2:sw=false→b=false→P r2)(h3:sw=true→b=true→P r3)(h4:sw=true→b=false→P r4):P (pick sw b r1 r2 r3 r4):=by
 cases sw<;>cases b
 ·exact h2 rfl rfl
 ·exact h1 rfl rfl
 ·exact h4 rfl rfl
 ·exact h3 rfl rfl
def Nf(kind:Nat)(sw:Bool)(x m:Int):Bool:=match sw with|false=>dZ kind x m|true=>dZ kind m x
theorem n3(R:cg ν rg){sw:Bool}{m:Int}(hb:Nf kind sw (ν k) m=b):cg ν (mV rg kind sw k m b):=by
 unfold mV;cases e:rg[k]? with
 |none=>exact R
 |some p=>
  match kind with
  |0=>
   have hw:iB (ν k) m=b:=by
    cases sw with
    |false=>exact hb
    |true=>rw [←hb];exact Bool.eq_iff_iff.mpr (bL.trans (Iff.trans ⟨Eq.symm,Eq.symm⟩ bL.symm))
   cases b with
   |true=>
    have q:=bL.mp hw
    exact R.set (yv (R k p e).1 (Int.le_of_eq q.symm)) (yj (R k p e).2 (Int.le_of_eq q))
   |false=>
    have q:=I5 hw
    refine aw (R k p e:) fun r1 r2=>?_
    cases q1:iB p.1 m with
    |true=>
     have:=bL.mp q1
     simp only[q1]
     exact R.set (by lia) r2
    |false=>
     cases q2:iB p.2 m with
     |true=>
      have:=bL.mp q2
      simp only[q1,q2]
      exact R.set r1 (by lia)
     |false=>simp only[q1,q2];exact R
  |1=>
   refine tA (fun a c=>?_) (fun a c=>?_) (fun a c=>?_) (fun a c=>?_)<;>subst a<;>subst c
   ·exact R.upTo e (Int.le_sub_one_of_lt (bz.mp hb))
   ·exact R.from e (I4 hb)
   ·exact R.from e (Int.add_one_le_of_lt (bz.mp hb))
   ·exact R.upTo e (I4 hb)
  |_+2=>
   refine tA (fun a c=>?_) (fun a c=>?_) (fun a c=>?_) (fun a c=>?_)<;>subst a<;>subst c
   ·exact R.upTo e (bI.mp hb)
   ·exact R.from e (Int.add_one_le_of_lt (yz hb))
   ·exact R.from e (bI.mp hb)
   ·exact R.upTo e (Int.le_sub_one_of_lt (yz hb))
theorem qj(R:cg ν rg){x y:IE}(hb:eG ν kind x y=b):cg ν (narrow rg kind x y b):=by
 rw [iL]at hb;unfold narrow;cases q:gQ y with
 |some j=>
  cases q':pT x with
  |none=>exact R
  |some p=>exact n3 R ((qO kind _ _ _).1.symm.trans (by rw [←sP q',←ia ν q];exact hb))
 |none=>
  cases q:gQ x with
  |none=>exact R
  |some j=>
   cases q':pT y with
   |none=>exact R
   |some p=>exact n3 (sw:=true) R ((qO kind _ _ _).2.symm.trans (by rw [←sP q',←ia ν q];exact hb))
end
theorem yw:∀{a b:List Int},GF a b=true→a=b
 |[],[],_=>rfl
 |[],_::_,h=>nomatch h
 |_::_,[],h=>nomatch h
 |a::x,b::y,h=>by
  unfold GF at h
  dsimp only at h
  cases q:iB a b with
  |true=>rw [q]at h;rw [bL.mp q,yw h]
  |false=>rw [q]at h;injection h
theorem jK{y:IE}{f g:IE→Bool}(h:sU k y f g=true):MN y k=true∧f (mI y)=true∧g (rB y)=true:=by
 unfold sU at h;cases q:MN y k with
 |false=>rw [q]at h;injection h
 |true=>
  rw [q]at h;cases q':f (mI y)with
  |false=>simp only[q']at h;injection h
  |true=>simp only[q']at h;exact⟨rfl,rfl,h⟩
theorem uK(f:Int→Int→Int){a b c d:Int}(h1:a=b)(h2:c=d):f a c=f b d:=h1▸h2▸rfl
theorem eT(ν:Nat→Int){a:IE}:∀{b:IE},fU a b=true→a.eval ν=b.eval ν:=by
 induction a with
 |c i=>
  intro y h;unfold fU at h;cases q:gQ y with
  |none=>rw [q]at h;injection h
  |some j=>rw [q]at h;rw [dh q,bL.mp h]
 |v i=>
  intro y h;unfold fU at h;cases q:ER y with
  |none=>rw [q]at h;injection h
  |some j=>rw [q]at h;rw [kf q,aL h]
 |add a b ha hb=>
  intro y h;refine dN (jK h:) fun h0 h1 h2=>?_
  rw [show y=.add (mI y) (rB y)from jy h0]
  exact uK Int.add (ha h1) (hb h2)
 |sub a b ha hb=>
  intro y h;refine dN (jK h:) fun h0 h1 h2=>?_
  rw [show y=.sub (mI y) (rB y)from jy h0]
  exact uK Int.sub (ha h1) (hb h2)
 |mul a b ha hb=>
  intro y h;refine dN (jK h:) fun h0 h1 h2=>?_
  rw [show y=.mul (mI y) (rB y)from jy h0]
  exact uK Int.mul (ha h1) (hb h2)
 |div a b ha hb=>
  intro y h;refine dN (jK h:) fun h0 h1 h2=>?_
  rw [show y=.div (mI y) (rB y)from jy h0]
  exact uK Int.fdiv (ha h1) (hb h2)
 |mod a b ha hb=>
  intro y h;refine dN (jK h:) fun h0 h1 h2=>?_
  rw [show y=.mod (mI y) (rB y)from jy h0]
  exact uK Int.fmod (ha h1) (hb h2)
 |tab l a ha=>
  intro y h;refine dN (jK h:) fun h0 h1 h2=>?_
  rw [show y=.tab (Iy y) (mI y)from jy h0,yw h2]
  exact congrArg (fun i:Int=>(Iy y).getD i.toNat 0) (ha h1)
section
variable{p q:Int×Int}{x y:Int}
theorem Hc{a b:IE}(P:Wi p (a.eval ν))(Q:Wi q (b.eval ν))(h:L2 p q a b=some r):dZ 0 (a.eval ν) (b.eval ν)=r:=by
 refine aw (P:) fun p1 p2=>?_
 refine aw (Q:) fun q1 q2=>?_
 unfold L2 at h;cases c:i6 p.2 q.1||i6 q.2 p.1 with
 |true=>
  rw [c]at h;injection h with h;subst h;cases z:dZ 0 (a.eval ν) (b.eval ν)with
  |false=>rfl
  |true=>
   have z:=bL.mp z
   exfalso
   rcases fS c with c|c<;>(have:=bz.mp c;lia)
 |false=>
  rw [c]at h
  dsimp only at h
  cases c:iB p.1 p.2&&(iB q.1 q.2&&iB p.1 q.1)with
  |true=>
   rw [c]at h;injection h with h;subst h;have c1:=bL.mp (ae c).1
   have c2:=bL.mp (ae (ae c).2).1
   have c3:=bL.mp (ae (ae c).2).2
   exact bL.mpr (by lia)
  |false=>
   rw [c]at h;refine aw (aB h:) fun c h=>?_
   injection h with h;subst h;exact bL.mpr (eT ν c)
theorem Hb(P:Wi p x)(Q:Wi q y)(h:L1 p q=some r):i6 x y=r:=by
 unfold L1 at h;cases c:i6 p.2 q.1 with
 |true=>
  rw [c]at h;injection h with h;subst h;exact bz.mpr (Int.lt_of_le_of_lt P.2 (Int.lt_of_lt_of_le (bz.mp c) Q.1))
 |false=>
  rw [c]at h;refine aw (aB h:) fun c h=>?_
  injection h with h;subst h;cases z:i6 x y with
  |false=>rfl
  |true=>exact absurd (bz.mp z) (Int.not_lt.mpr (Int.le_trans Q.2 (Int.le_trans (bI.mp c) P.1)))
theorem Ha(P:Wi p x)(Q:Wi q y)(h:L0 p q=some r):jO x y=r:=by
 unfold L0 at h;cases c:jO p.2 q.1 with
 |true=>
  rw [c]at h;injection h with h;subst h;exact bI.mpr (Int.le_trans P.2 (Int.le_trans (bI.mp c) Q.1))
 |false=>
  rw [c]at h;refine aw (aB h:) fun c h=>?_
  injection h with h;subst h;cases z:jO x y with
  |false=>rfl
  |true=>exact absurd (bI.mp z) (Int.not_le.mpr (Int.lt_of_le_of_lt Q.2 (Int.lt_of_lt_of_le (bz.mp c) P.1)))
end
theorem wZ(R:cg ν rg){a b:IE}(h:rW rg kind a b=some r):eG ν kind a b=r:=by
 rw [iL];refine aC (aM h:) fun p q1 h=>?_
 refine aC (aM h:) fun q q2 h=>?_
 match kind with
 |0=>exact Hc (dJ R q1) (dJ R q2) h
 |1=>exact Hb (dJ R q1) (dJ R q2) h
 |_+2=>exact Ha (dJ R q1) (dJ R q2) h
def SameBut(s s':AS):Prop:=s'.hp=s.hp∧s'.n=s.n
theorem aq.lT(S:aq C J M s h)(B:SameBut s s')(R:cg C.ν s'.rg):aq C J M s' h:=by
 refine aw (B:) fun b1 b2=>?_
 exact⟨b2▸S.len,b2▸S.lim,⟨b2▸S.gP.1,fun i hi=>by rw [b1];exact S.gP.2 i hi⟩,S.nodup,fun i o e=>by rw [b2];exact S.low i o (b1▸e),fun i o a e=>S.obj i o a (b1▸e),S.jt,S.yB,S.there,S.mlt,S.base,S.tab,R⟩
theorem zJ{m:Int}{l:List Int}(h:rF m l=true):m∉l:=by
 induction l with
 |nil=>exact List.not_mem_nil
 |cons x r ih=>
  unfold rF at h;cases q:iB x m with
  |true=>rw [q]at h;injection h
  |false=>
   rw [q]at h
   rintro hm
   rcases cK hm with rfl|hm
   ·exact I5 q rfl
   ·exact ih h hm
theorem zq{l:List Int}{lo hi i m x:Int}{r:List Int}(b1:0≤lo)(b2:hi<l.length)(h1:lo≤i)(h2:i≤hi)(hl:(l.take (hi+1).toNat).drop lo.toNat=x::r)(q1:x=m)(q2:m∉r):(i=lo)↔l.getD i.toNat 0=m:=by
 subst q1;refine⟨fun e=>?_,fun e=>?_⟩
 ·have h0:=congrArg (·[0]?) hl
  simp only[List.getElem?_drop,List.getElem?_cons_zero]at h0
  rw [Nat.add_zero,List.getElem?_take,if_pos (by lia)]at h0
  rw [e,List.getD_eq_getElem?_getD,h0];rfl
 ·have ht:=congrArg List.tail hl
  rw [List.tail_cons,List.tail_drop]at ht;refine Classical.byContradiction fun hlo=>q2 ?_
  rw [←e,←ht];have:=xP (t:=l) (lo:=lo+1) (hi:=hi) (i:=i) (by lia) b2 (by lia) h2
  rwa[show(lo+1).toNat=lo.toNat+1 by lia]at this
theorem BW(R:cg ν rg){a b:IE}{p:IE×IE}(h:tabAt rg a b=some p):eG ν 0 p.1 p.2=eG ν 0 a b:=by
 refine aw (aB h:) fun h0 h=>?_
 refine aC (aM h:) fun k e1 h=>?_
 refine aC (aM h:) fun m e2 h=>?_
 refine aC (aM h:) fun p e h=>?_
 refine aw (aB h:) fun hb h=>?_
 refine eM (bD h:) fun x r hl h=>?_
 refine aw (aB h:) fun q h=>?_
 injection h with h;subst h;rw [show a=.tab (Iy a) (mI a)from jy h0,dh e2,kf e1]
 exact decide_eq_decide.mpr (zq (bI.mp (ae hb).1) (bz.mp (ae hb).2) (R k p e).1 (R k p e).2 hl (bL.mp (ae q).1) (zJ (ae q).2))
theorem qp{a b:IE}(R:cg ν s.rg)(e:(yC kind a b s).leaf ν=some (r,s')):eG ν kind a b=r∧SameBut s s'∧cg ν s'.rg:=by
 unfold yC aH.leaf at e;cases q:eG ν kind a b with
 |true=>rw [q]at e;injection e with e;injection e with e aN;subst e aN;exact⟨rfl,⟨rfl,rfl⟩,qj R q⟩
 |false=>rw [q]at e;injection e with e;injection e with e aN;subst e aN;exact⟨rfl,⟨rfl,rfl⟩,qj R q⟩
theorem AN{a b:IE}(R:cg ν s.rg)(e:(ask' kind a b s).leaf ν=some (r,s')):eG ν kind a b=r∧SameBut s s'∧cg ν s'.rg:=by
 unfold ask' at e;cases q:rW s.rg kind a b with
 |some b=>rw [q]at e;injection e with e;injection e with e aN;subst e aN;exact⟨wZ R q,⟨rfl,rfl⟩,R⟩
 |none=>
  rw [q]at e
  dsimp only at e
  cases q:BX s.rg kind a b with
  |none=>rw [q]at e;exact qp R e
  |some p=>
   rw [q]at e;refine aw (qp R e:) fun f1 f2=>?_
   cases kind with
   |succ k=>injection q
   |zero=>exact⟨(BW R q).symm.trans f1,f2⟩
theorem dH{a b:IE}(R:cg ν s.rg):(ask kind a b s).leaf ν=some (r,s')→eG ν kind a b=r∧SameBut s s'∧cg ν s'.rg:=
 r8 (P:=fun z:aH (Bool×AS)=>z.leaf ν=some (r,s')→_) (fun i j ei ej e=>by
  injection e with e;injection e with e aN;subst e aN;rw [ei,ej];exact⟨iL ν kind _ _,⟨rfl,rfl⟩,R⟩) (AN R)
theorem SameBut.refl(s:AS):SameBut s s:=⟨rfl,rfl⟩
theorem SameBut.trans{gN:AS}(a:SameBut s s')(b:SameBut s' gN):SameBut s gN:=⟨b.1.trans a.1,b.2.trans a.2⟩
theorem fg(n:Nat){e:IE}:∀{s:AS}{i:Int}{s':AS},cg ν s.rg→(oR n e s).leaf ν=some (i,s')→e.eval ν=i∧SameBut s s'∧cg ν s'.rg:=by
 induction n with
 |zero=>exact fun Y h=>no h
 |succ n ih=>
  intro s i s' R h;unfold oR at h;cases q:gQ e with
  |some j=>rw [q]at h;injection h with h;injection h with h aN;subst h aN;exact⟨ia ν q,⟨rfl,rfl⟩,R⟩
  |none=>
   rw [q]at h
   dsimp only at h
   cases q:gk s.rg e with
   |none=>rw [q]at h;exact no h
   |some p=>
    rw [q]at h
    dsimp only at h
    refine aw (dJ R q:) fun v1 v2=>?_
    cases q:iB p.1 p.2 with
    |true=>
     rw [q]at h;injection h with h;injection h with h aN;subst h aN;exact⟨Int.le_antisymm (bL.mp q▸v2) v1,⟨rfl,rfl⟩,R⟩
    |false=>
     rw [q]at h;refine aH.cM h fun b ag e1 h=>?_
     refine dN (dH R e1:) fun c1 c2 c3=>?_
     cases b with
     |true=>(injection h with h;injection h with h aN;subst h aN);exact⟨of_decide_eq_true (show decide (e.eval ν=p.1)=true from c1),c2,c3⟩
     |false=>
      refine dN (ih c3 h:) fun d1 d2 d3=>?_
      exact⟨d1,c2.trans d2,d3⟩
section
theorem KV.any(K:KV C Z J M st v s' Q)(S:aq C J M s' st.heap)(R:ao C J M st.heap v rv)(tk:Tok):Q rv {st with toks:=tk}:=K.now S R tk
theorem ao.str_inv{l:List Nat}(V:ao C J M h (.str l) rv):∃t,rv=.str (aR l) t:=V.inv
theorem cJ(ν:Nat→Int)(l:List IE):(aS ν l).size=l.length:=by simp[aS]
theorem pM(ν:Nat→Int)(l m:List IE):aS ν l++aS ν m=aS ν (l++m):=by simp[aS]
theorem bq.append{l m:List IE}(a:bq ν l)(b:bq ν m):bq ν (l++m):=fun e he=>(List.mem_append.mp he).elim (a e) (b e)
theorem ay.append:∀{m:List AV}{vs ws:List Value},ay C J M h l vs→ay C J M h m ws→ay C J M h (l++m) (vs++ws):=
 List.rec (motive:=fun l=>∀{m:List AV}{vs ws:List Value},ay C J M h l vs→ay C J M h m ws→ay C J M h (l++m) (vs++ws)) (fun a b=>a.nl▸b) (fun Y Y ih Y Y Y a b=>j8 a.un fun Y Y e x r=>e▸.cons x (ih r b)) l
theorem Ie{x y:List IE}{rw:Value}(e:(jP (x.length+y.length) (.ok (AV.bytes (x++y),s))).leaf C.ν=some (v,s'))(V:ao C J M st.heap (.bytes x) rv)(W:ao C J M st.heap (.bytes y) rw)(S:aq C J M s st.heap)
  (K:KV C Z J M st v s' Q):ab (Md C) A (binaryOp .Add rv rw) Q E st:=by
 refine V.eH fun b1 t=>?_
 refine W.eH fun b2 u=>?_
 refine aw (bC e:) fun hl e=>?_
 injection e with e;injection e with e aN;subst e aN;refine lf<|PySem.W.KBy.add_bytes (by rw [cJ,cJ];lia) fun t' k=>?_
 rw [pM];exact K.any S (.bytes _ t' (b1.append b2)) k
theorem QL{x y:List AV}{rw:Value}(e:(jP (x.length+y.length) (.ok (AV.t (x++y),s))).leaf C.ν=some (v,s'))(V:ao C J M st.heap (.t x) rv)(W:ao C J M st.heap (.t y) rw)(S:aq C J M s st.heap)
  (K:KV C Z J M st v s' Q):ab (Md C) A (binaryOp .Add rv rw) Q E st:=by
 refine V.kS fun a vs n ha ea Va=>?_
 refine W.kS fun b ws m hb eb Vb=>?_
 refine aw (bC e:) fun hl e=>?_
 injection e with e;injection e with e aN;subst e aN;have hlen:vs.length+ws.length≤sizeLine:=by rw [←Va.length,←Vb.length];exact bN hl
 have eA:vs.toArray++ws.toArray=(vs++ws).toArray:=by simp
 by_cases hv:vs=[]
 ·refine lf<|concat_meets ⟨_,ea,rfl⟩ ⟨_,eb,rfl⟩ noFill_tuple_add seq_tuple_add PySem.F.slot_tuple_add PySem.F.entry_tuple_add (PySem.F.args_tuple_add_2 _ _) (tuple_addW0 a b vs.toArray ws.toArray n m none none #[] #[] (by simp[hv])) ⟨ea,eb,?_⟩
  subst hv;cases List.eq_nil_of_length_eq_zero Va.length;exact K.now S (.t y b ws m hb eb Vb) st.toks
 ·by_cases hw:ws=[]
  ·refine lf<|concat_meets ⟨_,ea,rfl⟩ ⟨_,eb,rfl⟩ noFill_tuple_add seq_tuple_add PySem.F.slot_tuple_add PySem.F.entry_tuple_add (PySem.F.args_tuple_add_2 _ _) (tuple_addW1 a b vs.toArray ws.toArray n m none none #[] #[] (by simpa using hv) (by simp[hw])) ⟨ea,eb,?_⟩
   subst hw;cases List.eq_nil_of_length_eq_zero Vb.length;rw [List.append_nil]at K;exact K.now S (.t x a vs n ha ea Va) st.toks
  ·refine lf<|concat_meets ⟨_,ea,rfl⟩ ⟨_,eb,rfl⟩ noFill_tuple_add seq_tuple_add PySem.F.slot_tuple_add PySem.F.entry_tuple_add (PySem.F.args_tuple_add_2 _ _) (tuple_addW2 a b vs.toArray ws.toArray n m none none #[] #[] (by simpa using hv) (by simpa using hw) (by rw [cW,cW];exact hlen)) ⟨ea,eb,?_⟩
   rw [eA];have G:=aJ.push Z J M st.heap (fP (vs++ws) 0)
   exact K J M _ st.toks _ G (S.push _) (.t _ _ _ 0 (S.nY (Heap.bc _)) (Heap.get?_push_size _ rfl) ((Va.append Vb).grow G))
theorem ao.n6(S:aq C J M s st.heap)(V:ao C J M st.heap (.ref i) rv)(e:s.get i=some (.list l)):∃a vs n,rv=.ref a∧J[i]?=some a∧st.heap.get? a=some (bZ vs n)∧ay C J M st.heap l vs:=by
 exact aC V.inv fun a q1 q=>eM (S.obj i _ a e q).listI fun vs n h1 h2=>⟨a,vs,n,q1,q,h1,h2⟩
@[elab_as_elim] theorem ao.listE{P:Value→Prop}(S:aq C J M s st.heap)(V:ao C J M st.heap (.ref i) rv)(e:s.get i=some (.list l))(k:∀a vs n,J[i]?=some a→st.heap.get? a=some (bZ vs n)→ay C J M st.heap l vs→P (.ref a)):P rv:=o7 (V.n6 S e) fun a vs n q a1 a2 a3=>q▸k a vs n a1 a2 a3
theorem MH{x y:List AV}{rw:Value}(ei:s.get i=some (.list x))(ej:s.get j=some (.list y))(e:(newList s (x++y)).leaf C.ν=some (v,s'))(V:ao C J M st.heap (.ref i) rv)(W:ao C J M st.heap (.ref j) rw)(S:aq C J M s st.heap)
  (K:KV C Z J M st v s' Q):ab (Md C) A (binaryOp .Add rv rw) Q E st:=by
 refine V.listE S ei fun a vs n ha ea Va=>?_
 refine W.listE S ej fun b ws m hb eb Vb=>?_
 have eA:vs.toArray++ws.toArray=(vs++ws).toArray:=by simp
 refine aw (newList_K e S (Va.append Vb) K st.toks:) fun hl hq=>?_
 refine lf<|P.add_list ea eb (by rw [eA];exact hq) (by rw [cW,cW,←List.length_append];exact hl)
theorem kq(l:List α):∀n:Nat,mS l n=(List.replicate n l).flatten
 |0=>rfl
 |n+1=>by rw [List.replicate_succ,List.flatten_cons,←kq l n];rfl
theorem MI{x:List IE}{y:IE}{rw:Value}(e:(Qd x y s).leaf C.ν=some (v,s'))(V:ao C J M st.heap (.bytes x) rv)(W:ao C J M st.heap (.int y) rw)(S:aq C J M s st.heap)
  (K:KV C Z J M st v s' Q):ab (Md C) A (binaryOp .Mult rv rw) Q E st:=by
 refine V.eH fun b1 t=>?_
 refine W.eN fun u=>?_
 refine aH.cM e fun n ag e1 e=>?_
 refine dN (fg 40 S.rg e1:) fun c1 c2 c3=>?_
 refine aw (cO e:) fun hb e=>?_
 ·injection e with e;injection e with e aN;subst e aN
  refine aw (ae hb:) fun h1 hb=>?_
  refine aw (ae hb:) fun h2 hb=>?_
  refine aw (ae hb:) fun h3 h4=>?_
  have h1:1≤x.length:=bF h1
  have h2:x.length≤16:=bF h2
  have h3:=bI.mp h3
  have h4:=bI.mp h4
  rw [c1];refine lf<|bytes_mul_any (b:=x.map (cz C.ν)) (n:=n) (by intro q;rw [List.map_eq_nil_iff]at q;subst q;simp at h1) (by lia) (by lia) (by simpa using h2) fun t' k=>?_
  have hE:((List.replicate n.toNat (x.map (cz C.ν))).flatten).toArray=aS C.ν (mS x n.toNat):=by
   unfold aS;rw [kq,List.map_flatten,List.map_replicate]
  rw [hE];refine K.any (S.lT c2 c3) (.bytes _ t' ?_) k;rw [kq];intro q hq;refine aC (List.mem_flatten.mp hq:) fun l hl hq=>?_
  rw [List.eq_of_mem_replicate hl]at hq;exact b1 q hq
theorem nU{op:Op}{r:RV}{y:AV×AS}(e:(Cu op r).leaf ν=some y):op=.add∧r.leaf ν=some y:=by
 cases op with
 |add=>exact⟨rfl,e⟩
 |_=>exact no e
theorem Ui{op:Op}{av bv:AV}{rw:Value}(e:(binop op av bv s).leaf C.ν=some (v,s'))(V:ao C J M st.heap av rv)(W:ao C J M st.heap bv rw)(S:aq C J M s st.heap)(K:KV C Z J M st v s' Q):
  ab (Md C) A (binaryOp (II op) rv rw) Q E st:=by
 cases av with
 |int x=>
  obtain⟨y,rfl,e⟩:=aX e
  exact EO e V W S K
 |bytes x=>cases op with
  |add=>
   obtain⟨y,rfl,e⟩:=lU e
   exact Ie e V W S K
  |mul=>
   obtain⟨y,rfl,e⟩:=aX e
   exact MI e V W S K
  |_=>exact no e
 |t x=>
  obtain⟨rfl,e⟩:=nU e
  obtain⟨y,rfl,e⟩:=iF e
  exact QL e V W S K
 |ref i=>
  obtain⟨rfl,e⟩:=nU e
  refine aC (cT e:) fun x ex e=>?_
  obtain⟨j,y,rfl,ey,e⟩:=eS e
  exact MH ex ey e V W S K
 |_=>exact no e
end
noncomputable def lB(a b:Value):Bool:=match a with
 |.int a _=>(match b with|.int b _=>a==b|_=>false)
 |.str a _=>(match b with|.str b _=>a==b|_=>false)
 |.bytes a _=>(match b with|.bytes b _=>a.toList==b.toList|_=>false)
 |_=>false
def PP(a b:Value):Prop:=∀A s,EqAt A s a b (lB a b)∧RcAt A s a b (lB a b)∧RcNeAt A s a b (!lB a b)
theorem tu(A:Around)(s:Shared)(b c:Array UInt8)(t u:Tok):RcAt A s (.bytes b t) (.bytes c u) (b.toList==c.toList):=fun prog w E Q h=>
 richCompare_gives (op:=.Eq) (T:="bytes") rfl rfl FB.slot_bytes_eq FB.entry_bytes_eq (FB.args_bytes_eq_2 _ _) (gives_bytes_eq b c t u) (fun x=>nomatch x) h
theorem vV(A:Around)(s:Shared)(b c:Array UInt8)(t u:Tok):RcNeAt A s (.bytes b t) (.bytes c u) (!(b.toList==c.toList)):=fun prog w E Q h=>
 richCompare_gives (op:=.NotEq) (T:="bytes") rfl rfl FB.slot_bytes_ne FB.entry_bytes_ne (FB.args_bytes_ne_2 _ _) (gives_bytes_ne b c t u) (fun x=>nomatch x) h
theorem wM(A:Around)(s:Shared)(b c:Array UInt8)(t u:Tok):EqAt A s (.bytes b t) (.bytes c u) (b.toList==c.toList):=fun prog w E Q h=>by
 unfold eqBool;refine PySem.wpAny_holding ?_;refine PySem.wpAny_ite_split (fun hab=>?_) (fun Y=>?_)
 ·have e:b=c:=by have:=eq_of_beq hab;injection this
  subst e;exact PySem.wpAny_bind (PySem.wpAny_rule (PySem.wpAny_pure (by simpa using h)))
 ·exact PySem.wpAny_bind (tu A s b c t u prog w E _ (PySem.wpAny_truthy_bool h))
theorem kz:∀{x y:List Nat},lEq x y=true→x=y
 |[],[],_=>rfl
 |[],_::_,h=>nomatch h
 |_::_,[],h=>nomatch h
 |a::x,b::y,h=>by
  unfold lEq at h
  dsimp only at h
  cases q:Nat.beq a b with
  |true=>rw [q]at h;rw [aL q,kz h]
  |false=>rw [q]at h;injection h
theorem jx:∀l:List Nat,lEq l l=true
 |[]=>rfl
 |a::x=>by unfold lEq;dsimp only;rw [Nat.beq_refl];exact jx x
theorem lEq_iff{x y:List Nat}:lEq x y=true↔x=y:=⟨kz,fun e=>e▸jx x⟩
theorem nJ{x y:List Nat}:aR x=aR y↔x=y:=by
 unfold aR;constructor
 ·intro h;injection h with h;simpa using h
 ·rintro rfl;rfl
theorem B0(x y:List Nat):(aR x==aR y)=lEq x y:=by
 rw [Bool.eq_iff_iff,beq_iff_eq,nJ,lEq_iff]
theorem uU{a b:IE}(ha:0≤a.eval ν∧a.eval ν<256)(hb:0≤b.eval ν∧b.eval ν<256):cz ν a=cz ν b↔a.eval ν=b.eval ν:=by
 unfold cz;constructor
 ·intro h
  have h:=congrArg UInt8.toNat h
  rw [UInt8.toNat_ofNat',UInt8.toNat_ofNat',Nat.mod_eq_of_lt ((Int.toNat_lt ha.1).mpr ha.2),Nat.mod_eq_of_lt ((Int.toNat_lt hb.1).mpr hb.2)]at h;exact(Int.toNat_of_nonneg ha.1).symm.trans ((congrArg Int.ofNat h).trans (Int.toNat_of_nonneg hb.1))
 ·intro h;rw [h]
theorem Az{a b:IE}{q:Bool}(ha:0≤a.eval ν∧a.eval ν<256)(hb:0≤b.eval ν∧b.eval ν<256)(c:decide (a.eval ν=b.eval ν)=q):(cz ν a==cz ν b)=q:=by
 rw [←c,Bool.eq_iff_iff,beq_iff_eq,decide_eq_true_iff];exact uU ha hb
theorem rT{x:List IE}:∀{y:List IE}{s:AS}{r:Bool}{s':AS},cg ν s.rg→bq ν x→bq ν y→(rU x y s).leaf ν=some (r,s')→((x.map (cz ν))==(y.map (cz ν)))=r∧SameBut s s'∧cg ν s'.rg:=by
 induction x with
 |nil=>intro y s r s' R _ _ e;cases y<;>((injection e with e;injection e with e aN;subst e aN);exact⟨rfl,.refl _,R⟩)
 |cons a x ih=>
  intro y s r s' R bx bw e;cases y with
  |nil=>(injection e with e;injection e with e aN;subst e aN);exact⟨rfl,.refl _,R⟩
  |cons b y=>
   refine aH.cM e fun q ag e1 e=>?_
   refine dN (dH R e1:) fun c1 c2 c3=>?_
   rw [List.map_cons,List.map_cons,List.cons_beq_cons,Az (bx a bS) (bw b bS) c1];cases q with
   |true=>
    refine dN (ih c3 (fun e m=>bx e (cq _ m)) (fun e m=>bw e (cq _ m)) e:) fun d1 d2 d3=>?_
    exact⟨d1,c2.trans d2,d3⟩
   |false=>(injection e with e;injection e with e aN;subst e aN);exact⟨rfl,c2,c3⟩
section
theorem oH{b:AV}{rw:Value}(e:(eqB a b s).leaf C.ν=some (r,s'))(V:ao C J M h a rv)(W:ao C J M h b rw)(R:cg C.ν s.rg):lB rv rw=r∧PP rv rw∧SameBut s s'∧cg C.ν s'.rg:=by
 cases a with
 |int x=>
  obtain⟨y,rfl,e⟩:=aX e
  obtain⟨t,rfl⟩:=V.inv
  obtain⟨u,rfl⟩:=W.inv
  refine dN (dH (kind:=0) R e:) fun c1 c2 c3=>?_
  exact⟨c1,fun A s=>⟨.int_int _ _ _ _,.int_int _ _ _ _,.int_int _ _ _ _⟩,c2,c3⟩
 |str x=>
  obtain⟨y,rfl,e⟩:=dD e
  obtain⟨t,rfl⟩:=V.inv
  obtain⟨u,rfl⟩:=W.inv
  injection e with e;injection e with e aN;subst e aN;exact⟨B0 x y,fun A s=>⟨.str_str _ _ _ _,.str_str _ _ _ _,.str_str _ _ _ _⟩,.refl _,R⟩
 |bytes x=>
  obtain⟨y,rfl,e⟩:=lU e
  obtain⟨bx,t,rfl⟩:=V.inv
  obtain⟨bw,u,rfl⟩:=W.inv
  refine dN (rT R bx bw e:) fun c1 c2 c3=>?_
  exact⟨c1,fun A s=>⟨wM A s _ _ _ _,tu A s _ _ _ _,vV A s _ _ _ _⟩,c2,c3⟩
 |_=>exact no e
noncomputable def HU:List Value→List Value→Bool
 |[],m=>(match m with|[]=>true|_::_=>false)
 |a::x,m=>match m with|[]=>false|b::y=>lB a b&&HU x y
theorem qE{x:List AV}:∀{y:List AV}{s:AS}{r:Bool}{s':AS}{vs ws:List Value},cg C.ν s.rg→(DW x y s).leaf C.ν=some (r,s')→ay C J M h x vs→ay C J M h y ws→
  HU vs ws=r∧(∀j(h1:j<vs.length)(h2:j<ws.length),PP vs[j] ws[j])∧SameBut s s'∧cg C.ν s'.rg:=by
 induction x with
 |nil=>exact fun{y}{s}{r}{s'}{vs}{ws} R e V W=>V.nl▸(by
   have h:HU [] ws=r∧s=s':=by
    cases y with
    |nil=>(injection e with e;injection e with e aN;subst e aN);exact⟨by rw [W.nl];rfl,rfl⟩
    |cons b y=>(injection e with e;injection e with e aN;subst e aN);exact⟨j8 W.un fun w ws q Y Y=>by rw [q];rfl,rfl⟩
   exact⟨h.1,fun j h1=>absurd h1 (Nat.not_lt_zero _),h.2▸.refl _,h.2▸R⟩)
 |cons a x ih=>
  intro y s r s' vs ws R e V W;refine j8 V.un fun v vs q V r1=>q▸?_
  cases y with
  |nil=>rw [W.nl];injection e with e;injection e with e aN;subst e aN;exact⟨rfl,fun j Y h1=>absurd h1 (Nat.not_lt_zero _),.refl _,R⟩
  |cons b y=>
   refine j8 W.un fun w ws q W r2=>q▸aH.bd e fun p e1 e=>aH.bd e fun p' e2 e=>lN (oH e1 V W R) fun c1 c2 c3 c4=>lN (ih c4 e2 r1 r2) fun d1 d2 d3 d4=>?_
   injection e with e;injection e with e aN;subst e aN;exact⟨congr (congrArg and c1) d1,fun j=>Nat.casesOn (motive:=fun j=>∀(h1:j<(v::vs).length)(h2:j<(w::ws).length),PP (v::vs)[j] (w::ws)[j]) j (fun Y Y=>c2) fun j h1 h2=>d2 j (Nat.lt_of_succ_lt_succ h1) (Nat.lt_of_succ_lt_succ h2),c3.trans d3,d4⟩
theorem oW(vs:List Value):∀ws:List Value,HU vs ws=((List.range (min vs.length ws.length)).all (fun j=>lB (vs.getD j .none) (ws.getD j .none))&&vs.length==ws.length):=by
 induction vs with
 |nil=>intro ws;cases ws<;>rfl
 |cons a x ih=>
  intro ws;cases ws with
  |nil=>exact(Bool.and_false _).symm
  |cons b y=>
   rw [List.length_cons,List.length_cons,Nat.succ_min_succ,List.range_succ_eq_map,List.all_cons,List.all_map,Bool.and_assoc,show(x.length+1==y.length+1)=(x.length==y.length)from Bool.eq_iff_iff.mpr ((beq_iff_eq).trans (Nat.succ_inj.trans beq_iff_eq.symm))]
   exact congrArg (lB a b&&·) (ih y)
theorem getD_at(h:j<vs.length):vs.getD j .none=vs[j]:=by rw [List.getD_eq_getElem?_getD,List.getElem?_eq_getElem h];rfl
theorem isTup{a:Addr}(e:h.get? a=some (fP vs n)):h.IsTuple a vs.toArray:=⟨_,e,rfl,n,rfl⟩
theorem cN{a:Addr}(e:h.get? a=some (bZ vs n)):h.IsList a vs.toArray:=⟨_,e,rfl,n,rfl⟩
theorem yW{ws:List Value}(c2:∀j(h1:j<vs.length)(h2:j<ws.length),PP vs[j] ws[j])(A:Around)(s:Shared):∀j(h1:j<vs.toArray.size)(h2:j<ws.toArray.size),EqAt A s vs.toArray[j] ws.toArray[j] (lB (vs.getD j .none) (ws.getD j .none)):=fun j h1 h2=>by
 have h1:j<vs.length:=by simpa using h1
 have h2:j<ws.length:=by simpa using h2
 rw [getD_at h1,getD_at h2];exact(c2 j h1 h2 A s).1
def Ia(C:Cx)(A:Around)(st:Shared)(rv rw:Value)(r:Bool)(s s':AS):Prop:=RcAt A st rv rw r∧RcNeAt A st rv rw (!r)∧SameBut s s'∧cg C.ν s'.rg
theorem DU{x y:List AV}{rw:Value}(hu:A.units<cLine)(e:(Jn x y s).leaf C.ν=some (r,s'))(ei:s.get i=some (.list x))(ej:s.get j=some (.list y))(V:ao C J M st.heap (.ref i) rv)(W:ao C J M st.heap (.ref j) rw)(S:aq C J M s st.heap):Ia C A st rv rw r s s':=by
 refine V.listE S ei fun a vs n ha ea Va=>?_
 refine W.listE S ej fun b ws m hb eb Vb=>?_
 rcases dG e with⟨hl,e⟩|⟨hl,e⟩
 ·have hl:=aL hl
  rw [Va.length,Vb.length]at hl;refine lN (qE S.rg e Va Vb:) fun c1 c2 c3 c4=>?_
  have hr:((List.range vs.toArray.size).all fun j=>lB (vs.getD j .none) (ws.getD j .none))=r:=by
   rw [←c1,oW,hl,Nat.min_self];simp[hl]
  subst hr;exact⟨.lists (cN ea) (cN eb) (by simpa using hl) hu (yW c2 A.in1 st),RcNeAt.lists (cN ea) (cN eb) (by simpa using hl) hu (yW c2 A.in1 st),c3,c4⟩
 ·injection e with e;injection e with e aN;subst e aN
  have hl:=Nat.ne_of_beq_eq_false hl
  rw [Va.length,Vb.length]at hl;exact⟨.lists_lengths (cN ea) (cN eb) (by simpa using hl) hu,RcNeAt.lists_lengths (cN ea) (cN eb) (by simpa using hl) hu,.refl _,S.rg⟩
theorem G6{x y:List AV}{rw:Value}(hu:A.units<cLine)(e:(DW x y s).leaf C.ν=some (r,s'))(V:ao C J M st.heap (.t x) rv)(W:ao C J M st.heap (.t y) rw)(S:aq C J M s st.heap):Ia C A st rv rw r s s':=by
 refine V.kS fun a vs n ha ea Va=>?_
 refine W.kS fun b ws m hb eb Vb=>?_
 refine lN (qE S.rg e Va Vb:) fun c1 c2 c3 c4=>?_
 rw [oW]at c1;subst c1;exact⟨.tuples (isTup ea) (isTup eb) hu (yW c2 A.in1 st),RcNeAt.tuples (isTup ea) (isTup eb) hu (yW c2 A.in1 st),c3,c4⟩
theorem DT{b:AV}{rw:Value}(V:ao C J M st.heap a rv)(W:ao C J M st.heap b rw)(e:(eqB a b s).leaf C.ν=some (r,s'))(S:aq C J M s st.heap):Ia C A st rv rw r s s':=by
 refine lN (oH e V W S.rg:) fun c1 c2 c3 c4=>?_
 refine dN (c2 A st:) fun Y d2 d3=>?_
 rw [c1]at d2 d3;exact⟨d2,d3,c3,c4⟩
theorem DV{b:AV}{rw:Value}(hu:A.units<cLine)(e:(Tq a b s).leaf C.ν=some (r,s'))(V:ao C J M st.heap a rv)(W:ao C J M st.heap b rw)(S:aq C J M s st.heap):Ia C A st rv rw r s s':=by
 cases a with
 |t x=>
  obtain⟨y,rfl,e⟩:=iF e
  exact G6 hu e V W S
 |ref i=>
  refine aC (cT e:) fun x ei e=>?_
  obtain⟨j,y,rfl,ej,e⟩:=eS e
  exact DU hu e ei ej V W S
 |_=>exact DT V W e S
end
theorem ye(c:Nat):∀y:List Nat,gF c y=decide (c∈y)
 |[]=>by simp[gF]
 |b::y=>by
  unfold gF;cases q:Nat.beq b c with
  |true=>have:=aL q;simp[this]
  |false=>
   have:=Nat.ne_of_beq_eq_false q
   simp only
   rw [ye c y];have h:c≠b:=fun e=>this e.symm
   simp[h]
theorem n0{a b:Nat}:Nat.blt a b=true↔a<b:=by
 unfold Nat.blt;exact⟨fun h=>bF h,fun h=>Nat.ble_eq_true_of_le h⟩
theorem pZ:∀{x y:List Nat},strLt x y=true↔x<y
 |[],[]=>by simp[strLt]
 |[],b::y=>by simp[strLt]
 |a::x,[]=>by simp[strLt]
 |a::x,b::y=>by
  unfold strLt;rw [List.cons_lt_cons_iff];cases q:Nat.blt a b with
  |true=>have:=n0.mp q;simp[this]
  |false=>
   have h1:¬a<b:=fun h=>by rw [n0.mpr h]at q;injection q
   cases q':Nat.beq a b with
   |true=>
    have:=aL q'
    subst this;simp only;rw [pZ];simp
   |false=>
    have:=Nat.ne_of_beq_eq_false q'
    simp[h1,this]
theorem jA(b:Array UInt8)(i:Int)(t u:Tok)(h0:0≤i)(h1:i<256):Gives (Builtin.«bytes.__contains__» ⟨[.bytes b t,.int i u],[]⟩) (.val (.bool (b.contains i.toNat.toUInt8))):=by
 refine .of_wp fun M A E s Q hq=>?_
 show PySem.wpAny M A (Builtin.Bytes.containsIn "bytes.__contains__" (.bytes b t) (.int i u)>>=fun r=>_) _ E s
 refine PySem.wpAny_bind ?_
 unfold Builtin.Bytes.containsIn;show PySem.wpAny M A (Builtin.Bytes.buffer? "bytes.__contains__" (.bytes b t)>>=fun r=>_) _ E s
 refine PySem.wpAny_bind (PySem.wpAny_of_eq KBy.buffer_eq ?_)
 show PySem.wpAny M A (if(decide (i<0)||decide (i≥256))=true then _ else _) _ E s;rw [if_neg (by simp;lia)]
 exact PySem.wpAny_pure (PySem.wpAny_pure ⟨_,rfl,hq⟩)
section
theorem oV:∀{s:AS}{r:Bool}{s':AS}{vs:List Value},cg C.ν s.rg→(qP a l s).leaf C.ν=some (r,s')→ao C J M h a rv→ay C J M h l vs→
  (vs.any fun y=>lB y rv)=r∧(∀y,y∈vs→PP y rv)∧SameBut s s'∧cg C.ν s'.rg:=by
 induction l with
 |nil=>exact fun R e V W=>W.nl▸(by injection e with e;injection e with e aN;subst e aN;exact⟨rfl,(fun y m=>nomatch m),.refl _,R⟩)
 |cons b l ih=>
  exact fun R e V W=>aH.bd e fun p e1 e=>aH.bd e fun p' e2 e=>j8 W.un fun w ws q W r2=>lN (oH e1 W V R) fun c1 c2 c3 c4=>lN (ih c4 e2 V r2) fun d1 d2 d3 d4=>q▸(by
   injection e with e;injection e with e aN;subst e aN;exact⟨congr (congrArg or c1) d1,fun y m=>(cK m).elim (fun q=>q▸c2) (d2 y),c3.trans d3,d4⟩)
theorem xp{a:IE}(ha:0≤a.eval ν∧a.eval ν<256){l:List IE}:∀{s:AS}{r:Bool}{s':AS},cg ν s.rg→bq ν l→(EE a l s).leaf ν=some (r,s')→
  (l.map (cz ν)).contains (cz ν a)=r∧SameBut s s'∧cg ν s'.rg:=by
 induction l with
 |nil=>exact fun R Y e=>by injection e with e;injection e with e aN;subst e aN;exact⟨rfl,.refl _,R⟩
 |cons b l ih=>
  intro s r s' R B e;refine aH.bd e fun p e1 e=>dN (dH R e1) fun c1 c2 c3=>?_
  have hb:=uU ha (B b bS)
  have c1:decide (a.eval ν=b.eval ν)=p.1:=c1
  rw [List.map_cons,List.contains_cons];obtain⟨q,ag⟩:=p
  cases q with
  |true=>
   injection e with e;injection e with e aN;subst e aN;rw [hb.mpr (of_decide_eq_true c1),beq_self_eq_true];exact⟨rfl,c2,c3⟩
  |false=>
   refine dN (ih c3 (fun e m=>B e (cq _ m)) e) fun d1 d2 d3=>?_
   rw [show(cz ν a==cz ν b)=false from beq_eq_false_iff_ne.mpr fun q=>of_decide_eq_false c1 (hb.mp q),d1]
   exact⟨rfl,c2.trans d2,d3⟩
theorem yJ(C:Cx)(k k':List Nat)(t:Tok):Value.isStrOf (aR k) (.str (aR k') t)=lEq k' k:=
 Bool.eq_iff_iff.mpr ⟨fun q=>dF (Value.isStrOf_shape q) fun Y hu=>lEq_iff.mpr (nJ.mp (by injection hu)),fun q=>lEq_iff.mp q▸strKind_is C.prog C.w _ t⟩
theorem uq{p:α→Bool}{a:α}{l:List α}(h:p a=true):(a::l).find? p=some a:=by rw [List.find?_cons,h]
theorem qw{p:α→Bool}{a:α}{l:List α}(h:p a=false):(a::l).find? p=l.find? p:=by rw [List.find?_cons,h]
def JE(C:Cx)(J:List Addr)(M:Addr→Prop)(h:Heap)(o:Option AV)(f:Option DictEntry):Prop:=match o with
 |none=>f=none
 |some v=>∃e,f=some e∧ao C J M h v e.val
theorem cX.find(k:List Nat){l:List (List Nat×AV)}:∀{es:List DictEntry},cX C J M h l es→JE C J M h (gL l k) (es.find? (fun e=>Value.isStrOf (aR k) e.key)):=by
 induction l with
 |nil=>exact fun V=>V.nl▸rfl
 |cons p l ih=>
  exact fun V=>Ga V.un fun v t es q V r=>q▸(by
   unfold gL;cases z:lEq p.1 k with
   |true=>exact⟨_,uq ((yJ C k p.1 t).trans z),V⟩
   |false=>exact(qw (p:=fun e:DictEntry=>Value.isStrOf (aR k) e.key) (a:=⟨PyData.keyHash C.w.params (aR p.1),.str (aR p.1) t,v⟩) ((yJ C k p.1 t).trans z)).symm▸ih r)
theorem cX.keys{l:List (List Nat×AV)}:∀{es:List DictEntry},cX C J M h l es→∀e∈es,∃k,(strKind C.prog C.w).is k e.key=true∧e.hash=(strKind C.prog C.w).hash k:=by
 induction l with
 |nil=>exact fun V=>V.nl▸fun e m=>nomatch m
 |cons p l ih=>exact fun V=>Ga V.un fun v t es q V r=>q▸fun e m=>(cK m).elim (fun q=>q▸⟨aR p.1,strKind_is _ _ _ _,rfl⟩) (ih r e)
theorem rX{l:List (List Nat×AV)}{a:Addr}(e:h.get? a=some (bK es n))(r:cX C J M h l es):h.MapOf (strKind C.prog C.w) a (fun k=>(es.find? fun e=>Value.isStrOf k e.key).map (·.val)):=
 ⟨_,es.toArray,n,e,⟨rfl,rfl,rfl⟩,rfl,fun e m=>r.keys e (by simpa using m),fun k=>by
  show findBy Value.isStrOf _ _=_;unfold findBy;simp⟩
theorem sb(l:List UInt8)(c:UInt8):l.toArray.contains c=l.contains c:=by simp
theorem Rt(ν:Nat→Int)(x:IE):(x.eval ν).toNat.toUInt8=cz ν x:=rfl
section
variable{neg:Bool}{rw:Value}
theorem Ln(e:(qP a l s).leaf C.ν=some (r,s'))(V:ao C J M st.heap a rv)(W:ao C J M st.heap (.t l) rw)(S:aq C J M s st.heap)(K:KB C Z J M st (r !=neg) s' (fun b=>Q (.bool b))):ab (Md C) A (compareOp (if neg then .NotIn else .In) rv rw) Q E st:=by
 refine W.kS fun b ws m hb eb Vb=>?_
 refine lN (oV S.rg e V Vb:) fun c1 c2 c3 c4=>?_
 have hp:∀y,y∈ws.toArray→EqAt A.in1 st y rv (lB y rv):=fun y m=>(c2 y (List.mem_toArray.mp m) A.in1 st).1
 have K:=K.now (S.lT c3 c4) st.toks
 have hr:ws.toArray.any (fun y=>lB y rv)=r:=by rw [←c1];simp
 subst hr;cases neg with
 |true=>exact lf<|notIn_tupleAt _ (isTup eb) hp (by rwa[Bool.bne_true]at K)
 |false=>exact lf<|in_tupleAt _ (isTup eb) hp (by rwa[Bool.bne_false]at K)
theorem E5(ej:s.get i=some (.list l))(e:(qP a l s).leaf C.ν=some (r,s'))(V:ao C J M st.heap a rv)(W:ao C J M st.heap (.ref i) rw)(S:aq C J M s st.heap)(K:KB C Z J M st (r !=neg) s' (fun b=>Q (.bool b))):ab (Md C) A (compareOp (if neg then .NotIn else .In) rv rw) Q E st:=by
 refine W.listE S ej fun b ws m hb eb Vb=>?_
 refine lN (oV S.rg e V Vb:) fun c1 c2 c3 c4=>?_
 have hp:∀y,y∈ws.toArray→EqAt A.in1 st y rv (lB y rv):=fun y m=>(c2 y (List.mem_toArray.mp m) A.in1 st).1
 have K:=K.now (S.lT c3 c4) st.toks
 have hr:ws.toArray.any (fun y=>lB y rv)=r:=by rw [←c1];simp
 subst hr;cases neg with
 |true=>exact lf<|notIn_listAt _ (cN eb) hp (by rwa[Bool.bne_true]at K)
 |false=>exact lf<|in_listAt _ (cN eb) hp (by rwa[Bool.bne_false]at K)
theorem JM{x y:List Nat}(e:(UO x y s).leaf C.ν=some (r,s'))(V:ao C J M st.heap (.str x) rv)(W:ao C J M st.heap (.str y) rw)(S:aq C J M s st.heap)(K:KB C Z J M st (r !=neg) s' (fun b=>Q (.bool b))):ab (Md C) A (compareOp (if neg then .NotIn else .In) rv rw) Q E st:=by
 refine V.gO fun t=>?_
 refine W.gO fun u=>?_
 refine aw (cO e) fun hx e=>?_
 cases x with
 |nil=>injection hx
 |cons c x=>cases x with
  |cons _ _=>injection hx
  |nil=>
   injection e with e;injection e with e aN;subst e aN;have K:=K.now S st.toks
   have hr:(!(Builtin.Str.occurrences (aR y) (aR [c]) 0 (aR y).length 1).isEmpty)=gF ([c].headD 0) y:=(StrLaws.found_one (aR y) c).trans (ye c y).symm
   rw [←hr]at K;cases neg with
   |true=>exact lf<|P.notIn_str (by rwa[Bool.bne_true]at K)
   |false=>exact lf<|P.in_str (by rwa[Bool.bne_false]at K)
theorem Dj{x:IE}{y:List IE}(e:(UP x y s).leaf C.ν=some (r,s'))(V:ao C J M st.heap (.int x) rv)(W:ao C J M st.heap (.bytes y) rw)(S:aq C J M s st.heap)(K:KB C Z J M st (r !=neg) s' (fun b=>Q (.bool b))):ab (Md C) A (compareOp (if neg then .NotIn else .In) rv rw) Q E st:=by
 refine aC (aI e:) fun p q e=>?_
 refine aw (cO e:) fun hb e=>?_
 refine aw (dJ S.rg q:) fun v1 v2=>?_
 have b1:=Int.le_trans (bI.mp (ae hb).1) v1
 have b2:=Int.lt_of_le_of_lt v2 (bz.mp (ae hb).2)
 refine V.eN fun t=>?_
 refine W.eH fun B u=>?_
 refine dN (xp (ν:=C.ν) (a:=x) ⟨b1,b2⟩ S.rg B e:) fun c1 c2 c3=>?_
 have K:=K.now (S.lT c2 c3) st.toks
 have hr:(aS C.ν y).contains ((x.eval C.ν).toNat.toUInt8)=r:=by
  rw [←c1];unfold aS;rw [sb,Rt]
 have g:=jA (aS C.ν y) (x.eval C.ν) u t b1 b2
 rw [hr]at g;cases neg with
 |true=>exact lf<|notIn_gives (typeIs_bytes st _ u) FB.slot_bytes_contains FB.entry_bytes_contains (FB.args_bytes_contains_2 _ _) g (by rwa[Bool.bne_true]at K)
 |false=>exact lf<|in_gives (typeIs_bytes st _ u) FB.slot_bytes_contains FB.entry_bytes_contains (FB.args_bytes_contains_2 _ _) g (by rwa[Bool.bne_false]at K)
theorem Lo{x:List Nat}{l:List (List Nat×AV)}(e:(aH.ok ((gL l x).isSome,s)).leaf C.ν=some (r,s'))(V:ao C J M st.heap (.str x) rv)(W:ao C J M st.heap (.eF l) rw)(S:aq C J M s st.heap)(K:KB C Z J M st (r !=neg) s' (fun b=>Q (.bool b))):ab (Md C) A (compareOp (if neg then .NotIn else .In) rv rw) Q E st:=by
 injection e with e;injection e with e aN;subst e aN;refine V.gO fun t=>?_
 refine W.w3 fun a es n ha hs ea Ra=>?_
 have hm:=rX ea Ra
 have hr:((es.find? fun e=>Value.isStrOf (aR x) e.key).map (·.val)).isSome=(gL l x).isSome:=by
  have:=Ra.find x
  cases q:gL l x with
  |none=>rw [q]at this;rw [show es.find? _=none from this];rfl
  |some v=>rw [q]at this;refine aC (this:) fun e h1 Y=>?_;rw [h1];rfl
 rw [←hr]at K;cases neg with
 |true=>exact lf<|wpAny_notIn_of (strKind_is _ _ _ _) hs hm (by rw [Bool.bne_true]at K;exact K.now S _)
 |false=>exact lf<|wpAny_in_of (strKind_is _ _ _ _) hs hm (by rw [Bool.bne_false]at K;exact K.now S _)
end
theorem I3(neg:Bool){b:AV}{rw:Value}(e:(isIn a b s).leaf C.ν=some (r,s'))(V:ao C J M st.heap a rv)(W:ao C J M st.heap b rw)(S:aq C J M s st.heap)
  (K:KB C Z J M st (r !=neg) s' (fun b=>Q (.bool b))):ab (Md C) A (compareOp (if neg then .NotIn else .In) rv rw) Q E st:=by
 cases b with
 |t l=>exact Ln e V W S K
 |ref i=>
  refine aC (cT e:) fun l ej e=>?_
  exact E5 ej e V W S K
 |str y=>
  obtain⟨x,rfl,e⟩:=dD e
  exact JM e V W S K
 |bytes y=>
  obtain⟨x,rfl,e⟩:=aX e
  exact Dj e V W S K
 |eF l=>
  obtain⟨x,rfl,e⟩:=dD e
  exact Lo e V W S K
 |_=>exact no e
theorem mq{b:AV}{rw:Value}(e:(isNone a b s).leaf C.ν=some (r,s'))(V:ao C J M h a rv)(W:ao C J M h b rw):rw=.none∧(rv==Value.none)=r∧s'=s:=by
 cases b with
 |none=>
  cases W.inv
  refine⟨rfl,?_⟩
  cases a with
  |none=>cases V.inv;injection e with e;injection e with e aN;subst e aN;exact⟨rfl,rfl⟩
  |bool x=>cases V.inv;injection e with e;injection e with e aN;subst e aN;exact⟨rfl,rfl⟩
  |int x=>obtain⟨t,rfl⟩:=V.inv;injection e with e;injection e with e aN;subst e aN;exact⟨rfl,rfl⟩
  |str x=>obtain⟨t,rfl⟩:=V.inv;injection e with e;injection e with e aN;subst e aN;exact⟨rfl,rfl⟩
  |t x=>obtain⟨a,vs,n,rfl,_⟩:=V.inv;injection e with e;injection e with e aN;subst e aN;exact⟨rfl,rfl⟩
  |ref x=>obtain⟨a,rfl,_⟩:=V.inv;injection e with e;injection e with e aN;subst e aN;exact⟨rfl,rfl⟩
  |_=>exact no e
 |_=>exact no e
theorem OJ{b:AV}{rw:Value}(e:(Js a b s).leaf C.ν=some (r,s'))(V:ao C J M st.heap a rv)(W:ao C J M st.heap b rw)(S:aq C J M s st.heap)
  (K:KB C Z J M st r s' (fun b=>Q (.bool b))):ab (Md C) A (compareOp .LtE rv rw) Q E st:=by
 cases a with
 |int x=>
  obtain⟨y,rfl,e⟩:=aX e
  refine V.eN fun t=>?_
  refine W.eN fun u=>?_
  refine dN (dH (kind:=2) S.rg e:) fun c1 c2 c3=>?_
  have c1:decide (x.eval C.ν≤y.eval C.ν)=r:=c1
  exact lf<|PyProof.Rows.le_int (by rw [c1];exact K.now (S.lT c2 c3) st.toks)
 |str x=>
  obtain⟨y,rfl,e⟩:=dD e
  refine V.gO fun t=>?_
  refine W.gO fun u=>?_
  injection e with e;injection e with e aN;subst e aN;refine lf<|P.le_str ?_;have SG:decide ((aR y).cps.toList<(aR x).cps.toList)=strLt y x:=by
   rw [Bool.eq_iff_iff,decide_eq_true_eq,pZ];exact Iff.rfl
  rw [SG];exact K.now S st.toks
 |_=>exact no e
theorem Ic{op:Cm}{b:AV}{rw:Value}(hu:A.units<cLine)(e:(compare op a b s).leaf C.ν=some (r,s'))(V:ao C J M st.heap a rv)(W:ao C J M st.heap b rw)(S:aq C J M s st.heap)
  (K:KB C Z J M st r s' (fun b=>Q (.bool b))):ab (Md C) A (compareOp (m3 op) rv rw) Q E st:=by
 cases op with
 |eq=>
  refine lN (DV hu e V W S:) fun c1 c2 c3 c4=>?_
  exact lf<|c1 _ _ E Q (K.now (S.lT c3 c4) st.toks)
 |ne=>
  refine aH.cM e fun q ag e1 e=>?_
  refine lN (DV hu e1 V W S:) fun c1 c2 c3 c4=>?_
  injection e with e;injection e with e aN;subst e aN;exact lf<|c2 _ _ E Q (K.now (S.lT c3 c4) st.toks)
 |is=>
  obtain⟨rfl,h1,rfl⟩:=mq e V W
  exact lf<|is_none (by rw [h1];exact K.now S st.toks)
 |t9=>
  refine aH.cM e fun q ag e1 e=>?_
  injection e with e;injection e with e aN;subst e aN;obtain⟨rfl,h1,rfl⟩:=mq e1 V W
  exact lf<|isNot_none (by rw [h1];exact K.now S st.toks)
 |o8=>exact I3 (Z:=Z) false e V W S (by simpa using K)
 |CG=>
  refine aH.cM e fun q ag e1 e=>?_
  injection e with e;injection e with e aN;subst e aN;exact I3 (Z:=Z) true e1 V W S (by simpa using K)
 |lt=>
  obtain⟨x,rfl,e⟩:=aX e
  obtain⟨y,rfl,e⟩:=aX e
  refine V.eN fun t=>?_
  refine W.eN fun u=>?_
  refine dN (dH (kind:=1) S.rg e:) fun c1 c2 c3=>?_
  have c1:decide (x.eval C.ν<y.eval C.ν)=r:=c1
  exact lf<|PyProof.Rows.lt_int (by rw [c1];exact K.now (S.lT c2 c3) st.toks)
 |gt=>
  obtain⟨x,rfl,e⟩:=aX e
  obtain⟨y,rfl,e⟩:=aX e
  refine V.eN fun t=>?_
  refine W.eN fun u=>?_
  refine dN (dH (kind:=1) S.rg e:) fun c1 c2 c3=>?_
  have c1:decide (y.eval C.ν<x.eval C.ν)=r:=c1
  exact lf<|PyProof.Rows.gt_int (by rw [c1];exact K.now (S.lT c2 c3) st.toks)
 |ge=>
  obtain⟨x,rfl,e⟩:=aX e
  obtain⟨y,rfl,e⟩:=aX e
  refine V.eN fun t=>?_
  refine W.eN fun u=>?_
  refine dN (dH (kind:=2) S.rg e:) fun c1 c2 c3=>?_
  have c1:decide (y.eval C.ν≤x.eval C.ν)=r:=c1
  exact lf<|PyProof.Rows.ge_int (by rw [c1];exact K.now (S.lT c2 c3) st.toks)
 |le=>exact OJ e V W S K
end
section
variable{ex:Expr}
theorem bu.units(R:bu A d):A.units<cLine:=R.u (Nat.zero_le 40)
theorem jh{Q:Bool→Shared→Prop}(e:(truthy v s).leaf C.ν=some (r,s'))(V:ao C J M st.heap v rv)(S:aq C J M s st.heap)(K:KB C Z J M st r s' Q):ab (Md C) A (PySem.truthy rv) Q E st:=by
 cases v with
 |bool b=>
  cases V.inv;injection e with e;injection e with e aN;subst e aN
  exact lf<|wpAny_truthy_bool (K.now S st.toks)
 |ref i=>
  refine aC (cT e:) fun l el e=>?_
  obtain⟨hl,e⟩:=bC e
  refine V.listE S el fun a vs n ha ea Va=>?_
  injection e with e;injection e with e aN;subst e aN;have hlen:=Va.length
  refine lf<|wpAny_truthy_list (cN ea) (by rw [cW,←hlen];lia) ?_
  cases l with
  |nil=>exact Va.nl▸K.now S _
  |cons _ _=>exact j8 Va.un fun Y Y q Y Y=>q▸K.now S _
 |_=>exact no e
theorem NN(H:gu C ih d){op:Op}{a b:CE}(e:(cF P N ih (.bin op a b) ρ s).leaf C.ν=some (v,s')){x2:Expr}(h1:aW C kd a x1)(h2:aW C kd b x2)(F:fu C Z J M kd env ρ st.heap)(S:aq C J M s st.heap)(R:bu A d)(z:cm C Z J st.heap)(K:KV C Z J M st v s' Q):
  ab (Md C) A (eval (.BinOp x1 (II op) x2 pos) env) Q E st:=by
 exact sI (B7 H (op:=binop op) (t:=binaryOp (II op)) e h1 h2 F S R z K fun e V W S Y K=>Ui e V W S K)
theorem zR{r:aH (Bool×AS)}{neg:Bool}(e:(Gj r neg).leaf ν=some (v,s')):∃b,r.leaf ν=some (b,s')∧v=.bool (b !=neg):=by
 unfold Gj at e;refine aH.cM e fun b ag e1 e=>?_
 injection e with e;injection e with e aN;subst e aN;exact⟨b,e1,rfl⟩
theorem NM(H:gu C ih d){op:Cm}{a b:CE}(e:(cF P N ih (.cmp op a b) ρ s).leaf C.ν=some (v,s')){x2:Expr}(h1:aW C kd a x1)(h2:aW C kd b x2)(h3:behindInMarks (m3 op) x2=false)(F:fu C Z J M kd env ρ st.heap)(S:aq C J M s st.heap)(R:bu A d)(z:cm C Z J st.heap)(K:KV C Z J M st v s' Q):
  ab (Md C) A (eval (.Compare x1 [m3 op] [x2] pos) env) Q E st:=by
  refine nj (B7 H (op:=fun x y s=>Gj (compare op x y s) false) (t:=compareOp (m3 op)) e h1 h2 F S R z K fun{av bv ag rv rw J M st Q} e V W S _ K=>?_) h3
  obtain⟨r,e1,rfl⟩:=zR e
  exact Ic (Z:=Z) R.units e1 V W S fun σ' M' h' tk G S'=>K σ' M' h' tk _ G S' (by simpa using ao.bool r)
theorem Np(H:gu C ih d){op:Cm}{a b:CE}{Q:Bool→Shared→Prop}{whole:Sem Value}{y:Expr}(e:(stepT ih (.cmp op a b) ρ s).leaf C.ν=some (r,s'))(h1:aW C kd a x)(h2:aW C kd b y)(h3:behindInMarks (m3 op) y=false)(F:fu C Z J M kd env ρ st.heap)(S:aq C J M s st.heap)(R:bu A d)(z:cm C Z J st.heap)(K:KB C Z J M st r s' Q):
  ab (Md C) A (isTrue (.Compare x [m3 op] [y] pos) env whole) Q E st:=by
 refine aH.cM e fun av ag e1 e=>?_
 refine aH.cM e fun bv aK e2 e=>?_
 refine iY ?_ h3
 refine H a ρ s av ag e1 kd x h1 Z J M env A st F S R z _ _ fun aA aP h₁ aU rv aF aD cb=>?_
 refine H b ρ ag bv aK e2 kd y h2 Z aA aP env A _ (F.grow aF) aD R (z.grow aF) _ _ fun cy dU br bf rw bb bU d7=>?_
 exact Ic (Z:=Z) (st:={st with heap:=br,toks:=bf}) R.units e (cb.grow bb) d7 bU fun σ' M' h' tk G S'=>lf<|wpAny_truthy_bool (K σ' M' h' tk ((aF.trans bb).trans G) S')
theorem uP{op jU:Cm}{b:AV}{c:AS→aH (AV×AS)}(e:(xf op jU a b s c).leaf C.ν=some (r,s')):∃q ag,(compare op a b s).leaf C.ν=some (q,ag)∧
  (match q with|false=>r=false∧s'=ag|true=>∃d aK,(c ag).leaf C.ν=some (d,aK)∧(compare jU b d aK).leaf C.ν=some (r,s')):=by
 unfold xf at e;refine aH.cM e fun q ag e1 e=>?_
 refine⟨q,ag,e1,?_⟩
 cases q with
 |false=>(injection e with e;injection e with e aN;subst e aN);exact⟨rfl,rfl⟩
 |true=>
  refine aH.cM e fun d aK e2 e=>?_
  exact⟨d,aK,e2,e⟩
theorem Ft(H:gu C ih d){op jU:Cm}{a b c:CE}{Q:Bool→Shared→Prop}{whole:Sem Value}{y w:Expr}(e:(stepT ih (.chain op a b jU c) ρ s).leaf C.ν=some (r,s'))(h1:aW C kd a x)(h2:aW C kd b y)(h3:aW C kd c w)(h4:lastMarks [m3 op,m3 jU] [y,w]=false)(F:fu C Z J M kd env ρ st.heap)(S:aq C J M s st.heap)(R:bu A d)(z:cm C Z J st.heap)(K:KB C Z J M st r s' Q):
  ab (Md C) A (isTrue (.Compare x [m3 op,m3 jU] [y,w] pos) env whole) Q E st:=by
 refine aH.cM e fun av ag e1 e=>?_
 refine aH.cM e fun bv aK e2 e=>?_
 refine eM (uP e:) fun q bM e4 e5=>?_
 refine isTrue_chain ?_ h4
 refine H a ρ s av ag e1 kd x h1 Z J M env A st F S R z _ _ fun aA aP h₁ aU rv aF aD cb=>?_
 refine y8 (H b ρ ag bv aK e2 kd y h2 Z aA aP env A _ (F.grow aF) aD R (z.grow aF) _ _ fun cy dU br bf rw bb bU d7=>?_)
 have QC:=aF.trans bb
 refine Ic (Z:=Z) (st:={st with heap:=br,toks:=bf}) R.units e4 (cb.grow bb) d7 bU fun kO sh dR ie du fH=>lf<|wpAny_truthy_bool ?_
 have Q6:=QC.trans du
 cases q with
 |false=>
  obtain⟨rfl,rfl⟩:=e5
  exact K _ _ _ _ Q6 fH
 |true=>
  refine eM (e5:) fun dv kV e6 e7=>?_
  refine y9 (H c ρ bM dv kV e6 kd w h3 Z kO sh env A _ (F.grow Q6) fH R (z.grow Q6) _ _ fun mf u9 iK fY rx d8 lI EF=>?_)
  exact Ic (Z:=Z) (st:={st with heap:=iK,toks:=fY}) R.units e7 ((d7.grow du).grow d8) EF lI fun σ' M' h' tk G S'=>lf<|wpAny_truthy_bool (K σ' M' h' tk ((Q6.trans d8).trans G) S')
theorem Mv(H:gu C ih d)(pos:Pos){es:List CE}:∀{xs:List Expr}{s:AS}{J:List Addr}{M:Addr→Prop}{st:Shared}{Q:Value→Shared→Prop},(DR ih es ρ s).leaf C.ν=some (v,s')→c0 C kd es xs→fu C Z J M kd env ρ st.heap→aq C J M s st.heap→bu A d→cm C Z J st.heap→KV C Z J M st v s' Q→
  ab (Md C) A (eval (.BoolOp .And xs pos) env) Q E st:=by
 induction es with
 |nil=>exact fun e=>no e
 |cons a l Dk=>
  intro xs s J M st Q e hl F S R z K;refine hl.oZ fun x xs h1 Y h4=>?_
  cases l with
  |nil=>exact h4.nl▸nr (H a ρ s v s' e kd _ h1 Z J M env A st F S R z _ _ K)
  |cons b r=>
   refine aH.cM e fun av ag e1 e=>aH.cM e fun q aK e2 e=>?_
   revert h4
   refine fun h4=>h4.oZ fun x' sO h2 h3 h4=>vt (H a ρ s av ag e1 kd _ h1 Z J M env A st F S R z _ _ fun aA aP h₁ aU rv aF aD cb=>?_)
   refine jh (Z:=Z) (st:={st with heap:=h₁,toks:=aU}) e2 cb aD fun cy dU br bf bb bU=>?_
   cases q with
   |true=>exact Dk (st:={st with heap:=br,toks:=bf}) e (.cons h2 h3 h4) (F.grow (aF.trans bb)) bU R (z.grow (aF.trans bb)) (K.after (aF.trans bb))
   |false=>exact K.of e _ _ _ _ _ (aF.trans bb) bU (cb.grow bb)
theorem N7(H:gu C ih d)(pos:Pos){es:List CE}:∀{xs:List Expr}{s:AS}{J:List Addr}{M:Addr→Prop}{st:Shared}{Q:Value→Shared→Prop},(LS ih es ρ s).leaf C.ν=some (v,s')→c0 C kd es xs→fu C Z J M kd env ρ st.heap→aq C J M s st.heap→bu A d→cm C Z J st.heap→KV C Z J M st v s' Q→
  ab (Md C) A (eval (.BoolOp .Or xs pos) env) Q E st:=by
 induction es with
 |nil=>exact fun e=>no e
 |cons a l Dk=>
  intro xs s J M st Q e hl F S R z K;refine hl.oZ fun x xs h1 Y h4=>?_
  cases l with
  |nil=>exact h4.nl▸nr (H a ρ s v s' e kd _ h1 Z J M env A st F S R z _ _ K)
  |cons b r=>
   refine aH.cM e fun av ag e1 e=>aH.cM e fun q aK e2 e=>?_
   revert h4
   refine fun h4=>h4.oZ fun x' sO h2 h3 h4=>ze (H a ρ s av ag e1 kd _ h1 Z J M env A st F S R z _ _ fun aA aP h₁ aU rv aF aD cb=>?_)
   refine jh (Z:=Z) (st:={st with heap:=h₁,toks:=aU}) e2 cb aD fun cy dU br bf bb bU=>?_
   cases q with
   |false=>exact Dk (st:={st with heap:=br,toks:=bf}) e (.cons h2 h3 h4) (F.grow (aF.trans bb)) bU R (z.grow (aF.trans bb)) (K.after (aF.trans bb))
   |true=>exact K.of e _ _ _ _ _ (aF.trans bb) bU (cb.grow bb)
theorem Fq(HT:vm C ih d)(pos:Pos)(whole:Sem Value){es:List CE}:∀{xs:List Expr}{s:AS}{r:Bool}{J:List Addr}{M:Addr→Prop}{st:Shared}{Q:Bool→Shared→Prop},(BQ ih es ρ s).leaf C.ν=some (r,s')→c0 C kd es xs→fu C Z J M kd env ρ st.heap→aq C J M s st.heap→bu A d→cm C Z J st.heap→KB C Z J M st r s' Q→
  ab (Md C) A (isTrue (.BoolOp .And xs pos) env whole) Q E st:=by
 induction es with
 |nil=>intro xs s r J M st Q e hl F S R z K;exact hl.nl▸lf (isTrue_and_nil ((K.of e).now S st.toks))
 |cons a l Dk=>
  intro xs s r J M st Q e hl F S R z K;refine hl.oZ fun x xs h1 Y h4=>aH.cM e fun q aK e2 e=>isTrue_and (HT a ρ s q aK e2 kd _ h1 Z J M env A st F S R z _ _ fun cy dU br bf G bU=>?_)
  cases q with
  |true=>exact Dk (st:={st with heap:=br,toks:=bf}) e h4 (F.grow G) bU R (z.grow G) (K.after G)
  |false=>exact K.of e _ _ _ _ G bU
theorem Ke(HT:vm C ih d)(pos:Pos)(whole:Sem Value){es:List CE}:∀{xs:List Expr}{s:AS}{r:Bool}{J:List Addr}{M:Addr→Prop}{st:Shared}{Q:Bool→Shared→Prop},(Kb ih es ρ s).leaf C.ν=some (r,s')→c0 C kd es xs→fu C Z J M kd env ρ st.heap→aq C J M s st.heap→bu A d→cm C Z J st.heap→KB C Z J M st r s' Q→
  ab (Md C) A (isTrue (.BoolOp .Or xs pos) env whole) Q E st:=by
 induction es with
 |nil=>intro xs s r J M st Q e hl F S R z K;exact hl.nl▸lf (isTrue_or_nil ((K.of e).now S st.toks))
 |cons a l Dk=>
  intro xs s r J M st Q e hl F S R z K;refine hl.oZ fun x xs h1 Y h4=>aH.cM e fun q aK e2 e=>isTrue_or (HT a ρ s q aK e2 kd _ h1 Z J M env A st F S R z _ _ fun cy dU br bf G bU=>?_)
  cases q with
  |false=>exact Dk (st:={st with heap:=br,toks:=bf}) e h4 (F.grow G) bU R (z.grow G) (K.after G)
  |true=>exact K.of e _ _ _ _ G bU
theorem NG(H:gu C ih d){a:CE}(e:(cF P N ih (.neg a) ρ s).leaf C.ν=some (v,s'))(h1:aW C kd a x1)(F:fu C Z J M kd env ρ st.heap)(S:aq C J M s st.heap)(R:bu A d)(z:cm C Z J st.heap)(K:KV C Z J M st v s' Q):
  ab (Md C) A (eval (.UnaryOp .USub x1 pos) env) Q E st:=by
  refine aH.cM e fun av ag e1 e=>?_
  refine pf (H a ρ s av ag e1 kd _ h1 Z J M env A st F S R z _ _ fun aA aP h₁ aU rv aF aD cb=>?_)
  obtain⟨x,rfl,e⟩:=aX e
  injection e with e;injection e with e aN;subst e aN;refine cb.eN fun t=>?_
  exact lf<|PySem.P.neg_int (K _ _ _ _ _ aF aD (.int _ _ _ (by rw [ku];exact Int.zero_sub _)))
end
theorem mi(h1:j<n):seqIndex? (j:Int) n=some j:=by
 unfold seqIndex?;rw [if_neg (Int.not_lt.mpr (Int.natCast_nonneg j)),if_pos (by rw [Bool.and_eq_true,decide_eq_true_eq,decide_eq_true_eq];exact⟨Int.natCast_nonneg j,Int.ofNat_lt.mpr h1⟩)]
 rfl
theorem seqIndex_of{i:Int}(h0:0≤i)(h1:i<n):seqIndex? i n=some i.toNat:=dF (Int.eq_ofNat_of_zero_le h0:) fun k e=>by subst e;exact mi (Int.ofNat_lt.mp h1)
structure yX(n:Nat)(i:Int)(k:Nat):Prop where
 s:seqIndex? i n=some k
 lo: -(n:Int)≤i
 hi:i<n
 lt:k<n
 nn:0≤i→i.toNat=k
 ng:i<0→(i+n).toNat=k
theorem Lq(h:j<n):yX n (j:Int) j:=⟨mi h,Int.le_trans (Int.neg_nonpos_of_nonneg (Int.natCast_nonneg n)) (Int.natCast_nonneg j),Int.ofNat_lt.mpr h,h,fun Y=>Int.toNat_natCast j,fun q=>absurd q (Int.not_lt.mpr (Int.natCast_nonneg j))⟩
theorem xC(h:j+1≤n):Int.negSucc j+(n:Int)=((n - (j+1):Nat):Int):=Int.subNatNat_of_le h
theorem CI(h:j+1≤n):n - (j+1)<n:=Nat.sub_lt (Nat.lt_of_lt_of_le (Nat.succ_pos j) h) (Nat.succ_pos j)
theorem ti(h:j+1≤n):seqIndex? (Int.negSucc j) n=some (n - (j+1)):=by
 unfold seqIndex?;rw [if_pos (Int.negSucc_lt_zero j)];show(if _ then some (Int.negSucc j+(n:Int)).toNat else none)=_;rw [xC h,if_pos (by rw [Bool.and_eq_true,decide_eq_true_eq,decide_eq_true_eq];exact⟨Int.natCast_nonneg _,Int.ofNat_lt.mpr (CI h)⟩)]
 rfl
theorem Lr(h:j+1≤n):yX n (Int.negSucc j) (n - (j+1)):=⟨ti h,Int.neg_le_neg (Int.ofNat_le.mpr h),Int.lt_of_lt_of_le (Int.negSucc_lt_zero j) (Int.natCast_nonneg n),CI h,fun q=>absurd (Int.negSucc_lt_zero j) (Int.not_lt.mpr q),fun Y=>by rw [xC h];rfl⟩
theorem ud{i:Int}(h:index n i=some k):yX n i k:=by
 cases i with
 |ofNat j=>
  unfold index at h
  dsimp only at h
  cases q:Nat.blt j n with
  |true=>rw [q]at h;injection h with h;subst h;exact Lq (n0.mp q)
  |false=>rw [q]at h;injection h
 |negSucc j=>
  unfold index at h
  dsimp only at h
  cases q:Nat.ble (j+1) n with
  |true=>rw [q]at h;injection h with h;subst h;exact Lr (bF q)
  |false=>rw [q]at h;injection h
theorem gW{l:List α}{i:IE}{x:α}(R:cg ν s.rg)(e:(getIdx l i s).leaf ν=some (x,s')):l.length≤100000∧SameBut s s'∧cg ν s'.rg∧∃k,l[k]?=some x∧yX l.length (i.eval ν) k:=by
 refine aw (bC e:) fun hl e=>?_
 refine aH.cM e fun j ag e1 e=>?_
 refine dN (fg 40 R e1:) fun c1 c2 c3=>?_
 refine aC (aI e:) fun k hk e=>?_
 refine aC (aI e:) fun y hx e=>?_
 injection e with e;injection e with e aN;subst e aN;exact⟨hl,c2,c3,k,hx,c1▸ud hk⟩
theorem BS(x:Int):(max 0 x).toNat=x.toNat:=by
 cases x with
 |ofNat k=>exact congrArg Int.toNat (Int.max_eq_right (Int.natCast_nonneg k))
 |negSucc k=>exact(congrArg Int.toNat (Int.max_eq_left (Int.le_of_lt (Int.negSucc_lt_zero k)))).trans rfl
theorem oS(n:Nat)(i:Int):clamp n i=clipAt n i:=by
 cases i with
 |ofNat k=>
  unfold clipAt;rw [if_neg (show¬Int.ofNat k<0 from Int.not_lt.mpr (Int.natCast_nonneg k))]
  refine Eq.trans ?_ (BS _).symm
  show min k n=(min (k:Int) n).toNat;refine(Nat.le_total k n).elim (fun q=>?_) fun q=>?_
  ·rw [Nat.min_eq_left q,Int.min_eq_left (Int.ofNat_le.mpr q)];rfl
  ·rw [Nat.min_eq_right q,Int.min_eq_right (Int.ofNat_le.mpr q)];rfl
 |negSucc k=>
  unfold clipAt;rw [if_pos (Int.negSucc_lt_zero k)];refine Eq.trans ?_ (BS _).symm;rw [Int.min_eq_left (Int.le_trans (Int.add_le_add_right (Int.le_of_lt (Int.negSucc_lt_zero k)) n) (Int.le_of_eq (Int.zero_add _))),Int.add_comm];exact(Int.toNat_sub n (k+1)).symm
theorem qJ(n:Nat)(i:Int):clipAt n i≤n:=oS n i▸(by cases i with|ofNat k=>exact Nat.min_le_right _ _|negSucc k=>exact Nat.sub_le _ _)
section
variable{ex:Expr}
theorem ay.get(V:ay C J M h l vs){x:AV}(e:l[k]?=some x):∃y,vs[k]?=some y∧ao C J M h x y:=
 V.ind (P:=fun l vs=>∀k x,l[k]?=some x→∃y,vs[k]?=some y∧ao C J M h x y) (fun Y Y e=>Mine.Internal.no e) (fun Y v Y Y x Y ih k=>Nat.casesOn k (fun Y e=>⟨v,rfl,bg e▸x⟩) fun k y e=>ih k y e) k x e
theorem ay.drop(k:Nat)(V:ay C J M h l vs):ay C J M h (l.drop k) (vs.drop k):=
 V.ind (P:=fun l vs=>∀k,ay C J M h (l.drop k) (vs.drop k)) (fun k=>by rw [List.drop_nil,List.drop_nil];exact .nil) (fun Y Y Y Y x r ih k=>Nat.casesOn k (.cons x r) ih) k
theorem ay.take(k:Nat)(V:ay C J M h l vs):ay C J M h (l.take k) (vs.take k):=
 V.ind (P:=fun l vs=>∀k,ay C J M h (l.take k) (vs.take k)) (fun k=>by rw [List.take_nil,List.take_nil];exact .nil) (fun Y Y Y Y x r ih k=>Nat.casesOn k .nil fun k=>.cons x (ih k)) k
theorem ay.cut(a b:Nat)(V:ay C J M h l vs):ay C J M h ((l.drop a).take b) ((vs.drop a).take b):=(V.drop a).take b
theorem nI(slice:Expr)(o i:Value):subscripted slice false o i=operate [i,o] (getItem o i)∨subscripted slice false o i=operate [o,i] (getItem o i):=by
 cases slice with
 |Slice l u s p=>cases s<;>first|exact .inl rfl|exact .inr rfl
 |_=>exact .inr rfl
theorem d9{T id:String}{slice:Expr}{o i:Value}(hT:st.TypeIs o T)(hl:typeLookup (.type T) "__getitem__"=pure (some (.builtin id)))(h:ab (Md C) A (getItem o i) Q E st):ab (Md C) A (subscriptTail value slice o i) Q E st:=by
 unfold subscriptTail;refine aa ?_;rw [getitemInPython_of_ne hT.not_modules];refine aa (lf<|wpAny_specialOf hT hl ?_);have fin:ab (Md C) A (subscripted slice false o i) (fun r bM=>ab (Md C) A (letTemporaryGo value o r>>=fun Y=>pure r) Q E bM) E st:=by
  have h':=aG h (fun r bM dR=>aa (lf<|wpAny_letTemporaryGo (prog:=C.prog) (w:=C.w) (E:=E) (base:=value) (o:=o) (r:=r) (Q:=fun Y s=>ab (Md C) A (pure r) Q E s) (af dR))) fun Y Y x=>x
  exact(nI slice o i).elim (fun q=>q▸cB h') fun q=>q▸cB h'
 exact af (aa fin)
theorem uJ{l:List IE}:∀{vs:List Int},constsOf l=some vs→∀(k:Nat)(x:IE),l[k]?=some x→vs[k]?=some (x.eval ν):=by
 induction l with
 |nil=>exact fun Y Y Y e=>no e
 |cons a l ih=>
  intro vs e k x h;refine aC (aM e:) fun i q e=>?_
  cases q':constsOf l with
  |none=>rw [q']at e;injection e
  |some ws=>
   rw [q']at e;injection e with e;subst e;cases k with
   |zero=>(injection h with h;subst h);exact congrArg some (ia ν q).symm
   |succ k=>exact ih q' k x h
theorem uj{l:List IE}{i:Int}{t u:Tok}{x:IE}(B:bq C.ν l)(hl:l.length≤100000)(h1:seqIndex? i l.length=some k)(h2:l[k]?=some x)(h3: -(l.length:Int)≤i)(h4:i<l.length)
  (K:∀t',Q (.int (x.eval C.ν) t') {st with toks:=st.toks+1}):ab (Md C) A (getItem (.bytes (aS C.ν l) t) (.int i u)) Q E st:=by
 have hx:(aS C.ν l)[k]?=some (cz C.ν x):=by
  unfold aS;rw [List.getElem?_toArray,List.getElem?_map,h2];rfl
 refine lf<|getItem_gives (typeIs_bytes st _ t) (by decide) FB.slot_bytes_getitem FB.entry_bytes_getitem (FB.args_bytes_getitem_2 _ _) (gives_bytes_getitem _ i t u (cz C.ν x) ?_ ?_) ?_
 ·simp only[Builtin.Bytes.fitsIndex,Bool.and_eq_true,decide_eq_true_eq];lia
 ·rw [cJ,h1];exact hx
 ·have hb:=B x (bO h2)
  have:(((cz C.ν x).toNat:Nat):Int)=x.eval C.ν:=by
   unfold cz;rw [UInt8.toNat_ofNat',Nat.mod_eq_of_lt ((Int.toNat_lt hb.1).mpr hb.2)];exact Int.toNat_of_nonneg hb.1
  show Q (.int ((cz C.ν x).toNat:Nat) st.toks) {st with toks:=st.toks+1}
  rw [this];exact K _
section
variable{slice:Expr}{rw:Value}
theorem Bb{i:IE}(e:(getIdx l i s).leaf C.ν=some (v,s'))(V:ao C J M st.heap (.t l) rv)(W:ao C J M st.heap (.int i) rw)(S:aq C J M s st.heap)(K:KV C Z J M st v s' Q):ab (Md C) A (subscriptTail value slice rv rw) Q E st:=by
 refine V.kS fun a vs n ha ea Va=>?_
 refine W.eN fun u=>?_
 obtain⟨hl,c2,c3,k,d2,I⟩:=gW S.rg e
 refine aC (Va.get d2:) fun y hy Vy=>?_
 rw [Va.length]at hl I;exact d9 ⟨_,ea,rfl⟩ F.slot_tuple_getitem.lookup (lf<|PySem.P.getItem_tuple (t:=a) (items:=vs.toArray) (n:=n) ea (by have:=I.lo;lia) (by have:=I.hi;lia) (by rw [cW];exact I.s) (by simpa using hy) (K.now (S.lT c2 c3) Vy st.toks))
theorem Bd{l:List Nat}{i:IE}(e:((getIdx l i s).bind fun(x,s)=>aH.ok (AV.str [x],s)).leaf C.ν=some (v,s'))(V:ao C J M st.heap (.str l) rv)(W:ao C J M st.heap (.int i) rw)(S:aq C J M s st.heap)(K:KV C Z J M st v s' Q):ab (Md C) A (subscriptTail value slice rv rw) Q E st:=by
 refine V.gO fun t=>?_
 refine W.eN fun u=>?_
 refine aH.cM e fun x ag e1 e=>?_
 obtain⟨hl,c2,c3,k,d2,I⟩:=gW S.rg e1
 injection e with e;injection e with e aN;subst e aN;have hlen:(aR l).length=l.length:=by simp[aR,Str.length]
 exact d9 (typeIs_str st _ t) F.slot_str_getitem.lookup (lf<|PySem.P.getItem_str (c:=x) (by rw [Bool.or_eq_false_iff];constructor<;>(apply decide_eq_false;have:=I.lo;have:=I.hi;lia)) (by rw [hlen,I.s];simpa[aR]using d2) (K.now (S.lT c2 c3) (.str [x] _) _))
theorem z8{l:List IE}{i:IE}(e:(De l i s).leaf C.ν=some (v,s'))(V:ao C J M st.heap (.bytes l) rv)(W:ao C J M st.heap (.int i) rw)(S:aq C J M s st.heap)(K:KV C Z J M st v s' Q):ab (Md C) A (subscriptTail value slice rv rw) Q E st:=by
 refine V.eH fun B t=>?_
 refine W.eN fun u=>?_
 refine aH.cM e fun x ag e1 e=>?_
 obtain⟨hl,c2,c3,k,d2,I⟩:=gW S.rg e1
 injection e with e;injection e with e aN;subst e aN;exact d9 (typeIs_bytes st _ t) FB.slot_bytes_getitem.lookup (uj B hl I.s d2 I.lo I.hi fun t'=>K.now (S.lT c2 c3) (.int _ _ _ rfl) _)
theorem Bc{l:List IE}{i:IE}{r:RV}(q:t8 l i s=some r)(e:r.leaf C.ν=some (v,s'))(V:ao C J M st.heap (.bytes l) rv)(W:ao C J M st.heap (.int i) rw)(S:aq C J M s st.heap)(K:KV C Z J M st v s' Q):ab (Md C) A (subscriptTail value slice rv rw) Q E st:=by
 refine V.eH fun B t=>?_
 refine W.eN fun u=>?_
 unfold t8 at q;cases q0:gQ i with
 |some j=>rw [q0]at q;injection q
 |none=>
  rw [q0]at q;refine aC (aM q:) fun p q1 q=>?_
  refine aC (aM q:) fun vs q2 q=>?_
  refine aw (aB q:) fun hb q=>?_
  injection q with q;subst q;refine aw (bC e:) fun hl e=>?_
  injection e with e;injection e with e aN;subst e aN;refine aw (dJ S.rg q1:) fun v1 v2=>?_
  have b1:=Int.le_trans (bI.mp (ae (ae hb).2).1) v1
  have b2:=Int.lt_of_le_of_lt v2 (bz.mp (ae (ae hb).2).2)
  have hx:=List.getElem?_eq_getElem ((Int.toNat_lt b1).mpr b2)
  refine d9 (typeIs_bytes st _ t) FB.slot_bytes_getitem.lookup (uj B hl (seqIndex_of b1 b2) hx (Int.le_trans (Int.neg_nonpos_of_nonneg (Int.natCast_nonneg _)) b1) b2 fun t'=>K.now S (.int _ _ _ ?_) _)
  show vs.getD (i.eval C.ν).toNat 0=_;rw [List.getD_eq_getElem?_getD,uJ q2 _ _ hx];rfl
theorem Dd{l:List (List Nat×AV)}{k:List Nat}(q:gL l k=some v)(V:ao C J M st.heap (.eF l) rv)(W:ao C J M st.heap (.str k) rw)(S:aq C J M s st.heap)(K:KV C Z J M st v s Q):ab (Md C) A (subscriptTail value slice rv rw) Q E st:=by
 refine V.w3 fun a es n ha hs ea Ra=>?_
 refine W.gO fun t=>?_
 have hf:=Ra.find k
 rw [q]at hf;refine aC (hf:) fun en h1 h2=>?_
 have hm:=rX ea Ra
 exact d9 hm.typeIs slot_dict_getitem.lookup (lf<|wpAny_getItem_of (strKind_is _ _ _ _) hm (v:=en.val) (by rw [h1];rfl) (K.now S h2 _))
theorem zc{r:Nat}{i:IE}(el:s.get r=some (.list l))(e:(getIdx l i s).leaf C.ν=some (v,s'))(V:ao C J M st.heap (.ref r) rv)(W:ao C J M st.heap (.int i) rw)(S:aq C J M s st.heap)(K:KV C Z J M st v s' Q):ab (Md C) A (subscriptTail value slice rv rw) Q E st:=by
 refine V.listE S el fun a vs n ha ea Va=>?_
 refine W.eN fun u=>?_
 obtain⟨hl,c2,c3,k,d2,I⟩:=gW S.rg e
 refine aC (Va.get d2:) fun y hy Vy=>?_
 rw [Va.length]at hl I;have KK:=K.now (S.lT c2 c3) Vy st.toks
 refine d9 ⟨_,ea,rfl⟩ slot_list_getitem.lookup ?_
 by_cases h0:0≤i.eval C.ν
 ·exact lf<|wpAny_getItem_list (cN ea) h0 (by have:=I.hi;lia) (by rw [I.nn h0];simpa using hy) KK
 ·refine lf<|wpAny_getItem_list_neg (cN ea) (by lia) (by rw [cW];have:=I.lo;lia) (by have:=I.lo;lia) ?_ KK
  rw [cW,I.ng (by lia)];simpa using hy
end
theorem Gx{i:AV}{slice:Expr}{rw:Value}(e:(item a i s).leaf C.ν=some (v,s'))(V:ao C J M st.heap a rv)(W:ao C J M st.heap i rw)(S:aq C J M s st.heap)(K:KV C Z J M st v s' Q):ab (Md C) A (subscriptTail value slice rv rw) Q E st:=by
 cases a with
 |t l=>
  obtain⟨x,rfl,e⟩:=aX e
  exact Bb e V W S K
 |str l=>
  obtain⟨x,rfl,e⟩:=aX e
  exact Bd e V W S K
 |bytes l=>
  obtain⟨x,rfl,e⟩:=aX e
  have e:(match t8 l x s with|some r=>r|none=>De l x s).leaf C.ν=some (v,s'):=e
  cases q:t8 l x s with
  |none=>rw [q]at e;exact z8 e V W S K
  |some r=>rw [q]at e;exact Bc q e V W S K
 |eF l=>
  obtain⟨k,rfl,e⟩:=dD e
  refine aC (aI e:) fun w q e=>?_
  injection e with e;injection e with e aN;subst e aN;exact Dd q V W S K
 |ref r=>
  obtain⟨x,rfl,e⟩:=aX e
  refine aC (cT e:) fun l el e=>?_
  exact zc el e V W S K
 |_=>exact no e
theorem NJ(H:gu C ih d){a b:CE}(e:(cF P N ih (.idx a b) ρ s).leaf C.ν=some (v,s')){y:Expr}(h1:aW C kd a x)(h2:aW C kd b y)(F:fu C Z J M kd env ρ st.heap)(S:aq C J M s st.heap)(R:bu A d)(z:cm C Z J st.heap)(K:KV C Z J M st v s' Q):
  ab (Md C) A (eval (.Subscript x y pos) env) Q E st:=by
 exact ke (B7 H (op:=item) (t:=subscriptTail x y) e h1 h2 F S R z K fun e V W S Y K=>Gx e V W S K)
end
theorem jl(lo hi:Option Int)(n:Nat):Builtin.Str.strSliceIndices lo hi 1 n=(List.range (hi.elim n (clipAt n) - lo.elim 0 (clipAt n))).map (lo.elim 0 (clipAt n)+·):=by
 have h:Builtin.Str.strSliceIndices lo hi 1 n=sliceRange (sliceBounds lo hi none n).1 (sliceBounds lo hi none n).2.1 1:=by
  cases lo<;>cases hi<;>simp[Builtin.Str.strSliceIndices,sliceBounds]
 rw [h,sliceBounds_plain,sliceRange_one]
theorem uO(v:Int)(n:Nat):(if v<0 then max (v+(n:Int)) 0 else min v (n:Int))=((clipAt n v:Nat):Int):=by
 rw [clipAt_cast];refine(Decidable.em (v<0)).elim (fun c=>?_) fun c=>?_
 ·rw [if_pos c,if_pos c,Int.min_eq_left (Int.le_trans (Int.add_le_add_right (Int.le_of_lt c) n) (Int.le_of_eq (Int.zero_add _))),Int.max_comm]
 ·rw [if_neg c,if_neg c,Int.max_eq_right (Int.le_min.mpr ⟨Int.not_lt.mp c,Int.natCast_nonneg n⟩)]
theorem AW(lo hi:Option Int)(n:Nat):Builtin.Slice.sliceAdjust lo hi 1 (n:Int)=(((lo.elim 0 (clipAt n):Nat):Int),((hi.elim n (clipAt n):Nat):Int)):=by
 unfold Builtin.Slice.sliceAdjust;have h1:¬((1:Int)<0):=by decide
 simp only[h1,if_false]
 refine Prod.ext ?_ ?_
 ·cases lo with
  |none=>rfl
  |some v=>exact uO v n
 ·cases hi with
  |none=>rfl
  |some v=>exact uO v n
set_option tactic.hygienic true in
theorem zF(a b:Nat):Builtin.Slice.slicePlaces (a:Int) (b:Int) 1=b - a:=by
 unfold Builtin.Slice.slicePlaces;rw [if_pos (by decide)]
 split
 ·rename_i c
  rw [Int.ediv_one];show((b:Int) - a - 1+1).toNat=_;rw [Int.sub_add_cancel,Int.toNat_sub]
 ·rename_i c
  exact(Nat.sub_eq_zero_of_le (Int.ofNat_le.mp (Int.not_lt.mp c))).symm
noncomputable def cH(l:List α)(lo hi:Option Int):List α:=(l.drop (lo.elim 0 (clipAt l.length))).take (hi.elim l.length (clipAt l.length) - lo.elim 0 (clipAt l.length))
theorem qg(l:List α)(lo hi:Option Int):(cH l lo hi).length≤l.length:=by
 exact((List.take_sublist _ _).trans (List.drop_sublist _ _)).length_le
theorem tB(l:List α)(lo hi:Option Int)(h:(cH l lo hi).length=l.length):cH l lo hi=l:=by
 unfold cH at h⊢;rw [List.length_take,List.length_drop]at h;cases l with
 |nil=>rw [List.drop_nil,List.take_nil]
 |cons x r=>
  have h0:lo.elim 0 (clipAt (x::r).length)=0:=by
   generalize lo.elim 0 (clipAt (x::r).length)=a at h
   cases a with
   |zero=>rfl
   |succ a=>exact absurd (Nat.le_trans (Nat.le_of_eq h.symm) (Nat.min_le_right _ _)) (Nat.not_le.mpr (Nat.sub_lt (Nat.succ_pos r.length) (Nat.succ_pos a)))
  rw [h0]at h⊢;rw [List.drop_zero,List.take_of_length_le (Nat.le_trans (Nat.le_of_eq h.symm) (Nat.min_le_left _ _))]
section
variable{ex:Expr}
noncomputable def lH(C:Cx)(J:List Addr)(M:Addr→Prop)(h:Heap):Option AV→Value→Prop
 |none,rv=>rv=.none
 |some v,rv=>ao C J M h v rv
theorem kE{dd:Nat}(R:cg C.ν s.rg)(e:(bound dd n (some v) s).leaf C.ν=some (k,s'))(V:ao C J M h v rv):∃j,IsPart rv (some j)∧k=clipAt n j∧SameBut s s'∧cg C.ν s'.rg:=by
 obtain⟨y,rfl,e⟩:=aX e
 refine aH.cM e fun j ag e1 e=>?_
 refine dN (fg 40 R e1:) fun c1 c2 c3=>?_
 injection e with e;injection e with e aN;subst e aN;refine V.eN fun t=>?_
 exact⟨j,by rw [c1];exact .int _ _,oS _ _,c2,c3⟩
theorem oU{dd:Nat}{x:Option AV}(R:cg C.ν s.rg)(e:(bound dd n x s).leaf C.ν=some (k,s'))(V:lH C J M h x rv):∃lo,IsPart rv lo∧k=lo.elim dd (clipAt n)∧SameBut s s'∧cg C.ν s'.rg:=by
 cases x with
 |none=>
  injection e with e;injection e with e aN;subst e aN;have V:rv=.none:=V
  subst V;exact⟨none,.none,rfl,.refl _,R⟩
 |some v=>
  refine lM (kE R e V:) fun j h1 h2 h3=>?_
  exact⟨some j,h1,h2,h3⟩
theorem eQ{l:List α}{x y:Option AV}{rw:Value}{r:List α}(R:cg C.ν s.rg)(e:(sliceOf l x y s).leaf C.ν=some (r,s'))(V:lH C J M h x rv)(W:lH C J M h y rw):
  l.length≤100000∧∃lo hi,IsPart rv lo∧IsPart rw hi∧r=cH l lo hi∧SameBut s s'∧cg C.ν s'.rg:=by
 unfold sliceOf at e;refine aw (bC e:) fun hl e=>?_
 refine aH.cM e fun a ag e1 e=>?_
 refine aH.cM e fun b aK e2 e=>?_
 obtain⟨lo,p1,rfl,c2,c3⟩:=oU R e1 V
 obtain⟨hi,p2,rfl,d2,d3⟩:=oU c3 e2 W
 injection e with e;injection e with e aN;subst e aN;refine⟨hl,lo,hi,p1,p2,?_,c2.trans d2,d3⟩;unfold cut cH;rw [List.drop_take]
theorem mE{sl:Addr}{vl vu:Value}{lo:Option Int}{Q:Int×Int×Nat→Shared→Prop}(hs:st.heap.IsSliceOf sl vl vu .none)(pl:IsPart vl lo)(pu:IsPart vu hi)(h:Q (((lo.elim 0 (clipAt n):Nat):Int),1,hi.elim n (clipAt n) - lo.elim 0 (clipAt n)) st):
  ab (Md C) A (Builtin.Slice.sliceApplied (.ref sl) (pure (n:Int))) Q E st:=by
 refine lM (id hs:) fun os hos hcs hds=>?_
 unfold Builtin.Slice.sliceApplied Builtin.Slice.sliceFields;refine aa (aa (lf<|wpAny_field hos hds (x:=vl) rfl (aa (lf<|wpAny_field hos hds (x:=vu) rfl (aa (lf<|wpAny_field hos hds (x:=.none) rfl (af ?_)))))))
 refine aa (lf<|slicePart_none ?_)
 show ab _ _ (if((1:Int)==0)=true then _ else _) _ _ st;rw [if_neg (by decide)]
 have sp:∀{v:Value}{k:Option Int}{Q:Option Int→Shared→Prop},IsPart v k→Q k st→ab (Md C) A (Builtin.Slice.slicePartIndex v) Q E st:=fun p q=>by
  cases p with
  |none=>exact lf<|slicePart_none q
  |int i t=>exact lf<|slicePart_int q
 refine aa (sp pl (aa (sp pu (aa (af ?_)))))
 show ab _ _ (match Builtin.Slice.sliceAdjust lo hi 1 (n:Int)with|(lo,hi)=>pure (lo,(1:Int),Builtin.Slice.slicePlaces lo hi 1)) _ _ st
 rw [AW];show ab _ _ (pure (((lo.elim 0 (clipAt n):Nat):Int),(1:Int),Builtin.Slice.slicePlaces ((lo.elim 0 (clipAt n):Nat):Int) ((hi.elim n (clipAt n):Nat):Int) 1)) _ _ st;rw [zF];exact af h
theorem F1(xs:List Value)(a k:Nat):((List.range k).filterMap fun(j:Nat)=>xs.toArray[((a:Int)+(j:Int)*1).toNat]?).toArray=((xs.drop a).take k).toArray:=by
 have e:(fun(j:Nat)=>xs.toArray[((a:Int)+(j:Int)*1).toNat]?)=fun j=>xs.toArray[a+j]?:=by
  funext j
  have:((a:Int)+(j:Int)*1).toNat=a+j:=by lia
  rw [this]
 rw [e];have:=pick_run xs.toArray a k
 rw [List.filterMap_map]at this;have e2:((fun x=>xs.toArray[x]?)∘fun x=>a+x)=fun k=>xs.toArray[a+k]?:=rfl
 rw [e2]at this;rw [this]
theorem jW{t sl:Addr}{vl vu:Value}{lo:Option Int}(ht:IsTup st.heap t vs.toArray)(hs:st.heap.IsSliceOf sl vl vu .none)(pl:IsPart vl lo)(pu:IsPart vu hi)(hz:vs.length≤100000)
  (h0:(cH vs lo hi)=vs→Q (.ref t) st)(h:Q (.ref st.heap.objs.size) {st with heap:=st.heap.push (fP (cH vs lo hi) 0)}):ab (Md C) A (getItem (.ref t) (.ref sl)) Q E st:=by
 have hdrop:sizeOk (.seq (cH vs lo hi).toArray):=by
  show(cH vs lo hi).toArray.size≤sizeLine;rw [cW];exact Nat.le_trans (qg _ _ _) (bN hz)
 refine lM (id hs:) fun os hos hcs hds=>?_
 have Xi:st.TypeIs (.ref sl) "slice":=⟨os,hos,hcs⟩
 unfold getItem
 try with_reducible refine aj ?_
 first|refine aa (af ?_)|skip
 refine aa (lf<|wpAny_sequenceKey ht.typeIs (by decide) ?_)
 refine aa (bA (name:=Str.ofString "__getitem__") ht.typeIs slot_tuple_getitem
  (cf slot_tuple_getitem ht.typeIs entry_tuple_getitem ?_ (args_tuple_getitem _ _)))
 show ab _ _ (Builtin.Tuple.tupleItemsOf (.ref t)>>=_) _ _ st;refine aa (lf<|tupleItemsOf_ ht ?_);refine aa (lf<|wpAny_typeOf Xi ?_);rw [if_pos (by decide)]
 refine aa (mE (n:=vs.toArray.size) hs pl pu ?_)
 have hn:vs.toArray.size=vs.length:=by simp
 rw [hn]
 generalize ha:lo.elim 0 (clipAt vs.length)=a
 generalize hb:hi.elim vs.length (clipAt vs.length)=b
 have hp:cH vs lo hi=(vs.drop a).take (b - a):=by unfold cH;rw [ha,hb]
 show ab _ _ (if((a:Int)==0&&(1:Int)==1&&(b - a)==vs.toArray.size)=true then _ else _) _ _ st;rw [F1 vs a (b - a),←hp]
 by_cases hw:((a:Int)==0&&(1:Int)==1&&(b - a)==vs.toArray.size)=true
 ·rw [if_pos hw]
  simp only[Bool.and_eq_true,beq_iff_eq]at hw
  obtain⟨⟨w1,_⟩,w2⟩:=hw
  have WY:ab (Md C) A.in1 (Builtin.Tuple.tupleIsExact (.ref t)) (fun r s'=>r=true∧s'=st) (fun Y Y=>False) st:=by
   unfold Builtin.Tuple.tupleIsExact;exact aa (lf<|wpAny_typeOf ht.typeIs (af ⟨by decide,rfl⟩))
  refine aa (aG WY (fun r s' hr=>?_) fun Y Y x=>x.elim)
  obtain⟨rfl,rfl⟩:=hr
  refine aa (dm ?_)
  refine af ⟨_,rfl,af (h0 ?_)⟩
  have:a=0:=by lia
  subst this;rw [hp,List.drop_zero,List.take_of_length_le (by lia)]
 ·rw [if_neg hw]
  first
   |exact aa (m:=Builtin.Tuple.tupleExact _) (lf<|wpAny_newObj_type (af ⟨_,rfl,af h⟩) hdrop)
   |exact aa (m:=Builtin.Tuple.tupleExact _) (lf<|wpAny_newObj_type (aa (af (af ⟨_,rfl,af h⟩))) hdrop)
   |exact aa (aa (m:=Builtin.Tuple.tupleExact _) (lf<|wpAny_newObj_type (af (af ⟨_,rfl,af h⟩)) hdrop))
   |exact aa (aa (m:=Builtin.Tuple.tupleExact _) (lf<|wpAny_newObj_type (af ⟨_,rfl,af h⟩) hdrop))
end
section
variable{ex:Expr}
theorem gE{rvs:List Value}{a:Addr}(e:(newList s l).leaf C.ν=some (v,s'))(S:aq C J M s st.heap)(V:ay C J M st.heap l rvs)(K:KV C Z J M st v s' Q)(tk:Tok)
  (hk:∀b o,st.heap.get? b=some o→h'.get? b=some o)(ha:st.heap.get? a=none)(hg:h'.get? a=some (bZ rvs n)):Q (.ref a) {st with heap:=h',toks:=tk}:=by
 unfold newList at e;refine aw (bC e:) fun hl e=>?_
 refine aH.cM e fun i ag e1 e=>?_
 injection e with e;injection e with e aN;subst e aN;obtain⟨hb,rfl,rfl⟩:=fh e1
 have G:aJ Z J M st.heap (J++[a]) (fun b=>M b∨b=a) h':=
  ⟨⟨[a],rfl,fun b m=>by rw [List.mem_singleton]at m;rw [m];exact ha⟩,⟨fun b o e=>⟨o,hk _ _ e⟩,fun b o Y e=>hk _ _ e⟩,fun Y x=>.inl x,fun b x=>x.elim .inl fun q=>.inr (q▸ha)⟩
 refine dN (S.alloc (Z:=Z) hb hk ha (.list l) (.list l _ rvs n hg (V.grow G)):) fun S' G' he=>?_
 exact K _ _ _ tk _ G' S' (.ref _ _ he)
theorem mj(e:(newList s l).leaf ν=some (v,s')):l.length≤100000:=by
 unfold newList at e;exact(bC e).1
theorem nZ{l:List IE}{a:Addr}(e:(s.alloc (.cu l)).leaf C.ν=some (i,s'))(B:bq C.ν l)(S:aq C J M s st.heap)(K:KV C Z J M st (.ref i) s' Q)(tk:Tok)
  (hk:∀b o,st.heap.get? b=some o→h'.get? b=some o)(ha:st.heap.get? a=none)(hg:h'.get? a=some (de (aS C.ν l))):Q (.ref a) {st with heap:=h',toks:=tk}:=by
 obtain⟨hb,rfl,rfl⟩:=fh e
 refine dN (S.alloc (Z:=Z) hb hk ha (.cu l) (.cu l _ hg B):) fun S' G' he=>?_
 exact K _ _ _ tk _ G' S' (.ref _ _ he)
theorem jk(l:List Nat):(aR l).length=l.length:=by simp[aR,Str.length]
theorem Ci(l:List Nat)(lo hi:Option Int):(Builtin.Str.strSliceIndices lo hi 1 l.length).filterMap ((aR l).cps[·]?)=cH l lo hi:=by
 rw [jl];exact pick_run (aR l).cps _ _
theorem GH(l:List Nat)(lo hi:Option Int)(h:(Builtin.Str.strSliceIndices lo hi 1 l.length).length=l.length):cH l lo hi=l:=by
 apply tB
 rw [jl,List.length_map,List.length_range]at h;have hb:hi.elim l.length (clipAt l.length)≤l.length:=by
  cases hi with
  |none=>exact Nat.le_refl _
  |some j=>exact qJ _ _
 unfold cH;rw [List.length_take,List.length_drop];exact(Nat.min_eq_left (Nat.sub_le_sub_right hb _)).trans h
noncomputable abbrev p9(vl vu:Value):Obj:={cls:=.type "slice",data:=.fields #[vl,vu,.none]}
theorem bq.sub{l m:List IE}(B:bq ν l)(h:∀e∈m,e∈l):bq ν m:=fun e he=>B e (h e he)
theorem qf{l:List α}{lo:Option Int}{x:α}(h:x∈cH l lo hi):x∈l:=List.mem_of_mem_drop (List.mem_of_mem_take h)
theorem lb(ν:Nat→Int)(l:List IE)(lo hi:Option Int):KBy.picked (aS ν l) lo hi=aS ν (cH l lo hi):=by
 rw [KBc.picked_eq,cJ];unfold aS cH;rw [List.toList_toArray,List.map_take,List.map_drop]
theorem lH.grow(G:aJ Z J M h σ' M' h'):∀{x:Option AV}{rv:Value},lH C J M h x rv→lH C σ' M' h' x rv
 |none,_,e=>e
 |some _,_,V=>ao.grow G V
def jS(C:Cx):Prop:=∀(A:Around)(st:Shared)(E:Value→Shared→Prop)(a sl:Addr)(b:Array UInt8)(vl vu:Value)(lo hi:Option Int)(Q:Value→Shared→Prop),st.heap.get? a=some (de b)→st.heap.IsSliceOf sl vl vu .none→IsPart vl lo→IsPart vu hi→b.size≤100000→
 (∀tk,Q (.ref st.heap.objs.size) {st with heap:=st.heap.push (de (KBy.picked b lo hi)),toks:=tk})→ab (Md C) A (getItem (.ref a) (.ref sl)) Q E st
theorem lE:typeLookup (.type "bytearray") "__getitem__"=pure (some (.builtin "bytearray.__getitem__")):=by rw [typeLookup_type,builtinLookup_eq_fast];kernel_rfl
section
variable{sx:Expr}{vl vu:Value}{sl:Addr}{li:Option Int}
theorem zy(hl:l.length≤100000)(p1:IsPart vl li)(p2:IsPart vu hi)(hS:st.heap.IsSliceOf sl vl vu .none)(V:ao C J M st.heap (.t l) rv)(S:aq C J M s st.heap)(K:KV C Z J M st (.t (cH l li hi)) s Q):ab (Md C) A (subscriptTail value sx rv (.ref sl)) Q E st:=by
 refine V.kS fun a vs n ha ea Va=>?_
 have ht:IsTup st.heap a vs.toArray:=⟨_,ea,rfl,n,rfl⟩
 have hlen:=Va.length
 have hc:ay C J M st.heap (cH l li hi) (cH vs li hi):=by
  unfold cH;rw [←hlen];exact Va.cut _ _
 refine d9 ht.typeIs slot_tuple_getitem.lookup (jW ht hS p1 p2 (hlen▸hl) (fun hw=>?_) ?_)
 ·exact K.now S (.t _ a vs n ha ea (by rw [←hw];exact hc)) st.toks
 ·have G2:=aJ.push Z J M st.heap (fP (cH vs li hi) 0)
  exact K _ _ _ st.toks _ G2 (S.push _) (.t _ _ _ 0 (S.nY (Heap.bc _)) (Heap.get?_push_size _ rfl) (hc.grow G2))
theorem qS(p:IsPart vl li):∃p:Option (Int×Tok),PySem.partValue p=vl∧p.map (·.1)=li:=by
 cases p with
 |none=>exact⟨none,rfl,rfl⟩
 |int i t=>exact⟨some (i,t),rfl,rfl⟩
set_option tactic.hygienic true in
theorem zA{l:List Nat}(hl:l.length≤100000)(p1:IsPart vl li)(p2:IsPart vu hi)(hS:st.heap.IsSliceOf sl vl vu .none)(V:ao C J M st.heap (.str l) rv)(S:aq C J M s st.heap)(K:KV C Z J M st (.str (cH l li hi)) s Q):ab (Md C) A (subscriptTail value sx rv (.ref sl)) Q E st:=by
 refine V.gO fun t=>?_
 obtain⟨pl,rfl,hpl⟩:=qS p1
 obtain⟨pu,rfl,hpu⟩:=qS p2
 refine d9 (typeIs_str _ _ t) F.slot_str_getitem.lookup (lf<|getItem_meets (typeIs_str _ _ t) (by decide) F.slot_str_getitem F.entry_str_getitem (F.args_str_getitem_2 _ _) (meets_str_getitem_slice (aR l) t _ pl pu none (by decide)) ⟨hS,?_⟩)
 have hI:slicePicked (aR l) pl pu none=Builtin.Str.strSliceIndices li hi 1 l.length:=by
  unfold slicePicked;rw [hpl,hpu,jk];rfl
 unfold sliceMade;rw [hI,jk];split
 ·rename_i hw
  simp only[Bool.and_eq_true,beq_iff_eq]at hw
  rw [GH l li hi hw.2]at K;exact K.now S (.str l t) st.toks
 ·rw [Ci]
  exact⟨by show(aR (cH l li hi)).length≤sizeLine;rw [jk];exact Nat.le_trans (qg _ _ _) (bN hl),K.now S (.str _ _) _⟩
theorem ta{l:List IE}(hl:l.length≤100000)(p1:IsPart vl li)(p2:IsPart vu hi)(hS:st.heap.IsSliceOf sl vl vu .none)(V:ao C J M st.heap (.bytes l) rv)(S:aq C J M s st.heap)(K:KV C Z J M st (.bytes (cH l li hi)) s Q):ab (Md C) A (subscriptTail value sx rv (.ref sl)) Q E st:=by
 refine V.eH fun B t=>?_
 refine d9 (typeIs_bytes _ _ t) FB.slot_bytes_getitem.lookup (lf<|getItem_meets (typeIs_bytes _ _ t) (by decide) FB.slot_bytes_getitem FB.entry_bytes_getitem (FB.args_bytes_getitem_2 _ _) (KBc.meets_slice2 (aS C.ν l) t _ p1 p2)
  ⟨hS,Nat.le_trans (KBc.size_picked_le _ _ _) (by rw [cJ];exact bN hl),fun t' k=>?_⟩)
 rw [lb];exact K.now S (.bytes _ t' (B.sub fun e he=>qf he)) k
theorem vp(hl:l.length≤100000)(p1:IsPart vl li)(p2:IsPart vu hi)(hS:st.heap.IsSliceOf sl vl vu .none)(el:s.get i=some (.list l))(V:ao C J M st.heap (.ref i) rv)(S:aq C J M s st.heap){ag:AS}(c2:SameBut s ag)(c3:cg C.ν ag.rg)(e:(newList ag (cH l li hi)).leaf C.ν=some (v,s'))(K:KV C Z J M st v s' Q):ab (Md C) A (subscriptTail value sx rv (.ref sl)) Q E st:=by
 refine V.listE S el fun a vs n ha ea Va=>?_
 have hlen:=Va.length
 have hc:ay C J M st.heap (cH l li hi) (cH vs li hi):=by
  unfold cH;rw [←hlen];exact Va.cut _ _
 have hp:slicePick vs.toArray li hi none=(cH vs li hi).toArray:=by
  unfold slicePick;rw [sliceBounds_plain,sliceRange_one,pick_run];unfold cH;simp
 refine d9 ⟨_,ea,rfl⟩ slot_list_getitem.lookup (lf<|wpAny_getItem_list_slice (cN ea) hS p1 p2 .none (by simp) ?_ (by rw [cW,←hlen];exact bN hl))
 rw [hp];exact gE e (S.lT c2 c3) hc K st.toks (fun Y Y e=>cP _ e) (Heap.bc _) (Heap.get?_push_size _ rfl)
theorem vH(HB:jS C){l:List IE}(hl:l.length≤100000)(p1:IsPart vl li)(p2:IsPart vu hi)(hS:st.heap.IsSliceOf sl vl vu .none)(el:s.get i=some (.cu l))(V:ao C J M st.heap (.ref i) rv)(S:aq C J M s st.heap){ag:AS}(c2:SameBut s ag)(c3:cg C.ν ag.rg)
  (e:((ag.alloc (.cu (cH l li hi))).bind fun(i,s)=>aH.ok (AV.ref i,s)).leaf C.ν=some (v,s'))(K:KV C Z J M st v s' Q):ab (Md C) A (subscriptTail value sx rv (.ref sl)) Q E st:=by
 refine aH.cM e fun j aK e2 e=>?_
 injection e with e;injection e with e aN;subst e aN;obtain⟨a,rfl,q⟩:=V.inv
 exact aw (S.obj _ _ a el q).jH fun ea B=>by
  refine d9 ⟨_,ea,rfl⟩ lE (HB _ _ _ _ _ _ _ _ _ _ _ ea hS p1 p2 (by rw [cJ];exact hl) fun tk=>?_)
  rw [lb];exact nZ e2 (B.sub fun e he=>qf he) (S.lT c2 c3) K tk (fun Y Y e=>cP _ e) (Heap.bc _) (Heap.get?_push_size _ rfl)
end
theorem B4(HB:jS C){lo hi:Option AV}{sl:Expr}{vl vu:Value}(e:(slice a lo hi s).leaf C.ν=some (v,s'))(V:ao C J M st.heap a rv)(VL:lH C J M st.heap lo vl)(VU:lH C J M st.heap hi vu)(S:aq C J M s st.heap)(K:KV C Z J M st v s' Q):
  ab (Md C) A (subscriptTail value sl rv (.ref st.heap.objs.size)) Q E {st with heap:=st.heap.push (p9 vl vu)}:=by
 have G:=aJ.push Z J M st.heap (p9 vl vu)
 have S1:=S.push (p9 vl vu)
 have hS:(st.heap.push (p9 vl vu)).IsSliceOf st.heap.objs.size vl vu .none:=Heap.IsSliceOf.new ..
 have V1:=V.grow G
 have K1:=K.after (tk:=st.toks) G
 cases a with
 |t l=>
  refine aH.cM e fun x ag e1 e=>?_
  obtain⟨hl,li,Ly,p1,p2,rfl,c2,c3⟩:=eQ S.rg e1 VL VU
  injection e with e;injection e with e aN;subst e aN;exact zy hl p1 p2 hS V1 (S1.lT c2 c3) K1
 |str l=>
  refine aH.cM e fun x ag e1 e=>?_
  obtain⟨hl,li,Ly,p1,p2,rfl,c2,c3⟩:=eQ S.rg e1 VL VU
  injection e with e;injection e with e aN;subst e aN;exact zA hl p1 p2 hS V1 (S1.lT c2 c3) K1
 |bytes l=>
  refine aH.cM e fun x ag e1 e=>?_
  obtain⟨hl,li,Ly,p1,p2,rfl,c2,c3⟩:=eQ S.rg e1 VL VU
  injection e with e;injection e with e aN;subst e aN;exact ta hl p1 p2 hS V1 (S1.lT c2 c3) K1
 |ref r=>
  have e:(ru (.ref r) lo hi s).leaf C.ν=some (v,s'):=e
  refine aC (ik e:) fun i q h=>?_
  injection q with q;subst q;rcases h with⟨l,el,e⟩|⟨l,el,e⟩
  ·refine aH.cM e fun x ag e1 e=>?_
   obtain⟨hl,li,Ly,p1,p2,rfl,c2,c3⟩:=eQ S.rg e1 VL VU
   exact vp hl p1 p2 hS el V1 S1 c2 c3 e K1
  ·refine aH.cM e fun x ag e1 e=>?_
   obtain⟨hl,li,Ly,p1,p2,rfl,c2,c3⟩:=eQ S.rg e1 VL VU
   exact vH HB hl p1 p2 hS el V1 S1 c2 c3 e K1
 |_=>exact no e
end
structure EN(C:Cx)(c f:Nat)(ms:List (Nat×Nat)):Prop where
 cd:∃cd,clsIn C.K (C.dq c)=some cd∧cd.hasDict=true
 ga:findIn C.K (.ref (C.dq c)) "__getattribute__"=some (some (.builtin "object.__getattribute__"))
 gt:findIn C.K (.ref (C.dq c)) "__getattr__"=some none
 own:∀n∈C.attrs,gG ms n=none→findIn C.K (.ref (C.dq c)) (C.nm n)=some none
 WG:∀n k,gG ms n=some k→findIn C.K (.ref (C.dq c)) (C.nm n)=some (some (.ref (C.mL k)))∧typeIn C.K (.ref (C.mL k))=some (.type "function")
 UH:makesIn C.K (C.dq c)=true
 UN:findIn C.K (.ref (C.dq c)) "__init__"=some (some (.ref (C.mL f)))∧typeIn C.K (.ref (C.mL f))=some (.type "function")
 over:plainOver C.K (C.dq c)=true
 sa:findIn C.K (.ref (C.dq c)) "__setattr__"=some (some (.builtin "object.__setattr__"))
structure Wd(C:Cx)(P:Pg):Prop where
 inj:∀x y,C.nm x=C.nm y→x=y
 glob:∀x v,P.gl.get x=some v→so C x v
 UK:C.K.In C.hb
 cls:∀c f ms,P.cs.get c=some (f,ms)→EN C c f ms
 nf:P.nf=C.nf
 mods:∃o,C.hb.get? sysModules=some o
 cu:jS C
section
variable{ex:Expr}
theorem qD(H:gu C ih d){x:Option CE}{l:Option Expr}{w:Option AV}(e:(Tj ih x ρ s).leaf C.ν=some (w,s'))(hf:y4 C kd x l)(F:fu C Z J M kd env ρ st.heap)(S:aq C J M s st.heap)(R:bu A d)(z:cm C Z J st.heap)
  (K:∀σ' M' h' tk rv,aJ Z J M st.heap σ' M' h'→aq C σ' M' s' h'→lH C σ' M' h' w rv→Q rv {st with heap:=h',toks:=tk}):ab (Md C) A (evalPart l env) Q E st:=by
 cases x with
 |none=>(injection e with e;injection e with e aN;subst e aN);exact hf.WC▸lf (wpAny_evalPart_none (K _ _ _ st.toks _ (aJ.refl _ _ _ _) S rfl))
 |some x=>
  refine aC hf.Nu fun y q h=>q▸aH.cM e fun av ag e1 e=>?_
  injection e with e;injection e with e aN;subst e aN;exact dO (H _ ρ s av _ e1 kd _ h Z J M env A st F S R z _ _ K)
theorem ND(W:Wd C P)(H:gu C ih d){a:CE}{lo hi:Option CE}(e:(cF P N ih (.iE a lo hi) ρ s).leaf C.ν=some (v,s')){l1 u1:Option Expr}{RT:Pos}(h1:aW C kd a x1)(h2:y4 C kd lo l1)(h3:y4 C kd hi u1)(F:fu C Z J M kd env ρ st.heap)(S:aq C J M s st.heap)(R:bu A d)(z:cm C Z J st.heap)(K:KV C Z J M st v s' Q):
  ab (Md C) A (eval (.Subscript x1 (.Slice l1 u1 none RT) pos) env) Q E st:=by
  unfold cF at e;refine aH.cM e fun av ag e1 e=>?_
  refine aH.cM e fun al aK e2 e=>?_
  refine aH.cM e fun ah bM e3 e=>?_
  refine ke (H _ ρ s av ag e1 kd _ h1 Z J M env A st F S R z _ _ fun aA aP h₁ aU rv aF aD cb=>?_)
  refine jf (qD H e2 h2 (F.grow aF) aD R (z.grow aF) fun cy dU br bf vl bb bU d7=>?_)
  have QC:=aF.trans bb
  refine qD (st:={st with heap:=br,toks:=bf}) H e3 h3 (F.grow QC) bU R (z.grow QC) fun kO sh dR ie vu du fH xu=>?_
  rw [evalPart_none];refine af ?_;exact B4 (st:={st with heap:=dR,toks:=ie}) W.cu e ((cb.grow bb).grow du) (d7.grow du) xu fH (K.after (QC.trans du))
theorem ay.reverse(V:ay C J M h l vs):ay C J M h l.reverse vs.reverse:=
 V.ind .nil fun Y Y Y Y x Y ih=>by rw [List.reverse_cons,List.reverse_cons];exact ih.append (.cons x .nil)
theorem Cd{slice:Expr}{sl:Addr}{t:Tok}(e:(newList s l.reverse).leaf C.ν=some (v,s'))(el:s.get i=some (.list l))(V:ao C J M st.heap (.ref i) rv)(S:aq C J M s st.heap)(hS:st.heap.IsSliceOf sl .none .none (.int (-1) t))(K:KV C Z J M st v s' Q):
  ab (Md C) A (subscriptTail value slice rv (.ref sl)) Q E st:=by
 refine V.listE S el fun a vs n ha ea Va=>?_
 have hll:=mj e
 rw [List.length_reverse,Va.length]at hll;refine d9 ⟨_,ea,rfl⟩ slot_list_getitem.lookup (lf<|wpAny_getItem_list_slice (cN ea) hS .none .none (.int (-1) t) (by simp) ?_ (by rw [cW];exact bN hll))
 rw [krv_pick,List.toList_toArray];exact gE e S Va.reverse K st.toks (fun Y Y e=>cP _ e) (Heap.bc _) (Heap.get?_push_size _ rfl)
theorem NF(H:gu C ih d){a:CE}(e:(cF P N ih (.rev a) ρ s).leaf C.ν=some (v,s')){kk:Nat}{p1 p2 p3 p4:Pos}(h1:aW C kd a x1)(F:fu C Z J M kd env ρ st.heap)(S:aq C J M s st.heap)(R:bu A d)(z:cm C Z J st.heap)(K:KV C Z J M st v s' Q):
  ab (Md C) A (eval (.Subscript x1 (.Slice none none (some (.UnaryOp .USub (.Constant (.int 1) kk p1) p2)) p3) p4) env) Q E st:=by
  refine aH.cM e fun av ag e1 e=>?_
  refine ke (H _ ρ s av ag e1 kd _ h1 Z J M env A st F S R z _ _ fun aA aP h₁ aU rv aF aD cb=>?_)
  obtain⟨i,l,rfl,el,e⟩:=eS e
  refine jf ?_
  rw [evalPart_none];refine af (af ?_);rw [evalPart_some];refine lf<|lit_neg _ fun w tk hw=>?_
  have hw:=hw h₁
  cases hw with
  |int _ t=>
   have G:=aJ.push Z aA aP h₁ {cls:=.type "slice",data:=.fields #[.none,.none,.int (-1) t]}
   exact Cd (st:={st with heap:=h₁.push {cls:=.type "slice",data:=.fields #[.none,.none,.int (-1) t]},toks:=tk}) e el (cb.grow G) (aD.push _) (Heap.IsSliceOf.new ..) (K.after (aF.trans G))
theorem Ba(hi:∀x y,C.nm x=C.nm y→x=y)(k' k:Nat)(t:Tok):Value.isStr (.str (C.nm k') t) (C.nm k)=Nat.beq k' k:=by
 show(C.nm k'==C.nm k)=_;rw [Bool.eq_iff_iff,beq_iff_eq];exact⟨fun q=>by rw [hi _ _ q];exact Nat.beq_refl k,fun q=>by rw [aL q]⟩
theorem cj.find(hi:∀x y,C.nm x=C.nm y→x=y)(k:Nat){l:List (Nat×AV)}(V:cj C J M h l es):JE C J M h (az l k) (es.find? (fun e=>e.key.isStr (C.nm k))):=
 V.ind rfl fun p l v t es x Y ih=>by
  have hk:=Ba hi p.1 k t
  unfold az;cases q:Nat.beq p.1 k with
  |true=>exact⟨_,uq (hk.trans q),x⟩
  |false=>exact(qw (p:=fun e:DictEntry=>e.key.isStr (C.nm k)) (a:=⟨PyData.keyHash C.w.params (C.nm p.1),.str (C.nm p.1) t,v⟩) (hk.trans q)).symm▸ih
theorem cj.noRef{l:List (Nat×AV)}(V:cj C J M h l es):es.any (·.refKey)=false:=
 V.ind rfl fun Y Y Y Y Y Y Y ih=>by rw [List.any_cons,ih];rfl
theorem cj.len{l:List (Nat×AV)}(V:cj C J M h l es):l.length=es.length:=
 V.ind rfl fun Y Y Y Y Y Y Y ih=>congrArg Nat.succ ih
theorem cj.put(hi:∀x y,C.nm x=C.nm y→x=y)(k:Nat)(V:ao C J M h v rv)(t:Tok){l:List (Nat×AV)}:∀{es:List DictEntry},cj C J M h l es→
  cj C J M h (bV l k v) (nsPutIn (C.nm k).cps.size (C.nm k).cps.toList (fun|some e=>{e with val:=rv}|none=>⟨PyData.keyHash C.w.params (C.nm k),.str (C.nm k) t,rv⟩) es).1:=by
 induction l with
 |nil=>exact fun W=>W.nl▸.cons V .nil
 |cons p l ih=>
  intro es W;refine W.oZ fun w t' es W r=>?_
  unfold bV nsPutIn
  dsimp only
  rw [show(Value.str (C.nm p.1) t').isStrByCps (C.nm k).cps.size (C.nm k).cps.toList=Nat.beq p.1 k from(Value.isStrByCps_eq ..).trans (Ba hi p.1 k t')]
  cases q:Nat.beq p.1 k with
  |true=>exact aL q▸.cons V r
  |false=>exact .cons W (ih r)
theorem instOf_inv(S:aq C J M s st.heap){c dd:Nat}{l:List (Nat×AV)}(V:ao C J M st.heap a rv)(e:instOf s a=some (c,dd,l)):∃x dx es n,rv=.ref x∧st.heap.get? x=some (Aa (C.dq c) dx)∧J[dd]?=some dx∧s.hp.get dd=some (.ns l)∧
  st.heap.get? dx=some (bK es n)∧cj C J M st.heap l es:=by
 refine lM (instOf_eq e) fun i z q q'=>aC (z▸V:ao C J M st.heap (.ref i) rv).inv fun x e hx=>aC (S.obj _ _ x q hx).instI fun dx h1 h2=>eM (S.obj _ _ dx q' h2).QT fun es n h3 h4=>⟨x,dx,es,n,e,h1,h2,q',h3,h4⟩
theorem inst_at{x cA dx:Addr}(h1:h.get? x=some (Aa cA dx))(h3:h.get? dx=some (bK es n)):InstAt h x (Aa cA dx) cA (some (bK es n)):=⟨h1,rfl,rfl,h3⟩
theorem lookIn_dict{nm:Str}(hr:es.any (·.refKey)=false):lookIn nm (bK es n)=some ((es.find? (fun e=>e.key.isStr nm)).map (·.val)):=by
 unfold lookIn;simp only;cases q:es.find? (fun e=>e.key.isStr nm)with
 |some e=>rfl
 |none=>simp only[hr];rfl
theorem ao.handed(V:ao C J M h a rv)(hp:jn a=true):handedIn rv=true:=by
 cases a with
 |bi _=>exact absurd hp Bool.false_ne_true
 |mG _=>exact absurd hp Bool.false_ne_true
 |none=>exact V.inv▸rfl
 |bool x=>exact V.inv▸rfl
 |int x=>exact V.eN fun Y=>rfl
 |str x=>exact V.gO fun Y=>rfl
 |bytes x=>exact V.eH fun Y Y=>rfl
 |t x=>exact V.kS fun Y Y Y Y Y Y=>rfl
 |eF x=>exact V.w3 fun Y Y Y Y Y Y Y=>rfl
 |ref x=>exact dF V.inv fun Y q=>q.1▸rfl
 |fn _=>exact V.inv▸rfl
 |cls _=>exact V.inv▸rfl
 |vi _ _=>exact dF V.inv fun Y q=>q.1▸rfl
 |xT _ _=>exact R4 V.inv fun Y Y Y Y q Y Y=>q▸rfl
end
theorem uW{nm:Str}{whole:Sem Value}(h:∀id p q,x≠.Call (.Name id p) [] [] q):attributeBase x nm env whole=whole:=by
 cases x with
 |Call f as kw p=>cases f with
  |Name id q=>cases as with
   |nil=>cases kw with
    |nil=>exact absurd rfl (h _ _ _)
    |cons=>rfl
   |cons=>rfl
  |_=>rfl
 |_=>rfl
section
variable{ex:Expr}
theorem OP(W:Wd C P)(S:aq C J M s st.heap):C.K.In st.heap:=fun a o e=>(S.base a o (W.UK a o e)).2
theorem findObj_own{c f:Nat}{ms:List (Nat×Nat)}(O:EN C c f ms)(hn:n∈C.attrs)(hm:gG ms n=none){e:DictEntry}(hr:es.any (·.refKey)=false)(h:es.find? (fun e=>e.key.isStr (C.nm n))=some e):
  findObj C.K (C.dq c) (some (bK es k)) (C.nm n)=some (.value e.val):=by
 refine aC (O.cd:) fun cd h1 h2=>?_
 unfold findObj;rw [h1,Option.bind_some,O.own n hn hm];show(PySem.W.ownOf cd (some (bK es k)) (C.nm n)).bind _=_;rw [show PySem.W.ownOf cd (some (bK es k)) (C.nm n)=some (some e.val)from(if_pos h2).trans ((lookIn_dict hr).trans (by rw [h];rfl))]
 rfl
theorem uk(W:Wd C P){c f dd:Nat}{ms:List (Nat×Nat)}{l:List (Nat×AV)}{w:AV}(S:aq C J M s st.heap)(V:ao C J M st.heap a rv)(hi:instOf s a=some (c,dd,l))(hc:P.cs.get c=some (f,ms))(hn:n∈C.attrs)(hm:gG ms n=none)(hg:az l n=some w)(hp:jn w=true)
  (K:KV C Z J M st w s Q):PySem.wpAny (Md C) A (getAttr rv (C.nm n) b) Q E st:=by
 obtain⟨x,dx,es,k,rfl,h1,h2,h3,h4,h5⟩:=instOf_inv S V hi
 have O:=W.cls _ _ _ hc
 have hf:=h5.find W.inj n
 rw [hg]at hf;refine aC (hf:) fun en e1 e2=>?_
 refine get_value (OP W S) (inst_at h1 h4) O.ga (findObj_own O hn hm h5.noRef e1) (e2.handed hp) (K.now S e2 _)
theorem Kv(W:Wd C P)(H:gu C ih d){o:CE}(e:(cF P N ih (.attr o n) ρ s).leaf C.ν=some (v,s')){sN:Str}(h1:sN=C.nm n)(h2:n∈C.attrs)(h3:∀id p q,x1≠.Call (.Name id p) [] [] q)(h4:aW C kd o x1)(F:fu C Z J M kd env ρ st.heap)(S:aq C J M s st.heap)(R:bu A d)(z:cm C Z J st.heap)(K:KV C Z J M st v s' Q):
  ab (Md C) A (eval (.Attribute x1 sN pos) env) Q E st:=by
  subst h1;unfold cF at e;refine aH.cM e fun av ag e1 e=>?_
  rw [arm_eval_Attribute,uW h3];refine aa (aG (H _ ρ s av ag e1 kd _ h4 Z J M env A st F S R z (fun o ag=>ab (Md C) A (getAttr o (C.nm n) true) Q E ag) _ fun aA aP h₁ aU rv aF aD cb=>?_) (fun o ag h₁=>aa (au (aa (aj (aG h₁ (fun r aK br=>aa (lf<|wpAny_letTemporaryGo (af br))) fun Y Y x=>x))))) fun Y Y x=>x)
  refine aC (aI e:) fun q hi e=>?_
  refine aC (aI e:) fun p hc e=>?_
  obtain⟨hm,e⟩:=tS e
  refine aC (aI e:) fun w hg e=>?_
  obtain⟨hp,e⟩:=cO e
  injection e with e;injection e with e aN;subst e aN;exact lf<|uk W (st:={st with heap:=h₁,toks:=aU}) aD cb hi hc h2 hm hg hp (K.after aF)
set_option tactic.hygienic true in
theorem putName_dict{nm:Str}{hash:Int}{key:Value}:∃k',Obj.putName nm hash key rv (bK es k)=bK (nsPutIn nm.cps.size nm.cps.toList (fun|some e=>{e with val:=rv}|none=>⟨hash,key,rv⟩) es).1 k':=by
 unfold Obj.putName
 dsimp only[bK]
 split
 ·rename_i lA q;exact⟨k,congrArg (fun p:List DictEntry×Bool=>bK p.1 k) q.symm⟩
 ·rename_i lA q;exact⟨k+1,congrArg (fun p:List DictEntry×Bool=>bK p.1 (k+1)) q.symm⟩
theorem oI(x:Nat)(v:AV):∀l:List (Nat×AV),(bV l x v).length≤l.length+1
 |[]=>Nat.le_refl _
 |p::r=>by
  unfold bV;split
  ·simp
  ·simp only[List.length_cons];have:=oI x v r;lia
theorem B6(W:Wd C P){c f dd:Nat}{ms:List (Nat×Nat)}{l:List (Nat×AV)}{w:AV}{rw:Value}{Q:Unit→Shared→Prop}(S:aq C J M s st.heap)(z:cm C Z J st.heap)(V:ao C J M st.heap a rv)(Vw:ao C J M st.heap w rw)(hi:instOf s a=some (c,dd,l))(hc:P.cs.get c=some (f,ms))(hn:n∈C.attrs)(hm:gG ms n=none)
  (hnf:C.nf≤dd)(hl:l.length≤500)(K:∀σ' M' h' tk,aJ Z J M st.heap σ' M' h'→aq C σ' M' (s.upd dd (.ns (bV l n w))) h'→Q () {st with heap:=h',toks:=tk}):ab (Md C) A (setAttr rv (C.nm n) rw) Q E st:=by
 obtain⟨x,dx,es,k,rfl,h1,h2,h3,h4,h5⟩:=instOf_inv S V hi
 have O:=W.cls _ _ _ hc
 have X:=OP W S
 have I:=inst_at h1 h4
 refine lf (set_plain (C:=C.dq c) X I O.sa ?_)
 have ht:takerIn C.K (C.dq c) (C.nm n)=some none:=by
  unfold takerIn;rw [O.own n hn hm];rfl
 refine osa_open (s:={st with toks:=st.toks+1}) X I O.over ht fun b=>?_
 refine aC (O.cd:) fun cd hcd Du=>?_
 refine dF (putName_dict (nm:=C.nm n) (hash:=PyData.keyHash C.w.params (C.nm n)) (key:=.str (C.nm n) (st.toks+1)) (rv:=rw) (es:=es) (k:=k):) fun k' hput=>?_
 have hlen:=h5.len
 have hN:=h5.put W.inj n Vw (st.toks+1)
 have hU:=S.update (f:=Obj.putName (C.nm n) (PyData.keyHash C.w.params (C.nm n)) (.str (C.nm n) (st.toks+1)) rw) (o:=.ns (bV l n w)) h2 hnf z h3 h4 (by rw [hput];rfl) fun G hg=>by
  rw [hput]at hg;exact .ns _ _ _ _ hg (hN.grow G)
 have D':(st.heap.update dx (Obj.putName (C.nm n) (PyData.keyHash C.w.params (C.nm n)) (.str (C.nm n) (st.toks+1)) rw)).get? dx=some (bK _ k'):=(Heap.get?_update_self _ h4 (by rw [hput];rfl)).trans (congrArg some hput)
 refine PySem.wpAny_bind (PySem.wpAny_pure (PySem.wpAny_bind (PySem.wpAny_bind (PySem.wpAny_loadPart h1 (PySem.wpAny_bind ((looks_clsIn X hcd).here (s:={st with toks:=st.toks+1}) ?_))))))
 rw [Du];refine PySem.wpAny_pure (a:=some dx) (PySem.wpAny_bind (PySem.wpAny_pure (PySem.wpAny_bind ?_)))
 unfold nsSet;refine PySem.wpAny_bind (PySem.wpAny_bind (PySem.wpAny_askSetting (PySem.wpAny_pure (PySem.wpAny_bind (PySem.wpAny_mkText (PySem.wpAny_bind (PySem.wpAny_loadPart h4 ?_)))))));have Xe:(!es.toArray.any (·.key.isStr (C.nm n))&&es.toArray.any (·.refKey))=false:=by
  have:=h5.noRef
  rw [List.any_toArray,List.any_toArray,this,Bool.and_false]
 dsimp only[bK]
 rw [aRefKeyMayBeTheName_at,Xe];refine PySem.wpAny_updatePart h4 ?_;refine PySem.wpAny_bind (PySem.wpAny_lookBehind D' (pastItsLine_dict ?_) ?_)
 ·rw [cW]
  have h7:=oI n w l
  refine Nat.le_trans (Nat.le_of_eq hN.len.symm) ?_
  rw [sizeLine_eq]
  lia
 ·exact PySem.wpAny_pure (K _ _ _ _ hU.2 hU.1)
end
noncomputable def qM(sl:List (Str×Value))(x:Str×Value):List (Str×Value):=if(sl.lookup x.1).isNone=true then sl++[(x.1,x.2)]else sl
theorem Ey:∀(l sl:List (Str×Value)),(forIn l sl fun x __s=>if(List.lookup x.fst __s).isNone=true then pure (ForInStep.yield (__s++[(x.fst,x.snd)]))else pure (ForInStep.yield __s):Sem (List (Str×Value)))=pure (l.foldl qM sl)
 |[],sl=>rfl
 |x::l,sl=>by
  rw [List.forIn_cons,List.foldl_cons];unfold qM;split
  ·rw [pure_bind];exact Ey l _
  ·rw [pure_bind];exact Ey l _
theorem wh(n:Str)(a b:List (Str×Value)):(a++b).lookup n=(a.lookup n).or (b.lookup n):=by
 induction a with
 |nil=>rfl
 |cons p a ih=>
  rw [List.cons_append,List.lookup_cons,List.lookup_cons];split
  ·rfl
  ·exact ih
set_option tactic.hygienic true in
theorem Qe(n:Str)(l sl:List (Str×Value)):(l.foldl qM sl).lookup n=(sl.lookup n).or (l.lookup n):=by
 induction l generalizing sl with
 |nil=>exact(Option.or_none ..).symm
 |cons x l ih=>
  rw [List.foldl_cons,ih];unfold qM;rw [List.lookup_cons];split
  ·rename_i h
   rw [wh]
   by_cases q:n=x.1
   ·subst q
    rw [Option.isNone_iff_eq_none.mp h];simp
   ·have:(n==x.1)=false:=beq_eq_false_iff_ne.mpr q
    simp[List.lookup_cons,this]
  ·rename_i h
   by_cases q:n=x.1
   ·subst q
    cases e:sl.lookup x.1 with
    |none=>rw [e]at h;simp at h
    |some v=>simp
   ·have:(n==x.1)=false:=beq_eq_false_iff_ne.mpr q
    simp[this]
theorem lh:∀{names:List Str}(vals:List Value),names.Nodup→∀(i:Nat)(h:i<names.length),(names.zip vals).lookup names[i]=vals[i]?
 |[],_,_,i,h=>absurd h (Nat.not_lt_zero _)
 |n::ns,[],_,i,h=>by simp
 |n::ns,v::vs,nd,0,h=>by simp[List.lookup_cons]
 |n::ns,v::vs,nd,i+1,h=>by
  rw [List.nodup_cons]at nd;rw [List.zip_cons_cons,List.lookup_cons];have hi:i<ns.length:=by simpa using h
  have:(ns[i]==n)=false:=beq_eq_false_iff_ne.mpr fun e=>nd.1 (e▸List.getElem_mem hi)
  simp only[List.getElem_cons_succ,this]
  rw [lh vs nd.2 i hi];simp
theorem DG{L:Str→Option Value}:∀{names:List Str}{tgt:List Value},names.length=tgt.length→(∀(i:Nat)(h:i<names.length),L names[i]=tgt[i]?)→names.filterMap (fun n=>(L n).map fun x=>(n,x))=names.zip tgt
 |[],[],_,_=>rfl
 |[],_::_,h,_=>by simp at h
 |_::_,[],h,_=>by simp at h
 |n::ns,v::vs,h,hl=>by
  have h0:=hl 0 (by simp)
  simp only[List.getElem_cons_zero,List.getElem?_cons_zero]at h0
  rw [List.filterMap_cons,h0];simp only[Option.map_some,List.zip_cons_cons];rw [DG (by simpa using h) fun i hi=>hl (i+1) (by simpa using hi)]
theorem vr{M:Model}{c:Prop} [Decidable c]{a b:Sem α}{Q:α→Shared→Prop}{s:Shared}(h:¬c)(k:PySem.wpAny M A b Q E s):PySem.wpAny M A (if c then a else b) Q E s:=by
 rw [if_neg h];exact k
section
variable{names:List Str}{vals ds dd:List Value}(h1:vals.length≤names.length)(h2:names.length≤vals.length+ds.length)(h3:ds.length≤names.length)(nd:names.Nodup)
include h1 h2 nd
theorem zd(hdd:dd=ds):(names.take (names.length - dd.length)).filter (fun n=>(List.lookup n (names.zip vals)).isNone)=[]:=by
 subst hdd;rw [List.filter_eq_nil_iff];intro n hn;obtain⟨i,hi,rfl⟩:=List.getElem_of_mem hn
 rw [List.length_take]at hi;have hn:i<names.length:=Nat.lt_of_lt_of_le hi (Nat.min_le_right _ _)
 rw [List.getElem_take,lh vals nd i hn,List.getElem?_eq_getElem (Nat.lt_of_lt_of_le hi (Nat.le_trans (Nat.min_le_left _ _) (Nat.sub_le_of_le_add h2)))];exact Bool.false_ne_true
include h3
theorem E6(hdd:dd=ds):(names++[]).filterMap (fun n=>((((names.drop (names.length - dd.length)).zip dd).foldl qM (names.zip vals)).lookup n).map fun x=>(n,x))=names.zip (vals++ds.drop (vals.length+ds.length - names.length)):=by
 subst hdd;rw [List.append_nil];have e1:vals.length+dd.length - names.length+(names.length - dd.length)=vals.length:=by rw [←Nat.add_sub_assoc h3,Nat.sub_add_cancel h2,Nat.add_sub_cancel]
 refine DG (L:=fun n=>List.lookup n (((names.drop (names.length - dd.length)).zip dd).foldl qM (names.zip vals))) (by rw [List.length_append,List.length_drop,←Nat.add_sub_assoc (Nat.sub_le_of_le_add (Nat.add_comm _ names.length▸Nat.add_le_add_right h1 _)),Nat.sub_sub_self h2]) fun i hi=>?_
 rw [Qe,lh vals nd i hi];refine(Nat.lt_or_ge i vals.length).elim (fun q=>?_) fun q=>?_
 ·rw [List.getElem?_append_left q,List.getElem?_eq_getElem q];rfl
 ·have c1:names.length - dd.length≤i:=Nat.le_trans (Nat.le_add_left _ _) (e1.symm▸q)
  rw [List.getElem?_eq_none q,Option.none_or,List.getElem?_append_right q];have Du:i - (names.length - dd.length)<(names.drop (names.length - dd.length)).length:=by rw [List.length_drop];exact Nat.sub_lt_sub_right c1 hi
  have e:names[i]=(names.drop (names.length - dd.length))[i - (names.length - dd.length)]:=by
   rw [List.getElem_drop]
   congr 1
   exact(Nat.add_sub_cancel' c1).symm
  rw [e,lh dd (nd.sublist (List.drop_sublist _ _)) _ Du,List.getElem?_drop];refine congrArg (dd[·]?) ?_;have e2:i - vals.length=i - (names.length - dd.length) - (vals.length+dd.length - names.length):=by rw [←Nat.sub_add_eq,Nat.add_comm,e1]
  rw [e2,Nat.add_sub_cancel' (Nat.le_sub_of_add_le (e1.symm▸q))]
end
theorem mA{s:Shared}{fd:FuncData}{names:List Str}{vals ds:List Value}(hp:fd.params.posonlyargs=[])(hn:fd.params.args.map (·.arg)=names)(hv:fd.params.vararg=none)(hk:fd.params.kwonlyargs=[])(QW:fd.params.kwarg=none)
  (hd:∀(M:Model)(A:Around)(E:Value→Shared→Prop)(Q:Option (Array Value)→Shared→Prop),(∀x:Option (Array Value),(x.getD #[]).toList=ds→Q x s)→PySem.wpAny M A (seqItems? fd.defaults) Q E s)
  (h1:vals.length≤names.length)(h2:names.length≤vals.length+ds.length)(h3:ds.length≤names.length)(nd:names.Nodup):BindsTo s fd ⟨vals,[]⟩ (names.zip (vals++ds.drop (vals.length+ds.length - names.length))):=by
 intro M A E Q hq;obtain⟨fname,fqual,⟨po,as,va,ko,kd,kw,df⟩,r1,r2,r3,r4,r5,r6,r7⟩:=fd
 dsimp only at hp hn hv hk QW hd
 subst hp hn hv hk QW;unfold PySem.bindArgs;refine PySem.wpAny_bind (PySem.wpAny_pure ?_);refine PySem.wpAny_bind (hd _ _ _ _ fun x hx=>?_)
 have hdd:List.drop ((x.getD #[]).toList.length - (as.map (·.arg)).length) (x.getD #[]).toList=ds:=by
  rw [hx,Nat.sub_eq_zero_of_le h3,List.drop_zero]
 refine vr (fun c=>?_) ?_
 ·exact absurd (of_decide_eq_true (Bool.and_eq_true_iff.mp c).1) (Nat.not_lt.mpr h1)
 refine vr (fun c=>?_) ?_
 ·have c:(!(List.filter (fun n=>(List.lookup n ((as.map fun x:Arg=>x.arg).zip vals)).isNone) (List.take ((as.map fun x:Arg=>x.arg).length - (List.drop ((x.getD #[]).toList.length - (as.map fun x:Arg=>x.arg).length) (x.getD #[]).toList).length) (as.map fun x:Arg=>x.arg))).isEmpty)=true:=c
  rw [zd h1 h2 nd hdd]at c;exact Bool.false_ne_true c
 refine PySem.wpAny_bind (PySem.wpAny_of_eq (Ey _ _) ?_)
 refine PySem.wpAny_bind (PySem.wpAny_pure ?_)
 refine vr Bool.false_ne_true ?_
 exact PySem.wpAny_pure ((congrArg (fun l=>Q l s) (E6 h1 h2 h3 nd hdd)).mpr hq)
def eC(kd:Kd)(cs:Bool)(s:Str):Prop:=kd.k s=some .local∨(kd.k s=some .cell∧cs=true)
abbrev EG(C:Tx)(kd:Kd)(cs:Bool):List Nat→List Expr→Prop:=cw C (eC kd cs)
abbrev EH(C:Tx)(kd:Kd)(cs:Bool):List Nat→Bool→Expr→Prop:=eW C (eC kd cs)
def lK(C:Tx)(kd:Kd)(k:Nat)(e:CE)(x:Expr):Prop:=(k=0∧ak C kd e x)∨(k=1∧∃x0 p pos,x=.Call (.Name "enumerate" p) [x0] [] pos∧kd.k "enumerate"=some .globalImplicit∧ak C kd e x0∧(∀y p,x0≠.Starred y p))∨
 (k=2∧∃a b x0 y0,e=.t [a,b]∧∃p pos,x=.Call (.Name "zip" p) [x0,y0] [] pos∧kd.k "zip"=some .globalImplicit∧ak C kd a x0∧ak C kd b y0∧(∀y p,x0≠.Starred y p)∧(∀z p,y0≠.Starred z p))
theorem lK.plain{C:Tx}(h:ak C kd e x):lK C kd 0 e x:=.inl ⟨rfl,h⟩
theorem lK.enum{C:Tx}{p:Pos}(h1:kd.k "enumerate"=some .globalImplicit)(h2:ak C kd e x)(h3:∀y p,x≠.Starred y p):lK C kd 1 e (.Call (.Name "enumerate" p) [x] [] pos):=.inr (.inl ⟨rfl,x,p,pos,rfl,h1,h2,h3⟩)
theorem lK.zip{C:Tx}{a b:CE}{y:Expr}{p:Pos}(h1:kd.k "zip"=some .globalImplicit)(h2:ak C kd a x)(h3:ak C kd b y)(h4:∀y p,x≠.Starred y p)(h5:∀z p,y≠.Starred z p):lK C kd 2 (.t [a,b]) (.Call (.Name "zip" p) [x,y] [] pos):=.inr (.inr ⟨rfl,a,b,x,y,rfl,p,pos,rfl,h1,h2,h3,h4,h5⟩)
def bW(x:Expr):Prop:=Nat.beq x.ctorIdx 8=false∧Nat.beq x.ctorIdx 9=false∧Nat.beq x.ctorIdx 10=false
def xv(C:Tx)(kd:Kd)(xs:List Nat)(ts:List Expr)(ex:Expr):Prop:=∀env:PySem.Env,(∀x,env.kindOf x=kd.k x)→env.scope.kind=.function→
 swappedStores ts ex env=pure none∨(swappedStores ts ex env=pure (some (xs.map C.nm))∧xs.Nodup)
abbrev FX:=Stmt→Prop
abbrev JH:=List Stmt→Prop
section
section
variable(C:Tx)(kd:Kd)(cs:Bool)
def Ib(s:Str)(e:CE)(ex:Expr):Prop:=∃elt tg flat it ifs,e=.comp elt tg flat it ifs∧∃xe xt xi xs sc,∃lpos,ex=.ListComp xe [⟨xt,xi,xs,0⟩] sc lpos∧∀y∈sc.names,y.1≠s
noncomputable def xK(x:Nat)(e:CE):FX:=fun st=>∃s p pos ex,st=.Assign [.Name s p] ex pos∧s=C.nm x∧eC kd cs s∧ak C kd e ex∧(bW ex∨Ib s e ex)
noncomputable def qY(xs:List Nat)(e:CE):FX:=fun st=>∃ts k p ex pos,st=.Assign [.Tuple ts k p] ex pos∧EG C kd cs xs ts∧ak C kd e ex∧bW ex∧xv C kd xs [.Tuple ts k p] ex
noncomputable def rd(o:CE)(n:Nat)(e:CE):FX:=fun st=>∃s xo p ex pos,st=.Assign [.Attribute xo s p] ex pos∧s=C.nm n∧n∈C.attrs∧ak C kd o xo∧ak C kd e ex∧bW ex
noncomputable def q8(o i e:CE):FX:=fun st=>∃xo xi p ex pos,st=.Assign [.Subscript xo xi p] ex pos∧ak C kd o xo∧ak C kd i xi∧ak C kd e ex∧bW ex
noncomputable def qZ(o lo hi e:CE):FX:=fun st=>∃xo xl xh q p,∃ex pos,st=.Assign [.Subscript xo (.Slice (some xl) (some xh) none q) p] ex pos∧ak C kd o xo∧ak C kd lo xl∧ak C kd hi xh∧ak C kd e ex∧bW ex
noncomputable def mQ(o i:CE)(x:Nat)(e:CE):FX:=fun st=>∃xo xi p s q,∃k r ex pos,st=.Assign [.Tuple [.Subscript xo xi p,.Name s q] k r] ex pos∧s=C.nm x∧eC kd cs s∧ak C kd o xo∧ak C kd i xi∧ak C kd e ex∧bW ex∧∀es k p,ex≠.Tuple es k p
noncomputable def Fg(e:CE):FX:=fun st=>∃ex pos,st=.Expr ex pos∧ak C kd e ex∧bW ex
noncomputable def xH(e:CE):FX:=fun st=>(∃ex pos,st=.Return (some ex) pos∧ak C kd e ex)∨(e=.val .none∧∃pos,st=.Return none pos)
noncomputable def xI(t:CE)(a b:JH):FX:=fun st=>∃x ys zs pos,st=.If x ys zs pos∧ak C kd t x∧a ys∧b zs
noncomputable def xJ(tg:List Nat)(flat:Bool)(kind:Nat)(it:CE)(b:JH):FX:=fun st=>∃xt xi ys pos,st=.For xt xi ys [] pos∧EH C kd cs tg flat xt∧(kind=0∨flat=false)∧lK C kd kind it xi∧b ys
noncomputable def mP(t:CE)(b:JH):FX:=fun st=>∃x ys pos,st=.While x ys [] pos∧ak C kd t x∧b ys
noncomputable def xG(b:JH):FX:=fun st=>∃ys h hs pos,st=.Try ys (h::hs) [] [] pos∧b ys
noncomputable def qX:FX:=fun st=>∃pos,st=.Pass pos
noncomputable def Br(a:FX)(l:JH):JH:=fun ys=>∃x xs,ys=x::xs∧a x∧l xs
def bh(c:CS):Stmt→Prop:=CS.rec (motive_1:=fun Y=>FX) (motive_2:=fun Y=>JH) (xK C kd cs) (qY C kd cs) (rd C kd) (q8 C kd) (qZ C kd) (mQ C kd cs) (Fg C kd) (xH C kd) (fun t Y Y=>xI C kd t) (fun tg flat kind it Y=>xJ C kd cs tg flat kind it) (fun Y Y Y Y Y Y Y Y=>False) (fun t Y=>mP C kd t) (fun Y=>xG) qX (fun Y Y=>True) (fun xs=>xs=[]) (fun Y Y=>Br) c
def cn(c:List CS):List Stmt→Prop:=CS.rec_1 (motive_1:=fun Y=>FX) (motive_2:=fun Y=>JH) (xK C kd cs) (qY C kd cs) (rd C kd) (q8 C kd) (qZ C kd) (mQ C kd cs) (Fg C kd) (xH C kd) (fun t Y Y=>xI C kd t) (fun tg flat kind it Y=>xJ C kd cs tg flat kind it) (fun Y Y Y Y Y Y Y Y=>False) (fun t Y=>mP C kd t) (fun Y=>xG) qX (fun Y Y=>True) (fun xs=>xs=[]) (fun Y Y=>Br) c
end
end
section
variable{C:Tx}{cs:Bool}
namespace bh
section
variable{x:Nat}{xs:List Nat}{flat:Bool}{o i lo hi t:CE}{a b:List CS}{st:Stmt}
theorem Qq(h:bh C kd cs (.b8 x e) st):xK C kd cs x e st:=h
theorem Qk(h:bh C kd cs (.cQ xs e) st):qY C kd cs xs e st:=h
theorem Qs(h:bh C kd cs (.aT o n e) st):rd C kd o n e st:=h
theorem Qp(h:bh C kd cs (.jZ o i e) st):q8 C kd o i e st:=h
theorem Qm(h:bh C kd cs (.i9 o lo hi e) st):qZ C kd o lo hi e st:=h
theorem Ms(h:bh C kd cs (.iX o i x e) st):mQ C kd cs o i x e st:=h
theorem Xv(h:bh C kd cs (.ex e) st):Fg C kd e st:=h
theorem RO(h:bh C kd cs (.ret e) st):xH C kd e st:=h
theorem Gz(h:bh C kd cs (.ite t a b) st):xI C kd t (cn C kd cs a) (cn C kd cs b) st:=h
theorem GR(h:bh C kd cs (.for tg flat kind e b) st):xJ C kd cs tg flat kind e (cn C kd cs b) st:=h
theorem J1(h:bh C kd cs (.while t b) st):mP C kd t (cn C kd cs b) st:=h
theorem Rq(h:bh C kd cs (.try b) st):xG (cn C kd cs b) st:=h
theorem N0(h:bh C kd cs .pass st):qX st:=h
theorem Qn(h:xK C kd cs x e st):bh C kd cs (.b8 x e) st:=h
theorem Qj(h:qY C kd cs xs e st):bh C kd cs (.cQ xs e) st:=h
theorem Qr(h:rd C kd o n e st):bh C kd cs (.aT o n e) st:=h
theorem Qo(h:q8 C kd o i e st):bh C kd cs (.jZ o i e) st:=h
theorem Ql(h:qZ C kd o lo hi e st):bh C kd cs (.i9 o lo hi e) st:=h
theorem Mr(h:mQ C kd cs o i x e st):bh C kd cs (.iX o i x e) st:=h
theorem Xu(h:Fg C kd e st):bh C kd cs (.ex e) st:=h
theorem NT(h:xH C kd e st):bh C kd cs (.ret e) st:=h
theorem Lk(h:xI C kd t (cn C kd cs a) (cn C kd cs b) st):bh C kd cs (.ite t a b) st:=h
theorem Ta(h:xJ C kd cs tg flat kind e (cn C kd cs b) st):bh C kd cs (.for tg flat kind e b) st:=h
theorem J0(h:mP C kd t (cn C kd cs b) st):bh C kd cs (.while t b) st:=h
theorem Rp(h:xG (cn C kd cs b) st):bh C kd cs (.try b) st:=h
theorem NZ(h:qX st):bh C kd cs .pass st:=h
theorem bad:bh C kd cs (.bad n) st:=trivial
section
variable{s:Str}{p q r:Pos}{eX xo xi xl xh X xt:Expr}{ts:List Expr}{ys zs:List Stmt}
theorem b8(h1:s=C.nm x)(h2:eC kd cs s)(h3:ak C kd e eX)(h4:bW eX):bh C kd cs (.b8 x e) (.Assign [.Name s p] eX pos):=Qn ⟨s,p,pos,eX,rfl,h1,h2,h3,.inl h4⟩
theorem TU{elt it:CE}{ifs:List CE}{xe xt:Expr}{xs:List Expr}{sc:Scope}{lpos:Pos}(h1:s=C.nm x)(h2:eC kd cs s)(h3:ak C kd (.comp elt tg flat it ifs) (.ListComp xe [⟨xt,xi,xs,0⟩] sc lpos))(h4:∀y∈sc.names,y.1≠s):bh C kd cs (.b8 x (.comp elt tg flat it ifs)) (.Assign [.Name s p] (.ListComp xe [⟨xt,xi,xs,0⟩] sc lpos) pos):=Qn ⟨s,p,pos,_,rfl,h1,h2,h3,.inr ⟨elt,tg,flat,it,ifs,rfl,xe,xt,xi,xs,sc,lpos,rfl,h4⟩⟩
theorem cQ(h1:EG C kd cs xs ts)(h2:ak C kd e eX)(h3:bW eX)(h4:xv C kd xs [.Tuple ts k p] eX):bh C kd cs (.cQ xs e) (.Assign [.Tuple ts k p] eX pos):=Qj ⟨ts,k,p,eX,pos,rfl,h1,h2,h3,h4⟩
theorem iX(h1:s=C.nm x)(h2:eC kd cs s)(h3:ak C kd o xo)(h4:ak C kd i xi)(h5:ak C kd e eX)(h6:bW eX)(h7:∀es k p,eX≠.Tuple es k p):bh C kd cs (.iX o i x e) (.Assign [.Tuple [.Subscript xo xi p,.Name s q] k r] eX pos):=Mr ⟨xo,xi,p,s,q,k,r,eX,pos,rfl,h1,h2,h3,h4,h5,h6,h7⟩
theorem aT(h1:s=C.nm n)(h2:n∈C.attrs)(h3:ak C kd o xo)(h4:ak C kd e eX)(h5:bW eX):bh C kd cs (.aT o n e) (.Assign [.Attribute xo s p] eX pos):=Qr ⟨s,xo,p,eX,pos,rfl,h1,h2,h3,h4,h5⟩
theorem jZ(h1:ak C kd o xo)(h2:ak C kd i xi)(h3:ak C kd e eX)(h4:bW eX):bh C kd cs (.jZ o i e) (.Assign [.Subscript xo xi p] eX pos):=Qo ⟨xo,xi,p,eX,pos,rfl,h1,h2,h3,h4⟩
theorem i9(h1:ak C kd o xo)(h2:ak C kd lo xl)(h3:ak C kd hi xh)(h4:ak C kd e eX)(h5:bW eX):bh C kd cs (.i9 o lo hi e) (.Assign [.Subscript xo (.Slice (some xl) (some xh) none q) p] eX pos):=Ql ⟨xo,xl,xh,q,p,eX,pos,rfl,h1,h2,h3,h4,h5⟩
theorem ex(h1:ak C kd e eX)(h2:bW eX):bh C kd cs (.ex e) (.Expr eX pos):=Xu ⟨eX,pos,rfl,h1,h2⟩
theorem ret(h:ak C kd e eX):bh C kd cs (.ret e) (.Return (some eX) pos):=NT (.inl ⟨eX,pos,rfl,h⟩)
theorem RP:bh C kd cs (.ret (.val .none)) (.Return none pos):=NT (.inr ⟨rfl,pos,rfl⟩)
theorem ite(h1:ak C kd t X)(h2:cn C kd cs a ys)(h3:cn C kd cs b zs):bh C kd cs (.ite t a b) (.If X ys zs pos):=Lk ⟨X,ys,zs,pos,rfl,h1,h2,h3⟩
theorem «for»(h1:EH C kd cs tg flat xt)(h2:kind=0∨flat=false)(h3:lK C kd kind e xi)(h4:cn C kd cs b ys):bh C kd cs (.for tg flat kind e b) (.For xt xi ys [] pos):=Ta ⟨xt,xi,ys,pos,rfl,h1,h2,h3,h4⟩
theorem «while»(h1:ak C kd t X)(h2:cn C kd cs b ys):bh C kd cs (.while t b) (.While X ys [] pos):=J0 ⟨X,ys,pos,rfl,h1,h2⟩
theorem «try»{h:ExceptHandler}{hs:List ExceptHandler}(h1:cn C kd cs b ys):bh C kd cs (.try b) (.Try ys (h::hs) [] [] pos):=Rp ⟨ys,h,hs,pos,rfl,h1⟩
theorem pass:bh C kd cs .pass (.Pass pos):=NZ ⟨pos,rfl⟩
end
end
end bh
theorem cn.nil:cn C kd cs [] []:=rfl
theorem cn.nl{xs:List Stmt}(h:cn C kd cs [] xs):xs=[]:=h
theorem cn.of{c:CS}{r:List CS}{xs:List Stmt}(h:∃x ys,xs=x::ys∧bh C kd cs c x∧cn C kd cs r ys):cn C kd cs (c::r) xs:=h
theorem cn.un{c:CS}{r:List CS}{xs:List Stmt}(h:cn C kd cs (c::r) xs):∃x ys,xs=x::ys∧bh C kd cs c x∧cn C kd cs r ys:=h
theorem cn.cons{c:CS}{x:Stmt}{r:List CS}{xs:List Stmt}(h1:bh C kd cs c x)(h2:cn C kd cs r xs):cn C kd cs (c::r) (x::xs):=.of ⟨x,xs,rfl,h1,h2⟩
end
abbrev pO(C:Cx):=EG C.toTx
abbrev mN(C:Cx):=EH C.toTx
abbrev H9(C:Cx):=lK C.toTx
abbrev yV(C:Cx):=xv C.toTx
abbrev fW(C:Cx):=bh C.toTx
abbrev dc(C:Cx):=cn C.toTx
structure dk(C:Cx)(Z:Addr→Prop)(J:List Addr)(M own:Addr→Prop)(kd:Kd)(cs:Bool)(env:PySem.Env)(ρ:Env)(h:Heap):Prop where
 f:fu C (fun a=>Z a∨own a) J M kd env ρ h
 eR:∀a,own a→M a∧¬Z a
 gB:cm C own J h
 lo:own env.locals
 ns:∃m,h.Ns env.locals m
 ce:cs=true→∀x,kd.k x=some .cell→∃c v,env.cells.lookup x=some c∧h.IsCell c v∧own c
 lc:∀x c,env.cells.lookup x=some c→c≠env.locals
 ap:cs=true→∀x y c,env.cells.lookup x=some c→env.cells.lookup y=some c→x=y
 gh:env.scope.kind=.function
noncomputable def vc(C:Cx)(J:List Addr)(M:Addr→Prop)(h:Heap):Fl→Flow→Prop
 |.nx,f=>f=.next
 |.rt v,f=>∃rv,f=.ret rv∧ao C J M h v rv
def KX(C:Cx)(Z:Addr→Prop)(J:List Addr)(M own:Addr→Prop)(kd:Kd)(cs:Bool)(env:PySem.Env)(st:Shared)(f:Fl)(ρ':Env)(s':AS)(Q:Flow→Shared→Prop):Prop:=
 ∀σ' M' h' tk fl,aJ Z J M st.heap σ' M' h'→aq C σ' M' s' h'→dk C Z σ' M' own kd cs env ρ' h'→vc C σ' M' h' f fl→Q fl {st with heap:=h',toks:=tk}
theorem KX.ok{own:Addr→Prop}{cs:Bool}{f:Fl}{ρ':Env}{Q:Flow→Shared→Prop}(K:KX C Z J M own kd cs env st f ρ' s' Q){a:Fl}{b:Env}{c:AS}(e:(aH.ok (a,b,c)).leaf ν=some (f,ρ',s')):KX C Z J M own kd cs env st a b c Q:=by
 injection e with e;injection e with e aN;subst e;injection aN with aN nu;subst aN nu;exact K
def vk(C:Cx)(ih:Ih)(d:Nat):Prop:=∀cl ρ s f ρ' s',(ih.xs cl ρ s).leaf C.ν=some (f,ρ',s')→∀kd cs xs,dc C kd cs cl xs→∀Z J M own env A st,dk C Z J M own kd cs env ρ st.heap→aq C J M s st.heap→bu A d→cm C Z J st.heap→
 ∀Q E,KX C Z J M own kd cs env st f ρ' s' Q→ab (Md C) A (execs xs env) Q E st
section
variable{own:Addr→Prop}{cs:Bool}
theorem cm.bJ{Z':Addr→Prop}(z:cm C Z' J h)(G:aJ Z J M h σ' M' h'):cm C Z' σ' h':=fun a q=>by
 obtain⟨l,rfl,f⟩:=G.pre
 obtain⟨⟨o,z1⟩,z2,z3⟩:=z a q
 exact⟨G.ext.live a o z1,fun m=>(List.mem_append.mp m).elim z2 fun m=>aO z1 (f a m),z3⟩
theorem dk.z(F:dk C Z J M own kd cs env ρ h)(z:cm C Z J h):cm C (fun a=>Z a∨own a) J h:=fun a q=>q.elim (z a) (F.gB a)
theorem dk.grow(F:dk C Z J M own kd cs env ρ h)(G:aJ (fun a=>Z a∨own a) J M h σ' M' h'):dk C Z σ' M' own kd cs env ρ h':=
 ⟨F.f.grow G,fun a q=>⟨G.more a (F.eR a q).1,(F.eR a q).2⟩,F.gB.bJ G,F.lo,let⟨m,o,es,ep,e,r⟩:=F.ns;⟨m,o,es,ep,G.dB (.inr F.lo) e,r⟩,
  fun k x q=>by
   obtain⟨c,v,h1,⟨o,h2,h3⟩,h5⟩:=F.ce k x q
   exact⟨c,v,h1,⟨o,G.dB (.inr h5) h2,h3⟩,h5⟩,
  F.lc,F.ap,F.gh⟩
theorem KX.after{f:Fl}{ρ':Env}{Q:Flow→Shared→Prop}{tk:Tok}(K:KX C Z J M own kd cs env st f ρ' s' Q)(G:aJ Z J M st.heap σ' M' h'):KX C Z σ' M' own kd cs env {st with heap:=h',toks:=tk} f ρ' s' Q:=
 fun cy dU br bf fl bb S F R=>K cy dU br bf fl (G.trans bb) S F R
theorem tD(S:aq C J M s h){a:Addr}(hm:M a)(hz:¬Z a)(ho:a∉J)(ht:∀p∈C.tabs,a≠p.2)(hs:Heap.SameBut a h h')(hl:∃o,h'.get? a=some o):aq C J M s h'∧aJ Z J M h J M h':=by
 have hv:∀b o,h.get? b=some o→∃o',h'.get? b=some o':=fun b o e=>by
  by_cases hb:b=a
  ·subst hb;exact hl
  ·exact⟨o,(hs.2 b hb).trans e⟩
 have G:aJ Z J M h J M h':=⟨⟨[],by simp,fun Y m=>nomatch m⟩,⟨hv,fun b o hb e=>(hs.2 b fun q=>hb (by rw [q];exact⟨hm,hz⟩)).trans e⟩,fun Y x=>x,fun Y x=>.inl x⟩
 refine⟨⟨S.len,S.lim,S.gP,S.nodup,S.low,?_,S.jt,S.yB,fun b m=>let⟨o,e⟩:=S.there b m;hv b o e,fun b m=>let⟨o,e⟩:=S.mlt b m;hv b o e,?_,?_,S.rg⟩,G⟩
 ·intro i o b e q
  have hb:b≠a:=fun z=>ho (z▸bO q)
  exact(S.obj i o b e q).grow G fun x hx=>(hs.2 b hb).trans hx
 ·intro b o e
  refine aw (S.base b o e:) fun n y=>?_
  exact⟨n,(hs.2 b fun z=>n (z▸hm)).trans y⟩
 ·intro p hp
  obtain⟨⟨ps,a1,a2,a3,a4⟩,a5⟩:=S.tab p hp
  refine⟨⟨ps,a1,(hs.2 _ fun z=>ht p hp z.symm).trans a2,a3,fun pos cv e=>?_⟩,a5⟩
  refine vh (a4 pos cv e:) fun c oc vs t e1 e2 e3 e4=>?_
  exact⟨c,oc,vs,t,e1,e2,(hs.2 _ fun z=>e2 (by rw [z];exact hm)).trans e3,e4⟩
theorem cZ(x y:Nat)(v:AV):∀ρ:Env,az (bV ρ x v) y=if y=x then some v else az ρ y
 |[]=>by
  unfold bV az
  by_cases h:y=x
  ·subst h;simp[Nat.beq_refl]
  ·have:Nat.beq x y=false:=by cases q:Nat.beq x y with|false=>rfl|true=>exact absurd (aL q).symm h
   simp[this,h,az]
 |(k,w)::r=>by
  unfold bV
  by_cases hk:k=x
  ·subst hk
   simp only[Nat.beq_refl]
   unfold az
   by_cases h:y=k
   ·subst h;simp[Nat.beq_refl]
   ·have:Nat.beq k y=false:=by cases q:Nat.beq k y with|false=>rfl|true=>exact absurd (aL q).symm h
    simp[this,h]
  ·have hb:Nat.beq k x=false:=by cases q:Nat.beq k x with|false=>rfl|true=>exact absurd (aL q) hk
   simp only[hb]
   unfold az;have ih:=cZ x y v r
   cases q:Nat.beq k y with
   |true=>
    have:=aL q
    subst this;simp[hk]
   |false=>exact ih
theorem gy(inj:∀x y,C.nm x=C.nm y→x=y){x:Nat}{Q:Unit→Shared→Prop}(hk:eC kd cs (C.nm x))(F:dk C Z J M own kd cs env ρ st.heap)(S:aq C J M s st.heap)(V:ao C J M st.heap v rv)
  (K:∀h' tk,aJ Z J M st.heap J M h'→aq C J M s h'→(∀Z₀ gU,dk C Z₀ J M own kd cs env gU st.heap→dk C Z₀ J M own kd cs env (bV gU x v) h')→Q () {st with heap:=h',toks:=tk}):ab (Md C) A (storeName env (C.nm x) rv) Q E st:=by
 have kk:=F.f.kinds
 have fin:∀(a:Addr)(h':Heap)(tk:Tok),own a→Heap.SameBut a st.heap h'→(∃o,h'.get? a=some o)→(∃m,h'.Ns env.locals m)→(∀y c,env.cells.lookup y=some c→c=a→∃v,h'.IsCell c v)→
   (∀(Z₀:Addr→Prop) y w rw,C.nm y≠C.nm x→dM (fun a=>Z₀ a∨own a) M env st.heap (C.nm y) rw→ao C J M st.heap w rw→dM (fun a=>Z₀ a∨own a) M env h' (C.nm y) rw)→(∀Z₀:Addr→Prop,dM (fun a=>Z₀ a∨own a) M env h' (C.nm x) rv)→Q () {st with heap:=h',toks:=tk}:=by
  intro a h' tk ha hs hl hn hca hold hnew;refine aw (F.eR a ha:) fun hm hz=>?_
  refine dN (F.gB a ha:) fun XT ho ht=>?_
  refine aw (tD (Z:=Z) S hm hz ho ht hs hl:) fun S' G=>?_
  refine K h' tk G S' fun Z₀ gU F=>⟨⟨F.f.glob,F.f.i8,F.f.kind,kk,F.f.Ed,(fun y c q=>let⟨o,e⟩:=F.f.xd y c q;G.ext.live c o e),F.f.code,fun y w e q=>?_⟩,F.eR,fun b q=>?_,F.lo,hn,fun k y q=>?_,F.lc,F.ap,F.gh⟩
  ·rw [cZ]at e
   by_cases hy:y=x
   ·subst hy
    rw [if_pos rfl]at e;injection e with e;subst e;exact⟨rv,hnew Z₀,V.grow G⟩
   ·rw [if_neg hy]at e
    refine aC (F.f.vars y w e q:) fun QP R V'=>?_
    exact⟨QP,hold Z₀ y w QP (fun q=>hy (inj _ _ q)) R V',V'.grow G⟩
  ·refine dN (F.gB b q:) fun b1 b2 b3=>?_
   refine dF (b1:) fun o e=>?_
   exact⟨G.ext.live b o e,b2,b3⟩
  ·refine j8 (F.ce k y q:) fun c v' h1 h2 h4=>?_
   by_cases hc:c=a
   ·refine dF (hca y c h1 hc:) fun Us q=>?_
    exact⟨c,Us,h1,q,h4⟩
   ·exact⟨c,v',h1,h2.sameBut hs hc,h4⟩
 refine dF (F.ns:) fun m N=>?_
 rcases hk with hk|⟨hk,hc⟩
 ·refine lf<|wpAny_storeName_local ((kk _).trans hk) N (fun h' hn hs=>?_) (by rw [F.f.kind];rfl)
  refine fin env.locals h' _ F.lo hs ?_ ⟨_,hn⟩ (fun y c e q=>absurd q (F.lc y c e)) ?_ fun Z₀=>(.loc _ ((kk _).trans hk) (.inr F.lo) hn (by simp))
  ·refine mU (hn:) fun o es ep e Y=>?_;exact⟨o,e⟩
  ·intro Z₀ y w QP hy R V'
   cases R with
   |loc m' a b c d=>
    refine .loc _ a b hn ?_
    refine o7 (c:) fun o es ep e1 e2 e3 e4=>?_
    refine o7 (N:) fun o' lA XX f1 f2 f3 f4=>?_
    rw [e1]at f1;injection f1 with f1;subst f1;rw [e2]at f2;injection f2 with f2 sL;subst f2 sL;simp only[if_neg hy];rw [←f4,e4];exact d
   |cell c o a b e f g=>exact .cell c o a b e ((hs.2 c (F.lc _ _ b)).trans f) g
 ·refine j8 (F.ce hc _ hk:) fun c VQ h1 h2 h4=>?_
  have hL:=F.lc _ _ h1
  refine lf<|wpAny_storeName_cell F.f.kind ((kk _).trans hk) h1 h2 fun h' hn hs=>?_
  refine aC (hn:) fun o' e' d'=>?_
  refine fin c h' st.toks h4 hs ⟨o',e'⟩ ⟨m,N.sameBut hs (Ne.symm hL)⟩ (fun y c' Y q=>⟨some rv,by subst q;exact⟨o',e',d'⟩⟩) ?_ fun Z₀=>(.cell c o' (.inl ((kk _).trans hk)) h1 (.inl (.inr h4)) e' d')
  intro Z₀ y w QP hy R V';cases R with
  |loc m' a b c' d=>exact .loc m' a b (c'.sameBut hs (Ne.symm hL)) d
  |cell c' o a b e f g=>exact .cell c' o a b e ((hs.2 c' fun q=>hy (F.ap hc _ _ c (q▸b) h1)).trans f) g
end
def Qw(C:Cx)(ih:Ih)(d:Nat):Prop:=∀g as s v s',(ih.ca g as s).leaf C.ν=some (v,s')→∀Z J M A st rg ras,aq C J M s st.heap→bu A d→cm C Z J st.heap→ao C J M st.heap g rg→ay C J M st.heap as ras→
 (∀Q E,(∀k,Q k st)→ab (Md C) A (keeperOf rg) Q E st)∧∀Q E,KV C Z J M st v s' Q→ab (Md C) A (call rg ras []) Q E st
structure FnAt(C:Cx)(k:Nat)(f:Fn)(o:Obj)(fd:FuncData)(body:List Stmt)(cs:Bool)(ds:List Value)(kd:Kd):Prop where
 at_:C.hb.get? (C.mL k)=some o
 data:o.data=.func fd
 code:C.hb.CodeRec fd.code fd.qualname
 n8:fd.body=.stmts body
 vi:fd.closure=[]
 glob:fd.globals=mainGlobals
 i8:fd.builtins=builtinsNs
 kind:fd.scope.kind=.function
 co:fd.scope.isCoroutine=false
 gen:fd.scope.isGenerator=false
 pos:fd.params.posonlyargs=[]
 args:fd.params.args.map (·.arg)=f.ps.map C.nm
 vararg:fd.params.vararg=none
 OM:fd.params.kwonlyargs=[]
 kwarg:fd.params.kwarg=none
 nd:(f.ps.map C.nm).Nodup
 PU:ds.length≤f.ps.length
 dflt:(fd.defaults=.none∧ds=[])∨∃T o n,fd.defaults=.ref T∧C.hb.get? T=some o∧o.data=.seq ds.toArray n
 PR:∀J M h,(∀b o,C.hb.get? b=some o→¬M b∧h.get? b=some o)→ay C J M h f.df ds
 rG:∀x,fd.scope.names.lookup x≠some .free
 kinds:∀x∈f.ps,fd.scope.names.lookup (C.nm x)=some .local∨fd.scope.names.lookup (C.nm x)=some .cell
 EX:kd.k=fun x=>fd.scope.names.lookup x
 lx:∀c,kd.code=some c→fd.code=.ref c∧fd.qualname++".<locals>."=kd.qual∧cs=false
 fits:dc C kd cs f.body body
def vb(C:Cx)(k:Nat)(f:Fn):Prop:=∃o fd body cs ds kd,FnAt C k f o fd body cs ds kd
theorem hK:∀(names:List (Str×NameKind))(n:Nat)(acc:List (Str×Addr))(x:Str),(acc.lookup x).isSome=true→((cellsFrom n names acc).lookup x).isSome=true
 |[],_,_,_,h=>h
 |(y,k)::r,n,acc,x,h=>by
  unfold cellsFrom;split
  ·refine hK r _ _ x ?_
   rw [List.lookup_cons];split
   ·rfl
   ·exact h
  ·exact hK r _ _ x h
theorem dy:∀(names:List (Str×NameKind))(n:Nat)(acc:List (Str×Addr))(x:Str),names.lookup x=some .cell→((cellsFrom n names acc).lookup x).isSome=true
 |[],_,_,_,h=>by simp at h
 |(y,k)::r,n,acc,x,h=>by
  rw [List.lookup_cons]at h;unfold cellsFrom;cases q:x==y with
  |true=>
   rw [q]at h;injection h with h;subst h;rw [if_pos (by rfl)]
   refine hK r _ _ x ?_
   rw [List.lookup_cons,q];rfl
  |false=>
   rw [q]at h;split
   ·exact dy r _ _ x h
   ·exact dy r _ _ x h
theorem AH{kd:Str→Option NameKind}{n:Str}(l:List (Str×Value)):∀(m:Str→Option Value),n∉l.map (·.1)→bindL kd l m n=m n:=by
 induction l with
 |nil=>exact fun Y Y=>rfl
 |cons p r ih=>
  intro m h;rw [List.map_cons,List.mem_cons,not_or]at h;unfold bindL;rw [ih _ h.2];split
  ·show(if n=p.1 then some p.2 else m n)=m n
   rw [if_neg h.1]
  ·rfl
theorem AI{kd:Str→Option NameKind}{n:Str}(l:List (Str×Value)):∀(m:Str→Option Value),n∉l.map (·.1)→bindC kd l m n=m n:=by
 induction l with
 |nil=>exact fun Y Y=>rfl
 |cons p r ih=>
  intro m h;rw [List.map_cons,List.mem_cons,not_or]at h;unfold bindC;rw [ih _ h.2];split
  ·rfl
  ·show(if n=p.1 then some p.2 else m n)=m n
   rw [if_neg h.1]
theorem Er{kd:Str→Option NameKind}{n:Str}{v:Value}(hk:kd n=some .local)(l:List (Str×Value)):∀(m:Str→Option Value),(l.map (·.1)).Nodup→(n,v)∈l→bindL kd l m n=some v:=by
 induction l with
 |nil=>exact fun Y Y h=>nomatch h
 |cons p r ih=>
  intro m nd h;rw [List.map_cons,List.nodup_cons]at nd;unfold bindL;rcases cK h with e|h
  ·subst e
   rw [AH r _ nd.1,if_pos hk];simp
  ·exact ih _ nd.2 h
theorem Es{kd:Str→Option NameKind}{n:Str}{v:Value}(hk:kd n≠some .local)(l:List (Str×Value)):∀(m:Str→Option Value),(l.map (·.1)).Nodup→(n,v)∈l→bindC kd l m n=some v:=by
 induction l with
 |nil=>exact fun Y Y h=>nomatch h
 |cons p r ih=>
  intro m nd h;rw [List.map_cons,List.nodup_cons]at nd;unfold bindC;rcases cK h with e|h
  ·subst e
   rw [AI r _ nd.1,if_neg hk];simp
  ·exact ih _ nd.2 h
section
theorem oJ{nm:Nat→Str}{x:Nat}{ps:List Nat}:∀{as:List AV}{rs:List Value},ay C J M h as rs→az (ps.zip as) x=some v→∃rv,ao C J M h v rv∧(nm x,rv)∈(ps.map nm).zip rs∧x∈ps:=by
 induction ps with
 |nil=>exact fun Y e=>no e
 |cons p ps ih=>
  intro as rs V e;cases as with
  |nil=>exact no e
  |cons a as=>
   refine V.oZ fun w rs V r=>?_
   cases q:Nat.beq p x with
   |true=>
    have e:=(oK (p:=(p,a)) (r:=ps.zip as) q).symm.trans e
    cases aL q
    exact⟨w,bg e▸V,bS,bS⟩
   |false=>exact lM (ih r ((mw (p:=(p,a)) (r:=ps.zip as) q).symm.trans e)) fun rv h1 h2 h3=>⟨rv,h1,cq _ h2,cq _ h3⟩
theorem aq.uY(S:aq C J M s st.heap){h₁:Heap}{own:Addr→Prop}(hk:∀b o,st.heap.get? b=some o→h₁.get? b=some o)(hn:∀a,own a→st.heap.get? a=none)(hl:∀a,own a→∃o,h₁.get? a=some o):
  aq C J (fun a=>M a∨own a) s h₁∧aJ Z J M st.heap J (fun a=>M a∨own a) h₁:=by
 have G:aJ Z J M st.heap J (fun a=>M a∨own a) h₁:=⟨⟨[],by simp,fun Y m=>nomatch m⟩,⟨fun b o e=>⟨o,hk b o e⟩,fun b o Y e=>hk b o e⟩,fun Y x=>.inl x,fun a x=>x.imp id (hn a)⟩
 refine⟨⟨S.len,S.lim,S.gP,S.nodup,S.low,fun i o a e q=>(S.obj i o a e q).grow G fun x=>hk a x,fun i a q hi=>.inl (S.jt i a q hi),fun i a q hi=>fun x=>x.elim (S.yB i a q hi) fun x=>?_,fun a m=>let⟨o,e⟩:=S.there a m;⟨o,hk _ _ e⟩,fun a m=>m.elim (fun m=>let⟨o,e⟩:=S.mlt a m;⟨o,hk _ _ e⟩) (hl a),fun b o e=>⟨fun x=>x.elim (S.base b o e).1 fun x=>aO (S.base b o e).2 (hn b x),hk b o (S.base b o e).2⟩,fun p hp=>?_,S.rg⟩,G⟩
 ·refine dF (S.there a (bO q):) fun o e=>?_
  exact aO e (hn a x)
 ·obtain⟨⟨ps,a1,a2,a3,a4⟩,a5⟩:=S.tab p hp
  refine⟨⟨ps,.inl a1,hk _ _ a2,a3,fun pos cv e=>?_⟩,a5⟩
  refine vh (a4 pos cv e:) fun c oc vs t e1 e2 e3 e4=>?_
  exact⟨c,oc,vs,t,e1,G.notM e2 e3,hk _ _ e3,e4⟩
theorem lG{ps:List Nat}{df:List AV}(e:bindArgs ps df as=some ρ):as.length≤ps.length∧ps.length≤as.length+df.length∧ρ=ps.zip (as++df.drop (as.length+df.length - ps.length)):=by
 exact aw (aB e) fun q e=>⟨bF (ae q).1,bF (ae q).2,(bg e).symm⟩
def u6(A:Around)(d:Nat):Prop:=A.handled=none∧A.depth+2*d+5<recursionLimit∧A.units+12*d+43<cLine
theorem bu.c(R:bu A (d+1)):u6 A d:=⟨R.1,by have:=R.2.1;lia,by have:=R.2.2;lia⟩
theorem u6.deeper(R:u6 A d)(env:PySem.Env):bu (A.deeper env) d:=by
 refine dN (R:) fun h1 h2 h3=>?_
 refine⟨h1,?_,?_⟩
 ·show A.depth+1+2*d+4<_
  lia
 ·show A.units+3+12*d+40<_
  lia
theorem DB{r:Nat}(h1:r≤n)(h2:n≤r+d):n≤r+(d - (r+d - n)):=by
 obtain⟨a,rfl⟩:=Nat.exists_eq_add_of_le h1
 rw [Nat.add_sub_add_left,Nat.sub_sub_self (Nat.le_of_add_le_add_left h2)];exact Nat.le_refl _
def F4(h:Heap)(cs:Bool)(sc:Scope)(a:Addr):Prop:=a=h.objs.size∨(cs=true∧∃n,(cellsFrom (h.objs.size+1) sc.names []).lookup n=some a)
noncomputable def AU(ns:List Str)(ras ds:List Value):List Value:=ras++ds.drop (ras.length+ds.length - ns.length)
theorem yD(hlim:C.hb.NoLimit)(H:vk C ih d){f:Fn}(hf:P.fs.get k=some f)(O:vb C k f)(e:(nN P ih k as s).leaf C.ν=some (v,s'))(S:aq C J M s st.heap)(R:u6 A d)(z:cm C Z J st.heap)(V:ay C J M st.heap as ras){T:Result→Shared→Prop}(K:KV C Z J M st v s' fun rv s'=>T (.ok (.ret rv)) s'):
  ba (Md C) A (.call (.ref (C.mL k)) ⟨ras,[]⟩) T st:=by
 obtain⟨o,fd,body,cs,ds,kd,O⟩:=O
 refine aC (aI e) fun f' QX e=>?_
 cases bg (hf.symm.trans QX)
 refine aC (aI e) fun ρ hb e=>?_
 refine aH.Vn e fun fl ρ' ag e1 e=>?_
 injection e with e;injection e with e aN;subst e aN;obtain⟨b1,b2,rfl⟩:=lG hb
 have hbase:∀b o,C.hb.get? b=some o→st.heap.get? b=some o:=fun b o e=>(S.base b o e).2
 have Vd:=O.PR J M st.heap S.base
 have dl:=Vd.length
 have vl:=V.length
 refine iZ (by have:=R.2.1;lia) (hbase _ _ O.at_) O.data O.co O.gen O.n8 (O.code.imp fun c h=>h.imp fun oc h=>h.imp fun vs h=>h.imp fun t h=>⟨h.1,hbase _ _ h.2.1,h.2.2⟩) ?_
 have hB:BindsTo st fd ⟨ras,[]⟩ ((f.ps.map C.nm).zip (AU (f.ps.map C.nm) ras ds)):=by
  refine mA O.pos O.args O.vararg O.OM O.kwarg (fun M A E Q hq=>?_) (by rw [List.length_map];lia) (by rw [List.length_map];lia) (by rw [List.length_map];exact O.PU) O.nd
  rcases O.dflt with⟨q1,q2⟩|⟨T,o,n,q1,q2,q3⟩
  ·rw [q1]
   refine PySem.wpAny_bind (PySem.wpAny_pure (PySem.wpAny_pure (hq _ ?_)))
   rw [q2];rfl
  ·rw [q1]
   exact wpAny_seqItems (hbase _ _ q2) q3 (hq _ rfl)
 refine lf (hB _ _ _ _ ?_)
 have hkk:∀x∈(f.ps.map C.nm).zip (AU (f.ps.map C.nm) ras ds),∃y∈f.ps,x.1=C.nm y:=fun x hx=>by
  have:=(List.of_mem_zip (a:=x.1) (b:=x.2) hx).1
  refine aC (List.mem_map.mp this:) fun y h1 h2=>?_
  exact⟨y,h1,h2.symm⟩
 rw [O.vi];refine lf<|wpAny_newFunctionEnv_cells O.kind (fun x hx=>?_) fun env he aK I=>?_
 ·refine aC (hkk x hx:) fun y h1 h2=>?_
  rw [h2];exact(O.kinds y h1).imp id fun q=>⟨q,dy _ _ _ _ q⟩
 ·subst he
  have hlk:=I.toInCall.keep
  obtain⟨h₁,tk,rfl⟩:=I.toInCall.same
  refine⟨(hlim.keeps hbase).keeps hlk,qW ?_⟩
  have hzip:=Vd.drop (ras.length+ds.length - (f.ps.map C.nm).length)
  have hV:ay C J M st.heap (as++f.df.drop (as.length+f.df.length - f.ps.length)) (AU (f.ps.map C.nm) ras ds):=by
   unfold AU;rw [vl,dl,←List.length_map (f:=C.nm) (as:=f.ps)]
   exact V.append hzip
  have hnd:(((f.ps.map C.nm).zip (AU (f.ps.map C.nm) ras ds)).map (·.1)).Nodup:=by
   rw [List.map_fst_zip (by unfold AU;rw [List.length_append,List.length_drop,List.length_map];exact DB (vl▸b1) (vl▸dl▸b2))]
   exact O.nd
  have hdead:∀c,st.heap.objs.size≤c→st.heap.get? c=none:=fun c hc=>by
   cases q:st.heap.get? c with
   |none=>rfl
   |some o=>exact absurd (Heap.lt_size q) (Nat.not_lt.mpr hc)
  have hup:∀n c,(cellsFrom (st.heap.objs.size+1) fd.scope.names []).lookup n=some c→st.heap.objs.size<c:=fun n c q=>I.above n c (mem_of_lookup q)
  have hce:=I.cell
  have hns:=I.toInCall.ns
  have odead:∀a,F4 st.heap cs fd.scope a→st.heap.get? a=none:=fun a q=>Or.elim q (fun q=>hdead a (Nat.le_of_eq q.symm)) fun q=>q.2.elim fun n q=>hdead a (Nat.le_of_lt (hup n a q))
  have olive:∀a,F4 st.heap cs fd.scope a→∃o,h₁.get? a=some o:=fun a q=>Or.elim q (fun q=>by refine mU (hns:) fun o es ep e Y=>?_;exact⟨o,q▸e⟩) fun q=>q.2.elim fun n q=>(hce n a q).imp fun o e=>e.1
  have hA:=aq.uY (Z:=Z) (h₁:=h₁) (own:=F4 st.heap cs fd.scope) S hlk
   odead olive
  obtain⟨aD,aF⟩:=hA
  refine H f.body _ s fl ρ' _ e1 kd cs body O.fits Z J _ (F4 st.heap cs fd.scope) _ _ _ ⟨⟨O.glob,O.i8,O.kind,fun Y=>by rw [O.EX];rfl,fun x q=>by
   rw [O.EX]at q;exact q.elim (fun q=>Option.isSome_iff_exists.mp (dy _ _ _ _ q)) fun q=>absurd q (O.rG x),(fun x c q=>let⟨o,e,_⟩:=hce x c q;⟨o,e⟩),(fun c q=>⟨(O.lx c q).1,(O.lx c q).2.1,fun x a q0=>by
   rintro(q'|q'|q')
   ·refine dF (S.mlt a q':) fun o e=>?_
    exact aO e (hdead a (Nat.le_of_lt (hup x a q0)))
   ·exact Nat.ne_of_gt (hup x a q0) q'
   ·rw [(O.lx c q).2.2]at q';cases q'.1⟩),fun x w q hm=>?_⟩,?_,?_,.inl rfl,⟨_,hns⟩,?_,fun n c q=>Nat.ne_of_gt (hup n c q),fun Y x y c q q'=>name_of_addr I.apart (mem_of_lookup q) (mem_of_lookup q'),O.kind⟩ aD (R.deeper _) (z.bJ aF) _ _ fun σ' M' h' ET Pe G S' F' r=>?_
  ·refine lM (oJ (nm:=C.nm) hV q:) fun rv V1 h1 h2=>?_
   refine⟨rv,?_,V1.grow aF⟩
   rcases O.kinds x h2 with hk|hk
   ·exact .loc _ hk (.inr (.inl rfl)) hns (Er hk _ _ hnd h1)
   ·refine dF (Option.isSome_iff_exists.mp (dy fd.scope.names (st.heap.objs.size+1) [] (C.nm x) hk):) fun c hc=>?_
    refine aC (hce _ _ hc:) fun oc c1 c2=>?_
    rw [Es (by show fd.scope.names.lookup (C.nm x)≠_;rw [hk];exact fun q=>by(injection q with q;injection q)) _ _ hnd h1]at c2
    refine .cell c oc (.inl hk) hc ?_ c1 c2
    cases cs with
    |true=>exact .inl (.inr (.inr ⟨rfl,_,hc⟩))
    |false=>
     refine .inr fun q=>q.elim (fun q=>let⟨o,e⟩:=S.mlt c q;aO e (hdead c (Nat.le_of_lt (hup _ c hc)))) fun q=>q.elim (fun q=>?_) fun q=>by cases q.1
     exact absurd q (Nat.ne_of_gt (hup _ c hc))
  ·intro a q
   refine⟨.inr q,fun hz=>?_⟩
   obtain⟨⟨o,e⟩,_⟩:=z a hz
   exact aO e (odead a q)
  ·intro a q
   have hd:=odead a q
   refine⟨olive a q,fun m=>?_,fun p hp q=>?_⟩
   ·refine dF (S.there a m:) fun o e=>?_
    exact aO e hd
   ·obtain⟨⟨ps,a1,a2,a3,a4⟩,a5⟩:=S.tab p hp
    rw [←q]at a2;exact aO a2 hd
  ·intro hcs x hk
   rw [O.EX]at hk;refine dF (Option.isSome_iff_exists.mp (dy fd.scope.names (st.heap.objs.size+1) [] x hk):) fun c hc=>?_
   exact⟨c,_,hc,hce _ _ hc,.inr ⟨hcs,_,hc⟩⟩
  ·cases fl with
   |nx=>
    have:Pe=.next:=r
    subst this;exact K σ' M' h' ET .none (aF.trans G) S' .none
   |rt w=>
    obtain⟨rv,rfl,V'⟩:=r
    exact K σ' M' h' ET rv (aF.trans G) S' V'
theorem yE(hlim:C.hb.NoLimit)(H:vk C ih d){f:Fn}(hf:P.fs.get k=some f)(O:vb C k f)(e:(nN P ih k as s).leaf C.ν=some (v,s'))(S:aq C J M s st.heap)(R:u6 A d)(z:cm C Z J st.heap)(V:ay C J M st.heap as ras)(K:KV C Z J M st v s' Q):
  ab (Md C) A (call (.ref (C.mL k)) ras []) Q E st:=dC (yD hlim H hf O e S R z V K)
end
section
variable{ex:Expr}
theorem rS{f:Value}{Q:Args→Shared→Prop}(h:ab (Md C) A (spliced []) (fun vs s'=>Q ⟨vs,[]⟩ s') E st):ab (Md C) A (evalArgs f true [] []) Q E st:=by
 unfold evalArgs;show ab _ A (spliced []>>=_) Q E st;exact aa (aG h (fun vs s' h'=>aj (aa (af (aa (af (af h')))))) fun Y Y x=>x)
theorem dY{f:Value}{es:List CE}(hf:c0 C kd es xs)(pos:Pos){Q:Args→Shared→Prop}(h:ab (Md C) A (spliced (backTo pos (starEach xs env))) (fun vs s'=>Q ⟨vs,[]⟩ s') E st):
  ab (Md C) A (evalArgs f true (backTo pos (starEach xs env)) []) Q E st:=by
 cases es with
 |nil=>
  rw [hf.nl]at h⊢;exact rS h
 |cons a es=>
  refine K0 hf.un fun x r q h1 h2 h3=>?_
  rw [q,dX h2]at h⊢;exact evalArgs_plain h
theorem gz{es:List CE}(hf:c0 C kd es xs)(pos:Pos):(backTo pos (starEach xs env)).any (·.1)=false:=by
 induction es generalizing xs with
 |nil=>exact hf.nl▸rfl
 |cons a es ih=>exact hf.oZ fun x r Y h2 h3=>dX h2▸ih h3
theorem eU{f:Value}{first:List Value}{args:List (Bool×Sem Value)}(hp:args.any (·.1)=false)
  (h:ab (Md C) A (evalArgs f true args []) (fun x ag=>(∀Q E,(∀k,Q k ag)→ab (Md C) A (keeperOf f) Q E ag)∧ab (Md C) A (call f (first++x.pos) x.kw) Q E ag) E st):ab (Md C) A (callWith pos f first args []) Q E st:=by
 unfold callWith;refine aa (aj (aG h (fun x ag h₁=>aa (au ?_)) fun Y Y x=>x))
 have tail:∀{t:Sem Value},ab (Md C) A t Q E ag→ab (Md C) A (t>>=fun r=>holding [r] point>>=fun Y=>pure r) Q E ag:=
  fun ht=>aa (aG ht (fun r aK hr=>aa (aj (gR (af hr)))) fun Y Y x=>x)
 rw [hp];have mk:∀m,ab (Md C) A (callMarked m f (first++x.pos) x.kw) Q E ag:=fun m=>by unfold callMarked;exact vn h₁.2
 refine aa (h₁.1 _ _ fun k=>?_)
 cases k with
 |machine=>exact tail h₁.2
 |frame=>
  show ab (Md C) A (if _ then _ else _) Q E ag;exact fJ (fun Y=>tail h₁.2) fun Y=>tail (mk _)
 |boundFrame=>
  show ab (Md C) A (if _ then _ else _) Q E ag;exact fJ (fun Y=>tail h₁.2) fun Y=>tail (mk _)
 |caller=>exact tail (cB h₁.2)
theorem JL(H:gu C ih d)(HC:Qw C ih d){f:CE}{es:List CE}(e:(cF P N ih (.call f es) ρ s).leaf C.ν=some (v,s'))(h1:aW C kd f x)(h2:∀o n p,x≠.Attribute o n p)(h3:c0 C kd es xs)(F:fu C Z J M kd env ρ st.heap)(S:aq C J M s st.heap)(R:bu A d)(z:cm C Z J st.heap)(K:KV C Z J M st v s' Q):
  ab (Md C) A (eval (.Call x xs [] pos) env) Q E st:=by
  unfold cF at e;refine aH.cM e fun g ag e1 e=>?_
  refine aH.cM e fun vs aK e2 e=>?_
  have q:eval (.Call x xs [] pos) env=(eval x env>>=fun f=>callWith pos f [] (backTo pos (starEach xs env)) []):=by
   cases x<;>first|rfl|exact absurd rfl (h2 _ _ _)
  rw [q];refine aa (H f ρ s g ag e1 kd _ h1 Z J M env A st F S R z _ _ fun aA aP h₁ aU rg aF aD cb=>?_)
  refine eU (gz h3 pos) (dY h3 pos (gn H e2 h3 pos (st:={st with heap:=h₁,toks:=aU}) (F.grow aF) aD R (z.grow aF) fun cy dU br bf rvs bb bU d7=>?_))
  have G:=aF.trans bb
  have c:=HC g vs aK v s' e Z cy dU A {st with heap:=br,toks:=bf} rg rvs bU R (z.grow G) (cb.grow bb) d7
  exact⟨c.1,c.2 _ _ (K.after G)⟩
theorem vA(A:Around)(c:Addr)(rest:List Value)(kw:List (Str×Value)):(A.under (.builtin "type.__call__" ⟨.ref c::rest,kw⟩)).handled=A.handled∧(A.under (.builtin "type.__call__" ⟨.ref c::rest,kw⟩)).depth=A.depth+1∧(A.under (.builtin "type.__call__" ⟨.ref c::rest,kw⟩)).units=A.units+1:=by
 refine⟨rfl,?_,?_⟩
 ·show A.depth+Code.weight _=_
  rfl
 ·show A.units+Code.cUnits _=_
  rfl
theorem zX{f:Fn}(O:vb C k f)(S:aq C J M s st.heap){Q:Keeper→Shared→Prop}(K:∀k,Q k st):ab (Md C) A (keeperOf (.ref (C.mL k))) Q E st:=by
 obtain⟨o,fd,body,cs,ds,kd,O⟩:=O
 unfold keeperOf;refine aa (lf<|wpAny_load (S.base _ _ O.at_).2 ?_);rw [O.data];exact af (K _)
theorem wm(W:Wd C P){c f:Nat}{ms:List (Nat×Nat)}(hc:P.cs.get c=some (f,ms))(S:aq C J M s st.heap){Q:Keeper→Shared→Prop}(K:∀k,Q k st):ab (Md C) A (keeperOf (.ref (C.dq c))) Q E st:=by
 have Y1:=makes_of (M:=Md C) (OP W S) (W.cls _ _ _ hc).UH
 refine IK (Y1.obj:) fun oc od cd sl h1 Y=>?_
 unfold keeperOf;refine aa (lf<|wpAny_load h1 ?_);refine aa (lf (Y1.call.here ?_));exact af (K _)
theorem Dg(h:I1 v=true):v=.none:=by cases v<;>first|rfl|exact Bool.noConfusion h
theorem K5{hh:Heap}{c:Nat}(S:aq C J M s hh)(SP:Nat.blt s.n 1000000=true)(SN:Nat.blt (s.new (.ns [])).2.n 1000000=true):
  ((hh.push emptyDict).push (instObj (C.dq c) hh.objs.size)).get? (hh.objs.size+1)=some (instObj (C.dq c) hh.objs.size)∧aq C (J++[hh.objs.size]++[hh.objs.size+1]) (fun b=>(M b∨b=hh.objs.size)∨b=hh.objs.size+1) ((s.new (.ns [])).2.new (.inst c s.n)).2 ((hh.push emptyDict).push (instObj (C.dq c) hh.objs.size))∧
  aJ Z J M hh (J++[hh.objs.size]++[hh.objs.size+1]) (fun b=>(M b∨b=hh.objs.size)∨b=hh.objs.size+1) ((hh.push emptyDict).push (instObj (C.dq c) hh.objs.size))∧(J++[hh.objs.size]++[hh.objs.size+1])[(s.new (.ns [])).2.n]?=some (hh.objs.size+1)∧True∧True:=by
 have k1:∀b o,hh.get? b=some o→(hh.push emptyDict).get? b=some o:=fun b o e=>cP _ e
 have k2:∀b o,(hh.push emptyDict).get? b=some o→((hh.push emptyDict).push (instObj (C.dq c) hh.objs.size)).get? b=some o:=fun b o e=>cP _ e
 refine dN (S.alloc (Z:=Z) SP k1 (Heap.bc _) (.ns []) (.ns [] _ [] 0 (Heap.get?_push_size _ rfl) .nil)) fun aD aF OQ=>?_
 have hd2:(hh.push emptyDict).get? (hh.objs.size+1)=none:=Heap.size_push (h:=hh) (o:=emptyDict)▸Heap.bc (hh.push emptyDict)
 have g2:((hh.push emptyDict).push (instObj (C.dq c) hh.objs.size)).get? (hh.objs.size+1)=some (instObj (C.dq c) hh.objs.size):=by
  have:=Heap.get?_push_size (hh.push emptyDict) (o:=instObj (C.dq c) hh.objs.size) rfl
  rwa[Heap.size_push]at this
 refine dN (aD.alloc (Z:=Z) SN k2 hd2 (.inst c s.n) (.inst c s.n _ hh.objs.size g2 ((List.getElem?_append_left (List.getElem?_eq_some_iff.mp OQ).1).trans OQ))) fun bU bb Gv=>⟨g2,bU,aF.trans bb,Gv,trivial,trivial⟩
theorem uM(W:Wd C P)(hlim:C.hb.NoLimit)(hfn:∀k f,P.fs.get k=some f→vb C k f)(H:vk C ih d){ok:Bool}{c:Nat}(e:(xR P ih ok (.cls c) as s).leaf C.ν=some (v,s'))(S:aq C J M s st.heap)(R:bu A (d+1))(z:cm C Z J st.heap)(V:ay C J M st.heap as ras)(K:KV C Z J M st v s' Q):
  (∀Q E,(∀k,Q k st)→ab (Md C) A (keeperOf (.ref (C.dq c))) Q E st)∧ab (Md C) A (call (.ref (C.dq c)) ras []) Q E st:=by
 refine aC (aI e) fun p hc e=>⟨fun Q E K=>wm W hc S K,?_⟩
 refine aH.cM e fun i ag e1 e=>aH.cM e fun j aK e2 e=>aH.cM e fun w bM e3 e4=>aw (cO e4) fun hw e5=>?_
 obtain⟨SP,rfl,rfl⟩:=fh e1
 obtain⟨SN,rfl,rfl⟩:=fh e2
 refine aC (aI e3) fun fn hfs Y=>?_
 rw [Dg hw]at e3;have O:=W.cls _ _ _ hc
 have X:=OP W S
 obtain⟨hh,g,dr,t,os⟩:=st
 refine R6 (K5 (Z:=Z) (c:=c) (hh:=hh) S SP SN) fun g2 bU G Gv wF Y=>?_
 refine dC (zb (makes_of X O.UH) (looks_findIn X O.UN.1) (fun self=>bind_fn X self O.UN.2) (.inl rfl) ?_)
 refine dN (vA A (C.dq c) ras []) fun u1 u2 u3=>?_
 refine yD hlim H (k:=p.1) (f:=fn) hfs (hfn _ _ hfs) (ras:=.ref (hh.objs.size+1)::ras) e3 bU ⟨u1.trans R.1,by rw [u2];have:=R.2.1;lia,by rw [u3];have:=R.2.2;lia⟩ (z.grow G) (.cons (.ref _ _ Gv) (V.grow G)) fun σ' M' h' tk rv G' S' V'=>?_
 exact(ao.inv V':rv=.none)▸⟨rfl,K.of e5 σ' M' h' tk _ (G.trans G') S' ((ao.ref _ _ Gv).grow G')⟩
end
section
variable{ex:Expr}
theorem za{es:List CE}(hf:c0 C kd es xs)(pos:Pos):(backTo pos (starEach xs env)).all (!·.1)=true:=by
 induction es generalizing xs with
 |nil=>exact hf.nl▸rfl
 |cons a es ih=>exact hf.oZ fun x r Y h2 h3=>dX h2▸ih h3
theorem zO{es:List CE}{nm:Str}{apos:Pos}(h3:∀id p q,x≠.Call (.Name id p) [] [] q)(hf:c0 C kd es xs)(hl:xs.length<30)(hp:(apos.endLine==pos.line)=true)
  (h:ab (Md C) A (eval x env) (fun ov ag=>ab (Md C) A (getMethod ov nm (do return (←importBound x env).getD true)) (fun fx aK=>ab (Md C) A (callWith pos fx.1 fx.2 (backTo pos (starEach xs env)) []) Q E aK) E ag) E st):
  ab (Md C) A (eval (.Call (.Attribute x nm apos) xs [] pos) env) Q E st:=by
 have q:eval (.Call (.Attribute x nm apos) xs [] pos) env=(do
   let ov←attributeBase x nm env (eval x env)
   standAt apos.atName
   methodCall x nm apos pos env ov (xs.length+0) (backTo pos (starEach xs env)) []):=rfl
 rw [q,uW h3];have hm:methodCallForm (xs.length+0) (backTo pos (starEach xs env)) []=true:=by
  unfold methodCallForm;rw [za hf pos]
  simpa using hl
 refine aa (aG h (fun ov ag h₁=>aa (au ?_)) fun Y Y x=>x)
 unfold methodCall calleeOf methodCallPos;rw [hm];refine aa (aj (aG (by simpa using h₁) (fun fx aK br=>?_) fun Y Y x=>x))
 simp only[hp,Bool.not_true,Bool.false_or,if_true]
 exact aa (af br)
theorem pR(H:gu C ih d)(HC:Qw C ih d){g:AV}{first:List AV}{rg:Value}{rf:List Value}{es:List CE}(e:((qC ih es ρ s).bind fun(vs,s)=>ih.ca g (first++vs) s).leaf C.ν=some (v,s'))(h3:c0 C kd es xs)(F:fu C Z J M kd env ρ st.heap)
  (S:aq C J M s st.heap)(R:bu A d)(z:cm C Z J st.heap)(Vg:ao C J M st.heap g rg)(Vf:ay C J M st.heap first rf)(K:KV C Z J M st v s' Q):ab (Md C) A (callWith pos rg rf (backTo pos (starEach xs env)) []) Q E st:=by
 refine aH.cM e fun vs aK e2 e=>?_
 refine eU (gz h3 pos) (dY h3 pos (gn H e2 h3 pos F S R z fun cy dU br bf rvs bb bU d7=>?_))
 have c:=HC g (first++vs) aK v s' e Z cy dU A {st with heap:=br,toks:=bf} rg (rf++rvs) bU R (z.grow bb) (Vg.grow bb) ((Vf.grow bb).append d7)
 exact⟨c.1,c.2 _ _ (K.after bb)⟩
theorem te{l:List (Nat×AV)}(inj:∀x y,C.nm x=C.nm y→x=y)(R:cj C J M h l es)(e:az l n=none):shadowIn (some (bK es k)) (C.nm n)=some false:=by
 have:=R.find inj n
 rw [e]at this;show(lookIn (C.nm n) (bK es k)).map (·.isSome)=some false;rw [lookIn_dict R.noRef,show es.find? _=none from this];rfl
end
end
end Mine.Internal
namespace Mine.Internal
open PySem PySem.W PyProof.Rows PySem.SeqAt PySem.Builtin.Str
noncomputable section
variable{Q:Value→Shared→Prop}{h:Heap}{i:Nat}{l we:List AV}{vs:List Value}
structure MC(C:Cx)(N:pa):Prop where
 append:C.nm N.append="append"
 extend:C.nm N.extend="extend"
 pop:C.nm N.pop="pop"
 split:C.nm N.split="split"
 find:C.nm N.find="find"
 join:C.nm N.join="join"
 get:C.nm N.get="get"
theorem pz{a b:Nat}(h:Nat.beq a b=true):a=b:=aL h
theorem ig(t:Str):aR t.cps.toList=t:=by cases t;simp[aR]
section
variable{C:Cx}{P:Pg}{N:pa}{ih:Ih}{d:Nat}{ρ:Env}{s s':AS}{v w:AV}{kd:Kd}{Z:Addr→Prop}{J:List Addr}{M:Addr→Prop}{env:PySem.Env}{A:Around}{st:Shared}{ex:Expr}{E:Value→Shared→Prop}
theorem sZ:∀(l:List (Str×Tok)),ay C J M h ((l.map (·.1)).map fun t=>AV.str t.cps.toList) (strValues l)
 |[]=>.nil
 |(t,k)::r=>by
  refine .cons (v:=.str t k) ?_ (sZ r)
  have q:ao C J M h (.str t.cps.toList) (.str (aR t.cps.toList) k):=ao.str t.cps.toList k
  rwa[ig]at q
theorem fG(f:Array Value→Array Value)(vs ws:List Value)(n:Nat)(h:f vs.toArray=ws.toArray):∃n',Obj.mapSeq f (bZ vs n)=bZ ws n':=by
 refine⟨if(f vs.toArray).size==vs.toArray.size then n else n+1,?_⟩
 show({cls:=.type "list",data:=.seq (f vs.toArray) _}:Obj)=_
 rw [h]
set_option tactic.hygienic true in
theorem E4{x y:List Nat}{t u:Tok}(e:((match Nat.ble 1 y.length with
    |true=>jP x.length (jP (Txt.split ⟨x.toArray⟩ ⟨y.toArray⟩).length (newList s ((Txt.split ⟨x.toArray⟩ ⟨y.toArray⟩).map fun(t:Str)=>AV.str t.cps.toList)))
    |false=>.bad 42).leaf C.ν)=some (v,s'))(S:aq C J M s st.heap)(K:KV C Z J M st v s' Q):ab (Md C) A (call (.builtin "str.split") [.str (aR x) t,.str (aR y) u] []) Q E st:=by
 split at e
 ·rename_i hy
  refine aw (bC e:) fun hx e=>?_
  refine aw (bC e:) fun hn e=>?_
  have hy:((aR y).length==0)=false:=by
   rw [beq_eq_false_iff_ne,jk];have:=bF hy
   lia
  have SF:(aR x).length≤sizeLine:=by rw [jk];exact bN hx
  have key:∀(l:List (Str×Tok)) tk,l.map (·.1)=Txt.split (aR x) (aR y)→Q (.ref st.heap.objs.size) {st with heap:=st.heap.push (bZ (strValues l) 0),toks:=tk}:=fun l tk hl=>by
   refine gE e S ?_ K tk (fun Y Y e=>cP _ e) (Heap.bc _) (Heap.get?_push_size _ rfl)
   show ay C J M st.heap ((Txt.split (aR x) (aR y)).map _) _;rw [←hl];exact sZ l
  cases h1:(decide ((aR x).length<(aR y).length)||decide (PySem.Builtin.Str.strKind (aR x)<PySem.Builtin.Str.strKind (aR y)))
  ·cases hf:(occurrences (aR x) (aR y) 0 (aR x).length ((aR x).length+1)).isEmpty
   ·have hsp:Txt.split (aR x) (aR y)=partsBetween (aR x) (occurrences (aR x) (aR y) 0 (aR x).length ((aR x).length+1)) (aR y).length:=(if_neg (ne_true_of_eq_false h1)).trans (if_neg (ne_true_of_eq_false hf))
    have W6:(partsBetween (aR x) (occurrences (aR x) (aR y) 0 (aR x).length ((aR x).length+1)) (aR y).length).length≤sizeLine:=by
     rw [←hsp];exact bN hn
    refine lf<|call_meets PySem.F.slot_str_split (typeIs_str _ _ _) PySem.F.entry_str_split (PySem.F.args_str_split_2 _ _) (meets_str_split_sep (aR x) (aR y) t u h1 hy hf SF W6) ?_
    show wants Q E _ {st with toks:=_,heap:=st.heap.push {cls:=.type "list",data:=.seq (strsFrom st.toks (partsBetween (aR x) (occurrences (aR x) (aR y) 0 (aR x).length ((aR x).length+1)) (aR y).length)).toArray}}
    rw [strsFrom_eq];exact key (numbered st.toks _) _ ((numbered_texts _ _).trans hsp.symm)
   ·exact lf<|call_meets PySem.F.slot_str_split (typeIs_str _ _ _) PySem.F.entry_str_split (PySem.F.args_str_split_2 _ _) (meets_str_split_not_found (aR x) (aR y) t u h1 hy hf)
     (key [(aR x,t)] st.toks ((if_neg (ne_true_of_eq_false h1)).trans (if_pos hf)).symm)
  ·exact lf<|call_meets PySem.F.slot_str_split (typeIs_str _ _ _) PySem.F.entry_str_split (PySem.F.args_str_split_2 _ _) (meets_str_split_cannot_occur (aR x) (aR y) t u h1)
    (key [(aR x,t)] st.toks (if_pos h1).symm)
 ·injection e
theorem l7{α γ:Type}{f:AV→Option α}(g:γ→Value)(T:α→γ→Prop)(hf:∀{a x v},f a=some x→ao C J M h a v→∃c,v=g c∧T x c):∀{xs:List α}{vs:List Value},allOf f l=some xs→ay C J M h l vs→∃m:List (α×γ),xs=m.map (·.1)∧vs=m.map (fun p=>g p.2)∧∀p∈m,T p.1 p.2:=by
 induction l with
 |nil=>exact fun e R=>⟨[],(bg e).symm,R.nl,fun Y m=>nomatch m⟩
 |cons a l ih=>
  exact fun e R=>aC (aM e) fun x hx e=>aC (aM e) fun ys hy e=>j8 R.un fun v vg ev V R=>aC (hf hx V) fun c hc hT=>lM (ih hy R) fun m h1 h2 h3=>
   ⟨(x,c)::m,(bg e).symm.trans (congrArg (x::·) h1),ev.trans (hc▸h2▸rfl),fun p hp=>(cK hp).elim (fun q=>q▸hT) (h3 p)⟩
theorem BZ{xs:List (List Nat)}(e:allOf strOf l=some xs)(R:ay C J M h l vs):∃m:List (Str×Tok),vs=strValues m∧m.map (·.1)=xs.map aR:=
 lM (l7 (γ:=Str×Tok) (fun p=>.str p.1 p.2) (fun x c=>c.1=aR x) (fun e V=>dF (zt e▸V:ao C J M h (.str _) _).str_inv fun t q=>⟨(_,t),q,rfl⟩) e R) fun m h1 h2 h3=>
  ⟨m.map (·.2),h2.trans (by unfold strValues;rw [List.map_map];rfl),by rw [h1,List.map_map,List.map_map];exact List.map_congr_left h3⟩
theorem Ex{a rv:Value}(S:aq C J M s st.heap)(z:cm C Z J st.heap)(hnf:C.nf≤i)(el:s.get i=some (.list l))(hl:l.length+1≤100000)(Va:ao C J M st.heap (.ref i) a)(Vw:ao C J M st.heap w rv)(K:KV C Z J M st .none (s.upd i (.list (l++[w]))) Q):
  ab (Md C) A (call (.builtin "list.append") [a,rv] []) Q E st:=by
 refine Va.listE S el fun x vs n hx ex Vs=>?_
 have hlen:=Vs.length
 refine lf<|call_meets PySem.F.slot_list_append ⟨_,ex,rfl⟩ PySem.F.entry_list_append (PySem.F.args_list_append_2 _ _) (list_append x vs.toArray n rv (by rw [cW,←hlen];exact bN (by lia))) ⟨ex,?_⟩
 have U:=S.update (Z:=Z) (f:=Obj.mapSeq fun q=>q.push rv) (o:=.list (l++[w])) hx hnf z el ex rfl fun G hg=>by
  refine dF (fG (fun q=>q.push rv) vs (vs++[rv]) n (by simp):) fun n' q=>?_
  exact .list _ _ (vs++[rv]) n' (hg.trans (congrArg some q)) ((Vs.append (.cons Vw .nil)).grow G)
 exact K J M _ _ .none U.2 U.1 .none
theorem Ew{j:Nat}{m:List AV}{a b:Value}(S:aq C J M s st.heap)(z:cm C Z J st.heap)(hnf:C.nf≤i)(el:s.get i=some (.list l))(em:s.get j=some (.list m))(hl:l.length+m.length≤100000)(Va:ao C J M st.heap (.ref i) a)(Vb:ao C J M st.heap (.ref j) b)(K:KV C Z J M st .none (s.upd i (.list (l++m))) Q):
  ab (Md C) A (call (.builtin "list.extend") [a,b] []) Q E st:=by
 refine Va.listE S el fun x vs n hx ex Vs=>?_
 refine Vb.listE S em fun y ws k hy ey Ws=>?_
 have hlen:=Vs.length
 have Dq:=Ws.length
 have hs:vs.toArray.size+ws.toArray.size≤sizeLine:=by rw [cW,cW,←hlen,←Dq];exact bN hl
 refine lf<|call_meets PySem.F.slot_list_extend ⟨_,ex,rfl⟩ PySem.F.entry_list_extend (PySem.F.args_list_extend_2 _ _) (AutoSeq1.list_extend_list_list_0 x vs.toArray n y ws.toArray k (extend_door hs) (Nat.le_trans (Nat.le_add_right _ _) hs) (Nat.le_succ_of_le hs)) ⟨ex,ey,?_⟩
 have U:=S.update (Z:=Z) (f:=Obj.mapSeq fun q=>q++ws.toArray) (o:=.list (l++m)) hx hnf z el ex rfl fun G hg=>by
  refine dF (fG (fun q=>q++ws.toArray) vs (vs++ws) n (by simp):) fun n' q=>?_
  exact .list _ _ (vs++ws) n' (hg.trans (congrArg some q)) ((Vs.append Ws).grow G)
 exact K J M _ _ .none U.2 U.1 .none
theorem ay.dropLast(V:ay C J M h l vs):ay C J M h l.dropLast vs.dropLast:=by
 rw [List.dropLast_eq_take,List.dropLast_eq_take,V.length];exact V.take _
theorem ay.last{w:AV}(V:ay C J M h l vs)(e:l.getLast?=some w):∃rv,vs[vs.length - 1]?=some rv∧ao C J M h w rv:=
 V.get (V.length▸List.getLast?_eq_getElem?.symm.trans e)
theorem Qc{a:Value}(S:aq C J M s st.heap)(z:cm C Z J st.heap)(hnf:C.nf≤i)(el:s.get i=some (.list l))(hl:l.length≤100000)(hw:l.getLast?=some w)(Va:ao C J M st.heap (.ref i) a)(K:KV C Z J M st w (s.upd i (.list l.dropLast)) Q):
  ab (Md C) A (call (.builtin "list.pop") [a] []) Q E st:=by
 refine Va.listE S el fun x vs n hx ex Vs=>?_
 have hlen:=Vs.length
 refine aC (Vs.last hw:) fun rv h1 h2=>?_
 refine lf<|call_meets PySem.F.slot_list_pop ⟨_,ex,rfl⟩ PySem.F.entry_list_pop (PySem.F.args_list_pop_1 _) (MeetsSeq.list_pop_last x vs.toArray n rv (by simpa using h1) (by rw [cW,←hlen];exact bN hl)) ⟨ex,?_⟩
 have U:=S.update (Z:=Z) (f:=Obj.mapSeq fun q=>q.eraseIdxIfInBounds (vs.toArray.size - 1)) (o:=.list l.dropLast) hx hnf z el ex rfl fun G hg=>by
  obtain⟨n',q⟩:=fG (fun q=>q.eraseIdxIfInBounds (vs.toArray.size - 1)) vs vs.dropLast n (by
   rcases List.eq_nil_or_concat vs with rfl|⟨p,y,rfl⟩
   ·rfl
   ·unfold Array.eraseIdxIfInBounds
    simp only[List.concat_eq_append,cW,List.length_append,List.length_singleton,Nat.add_sub_cancel,List.dropLast_concat]
    rw [dif_pos (Nat.lt_succ_self _)];apply Array.toList_inj.mp;rw [Array.toList_eraseIdx,List.eraseIdx_append_of_length_le (Nat.le_refl _)];simp)
  exact .list _ _ vs.dropLast n' (hg.trans (congrArg some q)) (Vs.dropLast.grow G)
 exact K J M _ _ rv U.2 U.1 (h2.grow U.2)
end
def iA(C:Cx):Prop:=(∀(A:Around)(st:Shared)(E:Value→Shared→Prop)(a:Array UInt8)(t:Tok)(pl:Sem Bool)(Q:Value×List Value→Shared→Prop),Q (.builtin "bytes.join",[.bytes a t]) st→ab (Md C) A (getMethod (.bytes a t) "join" pl) Q E st)∧
 ∀(A:Around)(st:Shared)(E:Value→Shared→Prop)(t:Tok)(x:Addr)(bs:List (Array UInt8×Tok))(n:Nat)(Q:Value→Shared→Prop),st.heap.get? x=some (bZ (bs.map fun p=>.bytes p.1 p.2) n)→2≤bs.length→(bs.map fun p=>p.1.toList).flatten.length≤100000→bs.length≤100000→
  (∀tk t',Q (.bytes (bs.map fun p=>p.1.toList).flatten.toArray t') {st with toks:=tk})→ab (Md C) A (call (.builtin "bytes.join") [.bytes #[] t,.ref x] []) Q E st
section
variable{C:Cx}{P:Pg}{N:pa}{ih:Ih}{d:Nat}{ρ:Env}{s s':AS}{v w:AV}{kd:Kd}{Z:Addr→Prop}{J:List Addr}{M:Addr→Prop}{env:PySem.Env}{A:Around}{st:Shared}{ex:Expr}{E:Value→Shared→Prop}
theorem Aw{xs:List (List IE)}(e:allOf L9 l=some xs)(R:ay C J M h l vs):∃m:List (Array UInt8×Tok),vs=m.map (fun p=>Value.bytes p.1 p.2)∧m.map (fun p=>p.1.toList)=xs.map (fun l=>l.map (cz C.ν))∧∀l∈xs,bq C.ν l:=
 lM (l7 (γ:=Array UInt8×Tok) (fun p=>.bytes p.1 p.2) (fun x c=>c.1.toList=x.map (cz C.ν)∧bq C.ν x) (fun e V=>aw (Ek e▸V:ao C J M h (.bytes _) _).inv fun b q=>dF q fun t q=>⟨(_,t),q,rfl,b⟩) e R) fun m h1 h2 h3=>
  ⟨m.map (·.2),h2.trans (by rw [List.map_map];rfl),by rw [h1,List.map_map,List.map_map];exact List.map_congr_left fun p hp=>(h3 p hp).1,fun l hl=>aC (List.mem_map.mp (h1▸hl):∃p,p∈m∧p.1=l) fun p hp q=>q▸(h3 p hp).2⟩
theorem ao.Fy(t:Str)(k:Tok):ao C J M h (.str t.cps.toList) (.str t k):=by
 have q:ao C J M h (.str t.cps.toList) (.str (aR t.cps.toList) k):=ao.str t.cps.toList k
 rwa[ig]at q
theorem zY{id:String}{Q:Keeper→Shared→Prop}(K:∀k,Q k st):ab (Md C) A (keeperOf (.builtin id)) Q E st:=af (K _)
structure AY(C:Cx)(A:Around)(E:Value→Shared→Prop)(v:AV)(nm:Str)(cL s:AS)(vs:List AV)(w:AV)(s':AS)(id:String):Prop where
 get:∀J M st rv pl(Q:Value×List Value→Shared→Prop),aq C J M cL st.heap→ao C J M st.heap v rv→Q (.builtin id,[rv]) st→ab (Md C) A (getMethod rv nm pl) Q E st
 call:∀Z J M st rv rvs(Q:Value→Shared→Prop),aq C J M s st.heap→cm C Z J st.heap→ao C J M st.heap v rv→ay C J M st.heap vs rvs→KV C Z J M st w s' Q→ab (Md C) A (call (.builtin id) (rv::rvs) []) Q E st
section
variable{cL:AS}{vs:List AV}
theorem A8{x:List Nat}(e:(CT x vs s).leaf C.ν=some (w,s')):AY C A E (.str x) "split" cL s vs w s' "str.split":=by
 obtain⟨a,rfl,e⟩:=ij e
 obtain⟨y,rfl,e⟩:=dD e
 refine⟨fun J M st rv pl Q S V q=>?_,fun Z J M st rv rvs Q S z V Vs K=>?_⟩
 ·revert q
  exact V.gO fun t q=>lf (PySem.GM.split q)
 ·refine V.gO fun t=>?_
  obtain⟨_,rfl,V'⟩:=Vs.one
  refine V'.gO fun u=>?_
  exact E4 e S K
theorem Gl{x:List Nat}(e:(IY x vs s).leaf C.ν=some (w,s')):AY C A E (.str x) "find" cL s vs w s' "str.find":=by
 obtain⟨a,b,rfl,e⟩:=kR e
 obtain⟨y,rfl,e⟩:=dD e
 obtain⟨i,rfl,e⟩:=aX e
 cases i with
 |c k=>
  injection e with e;injection e with e aN;subst e aN;refine⟨fun J M st rv pl Q S V q=>?_,fun Z J M st rv rvs Q S z V Vs K=>?_⟩
  ·revert q
   exact V.gO fun t q=>lf (PySem.GM.find q)
  ·refine V.gO fun t=>?_
   obtain⟨_,_,rfl,V',W'⟩:=Vs.two
   refine V'.gO fun u=>?_
   refine W'.eN fun u'=>?_
   exact lf<|PySem.SC.find3 (K.now S (.int _ _ _ rfl) _)
 |_=>exact no e
theorem Gk{x:List Nat}(e:(IX x vs s).leaf C.ν=some (w,s')):AY C A E (.str x) "join" cL s vs w s' "str.join":=by
 obtain⟨a,rfl,e⟩:=ij e
 obtain⟨i,l,rfl,el,e⟩:=eS e
 refine aC (aI e:) fun xs hx e=>?_
 rcases dG e with⟨hj,e⟩|⟨_,e⟩
 ·injection e with e;injection e with e aN;subst e aN
  refine⟨fun J M st rv pl Q S V q=>?_,fun Z J M st rv rvs Q S z V Vs K=>?_⟩
  ·revert q
   exact V.gO fun t q=>lf (PySem.GM.join q)
  ·refine V.gO fun t=>?_
   obtain⟨_,rfl,V'⟩:=Vs.one
   refine V'.listE S el fun y vs k hy ey Vl=>?_
   obtain⟨m,rfl,hm⟩:=BZ hx Vl
   refine lf<|PySem.SC.join (l:=m) ⟨_,ey,rfl,k,rfl⟩ hm hj fun t' k'=>?_
   exact K.now S (ao.Fy _ t') _
 ·exact no e
theorem CR(HJ:iA C){x:List IE}(e:(CV x vs s).leaf C.ν=some (w,s')):AY C A E (.bytes x) "join" cL s vs w s' "bytes.join":=by
 obtain⟨a,rfl,e⟩:=ij e
 obtain⟨i,l,rfl,el,e⟩:=eS e
 refine aC (aI e) fun xs hx e=>aw (cO e) fun hb e=>aw (bC e) fun c1 e=>aw (bC e) fun c2 e=>?_
 refine⟨fun J M st rv pl Q S V q=>aw V.inv fun Y z=>dF z fun t z=>by rw [z]at q⊢;exact HJ.1 _ _ _ _ _ _ _ q,fun Z J M st rv rvs Q S z V Vs K=>?_⟩
 have WV:x=[]:=List.eq_nil_of_length_eq_zero (aL (ae hb).2)
 refine V.eH fun Y t=>aC Vs.one fun r q V'=>q▸V'.listE S el fun y vs k hy ey Vl=>lM (Aw hx Vl) fun m q hm hB=>?_
 have hq:(m.map fun p=>p.1.toList).flatten=xs.flatten.map (cz C.ν):=by rw [hm,List.map_flatten]
 have hn:l.length=m.length:=by rw [Vl.length,q,List.length_map]
 rw [q]at ey;rw [WV];refine HJ.2 _ _ _ _ _ m k _ ey (hn▸bF (ae hb).1) (by rw [hq,List.length_map];exact c1) (hn▸c2) fun tk t'=>?_
 rw [hq];exact(K.of e).now S (.bytes _ t' fun e he=>aC (List.mem_flatten.mp he) fun z h1 h2=>hB z h1 e h2) tk
theorem Ld{l:List (List Nat×AV)}(e:(Oz l vs s).leaf C.ν=some (w,s')):AY C A E (.eF l) "get" cL s vs w s' "dict.get":=by
 obtain⟨a,d,rfl,e⟩:=kR e
 obtain⟨k,rfl,e⟩:=dD e
 injection e with e;injection e with e aN;subst e aN;refine⟨fun J M st rv pl Q S V q=>?_,fun Z J M st rv rvs Q S z V Vs K=>?_⟩
 ·revert q
  exact V.w3 fun a es n ha hs ea Ra q=>lf<|getMethod_builtin (T:="dict") ⟨_,ea,rfl⟩ PySem.F.plainAttrs_dict PySem.F.slot_dict_get PySem.F.type_dict_get (fun a q=>by injection q with q;subst q;exact⟨_,ea,rfl⟩) q
 ·refine V.w3 fun a es n ha hs ea Ra=>?_
  obtain⟨_,_,rfl,V',W'⟩:=Vs.two
  refine V'.gO fun u=>?_
  refine lf<|call_meetsIn PySem.F.slot_dict_get ⟨_,ea,rfl⟩ PySem.F.entry_dict_get (PySem.F.args_dict_get_3 _ _ _) (meets_dict_get_default (PySem.strKind C.prog C.w) a (strKind_is _ _ _ _) hs _) ⟨_,rX ea Ra,?_⟩
  have hf:=Ra.find k
  cases q:gL l k with
  |none=>rw [q]at hf K;rw [show es.find? _=none from hf];exact K.now S W' _
  |some w=>rw [q]at hf K;refine aC (hf:) fun en h1 h2=>?_;rw [h1];exact K.now S h2 _
theorem AY.list(jD:cL.get i=some (.list we)){id:String}{nm:Str}(slot:Slot "list" nm id)(ty:typeOf (.builtin id)=pure (.type "method_descriptor"))
  (H:∀Z J M st rv rvs(Q:Value→Shared→Prop),aq C J M s st.heap→cm C Z J st.heap→ao C J M st.heap (.ref i) rv→ay C J M st.heap vs rvs→KV C Z J M st w s' Q→ab (Md C) A (PySem.call (.builtin id) (rv::rvs) []) Q E st):AY C A E (.ref i) nm cL s vs w s' id:=
 ⟨fun J M st rv pl Q S V q=>by
  revert q
  exact V.listE S jD fun x vs n hx ex Vs q=>lf<|getMethod_builtin (T:="list") ⟨_,ex,rfl⟩ PySem.F.plainAttrs_list slot ty (fun a q=>by injection q with q;subst q;exact⟨_,ex,rfl⟩) q,H⟩
theorem Lf(jD:cL.get i=some (.list we))(hnf:C.nf≤i)(el:s.get i=some (.list l))(e:(OB i l vs s).leaf C.ν=some (w,s')):AY C A E (.ref i) "append" cL s vs w s' "list.append":=by
 obtain⟨a,rfl,e⟩:=ij e
 refine aw (bC e:) fun c1 e=>?_
 injection e with e;injection e with e aN;subst e aN;refine .list jD PySem.F.slot_list_append PySem.F.type_list_append fun Z J M st rv rvs Q S z V Vs K=>?_
 obtain⟨_,rfl,V'⟩:=Vs.one
 exact Ex S z hnf el c1 V V' K
theorem Le(jD:cL.get i=some (.list we))(hnf:C.nf≤i)(el:s.get i=some (.list l))(e:(OA i l vs s).leaf C.ν=some (w,s')):AY C A E (.ref i) "extend" cL s vs w s' "list.extend":=by
 obtain⟨a,rfl,e⟩:=ij e
 obtain⟨j,m,rfl,em,e⟩:=eS e
 refine aw (bC e:) fun c1 e=>?_
 injection e with e;injection e with e aN;subst e aN;refine .list jD PySem.F.slot_list_extend PySem.F.type_list_extend fun Z J M st rv rvs Q S z V Vs K=>?_
 obtain⟨_,rfl,V'⟩:=Vs.one
 exact Ew S z hnf el em c1 V V' K
theorem K9(jD:cL.get i=some (.list we))(hnf:C.nf≤i)(el:s.get i=some (.list l))(e:(Ox i l vs s).leaf C.ν=some (w,s')):AY C A E (.ref i) "pop" cL s vs w s' "list.pop":=by
 cases vs with
 |nil=>
  refine aC (aI e:) fun u hu e=>?_
  refine aw (bC e:) fun c1 e=>?_
  injection e with e;injection e with e aN;subst e aN;refine .list jD PySem.F.slot_list_pop PySem.F.type_list_pop fun Z J M st rv rvs Q S z V Vs K=>?_
  subst Vs;exact Qc S z hnf el c1 hu V K
 |cons _ _=>exact no e
theorem uR{a:AV}{o:Option AV}{m:Option Nat}{g:AV}{first:List AV}(e:jQ a o m=.own g first):(first=[]∧o=some g∧m=none∧jn g=true)∨∃k,g=.fn k∧first=[a]∧o=none∧m=some k:=by
 cases o with
 |none=>cases m with
  |none=>injection e
  |some k=>(injection e with e sL;subst e sL);exact .inr ⟨k,rfl,rfl,rfl,rfl⟩
 |some x=>cases m with
  |some _=>injection e
  |none=>
   unfold jQ at e
   dsimp only at e
   cases q:jn x with
   |true=>rw [q]at e;injection e with e sL;subst e sL;exact .inl ⟨rfl,rfl,rfl,q⟩
   |false=>rw [q]at e;injection e
theorem rY{a:AV}{o:Option AV}{m:Option Nat}(e:jQ a o m=.kind):False:=by
 cases o with
 |none=>cases m<;>injection e
 |some x=>cases m with
  |some _=>injection e
  |none=>
   unfold jQ at e
   dsimp only at e
   cases q:jn x<;>(rw [q]at e;injection e)
theorem my{n:Nat}{c:Callee}(e:lD P cL v n=c):(∃q p,instOf cL v=some q∧P.cs.get q.1=some p∧jQ v (az q.2.2 n) (gG p.2 n)=c)∨(∃k,c=.no k)∨(∃l,listOf cL v=some l)∧c=.kind:=by
 unfold lD at e;cases q:instOf cL v with
 |some q'=>
  rw [q]at e
  dsimp only[yO]at e
  cases z:P.cs.get q'.1 with
  |none=>rw [z]at e;exact .inr (.inl ⟨_,e.symm⟩)
  |some p=>rw [z]at e;exact .inl ⟨q',p,rfl,z,e⟩
 |none=>
  rw [q]at e
  dsimp only at e
  cases z:listOf cL v with
  |none=>rw [z]at e;exact .inr (.inl ⟨_,e.symm⟩)
  |some l=>rw [z]at e;exact .inr (.inr ⟨⟨l,rfl⟩,e.symm⟩)
theorem uQ{n:Nat}(hk:callee P cL (.ref i) n=.kind):∃we,cL.get i=some (.list we):=by
 have hk:lD P cL (.ref i) n=.kind:=hk
 rcases my hk with⟨_,_,_,_,h⟩|⟨k,h⟩|⟨⟨l,h⟩,_⟩
 ·exact(rY h).elim
 ·injection h
 ·refine aC (ql h:) fun j q h=>?_
  injection q with q;subst q;exact⟨l,h⟩
set_option tactic.hygienic true in
theorem Lc(W:MC C N)(Wd:Wd C P)(HJ:iA C){n:Nat}(hk:callee P cL v n=.kind)(e:(yf P N v n vs s).leaf C.ν=some (w,s')):∃id:String,AY C A E v (C.nm n) cL s vs w s' id:=by
 have at':∀{k:Nat}{nm:Str}{id:String},Nat.beq n k=true→C.nm k=nm→AY C A E v nm cL s vs w s' id→∃id:String,AY C A E v (C.nm n) cL s vs w s' id:=fun h q H=>⟨_,by rw [pz h,q];exact H⟩
 cases v with
 |str x=>
  rcases dG e with⟨h,e⟩|⟨_,e⟩
  ·exact at' h W.split (A8 e)
  rcases dG e with⟨h,e⟩|⟨_,e⟩
  ·exact at' h W.find (Gl e)
  rcases dG e with⟨h,e⟩|⟨_,e⟩
  ·exact at' h W.join (Gk e)
  exact no e
 |bytes x=>
  rcases dG e with⟨h,e⟩|⟨_,e⟩
  ·exact at' h W.join (CR HJ e)
  exact no e
 |eF l=>
  rcases dG e with⟨h,e⟩|⟨_,e⟩
  ·exact at' h W.get (Ld e)
  exact no e
 |ref i=>
  refine dF (uQ hk:) fun we jD=>?_
  unfold yf at e
  dsimp only at e
  split at e
  ·rename_i l el
   rcases dG e with⟨hnf,e⟩|⟨_,e⟩
   ·have hnf:C.nf≤i:=by rw [←Wd.nf];exact bF hnf
    rcases dG e with⟨h,e⟩|⟨_,e⟩
    ·exact at' h W.append (Lf jD hnf el e)
    rcases dG e with⟨h,e⟩|⟨_,e⟩
    ·exact at' h W.extend (Le jD hnf el e)
    rcases dG e with⟨h,e⟩|⟨_,e⟩
    ·exact at' h W.pop (K9 jD hnf el e)
    exact no e
   ·exact no e
  ·exact no e
 |_=>exact no e
end
end
end
end Mine.Internal
namespace Mine.Internal
open PySem PySem.W PyProof.Rows PySem.SeqAt
noncomputable section
variable{A:Around}{C:Cx}{E:Value→Shared→Prop}{M M' M₀ T Z Z' own:Addr→Prop}{N:pa}{P:Pg}{Q:Flow→Shared→Prop}{a:Addr}{b:List CS}{cs flat:Bool}{d k kind n:Nat}{elt:CE}{env:PySem.Env}{ex xe xi xt:Expr}{f:Fl}{h h':Heap}{ifs:List CE}{ih:Ih}{kd:Kd}{ks:List (List Nat)}{l:List AV}{m:Str→Option Value}{p pos:Pos}{ras:List Value}{rv:Value}{s s':AS}{sc:Scope}{src v w:AV}{st:Shared}{tg:List Nat}{x:Stmt}{xs:List Expr}{ys:List Stmt}{ρ ρ':Env}{J σ' dW:List Addr}
section
theorem xj{g:AV}{first:List AV}(e:callee P s v n=.own g first):∃c dd l f ms,instOf s v=some (c,dd,l)∧P.cs.get c=some (f,ms)∧
  ((first=[]∧az l n=some g∧gG ms n=none∧jn g=true)∨∃k,g=.fn k∧first=[v]∧az l n=none∧gG ms n=some k):=by
 have key:lD P s v n=.own g first:=by
  cases v<;>first|exact e|injection e
 rcases my key with⟨q,p,h1,h2,h⟩|⟨k,h⟩|⟨_,h⟩
 ·exact⟨_,_,_,_,_,h1,h2,uR h⟩
 ·injection h
 ·injection h
theorem Kt(W:Wd C P)(WN:MC C N)(HJ:iA C)(H:gu C ih d)(HC:Qw C ih d){o:CE}{es:List CE}{Q:Value→Shared→Prop}(e:(cF P N ih (.bG o n es) ρ s).leaf C.ν=some (v,s')){x1:Expr}{sN:Str}{apos:Pos}(h1:sN=C.nm n)(h2:n∈C.attrs)(h3:∀id p q,x1≠.Call (.Name id p) [] [] q)(h4:aW C kd o x1)(h5:c0 C kd es xs)(h6:xs.length<30)(h7:(apos.endLine==pos.line)=true)(F:fu C Z J M kd env ρ st.heap)(S:aq C J M s st.heap)(R:bu A d)(z:cm C Z J st.heap)(K:KV C Z J M st v s' Q):
  ab (Md C) A (eval (.Call (.Attribute x1 sN apos) xs [] pos) env) Q E st:=by
  subst h1;unfold cF at e;refine aH.cM e fun av ag e1 e=>?_
  refine zO h3 h5 h6 h7 (H _ ρ s av ag e1 kd _ h4 Z J M env A st F S R z _ _ fun aA aP h₁ aU rv aF aD cb=>?_)
  have e:(match callee P ag av n with
   |.own g first=>(qC ih es ρ ag).bind fun(vs,s)=>ih.ca g (first++vs) s
   |.kind=>(qC ih es ρ ag).bind fun(vs,s)=>yf P N av n vs s
   |.no k=>.bad k).leaf C.ν=some (v,s'):=e
  cases hq:callee P ag av n with
  |own g first=>
   rw [hq]at e;refine Wq (xj hq:) fun c dd l f ms hi hc hh=>?_
   have O:=W.cls _ _ _ hc
   have X:=OP (st:={st with heap:=h₁,toks:=aU}) W aD
   rcases hh with⟨rfl,hg,hm,hp⟩|⟨k,rfl,rfl,hg,hm⟩
   ·obtain⟨x,dx,lA,k,hx,i1,i2,i3,i4,i5⟩:=instOf_inv (st:={st with heap:=h₁,toks:=aU}) aD cb hi
    subst hx;refine lf (method_usual X (inst_at i1 i4) O.ga O.gt (O.own n h2 hm) rfl ?_);refine uk W (Z:=Z) (st:={st with heap:=h₁,toks:=aU}) aD cb hi hc h2 hm hg hp fun cy dU br bf rg bb bU d7=>?_
    have G:=aF.trans bb
    exact pR (st:={st with heap:=br,toks:=bf}) H HC e h5 (F.grow G) bU R (z.grow G) d7 .nil (K.after G)
   ·obtain⟨x,dx,lA,k',hx,i1,i2,i3,i4,i5⟩:=instOf_inv (st:={st with heap:=h₁,toks:=aU}) aD cb hi
    subst hx;obtain⟨m1,m2⟩:=O.WG n k hm
    refine lf<|method_fn X (inst_at i1 i4) O.ga O.gt m1 m2 (te W.inj i5 hg) ?_
    exact pR (st:={st with heap:=h₁,toks:=aU}) H HC e h5 (F.grow aF) aD R (z.grow aF) (.fn k) (.cons cb .nil) (K.after aF)
  |kind=>
   rw [hq]at e;refine aH.cM e fun vs aK e2 e=>?_
   obtain⟨id,m1,m2⟩:=Lc WN W HJ hq e
   refine m1 _ _ {st with heap:=h₁,toks:=aU} _ _ _ aD cb ?_
   refine eU (gz h5 _) (dY h5 _ (gn H e2 h5 _ (st:={st with heap:=h₁,toks:=aU}) (F.grow aF) aD R (z.grow aF) fun cy dU br bf rvs bb bU d7=>?_))
   have G:=aF.trans bb
   exact⟨fun Q E K=>zY K,m2 _ _ _ {st with heap:=br,toks:=bf} _ _ _ bU (z.grow G) (cb.grow bb) d7 (K.after G)⟩
  |no k=>rw [hq]at e;exact no e
end
section
def KS(C:Cx)(Z:Addr→Prop)(J:List Addr)(M own:Addr→Prop)(kd:Kd)(cs:Bool)(env:PySem.Env)(st:Shared)(f:Env→Option Env)(s:AS)(Q:Unit→Shared→Prop):Prop:=
 ∀h' tk,aJ Z J M st.heap J M h'→aq C J M s h'→(∀Z₀ gU b7,f gU=some b7→dk C Z₀ J M own kd cs env gU st.heap→dk C Z₀ J M own kd cs env b7 h')→Q () {st with heap:=h',toks:=tk}
theorem B1(h:pO C kd cs tg xs):(assignEach xs env).length=tg.length∧(assignEach xs env).findIdx? (·.1)=none:=by
 refine h.ind ⟨rfl,rfl⟩ fun Y sN Y Y Y h1 h2 h3 ih=>?_
 ·refine⟨by rw [List.length_cons,←ih.1];rfl,?_⟩
  show List.findIdx? _ ((false,_)::_)=none;rw [List.findIdx?_cons,ih.2];rfl
theorem Fz(inj:∀x y,C.nm x=C.nm y→x=y)(h:pO C kd cs tg xs):∀{l:List AV}{vs:List Value}{ρ:Env}{st:Shared}{Q:Unit→Shared→Prop},tg.length=l.length→ay C J M st.heap l vs→dk C Z J M own kd cs env ρ st.heap→aq C J M s st.heap→
  KS C Z J M own kd cs env st (fun ρ=>some ((tg.zip l).foldl (fun ρ p=>bV ρ p.1 p.2) ρ)) s Q→ab (Md C) A (assignInOrder ((assignEach xs env).map (·.2)) vs) Q E st:=by
 refine fun{l}{vs}{ρ}{st}{Q}=>cw.ind (P:=fun tg xs=>∀(l:List AV)(vs:List Value)(ρ:Env)(st:Shared)(Q:Unit→Shared→Prop),tg.length=l.length→ay C J M st.heap l vs→dk C Z J M own kd cs env ρ st.heap→aq C J M s st.heap→
  KS C Z J M own kd cs env st (fun ρ=>some ((tg.zip l).foldl (fun ρ p=>bV ρ p.1 p.2) ρ)) s Q→ab (Md C) A (assignInOrder ((assignEach xs env).map (·.2)) vs) Q E st) h ?_ ?_ l vs ρ st Q
 ·intro l vs ρ st Q hl V F S K
  cases l with
  |nil=>exact V.nl▸lf (assignInOrder_nil (K _ st.toks (aJ.refl _ _ _ _) S fun Y Y Y q F=>by injection q with q;subst q;exact F))
  |cons a r=>injection hl
 ·intro x sN pos tg xs h1 h2 h3 ih l vs ρ st Q hl V F S K
  cases l with
  |nil=>injection hl
  |cons a l=>
   subst h1;refine V.oZ fun v r V r=>assignInOrder_cons (dz (gy inj h2 F S V fun h' tk G S' F'=>?_))
   refine ih _ _ _ {st with heap:=h',toks:=tk} _ (by simpa using hl) (r.grow G) (F' _ _ F) S' fun qo ET G' u5 QJ=>?_
   exact K qo ET (G.trans G') u5 fun Z₀ gU b7 q xy=>QJ Z₀ _ _ q (F' Z₀ gU xy)
theorem lF(h:Nat.beq tg.length l.length=true):iy tg false (.t l) ρ=some ((tg.zip l).foldl (fun ρ p=>bV ρ p.1 p.2) ρ):=by
 show ck (Nat.beq tg.length l.length) _=_;rw [h];rfl
theorem qK(e:iy tg false v ρ=some ρ'):∃l,v=.t l∧Nat.beq tg.length l.length=true∧ρ'=(tg.zip l).foldl (fun ρ p=>bV ρ p.1 p.2) ρ:=by
 cases v with
 |t l=>
  refine aw (aB e:) fun h e=>?_
  injection e with e;subst e;exact⟨l,rfl,h,rfl⟩
 |_=>exact no e
theorem AF(e:iy tg true v ρ=some ρ'):∃x,tg=[x]∧ρ'=bV ρ x v:=by
 cases tg with
 |nil=>exact no e
 |cons x r=>cases r with
  |nil=>(injection e with e;subst e);exact⟨x,rfl,rfl⟩
  |cons _ _=>exact no e
theorem rq(inj:∀x y,C.nm x=C.nm y→x=y)(h:mN C kd cs tg flat xt){Q:Unit→Shared→Prop}(hh:A.handled=none)(e:iy tg flat v ρ=some ρ')(V:ao C J M st.heap v rv)(F:dk C Z J M own kd cs env ρ st.heap)(S:aq C J M s st.heap)
  (K:KS C Z J M own kd cs env st (iy tg flat v) s Q):ab (Md C) A (assign xt env rv) Q E st:=by
 cases flat with
 |true=>
  refine o7 h.N8 fun y sN pos q1 q2 h1 h2=>?_
  rw [q1]at e K;rw [h1]at q2 h2;rw [q2];injection e with e;subst e;exact dz (gy inj h2 F S V fun h' tk G S' F'=>K h' tk G S' fun Z₀ gU b7 q xy=>by injection q with q;subst q;exact F' Z₀ gU xy)
 |false=>
  refine mU h.CQ fun xs Y Y q h1=>?_
  rw [q];obtain⟨l,rfl,hlb,rfl⟩:=qK e
  have hl:=pz hlb
  refine V.kS fun a vs n ha ea Va=>?_
  have ht:IsTup st.heap a vs.toArray:=⟨_,ea,rfl,n,rfl⟩
  have hlen:=Va.length
  refine aw (B1 (env:=env) h1:) fun l1 l2=>?_
  refine gw hh ht (by rw [l1,hl,hlen,cW]) l2 fun h' he=>?_
  have hk:∀b o,st.heap.get? b=some o→h'.get? b=some o:=fun b o e=>he b o (Nat.ne_of_lt (Heap.lt_size e)) e
  rw [List.toList_toArray];refine Fz (st:={st with heap:=h'}) inj h1 hl (Va.grow (aJ.heap Z J M hk)) (F.grow (aJ.heap _ J M hk)) (S.heap hk) fun qo ET G' u5 QJ=>?_
  exact K qo ET ((aJ.heap Z J M hk).trans G') u5 fun Z₀ gU b7 q xy=>QJ Z₀ gU b7 ((lF hlb).symm.trans q) (xy.grow (aJ.heap _ J M hk))
structure jJ(C:Cx)(kind:Nat)(src:AV)(I:Addr)(T:Addr→Prop)(St:List Addr→(Addr→Prop)→Nat→Heap→Prop):Prop where
 keep:∀{Z:Addr→Prop}{J:List Addr}{M:Addr→Prop}{h:Heap}{σ':List Addr}{M':Addr→Prop}{h':Heap}{k:Nat},(∀a,T a→Z a)→aJ Z J M h σ' M' h'→St J M k h→St σ' M' k h'
 self:∀{J:List Addr}{M:Addr→Prop}{k:Nat}{A:Around}{st:Shared}{Q E:Value→Shared→Prop},A.handled=none→St J M k st.heap→Q (.ref I) st→ab (Md C) A (pyIter (.ref I)) Q E st
 next:∀{Z:Addr→Prop}{J:List Addr}{M:Addr→Prop}{s:AS}{st:Shared}{k:Nat}{A:Around}{E:Value→Shared→Prop}{r:Option AV}{Q:Option Value→Shared→Prop},A.handled=none→aq C J M s st.heap→(∀a,T a→M a∧¬Z a∧a∉J∧∀p∈C.tabs,a≠p.2)→St J M k st.heap→(iQ s kind src k).leaf C.ν=some r→
  (r=none→∀h' tk,(∀b o,¬T b→st.heap.get? b=some o→h'.get? b=some o)→Q none {st with heap:=h',toks:=tk})→
  (∀v,r=some v→∀h' tk rv,aJ Z J M st.heap J M h'→aq C J M s h'→ao C J M h' v rv→
   (∀(target:Expr)(A:Around)(Q:Unit→Shared→Prop)(E:Value→Shared→Prop),(kind=0∨∃xs k pos,target=.Tuple xs k pos)→(∀qo,aJ Z J M h' J M qo→aq C J M s qo→St J M (k+1) qo→Q () {st with heap:=qo,toks:=tk})→ab (Md C) A (letOwnedTupleGo target (.ref I) rv) Q E {st with heap:=h',toks:=tk})→
   Q (some rv) {st with heap:=h',toks:=tk})→
  ab (Md C) A (pyNext (.ref I)) Q E st
def Made(C:Cx)(kind:Nat)(src:AV)(s:AS)(J:List Addr)(M:Addr→Prop)(st:Shared)(A:Around)(t:Sem Value):Prop:=∀(Q E:Value→Shared→Prop),
 (∀I T St h' tk,jJ C kind src I T St→T I→(∀a,T a→st.heap.get? a=none∧∃o,h'.get? a=some o)→(∀b o,st.heap.get? b=some o→h'.get? b=some o)→(∀aP:Addr→Prop,(∀a,aP a→M a∨st.heap.get? a=none)→(∀a,M a→aP a)→aq C J aP s h'→St J aP 0 h')→Q (.ref I) {st with heap:=h',toks:=tk})→
 ab (Md C) A t Q E st
def iN(C:Cx):Prop:=∀(src:AV)(rv:Value)(s:AS)(J:List Addr)(M:Addr→Prop)(st:Shared)(A:Around),aq C J M s st.heap→ao C J M st.heap src rv→(∃r,(iQ s 0 src 0).leaf C.ν=some r)→Made C 0 src s J M st A (pyIter rv)
def m8(C:Cx):Prop:=∀(src:AV)(rv:Value)(s:AS)(J:List Addr)(M:Addr→Prop)(st:Shared)(A:Around),A.handled=none→A.units+20<cLine→aq C J M s st.heap→ao C J M st.heap src rv→(∃r,(iQ s 1 src 0).leaf C.ν=some r)→Made C 1 src s J M st A (call (.type "enumerate") [rv] [])
def sg(C:Cx):Prop:=∀(x y:AV)(rx ry:Value)(s:AS)(J:List Addr)(M:Addr→Prop)(st:Shared)(A:Around),A.handled=none→A.units+20<cLine→aq C J M s st.heap→ao C J M st.heap x rx→ao C J M st.heap y ry→(∃r,(iQ s 2 (.t [x,y]) 0).leaf C.ν=some r)→Made C 2 (.t [x,y]) s J M st A (call (.type "zip") [rx,ry] [])
end
set_option tactic.hygienic true in
theorem kD:∀(l:List (Str×NameKind))(acc:List (Str×Addr)),(∀y∈l,y.2=.free→∃c,env.cells.lookup y.1=some c)→(∀x c,acc.lookup x=some c→env.cells.lookup x=some c)→
  ∃cl,(forIn l acc fun x r=>(if(x.2==NameKind.free)=true then(do let a←cellOf env x.1;pure (ForInStep.yield ((x.1,a)::r)))else pure (ForInStep.yield r)):Sem (List (Str×Addr)))=pure cl∧(∀x c,cl.lookup x=some c→env.cells.lookup x=some c)∧(∀y∈l,y.2=.free→(cl.lookup y.1).isSome=true)∧(∀x,(acc.lookup x).isSome=true→(cl.lookup x).isSome=true)∧(∀x,(cl.lookup x).isSome=true→(acc.lookup x).isSome=true∨∃y∈l,y.1=x∧y.2=.free)
 |[],acc,_,ha=>⟨acc,rfl,ha,(fun Y m=>nomatch m),(fun Y h=>h),fun Y h=>.inl h⟩
 |(n,k)::r,acc,hl,ha=>by
  by_cases hk:k=.free
  ·subst hk
   obtain⟨c,hc⟩:=hl (n,.free) bS rfl
   obtain⟨cl,h1,h2,h3,h4,h5⟩:=kD r ((n,c)::acc) (fun y m=>hl y (cq _ m)) (fun x c' e=>by
    rw [List.lookup_cons]at e;split at e
    ·rename_i q;injection e with e;subst e;rw [beq_iff_eq.mp q];exact hc
    ·exact ha x c' e)
   refine⟨cl,?_,h2,fun y m hy=>?_,fun x h=>h4 x ?_,fun x h=>?_⟩
   ·have hq:(cellOf env n:Sem Addr)=pure c:=by unfold cellOf;rw [hc]
    have hb:(NameKind.free==NameKind.free)=true:=rfl
    rw [List.forIn_cons];simp only[hb,if_true,hq,pure_bind];exact h1
   ·rcases cK m with rfl|m
    ·exact h4 _ (by rw [List.lookup_cons];simp)
    ·exact h3 y m hy
   ·rw [List.lookup_cons]
    split
    ·rfl
    ·exact h
   ·rcases h5 x h with q|⟨y,m,q⟩
    ·rw [List.lookup_cons]at q
     split at q
     ·rename_i hx;exact .inr ⟨(n,.free),bS,(beq_iff_eq.mp hx).symm,rfl⟩
     ·exact .inl q
    ·exact .inr ⟨y,cq _ m,q⟩
  ·refine QS (kD r acc (fun y m=>hl y (cq _ m)) ha:) fun cl h1 h2 h3 h4 h5=>?_
   refine⟨cl,?_,h2,fun y m hy=>?_,h4,fun x h=>(h5 x h).imp id fun⟨y,m,q⟩=>⟨y,cq _ m,q⟩⟩
   ·have:(k==NameKind.free)=false:=beq_eq_false_iff_ne.mpr hk
    rw [List.forIn_cons];simp only[this,Bool.false_eq_true,if_false,pure_bind];exact h1
   ·rcases cK m with rfl|m
    ·exact absurd hy hk
    ·exact h3 y m hy
theorem mx{scope:Scope}(hl:∀y∈scope.names,y.2=.free→∃c,env.cells.lookup y.1=some c):∃cl,closureFor scope env=pure cl∧(∀x c,cl.lookup x=some c→env.cells.lookup x=some c)∧(∀y∈scope.names,y.2=.free→(cl.lookup y.1).isSome=true)∧(∀x,(cl.lookup x).isSome=true→∃y∈scope.names,y.1=x∧y.2=.free):=by
 refine QS (kD scope.names [] hl (fun x c e=>by simp at e):) fun cl h1 h2 h3 Y h5=>?_
 refine⟨cl,?_,h2,h3,fun x h=>(h5 x h).elim (fun q=>by simp at q) id⟩
 unfold closureFor;refine Eq.trans (congrArg (·>>=fun r=>pure r) ?_) (pure_bind cl _)
 refine Eq.trans ?_ h1
 rfl
theorem iR{f:Str×NameKind→NameKind}:∀(l:List (Str×NameKind))(x:Str),(l.map fun p=>(p.1,f p)).lookup x=(l.find? fun p=>x==p.1).map f
 |[],x=>rfl
 |(n,k)::r,x=>by
  rw [List.map_cons,List.lookup_cons,List.find?_cons];cases q:x==n with
  |true=>rfl
  |false=>exact iR r x
theorem jF(kd:Kd)(sc:Scope)(x:Str):(cC kd sc).k x=(sc.names.find? fun p=>x==p.1).map fun p=>if(p.2==NameKind.free&&kd.k p.1==some NameKind.cell)=true then NameKind.cell else p.2:=by
 rw [←iR];show List.lookup x _=List.lookup x _
 congr 1
 refine List.map_congr_left fun p Y=>?_
 split<;>rfl
theorem lX:∀(l:List (Str×NameKind))(x:Str),l.lookup x=(l.find? fun p=>x==p.1).map (·.2)
 |[],x=>rfl
 |(n,k)::r,x=>by
  rw [List.lookup_cons,List.find?_cons];cases q:x==n with
  |true=>rfl
  |false=>exact lX r x
noncomputable def pK(tg:List Nat):Env→Env
 |[]=>[]
 |p::r=>if p.1∈tg then pK tg r else p::pK tg r
set_option tactic.hygienic true in
theorem dn(tg:List Nat)(y:Nat):∀ρ:Env,az (pK tg ρ) y=if y∈tg then none else az ρ y
 |[]=>by simp[pK,az]
 |p::r=>by
  unfold pK;split
  ·rename_i hp
   rw [dn tg y r];split
   ·rfl
   ·rename_i hy
    have:Nat.beq p.1 y=false:=by cases q:Nat.beq p.1 y with|false=>rfl|true=>exact absurd (pz q▸hp) hy
    conv=>rhs;unfold az
    rw [this]
  ·rename_i hp
   unfold az;cases q:Nat.beq p.1 y with
   |true=>rw [if_neg (pz q▸hp)]
   |false=>exact dn tg y r
set_option tactic.hygienic true in
theorem qr:∀(tg:List Nat)(l:List AV)(ρ ρ':Env),tg.length=l.length→(∀y,y∉tg→az ρ y=az ρ' y)→∀y,az ((tg.zip l).foldl (fun ρ p=>bV ρ p.1 p.2) ρ) y=az ((tg.zip l).foldl (fun ρ p=>bV ρ p.1 p.2) ρ') y
 |[],l,ρ,ρ',_,h,y=>h y (by simp)
 |t::tg,[],ρ,ρ',hl,_,_=>by simp at hl
 |t::tg,a::l,ρ,ρ',hl,h,y=>by
  rw [List.zip_cons_cons,List.foldl_cons,List.foldl_cons];refine qr tg l _ _ (by simpa using hl) (fun z hz=>?_) y
  rw [cZ,cZ];split
  ·rfl
  ·rename_i q;exact h z (by simp[q,hz])
theorem qq:∀(tg:List Nat)(l:List AV)(ρ:Env)(y:Nat),y∉tg→az ((tg.zip l).foldl (fun ρ p=>bV ρ p.1 p.2) ρ) y=az ρ y
 |[],_,_,_,_=>rfl
 |_::_,[],_,_,_=>rfl
 |t::tg,a::l,ρ,y,h=>by
  rw [List.zip_cons_cons,List.foldl_cons,qq tg l _ y (fun q=>h (cq _ q)),cZ]
  exact if_neg fun q=>h (by rw [q];exact bS)
set_option tactic.hygienic true in
theorem AG(e:iy tg flat v ρ=some ρ'):∃b7,iy tg flat v (pK tg ρ)=some b7∧(∀y,az ρ' y=az b7 y)∧∀y w,az (pK tg ρ) y=some w→az b7 y=some w:=by
 cases flat with
 |true=>
  obtain⟨x,rfl,rfl⟩:=AF e
  refine⟨_,rfl,fun y=>?_,fun y w q=>?_⟩
  ·rw [cZ,cZ]
   split
   ·rfl
   ·rename_i hy;rw [dn,if_neg (by simpa using hy)]
  ·rw [dn]at q
   split at q
   ·injection q
   ·rename_i hy
    rw [cZ,if_neg (by simpa using hy),dn,if_neg hy];exact q
 |false=>
  obtain⟨l,rfl,hl,rfl⟩:=qK e
  refine⟨_,lF hl,fun y=>qr _ _ _ _ (pz hl) (fun y hy=>by rw [dn,if_neg hy]) y,fun y w q=>?_⟩
  rw [dn]at q;split at q
  ·injection q
  ·rename_i hy
   rw [qq _ _ _ _ hy,dn,if_neg hy];exact q
section
theorem fu.sub(F:fu C Z J M kd env ρ h)(hs:∀y w,az ρ' y=some w→az ρ y=some w):fu C Z J M kd env ρ' h:=
 ⟨F.glob,F.i8,F.kind,F.kinds,F.Ed,F.xd,F.code,fun x v e k=>F.vars x v (hs x v e) k⟩
theorem dk.sub(F:dk C Z J M own kd cs env ρ h)(hs:∀y w,az ρ' y=some w→az ρ y=some w):dk C Z J M own kd cs env ρ' h:=
 ⟨F.f.sub hs,F.eR,F.gB,F.lo,F.ns,F.ce,F.lc,F.ap,F.gh⟩
theorem dM.more{x:Str}(R:dM Z M env h x rv)(hz:∀a,Z a→Z' a):dM Z' M env h x rv:=by
 cases R with
 |loc m a b c d=>exact .loc m a (hz _ b) c d
 |cell c o a b e f g=>exact .cell c o a b (e.imp (hz _) id) f g
theorem aq.fq(S:aq C J M s h)(hT:∀a,T a→M a∧a∉J∧∀p∈C.tabs,a≠p.2)(hk:∀b o,¬T b→h.get? b=some o→h'.get? b=some o):aq C J (fun b=>M b∧¬T b) s h'∧vf J M h J (fun b=>M b∧¬T b) h':=by
 have X:vf J M h J (fun b=>M b∧¬T b) h':=⟨⟨[],by simp⟩,fun b o hn e=>⟨fun q=>hn q.1,hk b o (fun q=>hn (hT b q).1) e⟩⟩
 refine⟨⟨S.len,S.lim,S.gP,S.nodup,S.low,fun i o b e q=>?_,fun i b q hi=>⟨S.jt i b q hi,fun z=>(hT b z).2.1 (bO q)⟩,fun i b q hi=>fun x=>S.yB i b q hi x.1,fun b m=>?_,fun b m=>?_,fun b o e=>?_,fun p hp=>?_,S.rg⟩,X⟩
 ·have hb:¬T b:=fun z=>(hT b z).2.1 (bO q)
  exact(S.obj i o b e q).chg X fun x hx=>hk b x hb hx
 ·obtain⟨o,e⟩:=S.there b m
  exact⟨o,hk b o (fun z=>(hT b z).2.1 m) e⟩
 ·obtain⟨o,e⟩:=S.mlt b m.1
  exact⟨o,hk b o m.2 e⟩
 ·refine aw (S.base b o e:) fun n y=>?_
  exact⟨fun q=>n q.1,hk b o (fun z=>n (hT b z).1) y⟩
 ·obtain⟨⟨ps,a1,a2,a3,a4⟩,a5⟩:=S.tab p hp
  have Lu:¬T p.2:=fun z=>(hT _ z).2.2 p hp rfl
  refine⟨⟨ps,⟨a1,Lu⟩,hk _ _ Lu a2,a3,fun pos cv e=>?_⟩,a5⟩
  refine vh (a4 pos cv e:) fun c oc vs t e1 e2 e3 e4=>?_
  exact⟨c,oc,vs,t,e1,fun q=>e2 q.1,hk _ _ (fun z=>e2 (hT c z).1) e3,e4⟩
theorem aJ.fq{h₀:Heap}(G:aJ Z dW M₀ h₀ J M h)(hd:∀a,T a→h₀.get? a=none)(hm:∀b,M₀ b→∃o,h₀.get? b=some o)(hk:∀b o,¬T b→h.get? b=some o→h'.get? b=some o):aJ Z dW M₀ h₀ J (fun b=>M b∧¬T b) h':=by
 have ne:∀b o,h₀.get? b=some o→¬T b:=fun b o e q=>aO e (hd b q)
 refine⟨G.pre,⟨fun b o e=>?_,fun b o hn e=>hk b o (ne b o e) (G.ext.keep b o hn e)⟩,fun b m=>⟨G.more b m,let⟨o,e⟩:=hm b m;ne b o e⟩,fun b m=>G.fresh b m.1⟩
 obtain⟨o',e'⟩:=G.ext.live b o e
 exact⟨o',hk b o' (ne b o e) e'⟩
theorem aq.forget(S:aq C J M s h)(ha:M a)(Dl:a∉J)(ht:∀p∈C.tabs,a≠p.2)(hs:Heap.SameBut a h h'):aq C J (fun b=>M b∧b≠a) s h'∧vf J M h J (fun b=>M b∧b≠a) h':=
 S.fq (T:=fun b=>b=a) (fun b q=>q▸⟨ha,Dl,ht⟩) fun b o hb e=>(hs.2 b hb).trans e
theorem aJ.forget{h₀:Heap}(G:aJ Z dW M₀ h₀ J M h)(hd:h₀.get? a=none)(hm:∀b,M₀ b→∃o,h₀.get? b=some o)(hs:Heap.SameBut a h h'):aJ Z dW M₀ h₀ J (fun b=>M b∧b≠a) h':=
 G.fq (T:=fun b=>b=a) (fun b q=>q▸hd) hm fun b o hb e=>(hs.2 b hb).trans e
theorem dk.fq(F:dk C Z J M own kd cs env ρ h)(hM:∀a,T a→M a)(h1:∀a,T a→¬own a)(h2:∀x c,env.cells.lookup x=some c→¬T c)(hs:∀b o,¬T b→h.get? b=some o→h'.get? b=some o):dk C Z J (fun b=>M b∧¬T b) own kd cs env ρ h':=by
 have X:vf J M h J (fun b=>M b∧¬T b) h':=⟨⟨[],by simp⟩,fun b o hn e=>⟨fun q=>hn q.1,hs b o (fun q=>hn (hM b q)) e⟩⟩
 have lo:¬T env.locals:=fun q=>h1 _ q F.lo
 have ns:∀m,h.Ns env.locals m→h'.Ns env.locals m:=fun m⟨o,es,ep,e,r⟩=>⟨o,es,ep,hs _ _ lo e,r⟩
 refine⟨⟨F.f.glob,F.f.i8,F.f.kind,F.f.kinds,F.f.Ed,fun x c q=>?_,(fun c q=>let⟨a1,a2,a3⟩:=F.f.code c q;⟨a1,a2,fun x a q z=>a3 x a q z.1⟩),fun x v e k=>?_⟩,fun a q=>⟨⟨(F.eR a q).1,fun z=>h1 a z q⟩,(F.eR a q).2⟩,fun a q=>?_,F.lo,let⟨m,N⟩:=F.ns;⟨m,ns m N⟩,fun k x q=>?_,F.lc,F.ap,F.gh⟩
 ·obtain⟨o,e⟩:=F.f.xd x c q
  exact⟨o,hs c o (h2 x c q) e⟩
 ·refine aC (F.f.vars x v e k:) fun rv Rr V=>?_
  refine⟨rv,?_,V.chg X⟩
  cases Rr with
  |loc m a b c d=>exact .loc m a b (ns m c) d
  |cell c o a b e f g=>exact .cell c o a b (e.imp id fun n q=>n q.1) (hs c o (h2 _ c b) f) g
 ·obtain⟨⟨o,e⟩,b,c⟩:=F.gB a q
  exact⟨⟨o,hs a o (fun z=>h1 a z q) e⟩,b,c⟩
 ·obtain⟨c,v,q1,⟨o,q2,Wb⟩,q3⟩:=F.ce k x q
  exact⟨c,v,q1,⟨o,hs c o (h2 _ _ q1) q2,Wb⟩,q3⟩
theorem aq.adopt(S:aq C J M s h)(Lw:Nat.blt s.n 1000000=true)(hm:M a)(Dl:a∉J)(ht:∀p∈C.tabs,a≠p.2)(o:AO)(ho:cR C J M h o a):aq C (J++[a]) M (s.new o).2 h∧vf J M h (J++[a]) M h∧(J++[a])[s.n]?=some a:=by
 have X:vf J M h (J++[a]) M h:=⟨⟨[a],rfl⟩,fun b o hn e=>⟨hn,e⟩⟩
 have OX:s.n<1000000:=bF Lw
 have hroom:s.n<2^40 - 1:=Nat.lt_trans OX (by decide)
 have he:(J++[a])[s.n]?=some a:=by rw [S.len,List.getElem?_append_right (Nat.le_refl _),Nat.sub_self];rfl
 refine⟨⟨?_,OX,⟨Nat.le_succ_of_le S.gP.1,fun i hi=>(AS.bB s.hp 40 s.n i o (by have:=S.gP.1;lia)).trans (S.gP.2 i hi)⟩,?_,?_,?_,?_,?_,?_,S.mlt,S.base,fun p hp=>⟨(S.tab p hp).1,fun m=>?_⟩,S.rg⟩,X,he⟩
 ·show s.n+1=_
  rw [S.len];simp
 ·rw [List.nodup_append]
  exact⟨S.nodup,by simp,fun x hx y hy=>by rw [List.mem_singleton]at hy;subst hy;rintro rfl;exact Dl hx⟩
 ·intro i o' e
  show i<s.n+1
  by_cases hi:s.n=i
  ·lia
  ·have:(aE.put 40 s.hp s.n o).get i=some o':=e
   rw [AS.bB _ _ _ _ _ hi]at this;have:=S.low i o' this
   lia
 ·intro i o' b e q
  by_cases hi:s.n=i
  ·subst hi
   have e':(aE.put 40 s.hp s.n o).get s.n=some o':=e
   rw [AS.cp _ _ _ _ hroom]at e';injection e' with e';subst e';rw [he]at q;injection q with q;subst q;exact ho.chg X fun Y e=>e
  ·have e':(aE.put 40 s.hp s.n o).get i=some o':=e
   rw [AS.bB _ _ _ _ _ hi]at e';have hl:=S.low i o' e'
   rw [S.len]at hl;rw [List.getElem?_append_left hl]at q;exact(S.obj i o' b e' q).chg X fun x y=>y
 ·intro i b q hle
  rcases Nat.lt_or_ge i J.length with hl|hl
  ·rw [List.getElem?_append_left hl]at q
   exact S.jt i b q hle
  ·rw [List.getElem?_append_right hl]at q
   have:b∈[a]:=bO q
   exact(List.mem_singleton.mp this)▸hm
 ·intro i b q Dp
  have hl:i<J.length:=by rw [←S.len];exact Nat.lt_of_lt_of_le Dp S.gP.1
  rw [List.getElem?_append_left hl]at q;exact S.yB i b q Dp
 ·intro b m
  rcases List.mem_append.mp m with m|m
  ·exact S.there b m
  ·rw [List.mem_singleton]at m;subst m;exact S.mlt b hm
 ·rcases List.mem_append.mp m with m|m
  ·exact(S.tab p hp).2 m
  ·rw [List.mem_singleton]at m
   exact ht p hp m.symm
theorem aJ.adopt{h₀:Heap}(G:aJ Z dW M₀ h₀ J M h)(hd:h₀.get? a=none):aJ Z dW M₀ h₀ (J++[a]) M h:=by
 obtain⟨l,rfl,f⟩:=G.pre
 exact⟨⟨l++[a],by simp,fun b m=>(List.mem_append.mp m).elim (f b) fun m=>by rw [List.mem_singleton]at m;rw [m];exact hd⟩,G.ext,G.more,G.fresh⟩
end
section
variable{prog:Program}{w:World}{R:Result→Shared→Prop}{s:Shared}
def BM(prog:Program)(w:World)(A:Around)(elt target:Expr)(ifs:List Expr)(it acc:Value)(env:PySem.Env)(R:Result→Shared→Prop)(J1:Shared→Prop)(E:Value→Shared→Prop)(r:Option Value)(ag:Shared):Prop:=match r with
 |none=>R (.ok .next) ag
 |some v=>ab (model prog w) A (letOwnedTupleGo target it v) (fun Y sW=>ab (model prog w) A (assign target env v) (fun Y aK=>
   ab (model prog w) A (forIn ifs true fun c r=>if r=true then do let ok←isTrue c env (eval c env);pure (ForInStep.yield ok)else pure (ForInStep.yield r)) (fun ok bM=>
    if ok=true then ab (model prog w) A (eval elt env) (fun x kV=>ab (model prog w) A (call (.builtin "list.append") [acc,x]) (fun Y nH=>J1 nH) E kV) E bM
    else J1 bM) E aK) E sW) E ag
theorem w5{elt target iter:Expr}{ifs:List Expr}{scope:Scope}{it acc:Value}(I:Nat→Shared→Prop)
  (turn:∀n s,I n s→∀E,ab (model prog w) A (pyNext it) (BM prog w A elt target ifs it acc env R (fun s=>∃m,m<n∧I m s) E) E s)
  (n:Nat)(h:I n s):ba (model prog w) A (.compLoop (.ListComp elt [⟨target,iter,ifs,0⟩] scope pos) 0 it acc env) R s:=by
 refine kM rfl I (fun n s hI=>?_) n h
 show ab _ A ((compTurn (.ListComp elt [⟨target,iter,ifs,0⟩] scope pos) 0 it acc env).onRaise (fun x=>do noteFrame x env;theTreesLotGoes x)) _ _ s
 refine gS ?_
 rw [compTurn_list];refine aa (au (aa (aG (turn n s hI _) (fun r ag h₁=>?_) fun Y Y h'=>h')))
 cases r with
 |none=>exact af h₁
 |some v=>
  refine aa (aG h₁ (fun Y sW OU=>?_) fun Y Y h'=>h')
  refine aa (aG OU (fun Y aK br=>aa (aG br (fun ok bM dR=>?_) fun Y Y h'=>h')) fun Y Y h'=>h')
  cases ok with
  |false=>exact af ⟨rfl,dR⟩
  |true=>exact aa (aa (aG dR (fun x kV iK=>aa (aG iK (fun Y nH wy=>af (af ⟨rfl,wy⟩)) fun Y Y h'=>h')) fun Y Y h'=>h'))
end
section
theorem Ge(l:List Expr):(forIn l false fun c r=>if r=true then do let ok←isTrue c env (eval c env);pure (ForInStep.yield ok)else pure (ForInStep.yield r):Sem Bool)=pure false:=by
 induction l with
 |nil=>rfl
 |cons c l ih=>rw [List.forIn_cons];simp only[Bool.false_eq_true,if_false,pure_bind];exact ih
theorem BU(HT:vm C ih d):∀{xs:List Expr}{s:AS}{b:Bool}{s':AS}{J:List Addr}{M:Addr→Prop}{st:Shared}{Q:Bool→Shared→Prop},(xN ih ifs ρ s).leaf C.ν=some (b,s')→c0 C kd ifs xs→fu C Z J M kd env ρ st.heap→aq C J M s st.heap→bu A d→cm C Z J st.heap→KB C Z J M st b s' Q→
  ab (Md C) A (forIn xs true fun c r=>if r=true then do let ok←isTrue c env (eval c env);pure (ForInStep.yield ok)else pure (ForInStep.yield r)) Q E st:=by
 induction ifs with
 |nil=>
  intro xs s b s' J M st Q e hl F S R z K;rw [hl.nl,List.forIn_nil];exact af ((K.of e).now S st.toks)
 |cons a l Dk=>
  intro xs s b s' J M st Q e hl F S R z K;refine hl.oZ fun x xs h1 Y h4=>aH.cM e fun q aK e2 e=>?_
  rw [List.forIn_cons];show ab (Md C) A ((isTrue x env (eval x env)>>=fun ok=>pure (ForInStep.yield ok))>>=_) Q E st
  refine aa (aa (HT a ρ s q aK e2 kd _ h1 Z J M env A st F S R z _ _ fun cy dU br bf G bU=>af ?_))
  cases q with
  |true=>exact Dk (st:={st with heap:=br,toks:=bf}) e h4 (F.grow G) bU R (z.grow G) (K.after G)
  |false=>
   show ab _ A (forIn _ false _) Q E _;rw [Ge];exact af (K.of e _ _ _ _ G bU)
theorem fu.more(F:fu C Z J M kd env ρ h)(hz:∀a,Z a→Z' a):fu C Z' J M kd env ρ h:=
 ⟨F.glob,F.i8,F.kind,F.kinds,F.Ed,F.xd,F.code,fun x v e k=>let⟨rv,a,b⟩:=F.vars x v e k;⟨rv,a.more hz,b⟩⟩
set_option tactic.hygienic true in
theorem w7{cl:List (Str×Addr)}{L:Addr}(hk:sc.kind=.function)(hcell:∀y∈sc.names,y.2≠.cell)(hfree:∀y∈sc.names,y.2=.free→kd.k y.1=some .cell∨kd.k y.1=some .free)(htg:∀x,sc.names.lookup (C.nm x)=some .local→x∈tg)
  (hcl:∀x c,cl.lookup x=some c→env.cells.lookup x=some c)(Dv:∀y∈sc.names,y.2=.free→(cl.lookup y.1).isSome=true)(F:fu C Z J M kd env ρ h)(hn:h.Ns L m)(hm:M L)(hz:¬Z L)(zL:cm C (fun a=>a=L) J h)(hL:∀x c,env.cells.lookup x=some c→c≠L):
  dk C Z J M (fun a=>a=L) (cC kd sc) false (compEnvC sc cl L env) (pK tg ρ) h:=by
 have hkinds:∀x,(compEnvC sc cl L env).kindOf x=(cC kd sc).k x:=fun x=>by
  show List.lookup x (relabel sc env).names=_;show List.lookup x _=List.lookup x _;unfold relabel
  congr 1
  refine List.map_congr_left fun p Y=>?_
  obtain⟨n,k⟩:=p
  have EX:env.kindOf n=kd.k n:=F.kinds n
  show(if(k==NameKind.free&&env.scope.kind==.function&&env.kindOf n==some NameKind.cell)=true then(n,NameKind.cell)else(n,k))=if(k==NameKind.free&&kd.k n==some NameKind.cell)=true then(n,NameKind.cell)else(n,k);have hb:(ScopeKind.function==ScopeKind.function)=true:=rfl
  rw [F.kind,EX,hb,Bool.and_true]
 have hfind:∀x k,(cC kd sc).k x=some k→k≠.local→∃y∈sc.names,y.1=x∧(k=.cell∨k=.free→y.2=.free):=by
  intro x k hk hne;rw [jF]at hk;refine aC (Option.map_eq_some_iff.mp hk:) fun y h1 h2=>?_
  refine⟨y,List.mem_of_find?_eq_some h1,(beq_iff_eq.mp (List.find?_some (p:=fun p:Str×NameKind=>x==p.1) h1)).symm,fun hcf=>?_⟩
  split at h2
  ·rename_i q
   have:=(Bool.and_eq_true_iff.mp q).1
   exact beq_iff_eq.mp this
  ·subst h2
   rcases hcf with q|q
   ·exact absurd q (hcell y (List.mem_of_find?_eq_some h1))
   ·exact q
 have hcel:∀x,(cC kd sc).k x=some .cell∨(cC kd sc).k x=some .free→∃c,cl.lookup x=some c∧env.cells.lookup x=some c∧(kd.k x=some .cell∨kd.k x=some .free):=by
  intro x hx;have:∃k,(cC kd sc).k x=some k∧(k=.cell∨k=.free):=hx.elim (fun q=>⟨_,q,.inl rfl⟩) fun q=>⟨_,q,.inr rfl⟩
  refine aC (this:) fun k h1 h2=>?_
  obtain⟨y,h3,h4,h5⟩:=hfind x k h1 (by rcases h2 with rfl|rfl<;>exact fun q=>by injection q)
  have h6:=h5 h2
  obtain⟨c,hc⟩:=Option.isSome_iff_exists.mp (Dv y h3 h6)
  rw [h4]at hc;exact⟨c,hc,hcl _ _ hc,h4▸hfree y h3 h6⟩
 refine⟨⟨F.glob,F.i8,hk,hkinds,(fun x hx=>let⟨c,h1,_⟩:=hcel x hx;⟨c,h1⟩),(fun x c q=>F.xd x c (hcl x c q)),(fun c q=>let⟨a1,a2,a3⟩:=F.code c q;⟨a1,a2,fun x a q=>a3 x a (hcl x a q)⟩),fun x v e hq=>?_⟩,fun a q=>by subst q;exact⟨hm,hz⟩,zL,rfl,⟨m,hn⟩,(fun q=>by injection q),fun x c q=>hL x c (hcl x c q),(fun q=>by injection q),hk⟩
 rw [dn]at e;split at e
 ·injection e
 ·rename_i hx
  have hnl:(cC kd sc).k (C.nm x)≠some .local:=fun q=>by
   rw [jF]at q;refine aC (Option.map_eq_some_iff.mp q:) fun y h1 h2=>?_
   split at h2
   ·injection h2
   ·exact hx (htg x (by rw [lX,h1];exact congrArg some h2))
  rcases hq with hq|hq
  ·exact absurd hq hnl
  ·refine lM (hcel _ hq:) fun c h1 h2 h3=>?_
   refine aC (F.vars x v e (.inr h3):) fun rv Rr V=>?_
   refine⟨rv,?_,V⟩
   cases Rr with
   |loc m' a b c' d=>rw [F.kinds]at a;rw [a]at h3;rcases h3 with q|q<;>(injection q with q;injection q)
   |cell c' o a b e' f g=>
    rw [b]at h2;cases (h2);exact .cell c o (by rw [hkinds];exact hq) h1 (e'.imp .inl id) f g
end
section
theorem dk.yc(F:dk C Z J M own kd cs env ρ h)(hz:∀a,Z a→Z' a)(hn:∀a,own a→¬Z' a):dk C Z' J M own kd cs env ρ h:=
 ⟨F.f.more fun a q=>q.imp (hz a) id,fun a q=>⟨(F.eR a q).1,hn a q⟩,F.gB,F.lo,F.ns,F.ce,F.lc,F.ap,F.gh⟩
theorem DI(h:vd C (fun n=>sc.names.lookup n) tg flat xt):mN C (cC kd sc) false tg flat xt:=by
 have key:∀s,sc.names.lookup s=some .local→(cC kd sc).k s=some .local:=fun s hs=>by
  rw [lX]at hs;rw [jF];refine aC (Option.map_eq_some_iff.mp hs:) fun y h1 h2=>?_
  rw [h1,Option.map_some,h2]
  rfl
 exact eW.mono h fun s h2=>.inl (key s h2)
theorem Bg{vs:List Value}{Q:Value→Shared→Prop}(ex:st.heap.get? a=some (bZ vs n))(hl:vs.length≤100000)(K:∀h' n',Heap.SameBut a st.heap h'→h'.get? a=some (bZ (vs++[rv]) n')→Q .none {st with heap:=h'}):
  ab (Md C) A (call (.builtin "list.append") [.ref a,rv] []) Q E st:=by
 refine lf<|call_meets PySem.F.slot_list_append ⟨_,ex,rfl⟩ PySem.F.entry_list_append (PySem.F.args_list_append_2 _ _) (list_append a vs.toArray n rv (by rw [cW];exact bN hl)) ⟨ex,?_⟩
 refine dF (fG (fun q=>q.push rv) vs (vs++[rv]) n (by simp):) fun n' q=>?_
 exact K _ n' (Heap.SameBut.update ..) ((Heap.get?_update_self _ ex rfl).trans (congrArg some q))
structure su(C:Cx)(Z T:Addr→Prop)(M:Addr→Prop)(env:PySem.Env)(D L:Addr):Prop where
 ne:D≠L
 z:∀a,Z a→a≠D∧a≠L
 t:∀a,T a→a≠D∧a≠L
 tm:∀a,T a→M a∧¬Z a
 tc:∀x c,env.cells.lookup x=some c→¬T c
structure mc(C:Cx)(P:Pg)(N:pa)(d n:Nat)(elt:CE)(tg:List Nat)(flat:Bool)(ifs:List CE)(src:AV)(ρ:Env)(v:AV)(s':AS)(kd:Kd)(sc:Scope)(cl:List (Str×Addr))(env:PySem.Env)(Z T:Addr→Prop)(St:List Addr→(Addr→Prop)→Nat→Heap→Prop)(D L:Addr)(J:List Addr)(M:Addr→Prop)(h:Heap)
  (m:Nat)(h':Heap)(σ':List Addr)(M':Addr→Prop)(ag:AS)(k:Nat)(acc:List AV)(ys:List Value)(nD:Nat):Prop where
 e:((run P N m d).ev (.gM elt tg flat ifs src k acc) ρ ag).leaf C.ν=some (v,s')
 G:aJ Z J M h σ' M' h'
 hM:∀a,(T a∨(a=D∨a=L))→M' a
 S:aq C σ' M' ag h'
 FX:dk C Z σ' M' (fun a=>a=L) (cC kd sc) false (compEnvC sc cl L env) (pK tg ρ) h'
 st:St σ' M' k h'
 hD:h'.get? D=some (bZ ys nD)
 Vy:ay C σ' M' h' acc.reverse ys
 zW:cm C (fun a=>T a∨(a=D∨a=L)) σ' h'
 zZ:cm C Z σ' h'
 len:acc.length+m≤n
def CompEnd(C:Cx)(s':AS)(v:AV)(st:Shared)(dW:List Addr)(M₀ Z:Addr→Prop)(h₀:Heap)(RR:Value→Addr→Result→Shared→Prop):Prop:=∀D L h' tk σ' M',aJ Z dW M₀ h₀ σ' M' h'→aq C σ' M' s' h'→ao C σ' M' h' v (.ref D)→h₀.get? L=none→M' L→cm C (fun a=>a=L) σ' h'→(∃m,h'.Ns L m)→RR (.ref D) L (.ok .next) {st with heap:=h',toks:=tk}
section
variable{cl:List (Str×Addr)}{St:List Addr→(Addr→Prop)→Nat→Heap→Prop}{D L:Addr}{m nD:Nat}{ag:AS}{acc:List AV}{ys:List Value}{h₀:Heap}{RR:Value→Addr→Result→Shared→Prop}
theorem D4(Fx:su C Z T M env D L)(H:mc C P N d n elt tg flat ifs src ρ v s' kd sc cl env Z T St D L J M h m h' σ' M' ag k acc ys nD)(hcl:∀x c,cl.lookup x=some c→env.cells.lookup x=some c)(oQ:h.get? D=none)(ix:h.get? L=none)
  (ja:aJ Z dW M₀ h₀ J M h)(dT:∀a,T a→h₀.get? a=none)(lu:∀b,M₀ b→∃o,h₀.get? b=some o)(LC:CompEnd C s' v st dW M₀ Z h₀ RR)(kA:(newList ag acc.reverse).leaf C.ν=some (v,s')){br:Heap}{bf:Tok}(jz:∀b o,¬T b→h'.get? b=some o→br.get? b=some o):RR (.ref D) L (.ok .next) {st with heap:=br,toks:=bf}:=by
 refine aw (bC kA:) fun hl kA=>?_
 refine aH.cM kA fun i bM Th kA=>?_
 injection kA with kA;injection kA with kA aN;subst kA aN;obtain⟨hb,rfl,rfl⟩:=fh Th
 refine aw (H.S.fq (T:=T) (fun a q=>⟨H.hM a (.inl q),(H.zW a (.inl q)).2⟩) jz:) fun bU TY=>?_
 have UE:¬T D:=fun q=>(Fx.t D q).1 rfl
 have Sg:¬T L:=fun q=>(Fx.t L q).2 rfl
 refine dN (H.zW D (.inr (.inl rfl)):) fun VP Rn Rm=>?_
 refine dN (bU.adopt hb ⟨H.hM D (.inr (.inl rfl)),UE⟩ Rn Rm (.list acc.reverse) (.list _ _ ys nD (jz _ _ UE H.hD) (H.Vy.chg TY)):) fun fH X he=>?_
 have bb:=(ja.trans H.G).fq dT lu jz
 have QF:=H.FX.fq (T:=T) (fun a q=>H.hM a (.inl q)) (fun a q q'=>Sg (q'▸q)) (fun x c q=>Fx.tc x c (hcl x c q)) jz
 obtain⟨⟨oL,eL⟩,b2,b3⟩:=H.zW L (.inr (.inr rfl))
 refine LC D L br bf (σ'++[D]) _ (bb.adopt (ja.ext.dead oQ)) fH (.ref _ _ he) (ja.ext.dead ix) ⟨H.hM L (.inr (.inr rfl)),Sg⟩ (fun a q=>?_) QF.ns
 rw [q];exact⟨⟨oL,jz _ _ Sg eL⟩,fun m=>(List.mem_append.mp m).elim b2 fun m=>Fx.ne (List.mem_singleton.mp m).symm,b3⟩
theorem M1(zW:cm C (fun a=>T a∨(a=D∨a=L)) J h)(zZ:cm C Z J h):cm C (fun a=>(Z a∨a=L)∨(T a∨a=D)) J h:=fun a q=>q.elim (fun q=>q.elim (zZ a) fun q=>zW a (.inr (.inr q))) fun q=>q.elim (fun q=>zW a (.inl q)) fun q=>zW a (.inr (.inl q))
theorem Aq(inj:∀x y,C.nm x=C.nm y→x=y)(HE:gu C (run P N m d) d)(HT:vm C (run P N m d) d){I:Addr}{x:AV}(Fx:su C Z T M env D L)(H:mc C P N d n elt tg flat ifs src ρ v s' kd sc cl env Z T St D L J M h (m+1) h' σ' M' ag k acc ys nD)
  (hn:n≤100000)(It:jJ C 0 src I T St)(R:bu A d)(fT:vd C (fun n=>sc.names.lookup n) tg flat xt)(fE:aW C (cC kd sc) elt xe)(fI:c0 C (cC kd sc) ifs xs)(hb:iy tg flat x ρ=some ρ')
  (e':((xN (run P N m d) ifs ρ' ag).bind fun(b,s)=>match b with
    |false=>(run P N m d).ev (.gM elt tg flat ifs src (k+1) acc) ρ s
    |true=>((run P N m d).ev elt ρ' s).bind fun(w,s)=>(run P N m d).ev (.gM elt tg flat ifs src (k+1) (w::acc)) ρ s).leaf C.ν=some (v,s'))
  {dR:Heap}{bf:Tok}{rv:Value}(du:aJ (fun a=>(Z a∨a=L)∨a=D) σ' M' h' σ' M' dR)(fH:aq C σ' M' ag dR)(V:ao C σ' M' dR x rv)(sX:St σ' M' (k+1) dR){J1:Shared→Prop}
  (K:∀h' tk σ' M' ag acc ys nD,mc C P N d n elt tg flat ifs src ρ v s' kd sc cl env Z T St D L J M h m h' σ' M' ag (k+1) acc ys nD→J1 {st with heap:=h',toks:=tk}){E:Value→Shared→Prop}:
  ab (Md C) A (assign xt (compEnvC sc cl L env) rv) (fun Y aK=>ab (Md C) A (forIn xs true fun c r=>if r=true then do let ok←isTrue c (compEnvC sc cl L env) (eval c (compEnvC sc cl L env));pure (ForInStep.yield ok)else pure (ForInStep.yield r)) (fun ok bM=>
    if ok=true then ab (Md C) A (eval xe (compEnvC sc cl L env)) (fun x kV=>ab (Md C) A (call (.builtin "list.append") [.ref D,x]) (fun Y nH=>J1 nH) E kV) E bM
    else J1 bM) E aK) E {st with heap:=dR,toks:=bf}:=by
 refine lM (AG hb:) fun b7 I7 WZ UR=>?_
 have JG:=H.FX.grow (du.less fun a q=>.inl q)
 refine rq (Z:=fun a=>Z a∨(T a∨a=D)) (st:={st with heap:=dR,toks:=bf}) inj (DI (kd:=kd) fT) R.1 I7 V (JG.yc (fun Y q=>.inl q) fun a q=>by
  rw [q];exact fun x=>x.elim (fun x=>(Fx.z _ x).2 rfl) fun x=>x.elim (fun x=>(Fx.t _ x).2 rfl) fun x=>Fx.ne x.symm) fH fun iK fY d8 lI mO=>?_
 have JF:=mO Z _ _ I7 JG
 have BY:=It.keep (Z:=fun a=>Z a∨(T a∨a=D)) (fun a q=>.inr (.inl q)) d8 sX
 have O5:=d8.dB (.inr (.inr rfl)) (du.dB (.inr rfl) H.hD)
 have Jy:=(H.Vy.grow du).grow d8
 have Ik:=(H.zW.bJ du).bJ d8
 have Ii:=(H.zZ.bJ du).bJ d8
 have sj:=(H.G.trans (du.less fun a q=>.inl (.inl q))).trans (d8.less fun a q=>.inl q)
 refine aH.cM e' fun b nH Tg e'=>?_
 have fr:∀{J M h},dk C Z J M (fun a=>a=L) (cC kd sc) false (compEnvC sc cl L env) b7 h→fu C (fun a=>(Z a∨a=L)∨(T a∨a=D)) J M (cC kd sc) (compEnvC sc cl L env) ρ' h:=fun FX=>(FX.f.sub fun y w q=>(WZ y)▸q).more fun a q=>.inl q
 refine BU HT (st:={st with heap:=iK,toks:=fY}) Tg fI (fr JF) lI R (M1 Ik Ii) fun xD EI wy pX l9 H3=>?_
 have EK:=JF.grow (l9.less fun a q=>.inl q)
 have Iz:=It.keep (fun a q=>.inr (.inl q)) l9 BY
 have Jc:=l9.dB (.inr (.inr rfl)) O5
 have Bp:=Ik.bJ l9
 have Bo:=Ii.bJ l9
 have yZ:=sj.trans (l9.less fun a q=>.inl (.inl q))
 have I9:∀a,(T a∨(a=D∨a=L))→EI a:=fun a q=>l9.more a (H.hM a q)
 have hlen:=H.len
 cases b with
 |false=>
  rw [if_neg Bool.false_ne_true];exact K wy pX xD EI nH acc ys nD ⟨e',yZ,I9,H3,EK.sub UR,Iz,Jc,Jy.grow l9,Bp,Bo,by lia⟩
 |true=>
  rw [if_pos rfl];refine aH.cM e' fun w Kf Tf e'=>?_
  refine HE elt ρ' nH w Kf Tf _ xe fE _ xD EI _ A {st with heap:=wy,toks:=pX} (fr EK) H3 R (M1 Bp Bo) _ _ fun ny u7 rP kT rw iO u4 TZ=>?_
  have O4:=iO.dB (.inr (.inr rfl)) Jc
  have Jx:=(Jy.grow l9).grow iO
  have Ij:=Bp.bJ iO
  have I8:∀a,(T a∨(a=D∨a=L))→u7 a:=fun a q=>iO.more a (I9 a q)
  have hy:=Jx.length
  rw [List.length_reverse]at hy;refine Bg (st:={st with heap:=rP,toks:=kT}) O4 (by lia) fun Sz n' OW Jb=>?_
  refine dN (Ij D (.inr (.inl rfl)):) fun VP Rn Rm=>?_
  refine aw (tD (Z:=fun a=>(Z a∨a=L)∨T a) u4 (I8 D (.inr (.inl rfl))) (fun q=>q.elim (fun q=>q.elim (fun q=>(Fx.z D q).1 rfl) Fx.ne) fun q=>(Fx.t D q).1 rfl) Rn Rm OW ⟨_,Jb⟩:) fun T6 xx=>?_
  have H7:=(iO.less fun a q=>.inl (.inl q)).trans (xx.less fun a q=>.inl (.inl q))
  refine K Sz kT ny u7 Kf (w::acc) (ys++[rw]) n' ⟨e',yZ.trans H7,I8,T6,((EK.grow (iO.less fun a q=>.inl q)).grow (xx.less fun a q=>.inl q)).sub UR,It.keep (fun a q=>.inr q) xx (It.keep (fun a q=>.inr (.inl q)) iO Iz),Jb,?_,Ij.bJ xx,(Bo.bJ iO).bJ xx,by rw [List.length_cons];lia⟩
  rw [List.reverse_cons];exact(Jx.grow xx).append (.cons (TZ.grow xx) .nil)
theorem D3(inj:∀x y,C.nm x=C.nm y→x=y)(HB:∀m,m≤n→gu C (run P N m d) d∧vm C (run P N m d) d){I:Addr}(Fx:su C Z T M env D L)
  (hn:n≤100000)(It:jJ C 0 src I T St)(R:bu A d)(fT:vd C (fun n=>sc.names.lookup n) tg flat xt)(fE:aW C (cC kd sc) elt xe)(fI:c0 C (cC kd sc) ifs xs)
  (hcl:∀x c,cl.lookup x=some c→env.cells.lookup x=some c)(oQ:h.get? D=none)(ix:h.get? L=none)(ja:aJ Z dW M₀ h₀ J M h)(dT:∀a,T a→h₀.get? a=none)(lu:∀b,M₀ b→∃o,h₀.get? b=some o)(LC:CompEnd C s' v st dW M₀ Z h₀ RR)
  {tk:Tok}(H:mc C P N d n elt tg flat ifs src ρ v s' kd sc cl env Z T St D L J M h n h' σ' M' ag k acc ys nD):ba (Md C) A (.compLoop (.ListComp xe [⟨xt,xi,xs,0⟩] sc pos) 0 (.ref I) (.ref D) (compEnvC sc cl L env)) (RR (.ref D) L) {st with heap:=h',toks:=tk}:=by
 refine w5 (fun m nM=>∃h' tk σ' M' ag k acc ys nD,nM={st with heap:=h',toks:=tk}∧mc C P N d n elt tg flat ifs src ρ v s' kd sc cl env Z T St D L J M h m h' σ' M' ag k acc ys nD) ?_ n ⟨h',tk,σ',M',ag,k,acc,ys,nD,rfl,H⟩
 rintro m nM ⟨h',tk,σ',M',ag,k,acc,ys,nD,rfl,H⟩ E
 have e:=H.e
 cases m with
 |zero=>exact no e
 |succ m=>
  refine aH.bd e fun r er e'=>?_
  refine It.next (Z:=fun a=>(Z a∨a=L)∨a=D) (st:={st with heap:=h',toks:=tk}) R.1 H.S (fun a q=>⟨H.hM a (.inl q),fun x=>x.elim (fun x=>x.elim (Fx.tm a q).2 (Fx.t a q).2) (Fx.t a q).1,(H.zW a (.inl q)).2⟩) H.st er (fun hr br bf jz=>?_) fun x hx br bf rv bb bU d7 own=>?_
  ·rw [hr]at e'
   exact D4 Fx H hcl oQ ix ja dT lu LC e' jz
  ·rw [hx]at e'
   exact aC (aI e') fun ρ' hb e'=>by
    have hm:m≤n:=by have:=H.len;lia
    refine own _ A _ E (.inl rfl) fun dR du fH sX=>?_
    exact Aq inj (HB m hm).1 (HB m hm).2 Fx H hn It R fT fE fI hb e' (bb.trans du) fH (d7.grow du) sX fun h' tk σ' M' ag acc ys nD H'=>⟨m,Nat.lt_succ_self _,h',tk,σ',M',ag,k+1,acc,ys,nD,rfl,H'⟩
end
theorem w6(inj:∀x y,C.nm x=C.nm y→x=y)(hn:n≤100000)(HB:∀m,m≤n→gu C (run P N m d) d∧vm C (run P N m d) d){cl:List (Str×Addr)}
  (e:((run P N n d).ev (.gM elt tg flat ifs src 0 []) ρ s).leaf C.ν=some (v,s'))(fT:vd C (fun n=>sc.names.lookup n) tg flat xt)(fE:aW C (cC kd sc) elt xe)(fI:c0 C (cC kd sc) ifs xs)
  (hk:sc.kind=.function)(hcell:∀y∈sc.names,y.2≠.cell)(hfree:∀y∈sc.names,y.2=.free→kd.k y.1=some .cell∨kd.k y.1=some .free)(htg:∀x,sc.names.lookup (C.nm x)=some .local→x∈tg)
  (hcl:∀x c,cl.lookup x=some c→env.cells.lookup x=some c)(Dv:∀y∈sc.names,y.2=.free→(cl.lookup y.1).isSome=true)
  {I:Addr}{T:Addr→Prop}{St:List Addr→(Addr→Prop)→Nat→Heap→Prop}(It:jJ C 0 src I T St)(F:fu C Z J M kd env ρ h)(S:aq C J M s h)(R:bu A d)(z:cm C Z J h)(hT:∀a,T a→M a∧¬Z a)(MP:∀x c,env.cells.lookup x=some c→¬T c)(zT:cm C T J h)(GL:St J M 0 h)
  {dW:List Addr}{M₀:Addr→Prop}{h₀:Heap}(ja:aJ Z dW M₀ h₀ J M h)(dT:∀a,T a→h₀.get? a=none)(lu:∀b,M₀ b→∃o,h₀.get? b=some o)
  {RR:Value→Addr→Result→Shared→Prop}(LC:CompEnd C s' v st dW M₀ Z h₀ RR){D L:Addr}{h₁:Heap}{tk:Tok}(QY:D≠L)(oQ:h.get? D=none)(ix:h.get? L=none)(old:∀b o,h.get? b=some o→h₁.get? b=some o)(Jd:h₁.get? D=some (bZ [] 0)){WH:Str→Option Value}(n9:h₁.Ns L WH):
  ba (Md C) A (.compStart (.ListComp xe [⟨xt,xi,xs,0⟩] sc pos) 0 (.ref I) (.ref D) (compEnvC sc cl L env)) (RR (.ref D) L) {st with heap:=h₁,toks:=tk}:=by
 have O3:∃o,h₁.get? L=some o:=let⟨o,es,ep,e,_⟩:=n9;⟨o,e⟩
 have dead:∀a,(a=D∨a=L)→h.get? a=none:=fun a q=>q.elim (fun q=>q▸oQ) fun q=>q▸ix
 have live:∀a,(a=D∨a=L)→∃o,h₁.get? a=some o:=fun a q=>q.elim (fun q=>q▸⟨_,Jd⟩) fun q=>q▸O3
 have off:∀{b:Addr},(∃o,h.get? b=some o)→b≠D∧b≠L:=fun⟨o,e⟩=>⟨fun x=>aO (x▸e) oQ,fun x=>aO (x▸e) ix⟩
 have Fx:su C Z T M env D L:=⟨QY,fun a q=>off (z a q).1,fun a q=>off (zT a q).1,hT,MP⟩
 obtain⟨aD,aF⟩:=aq.uY (st:={st with heap:=h}) (Z:=Z) (h₁:=h₁) (own:=fun a=>a=D∨a=L) S old dead live
 have Il:cm C (fun a=>T a∨(a=D∨a=L)) J h₁:=fun a q=>by
  rcases q with q|q
  ·obtain⟨⟨o,e⟩,b,c⟩:=zT a q
   exact⟨⟨o,old a o e⟩,b,c⟩
  ·refine⟨live a q,fun m=>let⟨o,e⟩:=S.there a m;aO e (dead a q),fun p hp q'=>?_⟩
   obtain⟨⟨ps,a1,a2,a3,a4⟩,a5⟩:=S.tab p hp
   exact aO (q'▸a2) (dead a q)
 have QG:dk C Z J _ (fun a=>a=L) (cC kd sc) false (compEnvC sc cl L env) (pK tg ρ) h₁:=
  w7 hk hcell hfree htg hcl Dv (F.grow aF) n9 (.inr (.inr rfl)) (fun q=>(Fx.z L q).2 rfl) (fun a q=>Il a (.inr (.inr q))) fun x c q=>(off (F.xd _ c q)).2
 have sY:=It.keep (Z:=T) (fun Y q=>q) (aq.uY (st:={st with heap:=h}) (Z:=T) (h₁:=h₁) (own:=fun a=>a=D∨a=L) S old dead live).2 GL
 have H:mc C P N d n elt tg flat ifs src ρ v s' kd sc cl env Z T St D L J M h n h₁ J _ s 0 [] [] 0:=⟨e,aF,fun a q=>q.imp (fun q=>(hT a q).1) id,aD,QG,sY,Jd,.nil,Il,z.bJ aF,by simp⟩
 have key:∀tk,ba (Md C) A (.compLoop (.ListComp xe [⟨xt,xi,xs,0⟩] sc pos) 0 (.ref I) (.ref D) (compEnvC sc cl L env)) (RR (.ref D) L) {st with heap:=h₁,toks:=tk}:=fun tk=>D3 inj HB Fx hn It R fT fE fI hcl oQ ix ja dT lu LC H
 exact iD (key _) (It.self R.1 sY (key _))
theorem Ar(inj:∀x y,C.nm x=C.nm y→x=y)(hn:n≤100000)(HB:∀m,m≤n→gu C (run P N m d) d∧vm C (run P N m d) d){cl:List (Str×Addr)}
  (e:((run P N n d).ev (.gM elt tg flat ifs src 0 []) ρ s).leaf C.ν=some (v,s'))(fT:vd C (fun n=>sc.names.lookup n) tg flat xt)(fE:aW C (cC kd sc) elt xe)(fI:c0 C (cC kd sc) ifs xs)
  (hk:sc.kind=.function)(hcell:∀y∈sc.names,y.2≠.cell)(hfree:∀y∈sc.names,y.2=.free→kd.k y.1=some .cell∨kd.k y.1=some .free)(htg:∀x,sc.names.lookup (C.nm x)=some .local→x∈tg)
  (hcl:∀x c,cl.lookup x=some c→env.cells.lookup x=some c)(Dv:∀y∈sc.names,y.2=.free→(cl.lookup y.1).isSome=true)
  {I:Addr}{T:Addr→Prop}{St:List Addr→(Addr→Prop)→Nat→Heap→Prop}(It:jJ C 0 src I T St)(F:fu C Z J M kd env ρ st.heap)(S:aq C J M s st.heap)(R:bu A d)(z:cm C Z J st.heap)(hT:∀a,T a→M a∧¬Z a)(MP:∀x c,env.cells.lookup x=some c→¬T c)(zT:cm C T J st.heap)(GL:St J M 0 st.heap)
  {dW:List Addr}{M₀:Addr→Prop}{h₀:Heap}(ja:aJ Z dW M₀ h₀ J M st.heap)(dT:∀a,T a→h₀.get? a=none)(lu:∀b,M₀ b→∃o,h₀.get? b=some o)
  {RR:Value→Addr→Result→Shared→Prop}
  (LC:CompEnd C s' v st dW M₀ Z h₀ RR):
  ab (Md C) A (PySem.newList []) (fun acc bM=>ab (Md C) A (newFunctionEnv sc env.globals cl [] env.qual none .none (some env)) (fun cenv kV=>
   ba (Md C) A (.compStart (.ListComp xe [⟨xt,xi,xs,0⟩] sc pos) 0 (.ref I) acc {cenv with scope:=relabel sc env}) (RR acc cenv.locals) kV) E bM) E st:=by
 refine lf<|wpAny_newObj_type (lf<|wpAny_newFunctionEnv hcell (by intro y hy;simp at hy) (fun h₁ n9 wB=>?_) hk)
 dsimp only at n9 wB⊢
 have dead:∀a,st.heap.objs.size≤a→st.heap.get? a=none:=fun a ha=>by
  cases q:st.heap.get? a with
  |none=>rfl
  |some o=>exact absurd (Heap.lt_size q) (Nat.not_lt.mpr ha)
 have hC:∀o:Obj,(st.heap.push o).objs.size=st.heap.objs.size+1:=fun o=>Heap.size_push ..
 have ix:st.heap.get? (st.heap.push {cls:=.type "list",dict:=none,data:=.seq ([]:List Value).toArray}).objs.size=none:=dead _ (by rw [hC];exact Nat.le_succ _)
 have QY:st.heap.objs.size≠(st.heap.push {cls:=.type "list",dict:=none,data:=.seq ([]:List Value).toArray}).objs.size:=by rw [hC];exact Nat.ne_of_lt (Nat.lt_succ_self _)
 exact w6 inj hn HB e fT fE fI hk hcell hfree htg hcl Dv It F S R z hT MP zT GL ja dT lu LC QY (dead _ (Nat.le_refl _)) ix (fun b o e=>wB.extBut b o (fun q=>aO e (q▸ix)) (cP _ (cP _ e))) (wB.extBut _ _ QY (cP _ (Heap.get?_push_size _ rfl))) n9
end
section
theorem qt(h:∀x k p,xi≠.Set x k p)(x:Value):foldedSetIterable xi env x=pure x:=by
 unfold foldedSetIterable;cases xi<;>first|rfl|exact absurd rfl (h _ _ _)
theorem As(e:((run P N n d).ev (.gM elt tg flat ifs src 0 []) ρ s).leaf C.ν=some (v,s')):∃r,(iQ s 0 src 0).leaf C.ν=some r:=by
 cases n with
 |zero=>injection e
 |succ m=>
  have e':(cF P N (run P N m d) (.gM elt tg flat ifs src 0 []) ρ s).leaf C.ν=some (v,s'):=e
  unfold cF at e';refine aC (aH.jM e':) fun r er Y=>?_
  exact⟨r,er⟩
abbrev EM(C:Cx)(kd:Kd)(elt:CE)(tg:List Nat)(flat:Bool)(it:CE)(ifs:List CE)(xe xt xi:Expr)(xs:List Expr)(sc:Scope):Prop:=EL C.toTx (FS C.toTx elt) tg flat (FS C.toTx it) (ve C.toTx ifs) kd xe xt xi xs sc
theorem qu{it:CE}(h:aW C kd (.comp elt tg flat it ifs) (.ListComp xe [⟨xt,xi,xs,0⟩] sc pos)):EM C kd elt tg flat it ifs xe xt xi xs sc:=by
 obtain⟨_,_,_,_,_,_,q,f⟩:=ak.D7 h
 injection q with q sL aN;subst q;injection sL with sL VD;injection sL with sL VC Q8;subst sL VC Q8;cases VD;subst aN;exact f
theorem uL(HI:iN C)(inj:∀x y,C.nm x=C.nm y→x=y)(hn:n≤100000)(HB:∀m,m≤n→gu C (run P N m d) d∧vm C (run P N m d) d){it:CE}{use:Option (Value→Sem Unit)}{Q:Value→Shared→Prop}
  (e:(cF P N (run P N n d) (.comp elt tg flat it ifs) ρ s).leaf C.ν=some (v,s'))(hf:EM C kd elt tg flat it ifs xe xt xi xs sc)(F:fu C Z J M kd env ρ st.heap)(S:aq C J M s st.heap)(R:bu A d)(z:cm C Z J st.heap)
  (K:∀D L h' tk σ' M',aJ Z J M st.heap σ' M' h'→aq C σ' M' s' h'→ao C σ' M' h' v (.ref D)→st.heap.get? L=none→M' L→cm C (fun a=>a=L) σ' h'→(∃m,h'.Ns L m)→compPost (Md C) A E use Q (.ref D) L (.ok .next) {st with heap:=h',toks:=tk})(pos':Pos):
  ab (Md C) A (comprehension (.ListComp xe [⟨xt,xi,xs,0⟩] sc pos) sc env pos' (PySem.newList []) false (eval xi env) use) Q E st:=by
 obtain⟨f1,f2,f3,f4,f5,f6,f7,f8,f9,Xt,_,_⟩:=hf
 refine aH.cM e fun src ag e1 e=>?_
 refine A2 (mx (scope:=sc) (env:=env) fun y hy hfr=>F.Ed y.1 (f8 y hy hfr):) fun cl c1 c2 c3 Y=>?_
 refine g9 (use:=use) (Q:=Q) rfl (qt Xt) c1 f5 f7 ((HB n (Nat.le_refl _)).1 _ ρ s src ag e1 kd _ f2 Z J M env A st F S R z _ _ fun aA aP h₁ aU rv aF aD cb=>?_)
 refine HI src rv ag aA aP {st with heap:=h₁,toks:=aU} A aD cb (As e) _ _ fun I T St br bf It XU o9 hk GL=>?_
 have hA:=aq.uY (Z:=Z) (st:={st with heap:=h₁,toks:=aU}) (h₁:=br) (own:=T) aD hk (fun a q=>(o9 a q).1) (fun a q=>(o9 a q).2)
 refine aw (hA:) fun bU bb=>?_
 have pj:=z.grow aF
 have G:=aF.trans bb
 refine Ar (st:={st with heap:=br,toks:=bf}) inj hn HB e f1 f3 f4 f5 f6 f8 f9 c2 c3 It (F.grow G) bU R (z.grow G) (fun a q=>⟨.inr q,fun hz=>let⟨⟨o,e⟩,_⟩:=pj a hz;aO e (o9 a q).1⟩) (fun x c q hc=>let⟨o,e⟩:=(F.grow aF).xd x c q;aO e (o9 c hc).1) (fun a q=>⟨(o9 a q).2,fun m=>let⟨o,e⟩:=aD.there a m;aO e (o9 a q).1,fun p hp q'=>?_⟩) (GL _ (fun a q=>q.imp id fun q=>(o9 a q).1) (fun a q=>.inl q) bU) G (fun a q=>aF.ext.dead (o9 a q).1) (fun b m=>S.mlt b m) fun D L h' tk σ' M' G' S' V' hL MQ zL hns=>?_
 ·obtain⟨⟨ps,a1,a2,a3,a4⟩,a5⟩:=aD.tab p hp
  exact aO (q'▸a2) (o9 a q).1
 ·exact K D L h' tk σ' M' G' S' V' hL MQ zL hns
theorem B8(HI:iN C)(inj:∀x y,C.nm x=C.nm y→x=y)(hn:n≤100000)(HB:∀m,m≤n→gu C (run P N m d) d∧vm C (run P N m d) d){it:CE}{Q:Value→Shared→Prop}
  (e:(cF P N (run P N n d) (.comp elt tg flat it ifs) ρ s).leaf C.ν=some (v,s')){xe xt xi:Expr}{xs:List Expr}{sc:Scope}{pos:Pos}(hf:EM C kd elt tg flat it ifs xe xt xi xs sc)(F:fu C Z J M kd env ρ st.heap)(S:aq C J M s st.heap)(R:bu A d)(z:cm C Z J st.heap)(K:KV C Z J M st v s' Q):
  ab (Md C) A (eval (.ListComp xe [⟨xt,xi,xs,0⟩] sc pos) env) Q E st:=by
 rw [eval_ListComp];refine uL HI inj hn HB (use:=none) e hf F S R z (fun D L h' tk σ' M' G S' V hL MQ zL hns=>?_) _
 refine dF (hns:) fun m hns=>?_
 refine⟨m,hns,fun qo hs=>?_⟩
 refine dN (zL L rfl:) fun b1 b2 b3=>?_
 refine aw (S'.forget MQ b2 b3 hs:) fun u5 X=>?_
 exact K σ' _ qo tk _ (G.forget hL (fun b m=>S.mlt b m) hs) u5 (V.chg X)
end
theorem ly:∀(ps:List (Nat×AV))(ρ:Env)(y:Nat),y∉ps.map (·.1)→az (ps.foldl (fun ρ p=>bV ρ p.1 p.2) ρ) y=az ρ y
 |[],_,_,_=>rfl
 |p::r,ρ,y,h=>by
  rw [List.map_cons,List.mem_cons,not_or]at h;rw [List.foldl_cons,ly r _ y h.2,cZ,if_neg h.1]
theorem rQ:∀(ps:List (Nat×AV))(ρ:Env)(y:Nat)(a:AV),(ps.map (·.1)).Nodup→(y,a)∈ps→az (ps.foldl (fun ρ p=>bV ρ p.1 p.2) ρ) y=some a
 |p::r,ρ,y,a,nd,h=>by
  rw [List.map_cons,List.nodup_cons]at nd;rw [List.foldl_cons];rcases cK h with e|h
  ·subst e
   rw [ly r _ _ nd.1,cZ,if_pos rfl]
  ·exact rQ r _ y a nd.2 h
theorem DE(ps:List (Nat×AV))(ρ:Env)(nd:(ps.map (·.1)).Nodup)(y:Nat):az (ps.foldl (fun ρ p=>bV ρ p.1 p.2) ρ) y=az (ps.reverse.foldl (fun ρ p=>bV ρ p.1 p.2) ρ) y:=by
 have WE:(ps.reverse.map (·.1)).Nodup:=by rw [List.map_reverse];exact List.pairwise_reverse.mpr (List.Pairwise.imp (fun h=>Ne.symm h) nd)
 by_cases hy:y∈ps.map (·.1)
 ·obtain⟨⟨y',a⟩,h1,h2⟩:=List.mem_map.mp hy
  simp only at h2
  subst h2;rw [rQ ps ρ _ a nd h1,rQ ps.reverse ρ _ a WE (List.mem_reverse.mpr h1)]
 ·rw [ly ps ρ y hy,ly ps.reverse ρ y (by rw [List.map_reverse,List.mem_reverse];exact hy)]
theorem xU{α β:Type}:∀(a:List α)(b:List β),a.length=b.length→a.reverse.zip b.reverse=(a.zip b).reverse
 |[],b,_=>by simp
 |x::a,[],h=>by simp at h
 |x::a,y::b,h=>by
  have h':a.length=b.length:=by simpa using h
  rw [List.reverse_cons,List.reverse_cons,List.zip_cons_cons,List.reverse_cons,←xU a b h',List.zip_append (by simp[h'])]
  rfl
theorem pY(h:bW ex)(t:Option Expr)(n:Nat)(env:PySem.Env):swapsWith ex t n env=pure false:=by
 cases ex<;>first|rfl|exact Bool.noConfusion (show true=false from h.1)|exact Bool.noConfusion (show true=false from h.2.1)|exact Bool.noConfusion (show true=false from h.2.2)
section
theorem Cz(F:fu C Z J M kd env ρ h):interactive env=false:=by unfold interactive;rw [F.kind];rfl
theorem KX.ev{tk:Tok}(K:KX C Z J M own kd cs env st f ρ' s' Q)(G:aJ (fun a=>Z a∨own a) J M st.heap σ' M' h'):KX C Z σ' M' own kd cs env {st with heap:=h',toks:=tk} f ρ' s' Q:=K.after (G.less fun Y q=>.inl q)
theorem M7(inj:∀x y,C.nm x=C.nm y→x=y)(H:gu C ih d){y:Nat}{a:CE}(e:(bX P ih (.b8 y a) ρ s).leaf C.ν=some (f,ρ',s')){nm:Str}(h1:nm=C.nm y)(h2:eC kd cs nm)(h3:aW C kd a ex)(h4:bW ex)
  (F:dk C Z J M own kd cs env ρ st.heap)(S:aq C J M s st.heap)(R:bu A d)(z:cm C Z J st.heap)(K:KX C Z J M own kd cs env st f ρ' s' Q):ab (Md C) A (exec (.Assign [.Name nm p] ex pos) env) Q E st:=by
 subst h1;refine aH.cM e fun av ag e1 e=>?_
 injection e with e;injection e with e aN;subst e;injection aN with aN nu;subst aN nu;refine gT (H a ρ s av _ e1 kd _ h3 _ J M env A st F.f S R (F.z z) _ _ fun aA aP h₁ aU rv aF aD cb=>?_) (pY h4 _ _ _)
 refine gy (st:={st with heap:=h₁,toks:=aU}) inj h2 (F.grow aF) aD cb fun br bf bb bU fb=>?_
 exact(K.ev (tk:=aU) aF) aA aP br bf .next bb bU (fb _ _ (F.grow aF)) rfl
theorem oG{ts:List Expr}(h4:bW ex){sw:Option (List Str)}(hs:swappedStores [.Tuple ts k p] ex env=pure sw)(h:ab (Md C) A (eval ex env) (fun v ag=>ab (Md C) A (assignStores env v sw [assign (.Tuple ts k p) env]) Q E ag) E st):
  ab (Md C) A (exec (.Assign [.Tuple ts k p] ex pos) env) Q E st:=by
 rw [arm_exec_Assign];refine aa (au (aa ?_));show ab _ _ (swapsWith ex (some (.Tuple ts k p)) pos.line env) _ _ _;rw [pY h4];refine af ?_;simp only[Bool.false_eq_true,if_false];refine aa (aG h (fun v ag h₁=>?_) fun Y Y x=>x)
 rw [hs];exact aa (af h₁)
theorem Ep(inj:∀x y,C.nm x=C.nm y→x=y)(tg:List Nat):∀{l:List AV}{vs:List Value}{ρ:Env}{st:Shared}{Q:Unit→Shared→Prop},(∀y∈tg,eC kd cs (C.nm y))→tg.length=l.length→ay C J M st.heap l vs→dk C Z J M own kd cs env ρ st.heap→aq C J M s st.heap→
  KS C Z J M own kd cs env st (fun ρ=>some ((tg.zip l).foldl (fun ρ p=>bV ρ p.1 p.2) ρ)) s Q→ab (Md C) A (assignInOrder (tg.map fun y=>bindName env (C.nm y)) vs) Q E st:=by
 induction tg with
 |nil=>
  intro l vs ρ st Q _ hl V F S K;cases l with
  |nil=>exact V.nl▸lf (assignInOrder_nil (K _ st.toks (aJ.refl _ _ _ _) S fun Y Y Y q F=>by injection q with q;subst q;exact F))
  |cons a r=>injection hl
 |cons y tg ih=>
  intro l vs ρ st Q hk hl V F S K;cases l with
  |nil=>injection hl
  |cons a l=>
   refine V.oZ fun v vs V r=>assignInOrder_cons (gv (gy inj (hk y bS) F S V fun h' tk G S' F'=>?_))
   exact ih (st:={st with heap:=h',toks:=tk}) (fun y m=>hk y (cq _ m)) (Nat.succ.inj hl) (r.grow G) (F' _ _ F) S' fun qo ET G' u5 QJ=>K qo ET (G.trans G') u5 fun Z₀ gU b7 q xy=>QJ Z₀ _ _ q (F' Z₀ gU xy)
theorem vG(h:pO C kd cs tg xs):∀y∈tg,eC kd cs (C.nm y):=by
 exact h.ind (fun Y m=>nomatch m) fun Y Y Y Y Y h1 h2 h3 ih y m=>(cK m).elim (fun q=>by rw [q,←h1];exact h2) (ih y)
theorem JT(inj:∀x y,C.nm x=C.nm y→x=y)(H:gu C ih d){a:CE}(e:(bX P ih (.cQ tg a) ρ s).leaf C.ν=some (f,ρ',s')){ts:List Expr}(h1:pO C kd cs tg ts)(h2:aW C kd a ex)(h3:bW ex)(h4:yV C kd tg [.Tuple ts k p] ex)
  (F:dk C Z J M own kd cs env ρ st.heap)(S:aq C J M s st.heap)(R:bu A d)(z:cm C Z J st.heap)(K:KX C Z J M own kd cs env st f ρ' s' Q):ab (Md C) A (exec (.Assign [.Tuple ts k p] ex pos) env) Q E st:=by
 refine aH.cM e fun av ag e1 e=>?_
 obtain⟨l,rfl,e⟩:=iF e
 obtain⟨hl,e⟩:=cO e
 injection e with e;injection e with e aN;subst e;injection aN with aN nu;subst aN nu;rcases h4 env F.f.kinds F.f.kind with hs|⟨hs,nd⟩
 ·refine oG h3 hs (H a ρ s _ _ e1 kd _ h2 _ J M env A st F.f S R (F.z z) _ _ fun aA aP h₁ aU rv aF aD cb=>?_)
  unfold assignStores;have cS:=F.grow aF
  refine aa (rq (st:={st with heap:=h₁,toks:=aU}) inj (.many h1) R.1 (ρ':=(tg.zip l).foldl (fun ρ p=>bV ρ p.1 p.2) ρ) (lF hl) cb cS aD fun br bf bb bU fb=>af ?_)
  exact(K.ev (tk:=aU) aF) aA aP br bf .next bb bU (fb _ _ _ (lF hl) cS) rfl
 ·refine oG h3 hs (H a ρ s _ _ e1 kd _ h2 _ J M env A st F.f S R (F.z z) _ _ fun aA aP h₁ aU rv aF aD cb=>?_)
  unfold assignStores;have cS:=F.grow aF
  refine cb.kS fun t vs n ht et Vt=>?_
  have hlen:=Vt.length
  have hl:=pz hl
  have Dq:(tg.map C.nm).length=vs.toArray.size:=by rw [List.length_map,cW,hl,hlen]
  refine aa (dm (aa ?_))
  rw [Dq];refine lf<|unpackItems_tuple (s:={st with heap:=h₁,toks:=aU}) R.1 ⟨_,et,rfl,n,rfl⟩ fun br he=>?_
  have hk:∀b o,h₁.get? b=some o→br.get? b=some o:=fun b o e=>he b o (Nat.ne_of_lt (Heap.lt_size e)) e
  have bb:=aJ.heap Z aA aP hk
  have fb:=cS.grow (aJ.heap _ aA aP hk)
  rw [List.toList_toArray,←List.map_reverse,List.map_map];refine aa (Ep (st:={st with heap:=br,toks:=aU}) inj tg.reverse (l:=l.reverse) (fun y m=>vG h1 y (List.mem_reverse.mp m)) (by rw [List.length_reverse,List.length_reverse,hl]) (Vt.grow bb).reverse fb (aD.heap hk) fun dR ie du fH jb=>af ?_)
  have mO:=jb _ _ _ rfl fb
  refine(K.ev (tk:=aU) aF) aA aP dR ie .next (bb.trans du) fH (mO.sub fun y w q=>?_) rfl
  have hz:tg.reverse.zip l.reverse=(tg.zip l).reverse:=xU tg l hl
  rw [hz,←DE (tg.zip l) ρ (by rw [List.map_fst_zip (Nat.le_of_eq hl)];exact nd)]
  exact q
end
def lL(C:Cx):Prop:=∀(A:Around)(st:Shared)(E:Value→Shared→Prop)(a sl:Addr)(b x:Array UInt8)(t:Tok)(vl vu:Value)(lo hi:Option Int)(Q:Unit→Shared→Prop),A.handled=none→A.units+20<cLine→st.heap.get? a=some (de b)→st.heap.IsSliceOf sl vl vu .none→IsPart vl lo→IsPart vu hi→b.size≤100000→
 lo.elim 0 (clipAt b.size)≤hi.elim b.size (clipAt b.size)→x.size=hi.elim b.size (clipAt b.size) - lo.elim 0 (clipAt b.size)→
 (∀h' tk,(∀c o,c≠a→st.heap.get? c=some o→h'.get? c=some o)→h'.get? a=some (de (b.extract 0 (lo.elim 0 (clipAt b.size))++x++b.extract (hi.elim b.size (clipAt b.size)) b.size))→Q () {st with heap:=h',toks:=tk})→ab (Md C) A (setItem (.ref a) (.ref sl) (.bytes x t)) Q E st
section
theorem FH{l:Addr}{items:Array Value}{k:Int}{t:Tok}{v:Value}{Q:Unit→Shared→Prop}(ho:st.heap.get? l=some ({cls:=.type "list",data:=.seq items n}:Obj))(h0:k<0)(h1: -(items.size:Int)≤k)(hfit: -(2^63)≤k)
  (hQ:Q () {st with heap:=st.heap.update l (Obj.mapSeq (·.setIfInBounds (k+items.size).toNat v))}):ab (Md C) A (setItem (.ref l) (.int k t) v) Q E st:=by
 have hl:st.heap.IsList l items:=PySem.IsL.isList (n:=n) ho
 unfold setItem
 try with_reducible refine aj ?_
 first|refine aa (af ?_)|skip
 refine aa (lf<|wpAny_sequenceKey hl.typeIs (by decide) ?_)
 refine aa (bA (name:=Str.ofString "__setitem__") hl.typeIs slot_list_setitem
  (cf slot_list_setitem hl.typeIs entry_list_setitem ?_ (args_list_setitem _ _ _)))
 show ab _ _ (Builtin.List.listSubscript? (.int k t)>>=_) _ _ st;refine aa (lf<|wpAny_listSubscript_int (fitsIndex_neg h0 hfit) ?_);clear hfit;have hidx:=PySem.seqIndex_neg h0 h1
 have hj:(k+items.size).toNat<items.size:=by lia
 obtain⟨j,rfl⟩:∃j:Nat,k=Int.negSucc j:=by
  cases k with
  |ofNat n=>exact absurd h0 (Int.not_lt.mpr (Int.natCast_nonneg n))
  |negSucc n=>exact⟨n,rfl⟩
 have SF:=Array.getElem?_eq_getElem hj
 show ab _ _ ((Builtin.List.listItems (.ref l)>>=fun xs=>pure ((seqIndex? (Int.negSucc j) xs.size).bind fun i=>xs[i]?.map (i,·)))>>=_) _ _ st
 refine aa (aa ?_)
 show ab _ _ (seqItems? (.ref l)>>=_) _ _ st;refine aa (lf<|wpAny_seqItems ho rfl (af (af ?_)));rw [hidx];simp only[Option.bind_some,SF,Option.map_some];show ab _ _ (setSeqItemAt l _ v>>=_) _ _ st;refine aa (lf<|wpAny_setSeqItemAt ho rfl ?_)
 first
  |exact aa (af (af ⟨.none,rfl,af hQ⟩))
  |exact af ⟨.none,rfl,af hQ⟩
theorem ay.set{a:AV}(V:ao C J M h a rv){vs:List Value}(k:Nat)(W:ay C J M h l vs):ay C J M h (setAt l k a) (vs.set k rv):=
 W.ind (P:=fun l vs=>∀k,ay C J M h (setAt l k a) (vs.set k rv)) (fun Y=>.nil) (fun Y Y Y Y W r ih k=>Nat.casesOn k (.cons V r) fun k=>.cons W (ih k)) k
theorem B5(SJ:P.nf=C.nf){i:Nat}{j:IE}{jj:Int}{aK:AS}{a rj:Value}{Q:Unit→Shared→Prop}(S:aq C J M s st.heap)(z:cm C Z J st.heap)(hnf:Nat.ble P.nf i=true)(el:s.get i=some (.list l))(hl:l.length≤100000)(ec:(oR 40 j s).leaf C.ν=some (jj,aK))(hk:index l.length jj=some k)
  (Va:ao C J M st.heap (.ref i) a)(Vj:ao C J M st.heap (.int j) rj)(V:ao C J M st.heap v rv)(K:∀h',aJ Z J M st.heap J M h'→aq C J M (aK.upd i (.list (setAt l k v))) h'→Q () {st with heap:=h'}):ab (Md C) A (setItem a rj rv) Q E st:=by
 refine Va.listE S el fun y vs n hy ey Vs=>?_
 refine Vj.eN fun t=>?_
 refine dN (fg 40 S.rg ec:) fun c1 c2 c3=>?_
 obtain⟨d1,d2,d3,d4,d5,d6⟩:=ud hk
 rw [←c1]at d1 d2 d3 d5 d6;have hlen:=Vs.length
 have hnf:C.nf≤i:=by rw [←SJ];exact bF hnf
 have bU:=S.lT c2 c3
 have PQ:aK.hp.get i=some (.list l):=by
  rw [c2.1];exact el
 have fin:∀(kk:Nat),kk=k→Q () {st with heap:=st.heap.update y (Obj.mapSeq (·.setIfInBounds kk rv))}:=by
  intro kk q;subst q;have U:=bU.update (Z:=Z) (f:=Obj.mapSeq (·.setIfInBounds kk rv)) (o:=.list (setAt l kk v)) hy hnf z PQ ey rfl fun G hg=>by
   refine dF (fG (·.setIfInBounds kk rv) vs (vs.set kk rv) n (by apply Array.toList_inj.mp;simp):) fun n' q=>?_
   exact .list _ _ _ n' (hg.trans (congrArg some q)) ((ay.set V kk Vs).grow G)
  exact K _ U.2 U.1
 by_cases h0:0≤j.eval C.ν
 ·exact lf<|ki_setAt (items:=vs.toArray) ey h0 (by lia) (by rw [cW];lia) (fin _ (d5 h0))
 ·have UX:j.eval C.ν<0:=by lia
  refine FH (items:=vs.toArray) ey UX (by rw [cW];lia) (by lia) (fin _ ?_)
  rw [cW,←hlen];exact d6 UX
end
section
theorem Fi{b x:List UInt8}{lo hi:Nat}(h:lo≤hi):b.toArray.extract 0 lo++x.toArray++b.toArray.extract hi b.toArray.size=(b.take lo++x++b.drop hi).toArray:=by
 apply Array.toList_inj.mp
 simp
 exact List.take_of_length_le (by simp)
theorem aq.turned(S:aq C J M s h){i:Nat}{o o':AO}(hi:J[i]?=some a)(hn:C.nf≤i)(hz:cm C Z J h)(he:s.hp.get i=some o')(hs:∀b x,b≠a→h.get? b=some x→h'.get? b=some x)(hu:∃x,h'.get? a=some x)
  (ho:aJ Z J M h J M h'→cR C J M h' o a):aq C J M (s.upd i o) h'∧aJ Z J M h J M h':=by
 have hm:=S.jt i a hi hn
 have nz:¬Z a:=fun q=>(hz a q).2.1 (bO hi)
 have hv:∀b o,h.get? b=some o→∃o',h'.get? b=some o':=fun b o e=>by
  by_cases hb:b=a
  ·subst hb;exact hu
  ·exact⟨o,hs b o hb e⟩
 have G:aJ Z J M h J M h':=⟨⟨[],by simp,fun Y m=>nomatch m⟩,⟨hv,fun b o hb e=>hs b o (fun q=>hb (by rw [q];exact⟨hm,nz⟩)) e⟩,fun Y x=>x,fun Y x=>.inl x⟩
 have hl:=S.low i o' he
 have hr:s.n<2^40 - 1:=Nat.lt_of_le_of_lt S.lim (by decide)
 refine⟨⟨S.len,S.lim,⟨S.gP.1,fun j hj=>(AS.bB s.hp 40 i j o (by lia)).trans (S.gP.2 j hj)⟩,S.nodup,?_,?_,S.jt,S.yB,fun b m=>let⟨o,e⟩:=S.there b m;hv b o e,fun b m=>let⟨o,e⟩:=S.mlt b m;hv b o e,?_,?_,S.rg⟩,G⟩
 ·intro j tL e
  by_cases hj:i=j
  ·subst hj;exact hl
  ·have e':(aE.put 40 s.hp i o).get j=some tL:=e
   rw [AS.bB _ _ _ _ _ hj]at e';exact S.low j tL e'
 ·intro j tL b e q
  by_cases hj:i=j
  ·subst hj
   have e':(aE.put 40 s.hp i o).get i=some tL:=e
   rw [AS.cp _ _ _ _ (Nat.lt_trans hl hr)]at e';injection e' with e';subst e';rw [hi]at q;injection q with q;subst q;exact ho G
  ·have e':(aE.put 40 s.hp i o).get j=some tL:=e
   rw [AS.bB _ _ _ _ _ hj]at e';have hb:b≠a:=fun z=>hj (S.inj hi (z▸q))
   exact(S.obj j tL b e' q).grow G fun y hy=>hs b y hb hy
 ·intro b tL e
  refine aw (S.base b tL e:) fun n y=>?_
  exact⟨n,hs b _ (fun z=>n (z▸hm)) y⟩
 ·intro p hp
  obtain⟨⟨ps,a1,a2,a3,a4⟩,a5⟩:=S.tab p hp
  refine⟨⟨ps,a1,hs _ _ (fun z=>a5 (by rw [z];exact bO hi)) a2,a3,fun pos cv e=>?_⟩,a5⟩
  refine vh (a4 pos cv e:) fun c oc vs t e1 e2 e3 e4=>?_
  exact⟨c,oc,vs,t,e1,e2,hs _ _ (fun z=>e2 (by rw [z];exact hm)) e3,e4⟩
theorem xk{ν:Nat→Int}{l x:List IE}{lo hi:Nat}(h:lo≤hi):(aS ν l).extract 0 lo++aS ν x++(aS ν l).extract hi l.length=aS ν (l.take lo++x++l.drop hi):=by
 have:=Fi (b:=l.map (cz ν)) (x:=x.map (cz ν)) h
 rw [cW,List.length_map]at this;unfold aS;rw [this,List.map_append,List.map_append,List.map_take,List.map_drop]
def Mz(C:Cx)(Z:Addr→Prop)(J:List Addr)(M:Addr→Prop)(A:Around)(st:Shared)(f:Fl)(ρ ρ':Env)(s':AS)(t:Sem Unit):Prop:=f=.nx∧ρ'=ρ∧∀(Q:Unit→Shared→Prop)(E:Value→Shared→Prop),
 (∀σ' M' h' tk,aJ Z J M st.heap σ' M' h'→aq C σ' M' s' h'→Q () {st with heap:=h',toks:=tk})→ab (Md C) A t Q E st
section
variable{rw rj:Value}
theorem xS(W:Wd C P){j:AV}(S:aq C J M s st.heap)(z:cm C Z J st.heap)(e:(Ks P w j v ρ s).leaf C.ν=some (f,ρ',s'))(V:ao C J M st.heap w rw)(J1:ao C J M st.heap j rj)(X:ao C J M st.heap v rv):Mz C Z J M A st f ρ ρ' s' (setItem rw rj rv):=by
 obtain⟨i,rfl,e⟩:=nT e
 obtain⟨y,rfl,e⟩:=aX e
 refine aC (cT e:) fun l el e=>?_
 refine aw (cO e:) fun hnf e=>?_
 refine aw (bC e:) fun hl e=>?_
 refine aH.cM e fun jj ag e1 e=>?_
 refine aC (aI e:) fun k hk e=>?_
 injection e with e;injection e with e aN;subst e;injection aN with aN nu;subst aN nu;exact⟨rfl,rfl,fun Q E K=>B5 W.nf S z hnf el hl e1 hk V J1 X fun h' G S'=>K _ _ _ st.toks G S'⟩
theorem FK(W:Wd C P)(hn:n∈C.attrs)(S:aq C J M s st.heap)(z:cm C Z J st.heap)(e:(NA P w n v ρ s).leaf C.ν=some (f,ρ',s'))(V:ao C J M st.heap w rw)(X:ao C J M st.heap v rv):Mz C Z J M A st f ρ ρ' s' (setAttr rw (C.nm n) rv):=by
 refine aC (aI e:) fun q hi e=>?_
 refine aC (aI e:) fun p hc e=>?_
 refine aw (tS e:) fun hm e=>?_
 refine aw (cO e:) fun hb e=>?_
 injection e with e;injection e with e aN;subst e;injection aN with aN nu;subst aN nu;exact⟨rfl,rfl,fun Q E K=>B6 W S z V X hi hc hn hm (by rw [←W.nf];exact bF (ae hb).1) (bF (ae hb).2) K⟩
theorem rZ{ν:Nat→Int}{l x:List IE}(B:bq ν l)(X:bq ν x)(m n:Nat):bq ν (l.take m++x++l.drop n):=fun y hy=>
 (List.mem_append.mp hy).elim (fun hy=>(List.mem_append.mp hy).elim (fun hy=>B y (List.mem_of_mem_take hy)) (X y)) fun hy=>B y (List.mem_of_mem_drop hy)
theorem FJ(HS:lL C)(hA:A.handled=none)(hu:A.units+20<cLine){i:Nat}{l xb:List IE}{ra rb:Value}{sl:Addr}{li hi:Int}{ag:AS}{Q:Unit→Shared→Prop}(hS:st.heap.IsSliceOf sl ra rb .none)(S:aq C J M s st.heap)(z:cm C Z J st.heap)(el:s.get i=some (.cu l))(hnf:C.nf≤i)(hl:l.length≤100000)(p1:IsPart ra (some li))(p2:IsPart rb (some hi))(h1:clipAt l.length li≤clipAt l.length hi)(h2:xb.length=clipAt l.length hi - clipAt l.length li)(hs:SameBut s ag)(R:cg C.ν ag.rg)
  (V:ao C J M st.heap (.ref i) rw)(X:ao C J M st.heap (.bytes xb) rv)(K:∀σ' M' h' tk,aJ Z J M st.heap σ' M' h'→aq C σ' M' (ag.upd i (.cu (l.take (clipAt l.length li)++xb++l.drop (clipAt l.length hi)))) h'→Q () {st with heap:=h',toks:=tk}):ab (Md C) A (setItem rw (.ref sl) rv) Q E st:=
 X.eH fun hb t=>aC V.inv fun ad q hq=>q▸aw (S.obj _ _ ad el hq).jH fun ea B=>by
  have sz:=cJ C.ν l
  refine HS A st E ad sl (aS C.ν l) (aS C.ν xb) t ra rb (some li) (some hi) _ hA hu ea hS p1 p2 (sz▸hl) (by rw [sz];exact h1) (by rw [sz,cJ];exact h2) fun wy pX OY uf=>?_
  rw [sz]at uf;have uf:=uf.trans (congrArg (fun b=>some (de b)) (xk h1))
  exact aw ((S.lT hs R).turned (Z:=Z) hq hnf z ((congrArg (fun t:aE AO=>t.get i) hs.1).trans el) OY ⟨_,uf⟩ fun Y=>.cu _ _ uf (rZ B hb _ _)) fun S' G=>K _ _ _ pX G S'
theorem FI(HS:lL C)(W:Wd C P)(hA:A.handled=none)(hu:A.units+20<cLine){a b:AV}{ra rb:Value}{sl:Addr}(hS:st.heap.IsSliceOf sl ra rb .none)(S:aq C J M s st.heap)(z:cm C Z J st.heap)(e:(Nz P w a b v ρ s).leaf C.ν=some (f,ρ',s'))(V:ao C J M st.heap w rw)(La:ao C J M st.heap a ra)(Lb:ao C J M st.heap b rb)(X:ao C J M st.heap v rv):
  Mz C Z J M A st f ρ ρ' s' (setItem rw (.ref sl) rv):=by
 obtain⟨i,rfl,e⟩:=nT e
 obtain⟨xb,rfl,e⟩:=lU e
 refine aC (aI e) fun l q e=>aw (cO e) fun hnf e=>aw (bC e) fun hl e=>aH.cM e fun a0 nH e5 e=>aH.cM e fun b0 Kf e6 e=>A2 (kE S.rg e5 La) fun li p1 ea c2 c3=>A2 (kE c3 e6 Lb) fun hi p2 eb d2 d3=>?_
 rw [ea,eb]at e;refine aw (cO e) fun hab e=>?_
 injection e with e;injection e with e aN;subst e;injection aN with aN nu;subst aN nu;exact⟨rfl,rfl,fun Q E K=>FJ HS hA hu hS S z (qL q) (W.nf▸bF hnf) hl p1 p2 (bF (ae hab).1) (pz (ae hab).2) (c2.trans d2) d3 V X K⟩
end
theorem JV(W:Wd C P)(H:gu C ih d){o i a:CE}(e:(bX P ih (.jZ o i a) ρ s).leaf C.ν=some (f,ρ',s')){xo:Expr}(h1:aW C kd o xo)(h2:aW C kd i xi)(h3:aW C kd a ex)(h4:bW ex)
  (F:dk C Z J M own kd cs env ρ st.heap)(S:aq C J M s st.heap)(R:bu A d)(z:cm C Z J st.heap)(K:KX C Z J M own kd cs env st f ρ' s' Q):ab (Md C) A (exec (.Assign [.Subscript xo xi p] ex pos) env) Q E st:=by
 refine aH.cM e fun av ag e1 e=>?_
 refine aH.cM e fun ow aK e2 e=>?_
 refine aH.cM e fun jv bM e3 e=>?_
 refine eO (H a ρ s av ag e1 kd _ h3 _ J M env A st F.f S R (F.z z) _ _ fun aA aP h₁ aU rv aF aD cb=>?_) (pY h4 _ _ _)
 have cS:=F.grow aF
 have pj:=z.bJ aF
 refine H o ρ ag ow aK e2 kd _ h1 _ aA aP env A {st with heap:=h₁,toks:=aU} cS.f aD R (cS.z pj) _ _ fun cy dU br bf ro bb bU d7=>?_
 have fb:=cS.grow bb
 have nA:=pj.bJ bb
 refine H i ρ aK jv bM e3 kd _ h2 _ cy dU env A {st with heap:=br,toks:=bf} fb.f bU R (fb.z nA) _ _ fun kO sh dR ie rj du fH xu=>?_
 have jb:=fb.grow du
 obtain⟨q1,q2,hset⟩:=xS (A:=A) (st:={st with heap:=dR,toks:=ie}) W fH (jb.z (nA.bJ du)) e (d7.grow du) xu ((cb.grow bb).grow du)
 exact hset _ _ fun mf u9 iK fY d8 lI=>(K.ev (tk:=ie) ((aF.trans bb).trans du)) mf u9 iK fY .next (d8.less fun Y q=>.inl q) lI (q2▸jb.grow d8) (q1▸rfl)
theorem JX(W:Wd C P)(H:gu C ih d){o a:CE}(e:(bX P ih (.aT o n a) ρ s).leaf C.ν=some (f,ρ',s')){xo:Expr}{nm:Str}(h0:nm=C.nm n)(hn:n∈C.attrs)(h1:aW C kd o xo)(h3:aW C kd a ex)(h4:bW ex)
  (F:dk C Z J M own kd cs env ρ st.heap)(S:aq C J M s st.heap)(R:bu A d)(z:cm C Z J st.heap)(K:KX C Z J M own kd cs env st f ρ' s' Q):ab (Md C) A (exec (.Assign [.Attribute xo nm p] ex pos) env) Q E st:=by
 subst h0;refine aH.cM e fun av ag e1 e=>?_
 refine aH.cM e fun ow aK e2 e=>?_
 refine plainObj_wpAny_Assign_Attribute (H a ρ s av ag e1 kd _ h3 _ J M env A st F.f S R (F.z z) _ _ fun aA aP h₁ aU rv aF aD cb=>?_) (pY h4 _ _ _)
 have cS:=F.grow aF
 have pj:=z.bJ aF
 refine H o ρ ag ow aK e2 kd _ h1 _ aA aP env A {st with heap:=h₁,toks:=aU} cS.f aD R (cS.z pj) _ _ fun cy dU br bf ro bb bU d7=>?_
 have fb:=cS.grow bb
 obtain⟨q1,q2,hset⟩:=FK (A:=A) (st:={st with heap:=br,toks:=bf}) W hn bU (fb.z (pj.bJ bb)) e d7 (cb.grow bb)
 exact hset _ _ fun kO sh dR ie du fH=>(K.ev (tk:=bf) (aF.trans bb)) kO sh dR ie .next (du.less fun Y q=>.inl q) fH (q2▸fb.grow du) (q1▸rfl)
theorem Fm{u x y:AV}(V:ao C J M h (.t [x,y]) rv):∃t r1 r2,rv=.ref t∧(∃n,h.get? t=some (fP [r1,r2] n))∧ao C J M h x r1∧ao C J M h y r2:=by
 refine V.kS fun t vs n ht et Vt=>?_
 obtain⟨r1,r2,rfl,V1,V2⟩:=Vt.two
 exact⟨t,r1,r2,rfl,⟨n,et⟩,V1,V2⟩
theorem vF{xo:Expr}{nm:Str}{q r:Pos}(h6:∀es k p,ex≠.Tuple es k p):swappedStores [.Tuple [.Subscript xo xi p,.Name nm q] k r] ex env=pure none:=by
 cases ex<;>first|rfl|exact absurd rfl (h6 _ _ _)
theorem Fb(inj:∀x y,C.nm x=C.nm y→x=y)(W:Wd C P)(H:gu C ih d){o i a:CE}{y:Nat}(e:(bX P ih (.iX o i y a) ρ s).leaf C.ν=some (f,ρ',s')){xo:Expr}{nm:Str}{q r:Pos}(h0:nm=C.nm y)(h5:eC kd cs nm)(h1:aW C kd o xo)(h2:aW C kd i xi)(h3:aW C kd a ex)(h4:bW ex)(h6:∀es k p,ex≠.Tuple es k p)
  (F:dk C Z J M own kd cs env ρ st.heap)(S:aq C J M s st.heap)(R:bu A d)(z:cm C Z J st.heap)(K:KX C Z J M own kd cs env st f ρ' s' Q):ab (Md C) A (exec (.Assign [.Tuple [.Subscript xo xi p,.Name nm q] k r] ex pos) env) Q E st:=by
 subst h0;refine aH.cM e fun av ag e1 e=>?_
 obtain⟨l,rfl,e⟩:=iF e
 obtain⟨va,vu,rfl,e⟩:=kR e
 refine aH.cM e fun ow aK e2 e=>?_
 refine aH.cM e fun jv bM e3 e=>?_
 refine oG h4 (vF h6) (H a ρ s _ ag e1 kd _ h3 _ J M env A st F.f S R (F.z z) _ _ fun aA aP h₁ aU rv aF aD cb=>?_)
 obtain⟨t,r1,r2,rfl,⟨n,et⟩,Va,Vu⟩:=Fm (u:=va) cb
 refine aa (gw (s:={st with heap:=h₁,toks:=aU}) R.1 ⟨_,et,rfl,n,rfl⟩ rfl rfl fun br he=>?_)
 have hk:∀b o,h₁.get? b=some o→br.get? b=some o:=fun b o e=>he b o (Nat.ne_of_lt (Heap.lt_size e)) e
 have bb:=aJ.heap (fun a=>Z a∨own a) aA aP hk
 have fb:=(F.grow aF).grow bb
 have nA:=(z.bJ aF).bJ bb
 refine assignInOrder_cons ?_
 show ab _ _ (assign (.Subscript xo xi p) env r1) _ _ _;rw [assign_Subscript];refine aa (aj (H o ρ ag ow aK e2 kd _ h1 _ aA aP env A {st with heap:=br,toks:=aU} fb.f (aD.heap hk) R (fb.z nA) _ _ fun kO sh dR ie ro du fH xu=>?_))
 have jb:=fb.grow du
 have Bj:=nA.bJ du
 refine aa (aj (H i ρ aK jv bM e3 kd _ h2 _ kO sh env A {st with heap:=dR,toks:=ie} jb.f fH R (jb.z Bj) _ _ fun mf u9 iK fY rj d8 lI EF=>?_))
 have mO:=jb.grow d8
 have G:=((aF.trans bb).trans du).trans d8
 have Gu:=(bb.trans du).trans d8
 refine aa (au (aa (aj ?_)))
 obtain⟨q1,q2,hset⟩:=xS (A:=A) (st:={st with heap:=iK,toks:=fY}) W lI (mO.z (Bj.bJ d8)) e (xu.grow d8) EF (Va.grow Gu)
 refine hset _ _ fun xD EI wy pX l9 H3=>fj ?_
 have EJ:=mO.grow l9
 refine assignInOrder_cons ?_
 show ab _ _ (assign (.Name (C.nm y) q) env r2) _ _ _;refine dz (gy (st:={st with heap:=wy,toks:=pX}) inj h5 EJ H3 (Vu.grow (Gu.trans l9)) fun rP kT iO u4 ME=>?_)
 refine lf<|assignInOrder_nil (af ?_)
 exact(K.ev (tk:=fY) (G.trans l9)) xD EI rP kT .next iO u4 (q2▸ME _ _ EJ) (q1▸rfl)
theorem JU(HS:lL C)(W:Wd C P)(H:gu C ih d){o lo hi a:CE}(e:(bX P ih (.i9 o lo hi a) ρ s).leaf C.ν=some (f,ρ',s')){xo xl xh:Expr}{q:Pos}(h1:aW C kd o xo)(h2:aW C kd lo xl)(S0:aW C kd hi xh)(h3:aW C kd a ex)(h4:bW ex)
  (F:dk C Z J M own kd cs env ρ st.heap)(S:aq C J M s st.heap)(R:bu A d)(z:cm C Z J st.heap)(K:KX C Z J M own kd cs env st f ρ' s' Q):ab (Md C) A (exec (.Assign [.Subscript xo (.Slice (some xl) (some xh) none q) p] ex pos) env) Q E st:=by
 refine aH.cM e fun av ag e1 e=>?_
 refine aH.cM e fun ow aK e2 e=>?_
 refine aH.cM e fun la bM e3 e=>?_
 refine aH.cM e fun ha kV e4 e=>?_
 refine eO (H a ρ s av ag e1 kd _ h3 _ J M env A st F.f S R (F.z z) _ _ fun aA aP h₁ aU rv aF aD cb=>?_) (pY h4 _ _ _)
 have cS:=F.grow aF
 have pj:=z.bJ aF
 refine H o ρ ag ow aK e2 kd _ h1 _ aA aP env A {st with heap:=h₁,toks:=aU} cS.f aD R (cS.z pj) _ _ fun cy dU br bf ro bb bU d7=>?_
 have fb:=cS.grow bb
 have nA:=pj.bJ bb
 refine jf (dO (H lo ρ aK la bM e3 kd _ h2 _ cy dU env A {st with heap:=br,toks:=bf} fb.f bU R (fb.z nA) _ _ fun kO sh dR ie rl du fH xu=>?_))
 have jb:=fb.grow du
 have Bj:=nA.bJ du
 refine dO (H hi ρ bM ha kV e4 kd _ S0 _ kO sh env A {st with heap:=dR,toks:=ie} jb.f fH R (jb.z Bj) _ _ fun mf u9 iK fY rh d8 lI EF=>?_)
 rw [evalPart_none];refine af ?_;have GP:=aJ.push (fun a=>Z a∨own a) mf u9 iK (p9 rl rh)
 have Ue:=du.trans d8
 have EJ:=(jb.grow d8).grow GP
 obtain⟨q1,q2,hset⟩:=FI (A:=A) (st:={st with heap:=iK.push (p9 rl rh),toks:=fY}) HS W R.1 (R.u (by decide)) (Heap.IsSliceOf.new ..) (lI.push _) (EJ.z ((Bj.bJ d8).bJ GP)) e ((d7.grow Ue).grow GP) ((xu.grow d8).grow GP) (EF.grow GP) ((cb.grow (bb.trans Ue)).grow GP)
 exact hset _ _ fun ny u7 rP kT iO u4=>(K.ev (tk:=fY) (((aF.trans bb).trans Ue).trans GP)) ny u7 rP kT .next (iO.less fun Y q=>.inl q) u4 (q2▸EJ.grow iO) (q1▸rfl)
end
section
theorem KX.now{fl:Flow}(K:KX C Z J M own kd cs env st f ρ' s' Q)(S:aq C J M s' st.heap)(F:dk C Z J M own kd cs env ρ' st.heap)(r:vc C J M st.heap f fl)(tk:Tok):Q fl {st with toks:=tk}:=
 K J M st.heap tk fl (aJ.refl _ _ _ _) S F r
theorem Rb(H:gu C ih d){a:CE}(e:(bX P ih (.ex a) ρ s).leaf C.ν=some (f,ρ',s'))(h3:aW C kd a ex)(h4:bW ex)
  (F:dk C Z J M own kd cs env ρ st.heap)(S:aq C J M s st.heap)(R:bu A d)(z:cm C Z J st.heap)(K:KX C Z J M own kd cs env st f ρ' s' Q):ab (Md C) A (exec (.Expr ex pos) env) Q E st:=by
 unfold bX at e;refine aH.cM e fun av ag e1 e=>?_
 injection e with e;injection e with e aN;subst e;injection aN with aN nu;subst aN nu;refine ni (H a ρ s av _ e1 kd _ h3 _ J M env A st F.f S R (F.z z) _ _ fun aA aP h₁ aU rv aF aD cb=>?_) (Cz F.f) (pY h4 _ _ _)
 exact K aA aP h₁ aU .next (aF.less fun Y q=>.inl q) aD (F.grow aF) rfl
theorem M4(H:gu C ih d){a:CE}(e:(bX P ih (.ret a) ρ s).leaf C.ν=some (f,ρ',s'))(h3:aW C kd a ex)
  (F:dk C Z J M own kd cs env ρ st.heap)(S:aq C J M s st.heap)(R:bu A d)(z:cm C Z J st.heap)(K:KX C Z J M own kd cs env st f ρ' s' Q):ab (Md C) A (exec (.Return (some ex) pos) env) Q E st:=by
 unfold bX at e;refine aH.cM e fun av ag e1 e=>?_
 injection e with e;injection e with e aN;subst e;injection aN with aN nu;subst aN nu;refine kK (H a ρ s av _ e1 kd _ h3 _ J M env A st F.f S R (F.z z) _ _ fun aA aP h₁ aU rv aF aD cb=>?_)
 exact K aA aP h₁ aU (.ret rv) (aF.less fun Y q=>.inl q) aD (F.grow aF) ⟨rv,rfl,cb⟩
theorem M5(HT:vm C ih d)(HX:vk C ih d){t:CE}{a:List CS}(e:(bX P ih (.ite t a b) ρ s).leaf C.ν=some (f,ρ',s')){zs:List Stmt}(h1:aW C kd t ex)(h2:dc C kd cs a ys)(h3:dc C kd cs b zs)
  (F:dk C Z J M own kd cs env ρ st.heap)(S:aq C J M s st.heap)(R:bu A d)(z:cm C Z J st.heap)(K:KX C Z J M own kd cs env st f ρ' s' Q):ab (Md C) A (exec (.If ex ys zs pos) env) Q E st:=by
 unfold bX at e;refine aH.cM e fun r ag e1 e=>?_
 refine A7 (HT t ρ s r ag e1 kd _ h1 _ J M env A st F.f S R (F.z z) _ _ fun aA aP h₁ aU aF aD=>?_)
 cases r with
 |true=>exact HX a ρ ag f ρ' s' e kd cs ys h2 Z aA aP own env A {st with heap:=h₁,toks:=aU} (F.grow aF) aD R (z.bJ aF) Q E (K.ev aF)
 |false=>exact HX b ρ ag f ρ' s' e kd cs zs h3 Z aA aP own env A {st with heap:=h₁,toks:=aU} (F.grow aF) aD R (z.bJ aF) Q E (K.ev aF)
theorem M3(HX:vk C ih d){a:List CS}(e:(bX P ih (.try a) ρ s).leaf C.ν=some (f,ρ',s')){hd:ExceptHandler}{hs:List ExceptHandler}(h2:dc C kd cs a ys)
  (F:dk C Z J M own kd cs env ρ st.heap)(S:aq C J M s st.heap)(R:bu A d)(z:cm C Z J st.heap)(K:KX C Z J M own kd cs env st f ρ' s' Q):ab (Md C) A (exec (.Try ys (hd::hs) [] [] pos) env) Q E st:=by
 unfold bX at e;refine lP (HX a ρ s f ρ' s' e kd cs ys h2 Z J M own env A st F S R z _ _ fun aA aP h₁ aU fl aF aD cS px=>?_)
 have q:=K aA aP h₁ aU fl aF aD cS px
 cases fl with
 |next=>exact lf<|wpAny_execs_nil q
 |_=>exact q
theorem dk.forget(F:dk C Z J M own kd cs env ρ h){L:Addr}(hM:M L)(h1:¬own L)(h2:∀x c,env.cells.lookup x=some c→c≠L)(hs:Heap.SameBut L h h'):dk C Z J (fun b=>M b∧b≠L) own kd cs env ρ h':=by
 have X:vf J M h J (fun b=>M b∧b≠L) h':=⟨⟨[],by simp⟩,fun b o hn e=>⟨fun q=>hn q.1,(hs.2 b fun q=>hn (q▸hM)).trans e⟩⟩
 have lo:env.locals≠L:=fun q=>h1 (q▸F.lo)
 refine⟨⟨F.f.glob,F.f.i8,F.f.kind,F.f.kinds,F.f.Ed,fun x c q=>?_,(fun c q=>let⟨a1,a2,a3⟩:=F.f.code c q;⟨a1,a2,fun x a q z=>a3 x a q z.1⟩),fun x v e k=>?_⟩,fun a q=>⟨⟨(F.eR a q).1,fun z=>h1 (z▸q)⟩,(F.eR a q).2⟩,fun a q=>?_,F.lo,let⟨m,N⟩:=F.ns;⟨m,N.sameBut hs lo⟩,fun k x q=>?_,F.lc,F.ap,F.gh⟩
 ·refine dF (F.f.xd x c q:) fun o e=>?_
  exact⟨o,(hs.2 c (h2 x c q)).trans e⟩
 ·refine aC (F.f.vars x v e k:) fun rv Rr V=>?_
  refine⟨rv,?_,V.chg X⟩
  cases Rr with
  |loc m a b c d=>exact .loc m a b (c.sameBut hs lo) d
  |cell c o a b e f g=>exact .cell c o a b (e.imp id fun n q=>n q.1) ((hs.2 c (h2 _ c b)).trans f) g
 ·obtain⟨⟨o,e⟩,b,c⟩:=F.gB a q
  exact⟨⟨o,(hs.2 a fun z=>h1 (z▸q)).trans e⟩,b,c⟩
 ·refine j8 (F.ce k x q:) fun c v q1 q2 q3=>?_
  exact⟨c,v,q1,q2.sameBut hs (h2 _ _ q1),q3⟩
set_option tactic.hygienic true in
theorem JW(HI:iN C)(inj:∀x y,C.nm x=C.nm y→x=y)(hn:n≤100000)(HB:∀m,m≤n→gu C (run P N m d) d∧vm C (run P N m d) d){y:Nat}{it:CE}
  {xe xt xi:Expr}{xs:List Expr}{sc:Scope}{nm:Str}{p pos lpos:Pos}
  (e:((cF P N (run P N n d) (.comp elt tg flat it ifs) ρ s).bind fun(v,s)=>.ok (Fl.nx,bV ρ y v,s)).leaf C.ν=some (f,ρ',s'))(h0:nm=C.nm y)(h5:eC kd cs nm)(hf:aW C kd (.comp elt tg flat it ifs) (.ListComp xe [⟨xt,xi,xs,0⟩] sc lpos))
  (F:dk C Z J M own kd cs env ρ st.heap)(S:aq C J M s st.heap)(R:bu A d)(z:cm C Z J st.heap)(K:KX C Z J M own kd cs env st f ρ' s' Q):ab (Md C) A (exec (.Assign [.Name nm p] (.ListComp xe [⟨xt,xi,xs,0⟩] sc lpos) pos) env) Q E st:=by
 subst h0;refine aH.cM e fun av ag e1 e=>?_
 injection e with e;injection e with e aN;subst e;injection aN with aN nu;subst aN nu;obtain⟨b,hsw⟩:∃b,swapsWith (.ListComp xe [⟨xt,xi,xs,0⟩] sc lpos) (some (.Name (C.nm y) p)) pos.line env=pure b:=⟨_,rfl⟩
 cases b with
 |false=>
  refine gT (B8 HI inj hn HB e1 (qu hf) F.f S R (F.z z) fun aA aP h₁ aU rv aF aD cb=>?_) hsw
  refine gy (st:={st with heap:=h₁,toks:=aU}) inj h5 (F.grow aF) aD cb fun br bf bb bU fb=>?_
  exact(K.ev (tk:=aU) aF) aA aP br bf .next bb bU (fb _ _ (F.grow aF)) rfl
 |true=>
  rw [exec_Assign_Name_used _ _ _ _ hsw];refine aa (au (aa ?_));show ab _ A (do let _←comprehension (.ListComp xe [⟨xt,xi,xs,0⟩] sc lpos) sc env _ (PySem.newList []) false (eval xi env) (some (assign (.Name (C.nm y) p) env))) _ _ st;refine aa (aG (uL HI inj hn HB (use:=some (assign (.Name (C.nm y) p) env)) (Q:=fun Y s'=>Q .next s') e1 (qu hf) F.f S R (F.z z) (fun D L h' tk σ' M' G S' V hL MQ zL hns=>?_) _) (fun Y s' hq=>af (af hq)) fun Y Y e=>e)
  refine dF (hns:) fun m hns=>?_
  show ab _ A (assign (.Name (C.nm y) p) env (.ref D)) _ E _;have F':=F.grow G
  have UW:¬own L:=fun q=>let⟨⟨o,e⟩,_⟩:=F.gB L q;aO e hL
  have Xl:∀x c,env.cells.lookup x=some c→c≠L:=fun x c q z=>let⟨o,e⟩:=F.f.xd x c q;aO (z▸e) hL
  refine dz (gy (Z:=fun a=>Z a∨a=L) (st:={st with heap:=h',toks:=tk}) inj h5 (F'.yc (fun Y q=>.inl q) fun a q=>fun x=>x.elim (F'.eR a q).2 fun x=>UW (x▸q)) S' V fun br bf bb bU fb=>?_)
  refine mU (hns:) fun o es ep eL er=>?_
  refine⟨m,⟨o,es,ep,bb.dB (.inr rfl) eL,er⟩,fun dR hs=>?_⟩
  refine dN ((zL.bJ bb) L rfl:) fun b1 b2 b3=>?_
  obtain⟨fH,X⟩:=bU.forget MQ b2 b3 hs
  have ja:=(G.less (Z':=Z) fun Y q=>.inl q).trans (bb.less fun Y q=>.inl q)
  exact K σ' _ dR bf .next (ja.forget hL (fun b m=>S.mlt b m) hs) fH ((fb _ _ F').forget MQ UW Xl hs) rfl
end
section
theorem Oc{ν:Nat→Int}{a:Fl}{b:Env}{c:AS}(e:(aH.ok (a,b,c)).leaf ν=some (f,ρ',s')):a=f∧b=ρ'∧c=s':=by
 injection e with e;injection e with e aN;subst e;injection aN with aN nu;subst aN nu;exact⟨rfl,rfl,rfl⟩
theorem zv{c:CS}(e:(B2 P ih [c] ρ s).leaf C.ν=some (f,ρ',s')):(bX P ih c ρ s).leaf C.ν=some (f,ρ',s'):=by
 refine aH.Vn e fun g b7 ag e1 e=>?_
 refine e1.trans ?_
 cases g<;>exact e
theorem rz{m:Nat}{c:CS}(e:((run P N m d).xs [c] ρ s).leaf C.ν=some (f,ρ',s')):∃m',m=m'+1∧(bX P (run P N m' d) c ρ s).leaf C.ν=some (f,ρ',s'):=by
 cases m with
 |zero=>injection e
 |succ m=>exact⟨m,rfl,zv e⟩
inductive Qv(C:Cx)(P:Pg)(N:pa)(d n:Nat)(t:CE)(b:List CS)(f:Fl)(ρ':Env)(s':AS)(Z:Addr→Prop)(J:List Addr)(M own:Addr→Prop)(kd:Kd)(cs:Bool)(env:PySem.Env)(st:Shared)(m:Nat):Shared→Prop
 |mk (h' tk σ' M' b7 ag):(bX P (run P N m d) (.while t b) b7 ag).leaf C.ν=some (f,ρ',s')→aJ Z J M st.heap σ' M' h'→aq C σ' M' ag h'→dk C Z σ' M' own kd cs env b7 h'→cm C Z σ' h'→m≤n→Qv C P N d n t b f ρ' s' Z J M own kd cs env st m {st with heap:=h',toks:=tk}
inductive QH(C:Cx)(P:Pg)(N:pa)(d n:Nat)(tg:List Nat)(flat:Bool)(kind:Nat)(src:AV)(b:List CS)(T:Addr→Prop)(St:List Addr→(Addr→Prop)→Nat→Heap→Prop)(f:Fl)(ρ':Env)(s':AS)(Z:Addr→Prop)(J:List Addr)(M own:Addr→Prop)(kd:Kd)(cs:Bool)(env:PySem.Env)(st:Shared)(m:Nat):Shared→Prop
 |mk (h' tk σ' M' b7 ag k):(bX P (run P N m d) (.hH tg flat kind src k b) b7 ag).leaf C.ν=some (f,ρ',s')→aJ Z J M st.heap σ' M' h'→(∀a,T a→M' a)→aq C σ' M' ag h'→dk C Z σ' M' own kd cs env b7 h'→St σ' M' k h'→cm C T σ' h'→cm C Z σ' h'→m≤n→QH C P N d n tg flat kind src b T St f ρ' s' Z J M own kd cs env st m {st with heap:=h',toks:=tk}
theorem E9(HB:∀m,m≤n→vm C (run P N m d) d∧vk C (run P N m d) d){t:CE}(e:(bX P (run P N n d) (.while t b) ρ s).leaf C.ν=some (f,ρ',s'))(h1:aW C kd t ex)(h2:dc C kd cs b ys)
  (F:dk C Z J M own kd cs env ρ st.heap)(S:aq C J M s st.heap)(R:bu A d)(z:cm C Z J st.heap)(K:KX C Z J M own kd cs env st f ρ' s' Q):ab (Md C) A (exec (.While ex ys [] pos) env) Q E st:=by
 refine sF (kL (Qv C P N d n t b f ρ' s' Z J M own kd cs env st) ?_ n
  (.mk st.heap st.toks J M ρ s e (aJ.refl _ _ _ _) S F z (Nat.le_refl _)))
 refine fun m nM H=>H.rec fun h' tk σ' M' b7 ag e G S' F' z' hm=>?_
 refine eM (P7 e) fun r aK e1 e=>?_
 refine(HB m hm).1 t b7 ag r aK e1 kd _ h1 _ σ' M' env A {st with heap:=h',toks:=tk} F'.f S' R (F'.z z') _ _ fun cy dU br bf bb bU=>?_
 have fb:=F'.grow bb
 have nA:=z'.bJ bb
 have ja:=G.trans (bb.less fun Y q=>.inl q)
 cases r with
 |false=>
  refine dN (Oc e) fun q1 q2 q3=>?_
  rw [if_neg Bool.false_ne_true];exact lf<|wpAny_execs_nil (K cy dU br bf .next ja (q3▸bU) (q2▸fb) (q1▸rfl))
 |true=>
  rw [if_pos rfl];refine mU (Et e) fun Pb Ig bM e3 e=>?_
  refine(HB m hm).2 b b7 aK Pb Ig bM e3 kd cs ys h2 Z cy dU own env A {st with heap:=br,toks:=bf} fb bU R nA _ _ fun mf u9 iK fY fl d8 lI mO NP=>?_
  cases Pb with
  |rt w=>
   refine dN (Oc e) fun q1 q2 q3=>?_
   refine aC (NP:) fun rv q V=>?_
   subst q;exact K mf u9 iK fY _ (ja.trans d8) (q3▸lI) (q2▸mO) (q1▸⟨rv,rfl,V⟩)
  |nx=>
   cases (NP:fl=.next)
   refine aC (rz e) fun m' Lv e'=>?_
   exact⟨m',Lv▸Nat.lt_succ_self _,(.mk iK fY mf u9 Ig bM e' (ja.trans d8) lI mO (nA.bJ d8) (by subst Lv;lia))⟩
theorem dk.OI(F:dk C Z' J M own kd cs env ρ h)(hz:∀a,Z' a→Z a∨T a)(WU:∀a,Z a→Z' a)(hc:∀x c,env.cells.lookup x=some c→¬T c):dk C Z J M own kd cs env ρ h:=by
 refine⟨⟨F.f.glob,F.f.i8,F.f.kind,F.f.kinds,F.f.Ed,F.f.xd,F.f.code,fun x v e k=>?_⟩,fun a q=>⟨(F.eR a q).1,fun x=>(F.eR a q).2 (WU a x)⟩,F.gB,F.lo,F.ns,F.ce,F.lc,F.ap,F.gh⟩
 obtain⟨rv,Rr,V⟩:=F.f.vars x v e k
 refine⟨rv,?_,V⟩
 cases Rr with
 |loc m a b c d=>exact .loc m a (.inr F.lo) c d
 |cell c o a b e f g=>exact .cell c o a b (e.imp (fun q=>q.elim (fun q=>.inl ((hz c q).resolve_right (hc _ c b))) .inr) id) f g
theorem DD(inj:∀x y,C.nm x=C.nm y→x=y)(HB:∀m,m≤n→vk C (run P N m d) d)(e:(bX P (run P N n d) (.hH tg flat kind src 0 b) ρ s).leaf C.ν=some (f,ρ',s'))(fT:mN C kd cs tg flat xt)(hfl:kind=0∨flat=false)(h2:dc C kd cs b ys)
  {I:Addr}{T:Addr→Prop}{St:List Addr→(Addr→Prop)→Nat→Heap→Prop}(It:jJ C kind src I T St)(F:dk C Z J M own kd cs env ρ st.heap)(S:aq C J M s st.heap)(R:bu A d)(z:cm C Z J st.heap)(hT:∀a,T a→M a∧¬Z a∧¬own a)(MP:∀x c,env.cells.lookup x=some c→¬T c)(zT:cm C T J st.heap)(GL:St J M 0 st.heap)
  {dW:List Addr}{M₀:Addr→Prop}{h₀:Heap}(ja:aJ Z dW M₀ h₀ J M st.heap)(dT:∀a,T a→h₀.get? a=none)(lu:∀b,M₀ b→∃o,h₀.get? b=some o)
  {RR:Result→Shared→Prop}(K:KX C Z dW M₀ own kd cs env {st with heap:=h₀} f ρ' s' fun fl s'=>RR (.ok fl) s'):ba (Md C) A (.forLoop xt (.ref I) ys [] env) RR st:=by
 refine jT (QH C P N d n tg flat kind src b T St f ρ' s' Z J M own kd cs env st) ?_ n
  (.mk st.heap st.toks J M ρ s 0 e (aJ.refl _ _ _ _) (fun a q=>(hT a q).1) S F GL zT z (Nat.le_refl _))
 refine fun m nM H=>H.rec fun h' tk σ' M' b7 ag k e G hM S' F' nM Q9 z' hm=>?_
 refine aH.bd e fun r er e=>?_
 refine It.next (Z:=fun a=>Z a∨own a) (st:={st with heap:=h',toks:=tk}) R.1 S' (fun a q=>⟨hM a q,fun x=>x.elim (hT a q).2.1 (hT a q).2.2,(Q9 a q).2⟩) nM er (fun hr br bf jz=>?_) fun x hx br bf rv bb bU d7 lot=>?_
 ·rw [hr]at e
  refine dN (Oc e) fun q1 q2 q3=>?_
  have bU:=(S'.fq (T:=T) (fun a q=>⟨hM a q,(Q9 a q).2⟩) jz).1
  exact lf<|wpAny_execs_nil (K σ' _ br bf .next ((ja.trans G).fq dT lu jz) (q3▸bU) (q2▸F'.fq hM (fun a q=>(hT a q).2.2) MP jz) (q1▸rfl))
 ·rw [hx]at e
  exact aC (aI e) fun MY hb e=>by
   refine lot _ A _ _ (hfl.imp id fun q:flat=false=>mU (q▸fT:mN C kd cs tg false xt).CQ fun xs k pos e Y=>⟨xs,k,pos,e⟩) fun dR du fH sX=>?_
   have m7:=bb.trans du
   have jb:=F'.grow m7
   refine rq (Z:=fun a=>Z a∨T a) (st:={st with heap:=dR,toks:=bf}) inj fT R.1 hb (d7.grow du) (jb.yc (fun Y q=>.inl q) fun a q=>fun x=>x.elim (jb.eR a q).2 fun x=>(hT a x).2.2 q) fH fun iK fY d8 lI mO=>?_
   have VA:=mO Z _ _ hb jb
   have QE:=mO (fun a=>Z a∨T a) _ _ hb (jb.yc (fun Y q=>.inl q) fun a q=>fun x=>x.elim (jb.eR a q).2 fun x=>(hT a x).2.2 q)
   have BY:=It.keep (fun a q=>.inr q) d8 sX
   have Im:=(Q9.bJ m7).bJ d8
   have M0:=(z'.bJ m7).bJ d8
   have sj:=(G.trans (m7.less fun Y q=>.inl q)).trans (d8.less fun Y q=>.inl q)
   refine mU (Et e) fun Pa Bh nH e5 e=>?_
   refine HB m hm b MY ag Pa Bh nH e5 kd cs ys h2 (fun a=>Z a∨T a) σ' M' own env A {st with heap:=iK,toks:=fY} QE lI R (fun a q=>q.elim (M0 a) (Im a)) _ _ fun ny u7 rP kT fl iO u4 ME NO=>?_
   have yY:=sj.trans (iO.less fun Y q=>.inl q)
   have JB:dk C Z ny u7 own kd cs env Bh rP:=ME.OI (fun Y q=>q) (fun Y q=>.inl q) MP
   cases Pa with
   |rt w=>
    refine dN (Oc e) fun q1 q2 q3=>?_
    refine aC (NO:) fun rv q V=>?_
    subst q;exact K ny u7 rP kT _ (ja.trans yY) (q3▸u4) (q2▸JB) (q1▸⟨rv,rfl,V⟩)
   |nx=>
    cases (NO:fl=.next)
    refine aC (rz e) fun m' Lv e'=>?_
    exact⟨m',Lv▸Nat.lt_succ_self _,(.mk rP kT ny u7 Bh nH (k+1) e' yY (fun a q=>iO.more a (hM a q)) u4 JB (It.keep (fun a q=>.inr q) iO BY) (Im.bJ iO) (M0.bJ iO) (by subst Lv;lia))⟩
end
section
theorem bE{x y:Expr}(q:x=y)(h:Nat.beq y.ctorIdx (Expr.Set [] default default).ctorIdx=false):∀xs k p,x≠.Set xs k p:=fun Y Y Y z=>Bool.noConfusion (h.symm.trans (congrArg (fun x=>Nat.beq (Expr.ctorIdx x) (Expr.Set [] default default).ctorIdx) (q.symm.trans z)))
theorem um{e:CE}{x:Expr}(h:aW C kd e x):∀xs k p,x≠.Set xs k p:=by
 cases e with
 |n _=>exact j8 (ak.Sd h) fun Y Y q Y Y=>bE q rfl
 |val _=>exact mU (ak.Ni h) fun Y Y Y q Y=>bE q rfl
 |t _=>exact mU (ak.tupI h) fun Y Y Y q Y=>bE q rfl
 |list _=>exact eM (ak.listI h) fun Y Y q Y=>bE q rfl
 |eF _ _=>exact mU (ak.PW h) fun Y Y Y q Y=>bE q rfl
 |bin _ _ _=>exact mU (ak.binI h) fun Y Y Y q Y=>bE q rfl
 |cmp _ _ _=>exact mU (ak.L6 h) fun Y Y Y q Y=>bE q rfl
 |chain _ _ _ _ _=>exact IK (ak.Eb h) fun Y Y Y Y q Y=>bE q rfl
 |and _=>exact eM (ak.Mw h) fun Y Y q Y=>bE q rfl
 |or _=>exact eM (ak.RU h) fun Y Y q Y=>bE q rfl
 |not _=>exact eM (ak.Oh h) fun Y Y q Y=>bE q rfl
 |neg _=>exact eM (ak.Oj h) fun Y Y q Y=>bE q rfl
 |ite _ _ _=>exact IK (ak.Gz h) fun Y Y Y Y q Y=>bE q rfl
 |attr _ _=>exact mU (ak.EA h) fun Y Y Y q Y=>bE q rfl
 |idx _ _=>exact mU (ak.OT h) fun Y Y Y q Y=>bE q rfl
 |iE _ _ _=>exact RZ (ak.Ny h) fun Y Y Y Y Y q Y=>bE q rfl
 |rev _=>exact A1 (ak.NS h) fun Y Y Y Y Y h=>aC h fun Y q Y=>bE q rfl
 |call _ _=>exact mU (ak.Eh h) fun Y Y Y q Y=>bE q rfl
 |bG _ _ _=>exact RZ (ak.CM h) fun Y Y Y Y Y q Y=>bE q rfl
 |comp _ _ _ _ _=>exact A1 (ak.D7 h) fun Y Y Y Y Y h=>aC h fun Y q Y=>bE q rfl
 |gM _ _ _ _ _ _ _=>exact False.elim h
 |lam _ _=>exact IK (ak.OK h) fun Y Y Y Y q Y=>bE q rfl
 |eZ _=>exact eM (ak.O9 h) fun Y Y q Y=>bE q rfl
 |bad _=>exact ak.TQ h
theorem oo(inj:∀x y,C.nm x=C.nm y→x=y)(HB:∀m,m≤n→vk C (run P N m d) d){t:Sem Value}(e:(bX P (run P N n d) (.hH tg flat kind src 0 b) ρ s).leaf C.ν=some (f,ρ',s'))(fT:mN C kd cs tg flat xt)(hfl:kind=0∨flat=false)(h2:dc C kd cs b ys)
  (F:dk C Z J M own kd cs env ρ st.heap)(S:aq C J M s st.heap)(R:bu A d)(z:cm C Z J st.heap)(mk:Made C kind src s J M st A t)(K:KX C Z J M own kd cs env st f ρ' s' Q):
  ab (Md C) A t (fun it ag=>(∃I,it=.ref I)∧(∀Q',Q' it ag→ab (Md C) A (pyIter it) Q' E ag)∧ab (Md C) A (runOwn (.forLoop xt it ys [] env) env) Q E ag) E st:=by
 refine mk _ _ fun I T St h₁ aU It hI o9 hk GL=>?_
 have hA:=aq.uY (Z:=Z) (h₁:=h₁) (own:=T) S hk (fun a q=>(o9 a q).1) (fun a q=>(o9 a q).2)
 have Xn:=aq.uY (Z:=fun a=>Z a∨own a) (h₁:=h₁) (own:=T) S hk (fun a q=>(o9 a q).1) (fun a q=>(o9 a q).2)
 refine aw (hA:) fun aD aF=>?_
 have hst:=GL _ (fun a q=>q.imp id fun q=>(o9 a q).1) (fun a q=>.inl q) aD
 refine⟨⟨I,rfl⟩,fun Q' q=>It.self R.1 hst q,kJ ?_⟩
 refine DD inj HB (st:={st with heap:=h₁,toks:=aU}) e fT hfl h2 It (F.grow Xn.2) aD R (z.bJ aF) (fun a q=>⟨.inr q,fun hz=>let⟨⟨o,e⟩,_⟩:=z a hz;aO e (o9 a q).1,fun hz=>let⟨⟨o,e⟩,_⟩:=F.gB a hz;aO e (o9 a q).1⟩)
  (fun x c q hc=>let⟨o,e⟩:=F.f.xd x c q;aO e (o9 c hc).1) (fun a q=>⟨(o9 a q).2,fun m=>let⟨o,e⟩:=S.there a m;aO e (o9 a q).1,fun p hp q'=>?_⟩) hst aF (fun a q=>(o9 a q).1) (fun b m=>S.mlt b m) K
 obtain⟨⟨ps,a1,a2,a3,a4⟩,a5⟩:=S.tab p hp
 exact aO (q'▸a2) (o9 a q).1
theorem oq{m:Nat}(e:(bX P (run P N m d) (.hH tg flat kind src 0 b) ρ s).leaf C.ν=some (f,ρ',s')):∃r,(iQ s kind src 0).leaf C.ν=some r:=by
 unfold bX at e;refine aH.bd e fun r er Y=>?_
 exact⟨r,er⟩
structure lJ(C:Cx)(P:Pg):Prop where
 enum:∃x,C.nm x="enumerate"∧P.gl.get x=some (.bi 7)
 zip:∃x,C.nm x="zip"∧P.gl.get x=some (.bi 8)
theorem Dz(W:Wd C P){x:Nat}{nm:Str}{Q:Value→Shared→Prop}(h1:C.nm x=nm)(h2:P.gl.get x=some (.bi k))(h3:kd.k nm=some .globalImplicit)(h4:(nm==("__debug__":Str))=false)(F:fu C Z J M kd env ρ st.heap)(S:aq C J M s st.heap)(q:Q (vj k) st):ab (Md C) A (eval (.Name nm p) env) Q E st:=by
 subst h1;obtain⟨rv,V,mg,G,hm⟩:=W.glob x _ h2
 have V:=V J M st.heap S.base
 have hrv:rv=vj k:=V.inv
 subst hrv;have kp:∀b o,C.hb.get? b=some o→st.heap.get? b=some o:=fun b o e=>(S.base b o e).2
 have G':st.heap.Ns env.globals mg:=by rw [F.glob];exact G.keeps kp
 refine fy F.kind ((F.kinds _).trans h3) ?_ h4
 rcases hm with hm|⟨hm,mb,B,hb⟩
 ·exact lf<|Calls.loadGlobal_global G' hm q
 ·exact lf<|Calls.loadGlobal_builtin G' hm (by rw [F.i8];exact B.keeps kp) hb q
theorem J7{a b:CE}{vs:List AV}(e:(qC ih [a,b] ρ s).leaf C.ν=some (vs,s')):∃x y,vs=[x,y]:=
 aH.cM e fun x Y Y e=>aH.cM e fun ws Y e2 e=>aH.cM e2 fun y Y Y e2=>aH.cM e2 fun XN Y e3 e2=>⟨x,y,by injection e with e;injection e with e aN;subst e aN;injection e2 with e2;injection e2 with e2 aN;subst e2 aN;injection e3 with e3;injection e3 with e3 aN;subst e3 aN;rfl⟩
theorem Af{it:CE}(e:(bX P (run P N n d) (.for tg flat kind it b) ρ s).leaf C.ν=some (f,ρ',s')):∃src ag n',n=n'+1∧((run P N n d).ev it ρ s).leaf C.ν=some (src,ag)∧(bX P (run P N n' d) (.hH tg flat kind src 0 b) ρ ag).leaf C.ν=some (f,ρ',s'):=by
 unfold bX at e;refine aH.cM e fun src ag e1 e=>?_
 refine aC (rz e:) fun n' h e'=>?_
 exact⟨src,ag,n',h,e1,e'⟩
theorem bu.xM(R:bu A d):A.units+20<cLine:=R.u (by decide)
def H8(C:Cx)(A:Around)(E:Value→Shared→Prop)(Q:Flow→Shared→Prop)(xt:Expr)(ys:List Stmt)(env:PySem.Env)(rv:Value)(sY:Shared):Prop:=ab (Md C) A (pyIter rv) (fun it ag=>ab (Md C) A (runOwn (.forLoop xt it ys [] env) env) Q E ag) E sY
theorem om(hset:∀x k p,xi≠.Set x k p)(h:ab (Md C) A (eval xi env) (H8 C A E Q xt ys env) E st):ab (Md C) A (exec (.For xt xi ys [] pos) env) Q E st:=by
 rw [arm_exec_For];refine aa (au (aa (aG h (fun rv sY h=>?_) fun Y Y q=>q)))
 rw [qt hset];exact aa (af (aa (au (aa (aj h)))))
section
variable{it:CE}
theorem Ag(inj:∀x y,C.nm x=C.nm y→x=y)(HI:iN C)(HV:gu C (run P N (n+1) d) d)(HB:∀m,m≤n→vk C (run P N m d) d){ag:AS}(e1:((run P N (n+1) d).ev it ρ s).leaf C.ν=some (src,ag))(e':(bX P (run P N n d) (.hH tg flat 0 src 0 b) ρ ag).leaf C.ν=some (f,ρ',s'))
  (fT:mN C kd cs tg flat xt)(h1:aW C kd it xi)(h2:dc C kd cs b ys)(F:dk C Z J M own kd cs env ρ st.heap)(S:aq C J M s st.heap)(R:bu A d)(z:cm C Z J st.heap)(K:KX C Z J M own kd cs env st f ρ' s' Q):ab (Md C) A (eval xi env) (H8 C A E Q xt ys env) E st:=
 HV it ρ s src ag e1 kd _ h1 _ J M env A st F.f S R (F.z z) _ _ fun aA aP h₁ aU rv aF aD cb=>
  aG (oo (st:={st with heap:=h₁,toks:=aU}) inj HB e' fT (.inl rfl) h2 (F.grow aF) aD R (z.bJ aF) (HI src rv ag aA aP _ A aD cb (oq e')) (K.ev aF)) (fun it aK hq=>hq.2.2) fun Y Y q=>q
theorem DC(inj:∀x y,C.nm x=C.nm y→x=y)(W:Wd C P)(FN:lJ C P)(HE:m8 C)(HV:gu C (run P N (n+1) d) d)(HB:∀m,m≤n→vk C (run P N m d) d){ag:AS}{x0:Expr}{p0 fR:Pos}(hk:kd.k "enumerate"=some .globalImplicit)(hst:∀y p,x0≠.Starred y p)(e1:((run P N (n+1) d).ev it ρ s).leaf C.ν=some (src,ag))(e':(bX P (run P N n d) (.hH tg flat 1 src 0 b) ρ ag).leaf C.ν=some (f,ρ',s'))
  (fT:mN C kd cs tg flat xt)(hfl:flat=false)(h1:aW C kd it x0)(h2:dc C kd cs b ys)(F:dk C Z J M own kd cs env ρ st.heap)(S:aq C J M s st.heap)(R:bu A d)(z:cm C Z J st.heap)(K:KX C Z J M own kd cs env st f ρ' s' Q):ab (Md C) A (eval (.Call (.Name "enumerate" p0) [x0] [] fR) env) (H8 C A E Q xt ys env) E st:=by
 refine aC FN.enum fun gx g1 g2=>?_
 show ab (Md C) A (eval (.Name "enumerate" p0) env>>=fun f=>callWith fR f [] (backTo fR (starEach [x0] env)) []) _ E st
 refine aa (Dz W g1 g2 hk (by decide) F.f S ?_)
 have fl:c0 C kd [it] [x0]:=.cons h1 hst .nil
 refine eU (gz fl fR) (dY fl fR ?_)
 refine ic (HV it ρ s src ag e1 kd _ h1 _ J M env A st F.f S R (F.z z) _ _ fun aA aP h₁ aU rv aF aD cb=>?_) (dX hst)
 exact lf<|wpAny_items_nil ⟨fun Q' E' k=>af (k _),aG (oo (st:={st with heap:=h₁,toks:=aU}) inj HB e' fT (.inr hfl) h2 (F.grow aF) aD R (z.bJ aF) (HE src rv ag aA aP _ A R.1 R.xM aD cb (oq e')) (K.ev aF)) (fun it aK hq=>hq.2.1 _ hq.2.2) fun Y Y q=>q⟩
theorem GO(inj:∀x y,C.nm x=C.nm y→x=y)(W:Wd C P)(FN:lJ C P)(HZ:sg C)(Uc:gu C (run P N n d) d)(HB:∀m,m≤n→vk C (run P N m d) d){ag:AS}{a0 b0:CE}{x0 y0:Expr}{p0 fR:Pos}(hk:kd.k "zip"=some .globalImplicit)(hst:∀y p,x0≠.Starred y p)(wz:∀y p,y0≠.Starred y p)(e1:((run P N (n+1) d).ev (.t [a0,b0]) ρ s).leaf C.ν=some (src,ag))(e':(bX P (run P N n d) (.hH tg flat 2 src 0 b) ρ ag).leaf C.ν=some (f,ρ',s'))
  (fT:mN C kd cs tg flat xt)(hfl:flat=false)(h1:aW C kd a0 x0)(O7:aW C kd b0 y0)(h2:dc C kd cs b ys)(F:dk C Z J M own kd cs env ρ st.heap)(S:aq C J M s st.heap)(R:bu A d)(z:cm C Z J st.heap)(K:KX C Z J M own kd cs env st f ρ' s' Q):ab (Md C) A (eval (.Call (.Name "zip" p0) [x0,y0] [] fR) env) (H8 C A E Q xt ys env) E st:=by
 refine aC FN.zip fun gx g1 g2=>?_
 show ab (Md C) A (eval (.Name "zip" p0) env>>=fun f=>callWith fR f [] (backTo fR (starEach [x0,y0] env)) []) _ E st
 refine aa (Dz W g1 g2 hk (by decide) F.f S ?_)
 have fl:c0 C kd [a0,b0] [x0,y0]:=.cons h1 hst (.cons O7 wz .nil)
 refine aH.cM (show(cF P N (run P N n d) (.t [a0,b0]) ρ s).leaf C.ν=some (src,ag)from e1) fun vs aK e2 e3=>aw (bC e3) fun Y e3=>?_
 cases (e3)
 refine eU (gz fl fR) (dY fl fR (gn Uc e2 fl fR F.f S R (F.z z) fun aA aP h₁ aU rvs aF aD cb=>?_))
 obtain⟨u1,u2,rfl⟩:=J7 e2
 refine j8 cb.two fun r1 r2 q Va Vb=>q▸⟨fun Q' E' k=>af (k _),?_⟩
 exact aG (oo (st:={st with heap:=h₁,toks:=aU}) inj HB e' fT (.inr hfl) h2 (F.grow aF) aD R (z.bJ aF) (HZ u1 u2 r1 r2 ag aA aP _ A R.1 R.xM aD Va Vb (oq e')) (K.ev aF)) (fun it aK hq=>hq.2.1 _ hq.2.2) fun Y Y q=>q
theorem M6(inj:∀x y,C.nm x=C.nm y→x=y)(W:Wd C P)(FN:lJ C P)(HI:iN C)(HE:m8 C)(HZ:sg C)(HV:gu C (run P N n d) d)(Uc:∀m,m≤n→gu C (run P N m d) d)(HB:∀m,m≤n→vk C (run P N m d) d)
  (e:(bX P (run P N n d) (.for tg flat kind it b) ρ s).leaf C.ν=some (f,ρ',s'))(fT:mN C kd cs tg flat xt)(hfl:kind=0∨flat=false)(hi:H9 C kd kind it xi)(h2:dc C kd cs b ys)(F:dk C Z J M own kd cs env ρ st.heap)(S:aq C J M s st.heap)(R:bu A d)(z:cm C Z J st.heap)(K:KX C Z J M own kd cs env st f ρ' s' Q):
  ab (Md C) A (exec (.For xt xi ys [] pos) env) Q E st:=by
 obtain⟨src,ag,n',rfl,e1,e'⟩:=Af e
 have Ud:∀m,m≤n'→vk C (run P N m d) d:=fun m hm=>HB m (Nat.le_succ_of_le hm)
 rcases hi with⟨rfl,h1⟩|⟨rfl,hi⟩|⟨rfl,hi⟩
 ·exact om (um h1) (Ag inj HI HV Ud e1 e' fT h1 h2 F S R z K)
 ·exact o7 hi fun x0 p fR q hk h1 hst=>q▸om (fun Y Y Y q=>nomatch q) (DC inj W FN HE HV Ud hk hst e1 e' fT (hfl.resolve_left (by decide)) h1 h2 F S R z K)
 ·refine IK hi fun a0 b0 x0 y0 qe hi=>R5 hi fun p fR q hk h1 O7 hst wz=>?_
  rw [q];rw [qe]at e1;exact om (fun Y Y Y q=>nomatch q) (GO inj W FN HZ (Uc n' (Nat.le_succ n')) Ud hk hst wz e1 e' fT (hfl.resolve_left (by decide)) h1 O7 h2 F S R z K)
end
end
structure MD(C:Cx):Prop where
 mg:∃mg bm o,C.hb.Ns mainGlobals mg∧mg "__builtins__"=some (.ref bm)∧bm≠builtinsNs∧bm≠mainGlobals∧C.hb.get? bm=some o∧o.cls=.type "module"∧o.dict=some builtinsNs∧o.data=.plain
 hd:∀p∈C.tabs,CodeHd C.hb p.1 p.2
set_option tactic.hygienic true in
theorem xq{pos':Pos}{c cv:Value}(l:List Value)(h:TriplesOk l)(e:codeAmong pos' (l++[rawInt pos.line,rawInt pos.col,c])=some cv):codeAmong pos' l=some cv∨cv=c:=by
 fun_induction TriplesOk l with
 |case1=>
  simp only[List.nil_append,codeAmong,rawInt]at e
  split at e
  ·injection e with e;subst e;exact .inr rfl
  ·injection e
 |case2 a t b u x rest ih=>
  simp only[List.cons_append,codeAmong]at e⊢
  split at e
  ·rename_i hc;rw [if_pos hc];exact .inl e
  ·rename_i hc;rw [if_neg hc];exact ih h e
 |case3 l h1 h2=>exact h.elim
section
theorem BV(S:aq C J M s h){T:Addr}(hm:M T)(Dl:T∉J)(hz:¬Z T)(hk:∀b o,b≠T→h.get? b=some o→h'.get? b=some o)(hT:qQ C M h' T):aq C J M s h'∧aJ Z J M h J M h':=by
 have hu:∃o,h'.get? T=some o:=let⟨ps,_,e,_⟩:=hT;⟨_,e⟩
 have hv:∀b o,h.get? b=some o→∃o',h'.get? b=some o':=fun b o e=>by
  by_cases hb:b=T
  ·subst hb;exact hu
  ·exact⟨o,hk b o hb e⟩
 have G:aJ Z J M h J M h':=⟨⟨[],by simp,fun Y m=>nomatch m⟩,⟨hv,fun b o hb e=>hk b o (fun q=>hb (by rw [q];exact⟨hm,hz⟩)) e⟩,fun Y x=>x,fun Y x=>.inl x⟩
 refine⟨⟨S.len,S.lim,S.gP,S.nodup,S.low,fun i o b e q=>?_,S.jt,S.yB,fun b m=>let⟨o,e⟩:=S.there b m;hv b o e,fun b m=>let⟨o,e⟩:=S.mlt b m;hv b o e,fun b o e=>?_,fun p hp=>?_,S.rg⟩,G⟩
 ·have hb:b≠T:=fun z=>Dl (z▸bO q)
  exact(S.obj i o b e q).grow G fun x hx=>hk b x hb hx
 ·refine aw (S.base b o e:) fun n y=>?_
  exact⟨n,hk b o (fun z=>n (z▸hm)) y⟩
 ·by_cases Lu:p.2=T
  ·exact⟨Lu▸hT,(S.tab p hp).2⟩
  ·obtain⟨⟨ps,a1,a2,a3,a4⟩,a5⟩:=S.tab p hp
   refine⟨⟨ps,a1,hk _ _ Lu a2,a3,fun pos cv e=>?_⟩,a5⟩
   refine vh (a4 pos cv e:) fun c oc vs t e1 e2 e3 e4=>?_
   exact⟨c,oc,vs,t,e1,e2,hk _ _ (fun z=>e2 (by rw [z];exact hm)) e3,e4⟩
theorem Hk{bR:List Nat}{scope:Scope}{clos:List (Str×Addr)}(c2:∀x c,clos.lookup x=some c→env.cells.lookup x=some c)(c3:∀y∈scope.names,y.2=.free→(clos.lookup y.1).isSome=true)(hfree:∀y∈scope.names,y.2=.free→kd.k y.1=some .cell∨kd.k y.1=some .free)(F:fu C Z J M kd env ρ h)(hM:∀x a,env.cells.lookup x=some a→¬M a):
  ∀{vs:List AV},(∀x∈bR,(C.nm x,NameKind.free)∈scope.names)→xg ρ bR=some vs→∃cs rvs,dI M h clos C.nm bR cs rvs∧ay C J M h vs rvs:=by
 induction bR with
 |nil=>intro vs _ e;injection e with e;subst e;exact⟨[],[],.nil,.nil⟩
 |cons y r ih=>
  intro vs hh e;refine aC (aM e) fun v h1 e=>aC (aM e) fun ws h2 e=>eM (ih (fun x m=>hh x (cq _ m)) h2) fun cs rvs R1 R2=>?_
  have hy:=hh y bS
  have hk:=hfree _ hy rfl
  refine aC (F.vars y v h1 (.inr hk)) fun rv Rr V=>dF (Option.isSome_iff_exists.mp (c3 _ hy rfl)) fun c hc=>?_
  rw [←bg e];cases Rr with
  |loc m a b c' d=>rw [F.kinds]at a;rw [a]at hk;rcases hk with q|q<;>(injection q with q;injection q)
  |cell c' o a b e' f g=>exact⟨c::cs,rv::rvs,.cons hc (bg (b.symm.trans (c2 _ _ hc))▸hM _ _ b) (bg (b.symm.trans (c2 _ _ hc))▸f) g R1,.cons V R2⟩
theorem NH(LW:MD C){bR:List Nat}{Q:Value→Shared→Prop}(e:(cF P N ih (.lam k bR) ρ s).leaf C.ν=some (v,s')){params:Arguments}{body:Expr}{scope:Scope}(L:Qx C kd k bR params body scope pos)(F:fu C Z J M kd env ρ st.heap)(S:aq C J M s st.heap)(z:cm C Z J st.heap)(K:KV C Z J M st v s' Q):
  ab (Md C) A (eval (.Lambda params body scope pos) env) Q E st:=by
  refine j8 (L.at_:) fun c T h1 h2 h3=>?_
  refine dN (F.code c h1:) fun f1 f2 f3=>?_
  refine aC (aI e) fun vs kc e=>?_
  injection e with e;injection e with e aN;subst e aN;refine A2 (mx (scope:=scope) (env:=env) fun y hy hfr=>F.Ed y.1 (L.free y hy hfr):) fun clos c1 c2 c3 c4=>?_
  refine eM (Hk c2 c3 L.free F f3 L.has kc:) fun cs rvs R1 R2=>?_
  have hcl:∀x c,clos.lookup x=some c→∃y∈C.bR k,x=C.nm y:=fun x c q=>by
   refine lM (c4 x (by rw [q];rfl):) fun y m q1 q2=>?_
   rw [L.kc,←q1];exact L.all y m q2
  refine Wt (LW.mg:) fun mg bm ob g1 g2 g3 g4 g5 g6 g7 g8=>?_
  have kp:∀b o,C.hb.get? b=some o→st.heap.get? b=some o:=fun b o e=>(S.base b o e).2
  obtain⟨⟨ps,a1,a2,a3,a4⟩,a5⟩:=S.tab _ h2
  have hB:st.heap.BuiltinsAt mg T:=⟨bm,ob,g2,g3,g4,fun q=>(S.base bm ob g5).1 (q▸a1),kp _ _ g5,g6,g7,g8⟩
  have hC:CodeHd st.heap c T:=(LW.hd _ h2).keeps kp
  have hge:env.globals=mainGlobals:=F.glob
  have hne:mainGlobals≠T:=by
   refine mU (g1:) fun o es ep e Y=>?_
   exact fun q=>(S.base _ _ e).1 (q▸a1)
  have hz:¬Z T:=fun q=>(z T q).2.2 _ h2 rfl
  refine A9 (L.dflt env) ?_
  cases hq:codeAmong pos ps.toList with
  |some cv=>
   refine lf<|kla_makeFunctionHit c1 hge (g1.keeps kp) f1 hC a2 a3 hq hB fun ctv h' tk hk hsz=>?_
   obtain⟨c',oc,ws,t,rfl,b2,b3,b4,b5⟩:=a4 pos cv hq
   have Du:h'.get? h'.objs.size=none:=Heap.bc _
   have hnew:st.heap.get? h'.objs.size=none:=by
    cases q:st.heap.get? h'.objs.size with
    |none=>rfl
    |some o=>exact(aO (hk _ _ q) Du).elim
   have kk:∀b o,st.heap.get? b=some o→(h'.push {cls:=.type "function",data:=.func (kla_fn "<lambda>" (env.qual++"<lambda>") params body scope clos ((mg "__name__").getD .none) (.ref c') ctv)}).get? b=some o:=fun b o e=>cP _ (hk b o e)
   have G:=aJ.heap Z J M kk
   refine K J M _ tk _ G (S.heap kk) ?_
   refine .vi k vs h'.objs.size c' _ oc _ ws t cs rvs (S.nY hnew) (Heap.get?_push_size _ rfl) rfl rfl (L.lam _ _ _ _ _) rfl b2 (kk _ _ b3) b4 ?_ ?_ (R2.grow G) hcl
   ·show ws[1]?=some (.str (env.qual++"<lambda>") t)
    rw [b5,h3,f2]
   ·rw [L.kc];exact R1.chg G.chg
  |none=>
   refine lf<|kla_makeFunction c1 hge (g1.keeps kp) f1 hC a2 a3 hq hne hB fun c' ctv h' tk hs hsz hlt hcr LB=>?_
   refine vh (hcr:) fun XY oc ws t hcc b3 b4 b5=>?_
   injection hcc with hcc;subst hcc;have dead:∀a,st.heap.objs.size≤a→st.heap.get? a=none:=fun a ha=>by
    cases q:st.heap.get? a with
    |none=>rfl
    |some o=>exact absurd (Heap.lt_size q) (Nat.not_lt.mpr ha)
   have hk:∀b o,b≠T→st.heap.get? b=some o→h'.get? b=some o:=fun b o hb e=>hs b o hb e
   have UU:¬M c':=fun q=>let⟨o,e⟩:=S.mlt c' q;aO e (dead c' hsz)
   have hql:env.qual++"<lambda>"=C.t4 T pos:=by rw [h3,f2]
   have SU:qQ C M h' T:=by
    refine⟨ps++#[rawInt pos.line,rawInt pos.col,.ref c'],a1,LB,?_,fun pos' cv e=>?_⟩
    ·rw [Array.toList_append]
     exact TriplesOk_snoc _ _ _ _ a3
    ·rw [Array.toList_append]at e
     rcases xq _ a3 e with e|rfl
     ·refine Od (a4 pos' cv e:) fun d1 od wd td e1 e2 e3 e4 e5=>?_
      exact⟨d1,od,wd,td,e1,e2,hk _ _ (fun q=>e2 (q▸a1)) e3,e4,e5⟩
     ·exact⟨c',oc,ws,t,rfl,UU,b3,b4,by rw [b5,hql,h3,h3]⟩
   refine aw (BV (Z:=Z) S a1 a5 hz hk SU:) fun aD aF=>?_
   have bb:=aJ.push Z J M h' (kla_obj "<lambda>" (env.qual++"<lambda>") params body scope clos ((mg "__name__").getD .none) c' ctv)
   have hnew:h'.get? h'.objs.size=none:=Heap.bc _
   refine K J M _ tk _ (aF.trans bb) (aD.push _) ?_
   refine .vi k vs h'.objs.size c' _ oc _ ws t cs rvs (aD.nY hnew) (Heap.get?_push_size _ rfl) rfl rfl (L.lam _ _ _ _ _) rfl UU (cP _ b3) b4 b5 ?_ (R2.grow (aF.trans bb)) hcl
   rw [L.kc];exact R1.chg (aF.trans bb).chg
end
structure oY(C:Cx)(k:Nat)(ps cs:List Nat)(e:CE)(fd:FuncData)(body:Expr)(kd:Kd):Prop where
 n8:fd.body=.expr body
 glob:fd.globals=mainGlobals
 i8:fd.builtins=builtinsNs
 kind:fd.scope.kind=.function
 co:fd.scope.isCoroutine=false
 gen:fd.scope.isGenerator=false
 pos:fd.params.posonlyargs=[]
 args:fd.params.args.map (·.arg)=ps.map C.nm
 vararg:fd.params.vararg=none
 OM:fd.params.kwonlyargs=[]
 kwarg:fd.params.kwarg=none
 dflt:fd.defaults=.none
 nd:(ps.map C.nm).Nodup
 cell:∀x∈fd.scope.names,x.2≠.cell
 loc:∀x∈ps,fd.scope.names.lookup (C.nm x)=some .local
 free:∀x,fd.scope.names.lookup x=some .free→∃y∈cs,x=C.nm y
 apart:∀x∈cs,fd.scope.names.lookup (C.nm x)=some .free
 EX:kd.k=fun x=>fd.scope.names.lookup x
 lx:kd.code=none
 fits:aW C kd e body
def Jz(C:Cx)(k:Nat)(ps cs:List Nat)(e:CE):Prop:=C.bR k=cs∧∀fd,C.lam k fd→∃body kd,oY C k ps cs e fd body kd
theorem dI.get{cl:List (Str×Addr)}{nm:Nat→Str}{xs:List Nat}:∀{cs:List Addr}{vs:List Value}{as:List AV},dI M h cl nm xs cs vs→ay C J M h as vs→(∀x∈xs,∃c o,cl.lookup (nm x)=some c∧h.get? c=some o)∧
  ∀x v,az (xs.zip as) x=some v→∃rv c o,cl.lookup (nm x)=some c∧¬M c∧h.get? c=some o∧o.data=.cell (some rv)∧ao C J M h v rv∧x∈xs:=by
 induction xs with
 |nil=>exact fun Y Y=>⟨fun Y m=>(nomatch m),fun x v e=>no e⟩
 |cons y xs ih=>
  intro cs vs as V R;refine A1 V.un fun c E0 v' vg o f=>?_
  rw [f.2.1]at R;cases as with
  |nil=>exact nomatch (R.nl:v'::vg=[])
  |cons a as=>
   refine j8 R.un fun Us r q R1 R2=>?_
   injection q with q sL;subst q sL;refine aw (ih f.2.2.2.2.2.2 R2) fun i1 i2=>⟨fun x m=>(cK m).elim (fun q=>⟨c,o,q▸f.2.2.1,f.2.2.2.2.1⟩) (i1 x),fun x v e=>?_⟩
   cases q:Nat.beq y x with
   |true=>exact⟨v',c,o,pz q▸f.2.2.1,f.2.2.2.1,f.2.2.2.2.1,f.2.2.2.2.2.1,bg ((oK (p:=(y,a)) (r:=xs.zip as) q).symm.trans e)▸R1,pz q▸bS⟩
   |false=>exact Oe (i2 x v ((mw (p:=(y,a)) (r:=xs.zip as) q).symm.trans e)) fun rv c' o j1 j2 j3 j4 j5 j6=>⟨rv,c',o,j1,j2,j3,j4,j5,cq _ j6⟩
theorem oM(x:Nat):∀(a b:Env),az (a++b) x=(az a x).or (az b x)
 |[],b=>by simp[az]
 |p::a,b=>by
  have h1:az (p::(a++b)) x=match Nat.beq p.1 x with|true=>some p.2|false=>az (a++b) x:=rfl
  have h2:az (p::a) x=match Nat.beq p.1 x with|true=>some p.2|false=>az a x:=rfl
  rw [List.cons_append,h1,h2];cases q:Nat.beq p.1 x with
  |true=>rfl
  |false=>exact oM x a b
section
theorem Cc(l:List (Str×Value)):∀(n:Str)(v:Value),(l.map (·.1)).Nodup→(n,v)∈l→l.reverse.lookup n=some v:=by
 induction l with
 |nil=>exact fun Y Y Y m=>nomatch m
 |cons p r ih=>
  intro n v nd m;rw [List.map_cons,List.nodup_cons]at nd;rw [List.reverse_cons,List.lookup_append];rcases cK m with e|m
  ·have:r.reverse.lookup p.1=none:=by
    cases q:r.reverse.lookup p.1 with
    |none=>rfl
    |some u=>exact absurd (List.mem_map.mpr ⟨(p.1,u),List.mem_reverse.mp (mem_of_lookup q),rfl⟩) nd.1
   rw [←e]at this⊢;rw [this,List.lookup_cons,beq_self_eq_true];rfl
  ·rw [ih n v nd.2 m];rfl
section
variable{ps csn:List Nat}{ce:CE}{fd:FuncData}{body:Expr}
theorem zV(L:oY C k ps csn ce fd body kd)(hl:ras.length=ps.length):BindsTo st fd ⟨ras,[]⟩ ((ps.map C.nm).zip ras):=by
 have hB:=mA (ds:=[]) (s:=st) (vals:=ras) L.pos L.args L.vararg L.OM L.kwarg (fun M A E Q hq=>by rw [L.dflt];exact PySem.wpAny_bind (PySem.wpAny_pure (PySem.wpAny_pure (hq _ rfl)))) (by rw [List.length_map];exact Nat.le_of_eq hl) (by rw [List.length_map,hl];exact Nat.le_add_right _ _) (Nat.zero_le _) L.nd
 rwa[List.drop_nil,List.append_nil]at hB
theorem zU{l:Addr}{q:Str}{cs:List Addr}{as bR:List AV}{rvs:List Value}(L:oY C k ps csn ce fd body kd)(S6:dI M h fd.closure C.nm csn cs rvs)(S5:ay C J M h bR rvs)(V:ay C J M h as ras)(S4:∀x c,fd.closure.lookup x=some c→∃y∈csn,x=C.nm y)
  (hns:h.Ns l m)(hM:M l)(hm:∀n v,(n,v)∈(ps.map C.nm).zip ras→m n=some v):fu C (fun a=>Z a∨a=l) J M kd (newEnv fd.scope l fd.globals fd.closure q (some a) fd.code none fd.builtins) (ps.zip as++csn.zip bR) h:=by
 refine aw (dI.get S6 S5) fun g1 g2=>?_
 refine⟨L.glob,L.i8,L.kind,fun x=>by rw [L.EX];rfl,fun x q=>?_,fun x c q=>?_,(fun c q=>by rw [L.lx]at q;exact no q),fun x u q Y=>?_⟩
 ·rw [L.EX]at q
  exact q.elim (fun q=>absurd rfl (L.cell _ (mem_of_lookup q))) fun q=>aC (L.free x q) fun y m e=>Gb (g1 y m) fun c' o' q1=>⟨c',e▸q1.1⟩
 ·refine aC (S4 x c q) fun y m e=>eM (g1 y m) fun c' o' q1 q2=>?_
  rw [e]at q;exact⟨o',bg (q1.symm.trans q)▸q2⟩
 ·rw [oM]at q
  cases hq:az (ps.zip as) x with
  |some u'=>
   rw [hq]at q;exact lM (oJ (nm:=C.nm) V hq) fun rv V1 m1 m2=>⟨rv,.loc _ (L.loc x m2) (.inr rfl) hns (hm _ _ m1),bg q▸V1⟩
  |none=>
   rw [hq]at q;exact Oe (g2 x u q) fun rv c' o' q1 q2 q3 q4 q5 q6=>⟨rv,.cell c' o' (.inr (L.apart x q6)) q1 (.inr q2) q3 q4,q5⟩
theorem cm.one(S:aq C J M s st.heap)(z:cm C Z J st.heap){h₁:Heap}(G:aJ Z J M st.heap J M' h₁)(hns:h₁.Ns st.heap.objs.size m):cm C (fun a=>Z a∨a=st.heap.objs.size) J h₁:=fun a q=>q.elim (z.bJ G a) fun q=>by
 rw [q];have ix:st.heap.get? st.heap.objs.size=none:=Heap.bc _
 refine⟨Of hns fun o es ep e=>⟨o,e.1⟩,fun m=>let⟨o,e⟩:=S.there _ m;aO e ix,fun p hp q=>?_⟩
 exact dF (S.tab p hp).1 fun Y a=>aO (q▸a.2.1) ix
theorem He(hlim:C.hb.NoLimit)(H:gu C ih d){bR as:List AV}{c:Addr}{o oc:Obj}{vs:Array Value}{t:Tok}{cs:List Addr}{rvs:List Value}{Q:Value→Shared→Prop}(L:oY C k ps csn ce fd body kd)(kc:C.bR k=csn)(X:xB C M st.heap k (ay C J M st.heap bR) a c o oc fd vs t cs rvs)(hl:as.length=ps.length)(e:(ih.ev ce (ps.zip as++csn.zip bR) s).leaf C.ν=some (v,s'))(S:aq C J M s st.heap)(R:bu A (d+1))(z:cm C Z J st.heap)(V:ay C J M st.heap as ras)(K:KV C Z J M st v s' Q):ab (Md C) A (call (.ref a) ras []) Q E st:=by
 have hr:ras.length=ps.length:=V.length.symm.trans hl
 refine dC (qV (by have:=R.2.1;lia) X.at_ X.dat L.co L.gen L.n8 ⟨c,oc,vs,t,X.code,X.TR,X.PX,X.qual⟩ (lf (zV L hr _ _ _ _ (lf<|wpAny_newFunctionEnv L.cell (fun x hx=>?_) (fun h₁ hns hsb=>?_) L.kind))))
 ·exact aC (List.mem_map.mp (List.of_mem_zip (a:=x.1) (b:=x.2) hx).1) fun y q1 q2=>q2▸L.loc y q1
 ·have I6:∀b o,st.heap.get? b=some o→h₁.get? b=some o:=fun b o e=>hsb.extBut b o (Nat.ne_of_lt (Heap.lt_size e)) (cP _ e)
  refine⟨(hlim.keeps fun b o e=>(S.base b o e).2).keeps I6,qU ?_⟩
  refine aw (aq.uY (Z:=Z) (h₁:=h₁) (own:=fun a=>a=st.heap.objs.size) S I6 (fun a q=>q▸Heap.bc _) (fun a q=>Of hns fun o Y Y e=>⟨o,q▸e.1⟩)) fun aD aF=>?_
  exact H ce _ s v s' e kd body L.fits _ J _ _ _ _ (zU L (kc▸X.bR.chg aF.chg) (X.vals.grow aF) (V.grow aF) (kc▸X.all) hns (.inr rfl) fun n v m=>Cc _ _ _ (by rw [List.map_fst_zip (by rw [List.length_map,hr];exact Nat.le_refl _)];exact L.nd) m) aD (R.c.deeper _) (z.one S aF hns) _ _ fun σ' M' h' tk rv G S' V'=>K σ' M' h' tk rv (aF.trans (G.less fun Y q=>.inl q)) S' V'
theorem uN(hlim:C.hb.NoLimit)(H:gu C ih d){ok:Bool}{bR as:List AV}{rg:Value}{Q:Value→Shared→Prop}(hlm:∀k ps cs e,P.gH.get k=some (ps,cs,e)→Jz C k ps cs e)(e:(xR P ih ok (.vi k bR) as s).leaf C.ν=some (v,s'))(S:aq C J M s st.heap)(R:bu A (d+1))(z:cm C Z J st.heap)(Vg:ao C J M st.heap (.vi k bR) rg)(V:ay C J M st.heap as ras)(K:KV C Z J M st v s' Q):
  (∀Q E,(∀k,Q k st)→ab (Md C) A (keeperOf rg) Q E st)∧ab (Md C) A (call rg ras []) Q E st:=by
 refine aC Vg.inv fun a q X=>KZ X fun c o oc fd X=>KZ X fun vs t cs rvs X=>q▸⟨fun Q E K=>?_,?_⟩
 ·unfold keeperOf
  refine aa (lf<|wpAny_load X.at_ ?_)
  rw [X.dat];exact af (K _)
 ·replace e:(bQ (P.gH.get k) fun q=>bQ (bindArgs q.1 [] as) fun ρ=>ih.ev q.2.2 (ρ++q.2.1.zip bR) s).leaf C.ν=some (v,s'):=e
  refine aC (aI e) fun p hl e=>aC (aI e) fun ρ hb e=>aw (hlm k p.1 p.2.1 p.2.2 hl) fun kc hL=>Gb (hL fd X.lam) fun body kd L=>dN (lG hb) fun b1 b2 b3=>?_
  have hlen:as.length=p.1.length:=Nat.le_antisymm b1 b2
  rw [b3,List.drop_nil,List.append_nil]at e;exact He hlim H L kc X hlen e S R z V K
end
end
theorem rK{ps:List (Str×Value)}:∀kvs:List (Str×Value),((kvs++ps).map (·.1)).Nodup→merged kvs ps=kvs++ps:=by
 induction ps with
 |nil=>exact fun kvs Y=>(List.append_nil kvs).symm
 |cons p r ih=>
  intro kvs nd;have h1:stored kvs p.1 p.2=kvs++[p]:=by
   unfold stored;rw [if_neg];intro q;refine aC (List.any_eq_true.mp q) fun x hx he=>?_
   rw [List.map_append,List.nodup_append]at nd;exact nd.2.2 x.1 (List.mem_map_of_mem hx) p.1 bS (of_decide_eq_true he)
  show merged (stored kvs p.1 p.2) r=_;rw [h1,ih (kvs++[p]) (by rw [List.append_assoc];exact nd),List.append_assoc]
  rfl
section
noncomputable def NU(env:PySem.Env)(pos:Pos)(kx:List (Option Expr))(xs:List Expr):List (Sem Value×Sem Value):=kx.zipWith (fun k x=>(k.elim (pure .none) fun k=>eval k env,do let v←eval x env;standAt pos;pure v)) xs
theorem KD(pos:Pos):∀{es:List CE}{kx:List (Option Expr)}{xs:List Expr},jc ks kx→c0 C kd es xs→ks.length=es.length→
  (evalEachOpt kx env).zip ((evalEach xs env).map fun v=>do let x←v;standAt pos;pure x)=(NU env pos kx xs).map (fun p=>(some p.1,p.2))∧(NU env pos kx xs).length=ks.length:=by
 induction ks with
 |nil=>exact fun hk Y Y=>hk.nl▸⟨rfl,rfl⟩
 |cons k ks ih=>
  intro es kx xs hk hf hl;cases es with
  |nil=>injection hl
  |cons a es=>exact hf.oZ fun x xs Y Y h3=>mU hk.un fun n p UJ q hk=>aw (ih hk h3 (Nat.succ.inj hl)) fun i1 i2=>q▸⟨congrArg (List.cons (some (eval (.Constant (.str (aR k)) n p) env),(do let v←eval x env;standAt pos;pure v:Sem Value))) i1,congrArg Nat.succ i2⟩
theorem tC(H:gu C ih d)(pos:Pos):∀{es:List CE}{kx:List (Option Expr)}{xs:List Expr}{s:AS}{vs:List AV}{J:List Addr}{M:Addr→Prop}{st:Shared}{Q:List (Value×Value)→Shared→Prop},(qC ih es ρ s).leaf C.ν=some (vs,s')→jc ks kx→c0 C kd es xs→ks.length=es.length→fu C Z J M kd env ρ st.heap→aq C J M s st.heap→bu A d→cm C Z J st.heap→
  (∀σ' M' h' tk(rvs:List Value)(pv:List (Value×Value)),aJ Z J M st.heap σ' M' h'→aq C σ' M' s' h'→ay C σ' M' h' vs rvs→Carries (PySem.strKind C.prog C.w) pv ((ks.map aR).zip rvs)→rvs.length=ks.length→Q pv {st with heap:=h',toks:=tk})→
  ab (Md C) A (evalPairs (NU env pos kx xs)) Q E st:=by
 induction ks with
 |nil=>
  intro es kx xs s vs J M st Q e hk hf hl F S R z K;cases es with
  |cons a b=>injection hl
  |nil=>
   injection e with e;injection e with e aN;subst e aN;rw [hk.nl,hf.nl];exact lf<|evalPairs_nil (K J M st.heap st.toks [] [] (aJ.refl _ _ _ _) S .nil trivial rfl)
 |cons k ks ihk=>
  intro es kx xs s vs J M st Q e hk hf hl F S R z K;cases es with
  |nil=>injection hl
  |cons a es=>
   refine aH.cM e fun v ag e1 e=>aH.cM e fun ws aK e2 e=>hf.oZ fun x xs h1 h2 h3=>mU hk.un fun n p UJ q hk=>?_
   injection e with e;injection e with e aN;subst e aN;rw [q];refine evalPairs_cons (k:=eval (.Constant (.str (aR k)) n p) env) (v:=do let v←eval x env;standAt pos;pure v) (rest:=NU env pos UJ xs) (lf<|Calls.Constant_str ?_)
   refine aa (H a ρ s v ag e1 kd x h1 Z J M env A {st with toks:=st.toks+1} F S R z _ _ fun aA aP h₁ aU rv G aD V=>aa (au (af ?_)))
   exact ihk (st:={st with heap:=h₁,toks:=aU}) (Q:=fun vs bM=>Q ((.str (aR k) st.toks,rv)::vs) bM) e2 hk h3 (Nat.succ.inj hl) (F.grow G) aD R (z.grow G) fun cy dU br bf rvs pv bb bU d7 Cr hr=>K cy dU br bf (rv::rvs) ((.str (aR k) st.toks,rv)::pv) (G.trans bb) bU (.cons (V.grow bb) d7) ⟨strKind_is _ _ _ _,rfl,Cr⟩ (congrArg Nat.succ hr)
theorem wY{o:Obj}{es:Array DictEntry}{ep:Nat}(h1:o.ExactDict)(h2:o.data=.dict es ep):o=bK es.toList ep:=by
 obtain⟨c,dd,dt,sl⟩:=o
 refine dN (h1:) fun a b c'=>?_
 simp only at a b c' h2
 subst a b c' h2
 rfl
theorem Bf{k:List Nat}{e:DictEntry}{k':Str}(h1:(PySem.strKind C.prog C.w).is k' e.key=true)(h2:e.hash=(PySem.strKind C.prog C.w).hash k')(p1:(PySem.strKind C.prog C.w).is (aR k) e.key=true):∃t,e=⟨PyData.keyHash C.w.params (aR k),.str (aR k) t,e.val⟩:=by
 rw [Value.isStrOf_inj _ _ _ h1 p1]at h2;obtain⟨eh,ek,ev⟩:=e
 exact dF (Value.isStrOf_shape p1) fun t ht=>⟨t,by cases (ht:ek=_);cases (h2:eh=_);rfl⟩
theorem DS:∀{as:List AV}{rvs:List Value}{es:List DictEntry},ay C J M h as rvs→ks.length=rvs.length→(∀e∈es,∃k,(PySem.strKind C.prog C.w).is k e.key=true∧e.hash=(PySem.strKind C.prog C.w).hash k)→Pairs (PySem.strKind C.prog C.w) es ((ks.map aR).zip rvs)→cX C J M h (ks.zip as) es:=by
 induction ks with
 |nil=>intro as rvs es V hl _ p;cases p;exact .nil
 |cons k ks ih=>
  intro as rvs es V hl hh p;cases as with
  |nil=>rw [V.nl]at hl;injection hl
  |cons a as=>
   revert hl p
   refine V.oZ fun rv rvs V r hl p=>?_
   rw [List.map_cons,List.zip_cons_cons]at p;cases p with
   |@cons e _ lA _ p1 p2 p3=>exact aC (hh e bS) fun k' h1 h2=>dF (Bf h1 h2 p1) fun t q=>Eq.mpr (congrArg (fun e=>cX C J M h ((k,a)::ks.zip as) (e::lA)) q) (.cons (t:=t) (p2▸V) (ih r (Nat.succ.inj hl) (fun e m=>hh e (cq _ m)) p3))
theorem DZ(H:gu C ih d)(pos:Pos){es:List CE}{vs:List AV}{kx:List (Option Expr)}{D:Addr}{h₁:Heap}{Q:Value→Shared→Prop}(e1:(qC ih es ρ s).leaf C.ν=some (vs,s'))(hk:jc ks kx)(hl:c0 C kd es xs)(hlen:ks.length=es.length)(hnd:(ks.map aR).Nodup)(F:fu C Z J M kd env ρ st.heap)(S:aq C J M s st.heap)(R:bu A d)(z:cm C Z J st.heap)
  (dead:st.heap.get? D=none)(hsys:(D==sysModules)=false)(W9:∀b o,st.heap.get? b=some o→h₁.get? b=some o)(wF:h₁.get? D=some (bK [] 0))(K:KV C Z J M st (.eF (ks.zip vs)) s' Q):
  ab (Md C) A (evalPairs (NU env pos kx xs)) (fun vs ag=>∃kvs,Carries (PySem.strKind C.prog C.w) vs kvs∧ag.heap.DictOf (PySem.strKind C.prog C.w) D []∧
    ∀h',h'.DictOf (PySem.strKind C.prog C.w) D (merged [] kvs)→Heap.SameBut D ag.heap h'→Q (.ref D) {ag with heap:=h',toks:=ag.toks+vs.length}) E {st with heap:=h₁}:=by
 refine aw (aq.uY (Z:=Z) (h₁:=h₁) (own:=fun a=>a=D) S W9 (fun a q=>q▸dead) (fun a q=>q▸⟨_,wF⟩)) fun aD aF=>?_
 have zD:cm C (fun a=>a=D) J h₁:=fun a q=>q▸⟨⟨_,wF⟩,fun m=>let⟨o,e⟩:=S.there _ m;aO e dead,fun p hp q=>dF (S.tab p hp).1 fun Y a=>aO (q▸a.2.1) dead⟩
 refine tC (st:={st with heap:=h₁}) H pos e1 hk hl hlen ((F.grow aF).more (Z':=fun a=>Z a∨a=D) fun Y q=>.inl q) aD R (fun a q=>q.elim (z.bJ aF a) (zD a)) fun cy dU br bf rvs pv bb bU d7 Cr hr=>?_
 refine⟨(ks.map aR).zip rvs,Cr,⟨_,_,0,bb.dB (.inr rfl) wF,⟨rfl,rfl,rfl⟩,rfl,fun e m=>(nomatch (List.mem_toArray.mp m)),.nil,List.Pairwise.nil⟩,fun dR O6 hs=>Oe O6 fun o lA ep o1 o2 o3 o4 o5 o6=>?_⟩
 rw [rK [] (by rw [List.nil_append,List.map_fst_zip (Nat.le_of_eq (by rw [List.length_map,hr]))];exact hnd),List.nil_append]at o5
 rw [wY o2 o3]at o1;refine dN ((zD.bJ bb) D rfl) fun b1 b2 b3=>aw (bU.forget (bb.more D (.inr rfl)) b2 b3 hs) fun fH X=>?_
 exact K cy _ dR _ _ ((aF.trans (bb.less fun Y q=>.inl q)).forget dead (fun b m=>S.mlt b m) hs) fH (.eF _ D lA.toList ep (fun q=>q.2 rfl) hsys o1 (DS (d7.chg X) hr.symm (fun e m=>o4 e (Array.mem_toList_iff.mp m)) o5))
theorem NL(W:Wd C P)(H:gu C ih d){es:List CE}{Q:Value→Shared→Prop}(e:(cF P N ih (.eF ks es) ρ s).leaf C.ν=some (v,s')){kx:List (Option Expr)}(hk:jc ks kx)(hl:c0 C kd es xs)(hlen:(ks).length=(es).length)(hnd:((ks).map aR).Nodup)(Xo:(ks).length≤15)(F:fu C Z J M kd env ρ st.heap)(S:aq C J M s st.heap)(R:bu A d)(z:cm C Z J st.heap)(K:KV C Z J M st v s' Q):
  ab (Md C) A (eval (.Dict kx xs pos) env) Q E st:=by
 refine aH.cM e fun vs ag e1 e=>aw (bC e) fun Y e=>?_
 have K:=K.of e
 have dead:st.heap.get? st.heap.objs.size=none:=Heap.bc _
 have hsys:(st.heap.objs.size==sysModules)=false:=beq_eq_false_iff_ne.mpr fun q=>dF W.mods fun o e=>aO (q▸(S.base _ _ e).2) dead
 cases ks with
 |nil=>
  cases es with
  |cons a b=>injection hlen
  |nil=>
   injection e1 with e1;injection e1 with e1 aN;subst e1 aN;rw [hk.nl,hl.nl];exact lf<|wpAny_Dict_empty (K J M _ st.toks _ (aJ.push Z J M st.heap (bK [] 0)) (S.push _) (.eF [] _ [] 0 (S.nY dead) hsys (Heap.get?_push_size _ rfl) .nil))
 |cons k ks=>exact aw (KD (env:=env) pos hk hl hlen) fun p1 p2=>lQ (knd:=PySem.strKind C.prog C.w) p1 (fun q=>by rw [q]at p2;injection p2) (by rw [p2];exact Xo) (DZ H pos e1 hk hl hlen hnd F S R z dead hsys (fun b o e=>cP _ e) (Heap.get?_push_size _ rfl) K)
end
def QK(C:Cx):Prop:=∀k as s v s',(builtin k as s).leaf C.ν=some (v,s')→∀Z J M A st ras,aq C J M s st.heap→bu A 0→cm C Z J st.heap→ay C J M st.heap as ras→∀Q E,KV C Z J M st v s' Q→ab (Md C) A (call (vj k) ras []) Q E st
def MB(C:Cx)(P:Pg):Prop:=∀k as s r v s',P.sm k as s=some r→r.leaf C.ν=some (v,s')→∀Z J M A st ras,aq C J M s st.heap→bu A (P.smd+1)→cm C Z J st.heap→ay C J M st.heap as ras→∀Q E,KV C Z J M st v s' Q→ab (Md C) A (call (.ref (C.mL k)) ras []) Q E st
structure WF(C:Cx)(P:Pg)(N:pa):Prop where
 wd:Wd C P
 lim:C.hb.NoLimit
 fns:∀k f,P.fs.get k=some f→vb C k f
 gH:∀k ps cs e,P.gH.get k=some (ps,cs,e)→Jz C k ps cs e
 lw:MD C
 dj:MC C N
 bj:iA C
 P6:lL C
 bi:QK C
 it:iN C
 en:m8 C
 zp:sg C
 UY:lJ C P
 sm:MB C P
def MA(C:Cx)(P:Pg)(N:pa)(n:Nat):Prop:=∀d,gu C (run P N n d) d∧vm C (run P N n d) d∧vk C (run P N n d) d∧Qw C (run P N n d) d
theorem bu.mono{d':Nat}(R:bu A d)(h:d'≤d):bu A d':=⟨R.1,Nat.lt_of_le_of_lt (Nat.add_le_add_right (Nat.add_le_add_left (Nat.mul_le_mul_left 2 h) _) 4) R.2.1,Nat.lt_of_le_of_lt (Nat.add_le_add_right (Nat.add_le_add_left (Nat.mul_le_mul_left 12 h) _) 40) R.2.2⟩
section
theorem G4(X:WF C P N)(hn:n≤100000)(HB:∀m,m≤n→MA C P N m):gu C (run P N (n+1) d) d:=by
 intro e ρ s v s' he kd ex hf Z J M env A st F S R z Q E K;have he:(cF P N (run P N n d) e ρ s).leaf C.ν=some (v,s'):=he
 refine lN (HB n (Nat.le_refl _) d:) fun H HT HX HC=>?_
 cases e with
 |n _=>exact Uy (ak.Sd hf) fun s pos q a b c d=>q▸RE he a b c d F S K
 |val _=>exact mU (ak.Ni hf) fun Y Y Y q a=>q▸NB he a S K
 |t _=>exact mU (ak.tupI hf) fun Y Y Y q a=>q▸NC H he a F S R z K
 |list _=>exact eM (ak.listI hf) fun Y Y q a=>q▸Ku H he a F S R z K
 |eF _ _=>exact Oe (ak.PW hf) fun Y Y Y q a b c d e=>q▸NL X.wd H he a b c d e F S R z K
 |bin _ _ _=>exact Ga (ak.binI hf) fun Y Y Y q a b=>q▸NN H he a b F S R z K
 |cmp _ _ _=>exact o7 (ak.L6 hf) fun Y Y Y q a b c=>q▸NM H he a b c F S R z K
 |chain _ _ _ _ _=>exact no he
 |and _=>exact eM (ak.Mw hf) fun Y Y q a=>q▸Mv H _ he a F S R z K
 |or _=>exact eM (ak.RU hf) fun Y Y q a=>q▸N7 H _ he a F S R z K
 |not _=>exact no he
 |neg _=>exact eM (ak.Oj hf) fun Y Y q a=>q▸NG H he a F S R z K
 |ite _ _ _=>exact vh (ak.Gz hf) fun Y Y Y Y q a b c=>q▸NI H HT he a b c F S R z K
 |attr _ _=>exact QR (ak.EA hf) fun Y Y Y q a b c d=>q▸Kv X.wd H he a b c d F S R z K
 |idx _ _=>exact Ga (ak.OT hf) fun Y Y Y q a b=>q▸NJ H he a b F S R z K
 |iE _ _ _=>exact Wo (ak.Ny hf) fun Y Y Y Y Y q a b c=>q▸ND X.wd H he a b c F S R z K
 |rev _=>exact A1 (ak.NS hf) fun Y Y Y Y Y h=>aC h fun Y q a=>q▸NF H he a F S R z K
 |call _ _=>exact o7 (ak.Eh hf) fun Y Y Y q a b c=>q▸JL H HC he a b c F S R z K
 |bG _ _ _=>exact A1 (ak.CM hf) fun Y Y Y Y Y h=>lN h fun q a b h=>K2 h fun c d e f g=>q▸Kt X.wd X.dj X.bj H HC he a b c d e f g F S R z K
 |comp _ _ _ _ _=>exact A1 (ak.D7 hf) fun Y Y Y Y Y h=>aC h fun Y q f=>q▸B8 X.it X.wd.inj hn (fun m hm=>⟨(HB m hm d).1,(HB m hm d).2.1⟩) he f F S R z K
 |gM _ _ _ _ _ _ _=>exact False.elim hf
 |lam _ _=>exact IK (ak.OK hf) fun Y Y Y Y q a=>q▸NH X.lw he a F S z K
 |eZ _=>exact K0 (ak.O9 hf) fun Y Y q a b c=>q▸NK X.wd.glob he a b c F S K
 |bad _=>exact no he
theorem mR(H:gu C ih d){e:CE}{r:Bool}{Q:Bool→Shared→Prop}(he:(plainT ih e ρ s).leaf C.ν=some (r,s'))(hf:aW C kd e ex)(F:fu C Z J M kd env ρ st.heap)(S:aq C J M s st.heap)(R:bu A d)(z:cm C Z J st.heap)(K:KB C Z J M st r s' Q)
  (h1:∀whole:Sem Value,isTrue ex env whole=(do let v←whole;standAt ex.pos;holding [v] (PySem.truthy v))):ab (Md C) A (isTrue ex env (eval ex env)) Q E st:=by
 refine aH.cM he fun v ag e1 e2=>?_
 rw [h1];refine aa (H e ρ s v ag e1 kd _ hf Z J M env A st F S R z _ _ fun aA aP h₁ aU rv aF aD cb=>?_)
 exact aa (au (aj (jh (Z:=Z) (st:={st with heap:=h₁,toks:=aU}) e2 cb aD (K.after aF))))
theorem Nn(HT:vm C ih d){e:CE}{r:Bool}{Q:Bool→Shared→Prop}(he:((ih.ts e ρ s).bind fun(b,s)=>.ok (!b,s):aH (Bool×AS)).leaf C.ν=some (r,s'))(hf:aW C kd e ex)(F:fu C Z J M kd env ρ st.heap)(S:aq C J M s st.heap)(R:bu A d)(z:cm C Z J st.heap)(K:KB C Z J M st r s' Q):
  ab (Md C) A (isTrue (.UnaryOp .Not ex pos) env (eval (.UnaryOp .Not ex pos) env)) Q E st:=by
 refine aH.cM he fun b ag e1 e2=>?_
 injection e2 with e2;injection e2 with e2 aN;subst e2 aN;exact isTrue_not (HT _ ρ s b _ e1 kd _ hf Z J M env A st F S R z _ _ fun aA aP h₁ aU aF aD=>K aA aP h₁ aU aF aD)
theorem Fo(HB:MA C P N n):vm C (run P N (n+1) d) d:=by
 intro e ρ s r s' he kd ex hf Z J M env A st F S R z Q E K;have he:(stepT (run P N n d) e ρ s).leaf C.ν=some (r,s'):=he
 refine lN (HB d:) fun H HT HX HC=>?_
 cases e with
 |not _=>exact eM (ak.Oh hf) fun Y Y q a=>q▸Nn HT he a F S R z K
 |and _=>exact eM (ak.Mw hf) fun Y Y q a=>q▸Fq HT _ _ he a F S R z K
 |or _=>exact eM (ak.RU hf) fun Y Y q a=>q▸Ke HT _ _ he a F S R z K
 |cmp _ _ _=>exact o7 (ak.L6 hf) fun Y Y Y q a b c=>q▸Np H he a b c F S R z K
 |chain _ _ _ _ _=>exact Od (ak.Eb hf) fun Y Y Y Y q a b c e=>q▸Ft H he a b c e F S R z K
 |n _=>exact Gb (ak.Sd hf) fun Y Y h=>by rw [h.1]at hf⊢;exact mR H he hf F S R z K fun Y=>rfl
 |attr _ _=>exact Of (ak.EA hf) fun Y Y Y h=>by rw [h.1]at hf⊢;exact mR H he hf F S R z K fun Y=>rfl
 |call _ _=>exact Of (ak.Eh hf) fun Y Y Y h=>by rw [h.1]at hf⊢;exact mR H he hf F S R z K fun Y=>rfl
 |bG _ _ _=>exact A1 (ak.CM hf) fun Y Y Y Y Y h=>by rw [h.1]at hf⊢;exact mR H he hf F S R z K fun Y=>rfl
 |_=>exact no he
theorem JS(X:WF C P N)(hn:n≤100000)(HB:∀m,m≤n→MA C P N m){c:CS}(e:(bX P (run P N n d) c ρ s).leaf C.ν=some (f,ρ',s'))(hf:fW C kd cs c x)(F:dk C Z J M own kd cs env ρ st.heap)(S:aq C J M s st.heap)(R:bu A d)(z:cm C Z J st.heap)(K:KX C Z J M own kd cs env st f ρ' s' Q):
  ab (Md C) A (exec x env) Q E st:=by
 refine lN (HB n (Nat.le_refl _) d:) fun H HT HX HC=>?_
 cases c with
 |b8 y a=>
  exact KZ (bh.Qq hf) fun sN p pos ex h=>lN h fun q h1 h2 h=>aw h fun h3 h4=>by
   rw [q];rcases h4 with h4|h4
   ·exact M7 X.wd.inj H e h1 h2 h3 h4 F S R z K
   ·cases n with
    |zero=>exact no e
    |succ m=>
     refine A1 h4 fun elt tg flat it ifs h4=>aw h4 fun q1 h4=>A1 h4 fun xe xt xi xs sc h4=>aC h4 fun lpos q2 Y=>?_
     rw [q2]at h3⊢;rw [q1]at e h3;exact JW X.it X.wd.inj (Nat.le_of_succ_le hn) (fun k hk=>⟨(HB k (Nat.le_succ_of_le hk) d).1,(HB k (Nat.le_succ_of_le hk) d).2.1⟩) e h1 h2 h3 F S R z K
 |cQ _ _=>exact Ux (bh.Qk hf) fun Y Y Y Y Y q h1 h2 h3 h4=>q▸JT X.wd.inj H e h1 h2 h3 h4 F S R z K
 |iX _ _ _ _=>exact A1 (bh.Ms hf) fun Y Y Y Y Y h=>KZ h fun Y Y Y Y h=>lN h fun q h0 h5 h=>K2 h fun h1 h2 h3 h4 h6=>q▸Fb X.wd.inj X.wd H e h0 h5 h1 h2 h3 h4 h6 F S R z K
 |aT _ _ _=>exact Uw (bh.Qs hf) fun Y Y Y Y Y q h0 hn h1 h3 h4=>q▸JX X.wd H e h0 hn h1 h3 h4 F S R z K
 |jZ _ _ _=>exact Ux (bh.Qp hf) fun Y Y Y Y Y q h1 h2 h3 h4=>q▸JV X.wd H e h1 h2 h3 h4 F S R z K
 |i9 _ _ _ _=>exact A1 (bh.Qm hf) fun Y Y Y Y Y h=>R5 h fun Y Y q h1 h2 S0 h3 h4=>q▸JU X.P6 X.wd H e h1 h2 S0 h3 h4 F S R z K
 |ex _=>exact j8 (bh.Xv hf) fun Y Y q h1 h2=>q▸Rb H e h1 h2 F S R z K
 |ret _=>
  exact(bh.RO hf).elim (fun h=>eM h fun Y Y q h1=>q▸M4 H e h1 F S R z K) fun h=>aw h fun q h=>dF h fun Y q'=>by
   rw [q]at e;rw [q'];cases n with
   |zero=>exact no e
   |succ m=>exact lf (wpAny_Return_none ((K.ok e).now S F ⟨.none,rfl,.none⟩ st.toks))
 |ite _ _ _=>exact vh (bh.Gz hf) fun Y Y Y Y q h1 h2 h3=>q▸M5 HT HX e h1 h2 h3 F S R z K
 |«for» _ _ _ _ _=>exact Od (bh.GR hf) fun Y Y Y Y q h1 O7 h2 h3=>q▸M6 X.wd.inj X.wd X.UY X.it X.en X.zp H (fun m hm=>(HB m hm d).1) (fun m hm=>(HB m hm d).2.2.1) e h1 O7 h2 h3 F S R z K
 |hH _ _ _ _ _ _=>exact False.elim hf
 |«while» _ _=>exact Ga (bh.J1 hf) fun Y Y Y q h1 h2=>q▸E9 (fun m hm=>⟨(HB m hm d).2.1,(HB m hm d).2.2.1⟩) e h1 h2 F S R z K
 |«try» _=>exact IK (bh.Rq hf) fun Y Y Y Y q h1=>q▸M3 HX e h1 F S R z K
 |pass=>exact dF (bh.N0 hf) fun Y q=>q▸lf (wpAny_Pass ((K.ok e).now S F rfl st.toks))
 |bad _=>exact no e
theorem Bq(e:(aH.ok (Fl.nx,ρ,s)).leaf C.ν=some (f,ρ',s'))(F:dk C Z J M own kd cs env ρ st.heap)(S:aq C J M s st.heap)(K:KX C Z J M own kd cs env st f ρ' s' Q):ab (Md C) A (execs [] env) Q E st:=
 lf (wpAny_execs_nil ((K.ok e).now S F rfl st.toks))
set_option tactic.hygienic true in
theorem E8(X:WF C P N)(hn:n≤100000)(HB:∀m,m≤n→MA C P N m):vk C (run P N (n+1) d) d:=by
 intro cl ρ s f ρ' s' e kd cs xs hf Z J M own env A st F S R z Q E K;have e:(B2 P (run P N n d) cl ρ s).leaf C.ν=some (f,ρ',s'):=e
 cases cl with
 |nil=>exact hf.nl▸Bq e F S K
 |cons c cl=>
  refine mU (Et e) fun S8 b7 ag e1 e=>j8 hf.un fun x xs q h1 h2=>?_
  rw [q];refine lO (JS X hn HB e1 h1 F S R z fun aA aP h₁ aU fl aF aD cS px=>?_)
  cases S8 with
  |rt w=>
   refine dN (Oc e) fun q1 q2 q3=>?_
   exact aC px fun rv q V=>q▸K aA aP h₁ aU _ aF (q3▸aD) (q2▸cS) (q1▸⟨rv,rfl,V⟩)
  |nx=>
   rw [show fl=.next from px]
   cases cl with
   |nil=>exact h2.nl▸Bq e cS aD (K.after aF)
   |cons c' cl=>exact(HB n (Nat.le_refl _) d).2.2.1 _ b7 ag f ρ' s' e kd cs _ h2 Z aA aP own env A {st with heap:=h₁,toks:=aU} cS aD R (z.bJ aF) Q E (K.after aF)
def T9(v:Value):Prop:=∃k,keeperOf v=pure k
theorem wo(k:Nat){Q:Keeper→Shared→Prop}(K:∀k,Q k st):ab (Md C) A (keeperOf (vj k)) Q E st:=
 dF (DA (P:=T9) ⟨_,rfl⟩ U6 ⟨⟨_,rfl⟩,⟨_,rfl⟩,⟨_,rfl⟩,⟨_,rfl⟩,⟨_,rfl⟩,⟨_,rfl⟩,⟨_,rfl⟩,⟨_,rfl⟩,⟨_,rfl⟩,⟨_,rfl⟩,⟨_,rfl⟩,⟨_,rfl⟩,⟨_,rfl⟩,⟨_,rfl⟩,⟨_,rfl⟩,⟨_,rfl⟩,⟨_,rfl⟩,trivial⟩ k) fun x q=>(show keeperOf (vj k)=pure x from q)▸af (K x)
theorem Hl(X:WF C P N)(HB:MA C P N n):Qw C (run P N (n+1) d) d:=by
 intro g as s v s' e Z J M A st rg ras S R z Vg V;cases d with
 |zero=>exact no e
 |succ d=>
  have e:(xR P (run P N n d) (Nat.ble P.smd d) g as s).leaf C.ν=some (v,s'):=e
  refine lN (HB d:) fun H HT HX HC=>?_
  cases g with
  |fn k=>
   rw [show rg=_ from Vg.inv]
   refine aC (aI e) fun fn hfs e=>⟨fun Q E K=>zX (X.fns _ _ hfs) S K,fun Q E K=>?_⟩
   cases hs:Nx P (Nat.ble P.smd d) k as s with
   |none=>rw [hs]at e;exact yE X.lim HX hfs (X.fns _ _ hfs) e S R.c z V K
   |some r=>
    rw [hs]at e;cases hb:Nat.ble P.smd d with
    |false=>rw [hb]at hs;exact no hs
    |true=>rw [hb]at hs;exact X.sm k as s r v s' hs e Z J M A st ras S (R.mono (Nat.succ_le_succ (show P.smd≤d from bF hb))) z V Q E K
  |cls c=>
   rw [show rg=_ from Vg.inv]
   exact⟨fun Q E K=>(uM (Q:=fun Y Y=>True) (E:=fun Y Y=>True) X.wd X.lim X.fns HX e S R z V (fun Y Y Y Y Y Y Y Y=>trivial)).1 Q E K,fun Q E K=>(uM X.wd X.lim X.fns HX e S R z V K).2⟩
  |vi k bR=>exact⟨fun Q E K=>(uN (Q:=fun Y Y=>True) (E:=fun Y Y=>True) X.lim H X.gH e S R z Vg V (fun Y Y Y Y Y Y Y Y=>trivial)).1 Q E K,fun Q E K=>(uN X.lim H X.gH e S R z Vg V K).2⟩
  |bi k=>
   rw [show rg=_ from Vg.inv]
   exact⟨fun Q E K=>wo k K,fun Q E K=>X.bi k as s v s' e Z J M A st ras S (R.mono (Nat.zero_le _)) z V Q E K⟩
  |_=>exact no e
theorem sound(X:WF C P N):∀n,n≤100000→MA C P N n:=by
 intro n
 induction n using Nat.strongRecOn with
 |ind n ih=>
  intro hn d;cases n with
  |zero=>exact⟨(fun Y Y Y Y Y e=>by injection e),(fun Y Y Y Y Y e=>by injection e),(fun Y Y Y Y Y Y e=>by injection e),(fun Y Y Y Y Y e=>by injection e)⟩
  |succ n=>
   have HB:∀m,m≤n→MA C P N m:=fun m hm=>ih m (Nat.lt_succ_of_le hm) (by lia)
   exact⟨G4 X (by lia) HB,Fo (HB n (Nat.le_refl _)),E8 X (by lia) HB,Hl X (HB n (Nat.le_refl _))⟩
end
section
theorem aq.mh(S:aq C J M s h)(hT:∀a,T a→M a∧¬Z a∧a∉J∧∀p∈C.tabs,a≠p.2)(hk:∀b o,¬T b→h.get? b=some o→h'.get? b=some o)(hl:∀a,T a→∃o,h'.get? a=some o):aq C J M s h'∧aJ Z J M h J M h':=by
 have hv:∀b o,h.get? b=some o→∃o',h'.get? b=some o':=fun b o e=>by
  by_cases hb:T b
  ·exact hl b hb
  ·exact⟨o,hk b o hb e⟩
 have G:aJ Z J M h J M h':=⟨⟨[],by simp,fun Y m=>nomatch m⟩,⟨hv,fun b o hb e=>hk b o (fun q=>hb ⟨(hT b q).1,(hT b q).2.1⟩) e⟩,fun Y x=>x,fun Y x=>.inl x⟩
 refine⟨⟨S.len,S.lim,S.gP,S.nodup,S.low,fun i o b e q=>?_,S.jt,S.yB,fun b m=>let⟨o,e⟩:=S.there b m;hv b o e,fun b m=>let⟨o,e⟩:=S.mlt b m;hv b o e,fun b o e=>?_,fun p hp=>?_,S.rg⟩,G⟩
 ·have hb:¬T b:=fun z=>(hT b z).2.2.1 (bO q)
  exact(S.obj i o b e q).grow G fun x hx=>hk b x hb hx
 ·refine aw (S.base b o e:) fun n y=>?_
  exact⟨n,hk b o (fun z=>n (hT b z).1) y⟩
 ·obtain⟨⟨ps,a1,a2,a3,a4⟩,a5⟩:=S.tab p hp
  refine⟨⟨ps,a1,hk _ _ (fun z=>(hT _ z).2.2.2 p hp rfl) a2,a3,fun pos cv e=>?_⟩,a5⟩
  refine vh (a4 pos cv e:) fun c oc vs t e1 e2 e3 e4=>?_
  exact⟨c,oc,vs,t,e1,e2,hk _ _ (fun z=>e2 (hT _ z).1) e3,e4⟩
theorem Lg{I:Addr}{o:Obj}{T:String}{Q:Unit→Shared→Prop}(e:st.heap.get? I=some o)(hc:o.cls=.type T)(hT:["enumerate","zip","dict_itemiterator","dict_reverseitemiterator","odict_iterator","itertools.zip_longest","itertools.pairwise"].contains T=false)(q:Q () st):ab (Md C) A (letOwnedTupleGo (.Tuple default default default) (.ref I) (.ref a)) Q E st:=by
 refine aa (lf<|wpAny_load e ?_)
 rw [hc];cases o.data<;>first|exact af q|skip
 show ab _ _ (if(_&&_)=true then _ else _) Q E st;rw [hT];exact af q
noncomputable def CY(it v:Value):Sem Unit:=letOwnedTupleGo (.Tuple default default default) it v
theorem OC{it:Value}(v:Value):(∃r,it=.ref r)∨CY it v=pure ():=by
 cases it<;>first|exact .inr rfl|exact .inl ⟨_,rfl⟩
theorem OE{v:Value}(r:Addr):(∃a,v=.ref a)∨CY (.ref r) v=pure ():=by
 cases v<;>first|exact .inr rfl|exact .inl ⟨_,rfl⟩
theorem OD(target:Expr)(it v:Value):letOwnedTupleGo target it v=CY it v∨letOwnedTupleGo target it v=pure ():=by
 cases target<;>first|exact .inr rfl|exact .inl rfl
theorem yi{target:Expr}{it v:Value}{Q:Unit→Shared→Prop}(q:Q () st)(k:∀r a,it=.ref r→v=.ref a→ab (Md C) A (CY it v) Q E st):ab (Md C) A (letOwnedTupleGo target it v) Q E st:=
 (OD target it v).elim (fun e=>e▸(OC v).elim (fun⟨r,e1⟩=>(OE r).elim (fun⟨a,e2⟩=>k r a e1 e2) fun e2=>(e1▸e2:CY it v=pure ())▸af q) fun e1=>e1▸af q) fun e=>e▸af q
theorem rM{target:Expr}{it v:Value}{Q:Unit→Shared→Prop}(hv:∀a,v≠.ref a)(q:Q () st):ab (Md C) A (letOwnedTupleGo target it v) Q E st:=
 yi q fun Y a Y e=>absurd e (hv a)
theorem yh{target:Expr}{I:Addr}{v:Value}{o:Obj}{T:String}{Q:Unit→Shared→Prop}(e:st.heap.get? I=some o)(hc:o.cls=.type T)(hT:["enumerate","zip","dict_itemiterator","dict_reverseitemiterator","odict_iterator","itertools.zip_longest","itertools.pairwise"].contains T=false)(q:Q () st):ab (Md C) A (letOwnedTupleGo target (.ref I) v) Q E st:=
 yi q fun Y Y Y e'=>e'▸Lg e hc hT q
theorem gI{I:Addr}{fp wr:List Addr}{Pn:Nat→Value→Prop}{St:Nat→Heap→Prop}{item:Nat→Option AV}(W:∀A:Around,A.handled=none→Walks C.prog C.w A I fp wr n Pn St)(hI:∀i h,St i h→∀b∈wr,∃o,h.get? b=some o)
  (hsrc:∀s k r,(iQ s kind src k).leaf C.ν=some r→r=item k)(hend:item n=none)
  (hlot:∀i h v,St i h→Pn i v→∀(target:Expr)(A:Around)(st:Shared)(Q:Unit→Shared→Prop)(E:Value→Shared→Prop),(∃o T,st.heap.get? I=some o∧o.cls=.type T∧True)∨True→St (i+1) st.heap→Q () st→ab (Md C) A (letOwnedTupleGo target (.ref I) v) Q E st):
  jJ C kind src I (fun a=>a∈wr) fun J M k h=>k≤n∧St k h∧(∀b∈fp,b∉wr→¬M b∧∃o,h.get? b=some o)∧∀i v,i<n→Pn i v→∃a,item i=some a∧ao C J M h a v:=by
 have h0:(⟨none,0,none,none,1⟩:Around).handled=none:=rfl
 refine⟨fun{Z J M h σ' M' h' k} hz G⟨h1,h2,h3,h4⟩=>?_,fun{J M k A st Q E} hh⟨h1,h2,h3,h4⟩ q=>lf<|(W A hh).self k st Q E h2 q,fun{Z J M s st k A E r Q} hh S hT⟨h1,h2,h3,h4⟩ er kn ks=>?_⟩
 ·refine⟨h1,(W _ h0).frame k h h' h2 fun b hb o e=>?_,fun b hb hn=>?_,fun i v hi hp=>?_⟩
  ·by_cases hw:b∈wr
   ·exact G.dB (hz b hw) e
   ·exact G.kept (h3 b hb hw).1 e
  ·obtain⟨a,o,e⟩:=h3 b hb hn
   exact⟨G.notM a e,o,G.kept a e⟩
  ·refine aC (h4 i v hi hp:) fun a e V=>?_
   exact⟨a,e,V.grow G⟩
 ·have hr:=hsrc s k r er
  rcases Nat.lt_or_ge k n with hk|hk
  ·refine lf<|(W A hh).item k st Q E hk h2 fun v h' tk hp wz hkp=>?_
   refine aC (h4 k v hk hp:) fun a e V=>?_
   refine aw (S.mh (Z:=Z) hT (fun b o hb e=>hkp b o hb e) (hI _ _ wz):) fun S' G=>?_
   refine ks a (by rw [hr,e]) h' tk v G S' (V.grow G) fun target A Q E Y K=>?_
   refine hlot k _ v h2 hp target A {st with heap:=h',toks:=tk} Q E (.inr trivial) wz (K h' (aJ.refl _ _ _ _) S' ⟨hk,wz,fun b hb hn=>?_,fun i u hi hp=>?_⟩)
   ·obtain⟨m,o,e⟩:=h3 b hb hn
    exact⟨m,o,hkp b o hn e⟩
   ·refine aC (h4 i u hi hp:) fun a e V=>?_
    exact⟨a,e,V.grow G⟩
  ·have:k=n:=by lia
   subst this;refine lf<|(W A hh).done st Q E h2 fun h' tk hkp=>kn (by rw [hr,hend]) h' tk fun b o hb e=>hkp b o hb e
end
section
theorem ay.back{vs:List Value}(V:ay C J M h l vs){y:Value}(e:vs[k]?=some y):∃x,l[k]?=some x∧ao C J M h x y:=
 V.ind (P:=fun l vs=>∀k y,vs[k]?=some y→∃x,l[k]?=some x∧ao C J M h x y) (fun Y Y e=>Mine.Internal.no e) (fun a Y Y Y x Y ih k=>Nat.casesOn k (fun Y e=>⟨a,rfl,bg e▸x⟩) fun k y e=>ih k y e) k y e
theorem Hh{aP:Addr→Prop}(hk:∀b o,h.get? b=some o→h'.get? b=some o)(h1:∀a,aP a→M a∨h.get? a=none):vf J M h J aP h':=
 ⟨⟨[],by simp⟩,fun a o hn e=>⟨fun q=>(h1 a q).elim hn fun q=>aO e q,hk a o e⟩⟩
theorem ed{b:Addr}(h:a∈[b]):a=b:=List.mem_singleton.mp h
theorem BJ(x:UInt8)(e:IE)(ν:Nat→Int)(h0:0≤e.eval ν)(h1:e.eval ν<256)(h:cz ν e=x):(x.toNat:Int)=e.eval ν:=by
 subst h;unfold cz;rw [UInt8.toNat_ofNat_of_lt' (by show _<256;lia)]
 lia
theorem iw:st.heap.get? st.heap.objs.size=none:=Heap.bc _
theorem kp(o:Obj)(b:Addr)(o':Obj)(e:st.heap.get? b=some o'):(st.heap.push o).get? b=some o':=cP o e
theorem gp(o:Obj)(hf:o.isFreed=false):(st.heap.push o).get? st.heap.objs.size=some o:=Heap.get?_push_size _ hf
section
theorem C7(V:ao C J M st.heap (.t l) rv):Made C 0 (.t l) s J M st A (pyIter rv):=by
 intro Q E K;refine V.kS fun a vs n ha ea Va=>?_
 have ht:st.heap.IsTuple a vs.toArray:=⟨_,ea,rfl,n,rfl⟩
 have hne:a≠st.heap.objs.size:=Nat.ne_of_lt (Heap.lt_size ea)
 have hl:=Va.length
 refine lf<|wpAny_pyIter_tuple ht (K _ _ _ _ _ (gI (item:=fun k=>l[k]?) (fun A hh=>Walks.tuple hh st.heap.objs.size a hne vs.toArray) (fun i h q b hb=>?_) (fun s k r e=>?_) ?_ fun i h v q hp target A st Q E Y q' k=>?_) (List.mem_singleton.mpr rfl) (fun b hb=>?_) (kp _) fun aP h1 h2 aD=>?_)
 ·rw [ed hb];obtain⟨⟨o,e,_⟩,_⟩:=q;exact⟨o,e⟩
 ·injection e with e;subst e;rfl
 ·rw [cW,←hl];exact List.getElem?_eq_none (Nat.le_refl _)
 ·obtain⟨⟨o,e,hc,_⟩,_⟩:=q'
  exact yh e hc (by decide) k
 ·rw [ed hb];exact⟨iw,_,gp _ rfl⟩
 ·refine⟨Nat.zero_le _,⟨⟨_,gp _ rfl,rfl,rfl⟩,⟨_,kp _ _ _ ea,rfl,n,rfl⟩⟩,fun b hb hn=>?_,fun i v hi hp=>?_⟩
  ·rcases cK hb with q|q
   ·exact absurd (q▸List.mem_singleton.mpr rfl) hn
   ·rw [ed q];exact⟨fun q=>(h1 a q).elim ha fun q=>aO ea q,_,kp _ _ _ ea⟩
  ·refine aC (Va.back (k:=i) (y:=v) (by simpa using hp):) fun x q1 q2=>?_
   exact⟨x,q1,q2.chg (Hh (kp _) h1)⟩
theorem wq{l:List IE}(V:ao C J M st.heap (.bytes l) rv):Made C 0 (.bytes l) s J M st A (pyIter rv):=by
 intro Q E K;refine V.eH fun hb t=>?_
 refine lf<|KBw.pyIter_bytes (K _ _ _ _ _ (gI (item:=fun k=>l[k]?.map .int) (fun A hh=>KBw.walks hh st.heap.objs.size (aS C.ν l) t) (fun i h q b hb=>?_) (fun s k r e=>?_) ?_ fun i h v q hp target A st Q E Y q' k=>?_) (List.mem_singleton.mpr rfl) (fun b hb=>?_) (kp _) fun aP h1 h2 aD=>?_)
 ·rw [ed hb];refine aC (q:) fun o e Y=>?_;exact⟨o,e⟩
 ·injection e with e;subst e;rfl
 ·rw [cJ];simp
 ·obtain⟨c,u,_,rfl⟩:=hp
  exact rM (fun a q=>by injection q) k
 ·rw [ed hb];exact⟨iw,_,gp _ rfl⟩
 ·refine⟨Nat.zero_le _,⟨_,gp _ rfl,rfl,rfl⟩,fun b O2 hn=>absurd O2 hn,fun i v hi hp=>?_⟩
  obtain⟨c,u,q1,rfl⟩:=hp
  have hq:(l.map (cz C.ν))[i]?=some c:=by
   have:(aS C.ν l)[i]?=some c:=q1
   unfold aS at this
   simpa using this
  rw [List.getElem?_map]at hq;refine aC (Option.map_eq_some_iff.mp hq:) fun x q2 q3=>?_
  have hx:=hb x (bO q2)
  refine⟨.int x,by rw [q2];rfl,.int x _ u (BJ c x C.ν hx.1 hx.2 q3).symm⟩
theorem C8{l:List Nat}(V:ao C J M st.heap (.str l) rv):Made C 0 (.str l) s J M st A (pyIter rv):=by
 intro Q E K;refine V.gO fun t=>?_
 have fin:∀(ty:String)(W:∀A:Around,A.handled=none→Walks C.prog C.w A st.heap.objs.size [st.heap.objs.size] [st.heap.objs.size] (aR l).cps.size (SignAt (aR l)) (fun i h=>h.IsStrIter st.heap.objs.size ty (aR l) t i)),
   Q (.ref st.heap.objs.size) {st with heap:=st.heap.push {cls:=.type ty,data:=.fields #[.str (aR l) t,.int 0 0]}}:=by
  intro ty W;refine K _ _ _ _ st.toks (gI (item:=fun k=>l[k]?.map fun c=>.str [c]) W (fun i h q b hb=>?_) (fun s k r e=>?_) ?_ fun i h v q hp target A st Q E Y q' k=>?_) (List.mem_singleton.mpr rfl) (fun b hb=>?_) (kp _) fun aP h1 h2 aD=>?_
  ·rw [ed hb];refine aC (q:) fun o e Y=>?_;exact⟨o,e⟩
  ·injection e with e;subst e;rfl
  ·simp[aR]
  ·obtain⟨c,u,_,rfl⟩:=hp
   exact rM (fun a q=>by injection q) k
  ·rw [ed hb];exact⟨iw,_,gp _ rfl⟩
  ·refine⟨Nat.zero_le _,⟨_,gp _ rfl,rfl,rfl⟩,fun b O2 hn=>absurd O2 hn,fun i v hi hp=>?_⟩
   obtain⟨c,u,q1,rfl⟩:=hp
   have hq:l[i]?=some c:=by simpa[aR]using q1
   exact⟨.str [c],by rw [hq];rfl,.str [c] u⟩
 cases ha:(aR l).cps.all (·<128)
 ·exact lf<|wpAny_pyIter_wide ha (fin "str_iterator" fun A hh=>Walks.strWide hh _ _ _)
 ·exact lf<|wpAny_pyIter_ascii ha (fin "str_ascii_iterator" fun A hh=>Walks.strAscii hh _ _ _)
theorem Dc(V:ao C J M st.heap (.eF []) rv):Made C 0 (.eF []) s J M st A (pyIter rv):=by
 intro Q E K;refine V.w3 fun a es n ha hs ea Ra=>?_
 subst Ra;have hd:st.heap.DictAt (PySem.strKind C.prog C.w) a [] n:=⟨_,_,ea,⟨rfl,rfl,rfl⟩,rfl,fun e m=>by simp at m,.nil,by simp⟩
 have hne:a≠st.heap.objs.size:=Nat.ne_of_lt (Heap.lt_size ea)
 refine lf<|wpAny_pyIter_dict hs hd (K _ _ _ _ _ (gI (item:=fun Y=>none) (fun A hh=>Walks.dictKeys (knd:=PySem.strKind C.prog C.w) hh st.heap.objs.size a hne [] n) (fun i h q b hb=>?_) (fun s k r e=>?_) rfl fun i h v q hp target A st Q E Y q' k=>?_) (List.mem_singleton.mpr rfl) (fun b hb=>?_) (kp _) fun aP h1 h2 aD=>?_)
 ·rw [ed hb];obtain⟨⟨o,e,_⟩,_⟩:=q;exact⟨o,e⟩
 ·injection e with e;subst e;rfl
 ·refine eM (hp:) fun k x q Y=>?_;simp at q
 ·rw [ed hb];exact⟨iw,_,gp _ rfl⟩
 ·refine⟨Nat.zero_le _,⟨⟨_,gp _ rfl,rfl,rfl⟩,hd.keep (kp _)⟩,fun b hb hn=>?_,fun i v hi hp=>by simp at hi⟩
  rcases cK hb with q|q
  ·exact absurd (q▸List.mem_singleton.mpr rfl) hn
  ·rw [ed q];exact⟨fun q=>(h1 a q).elim ha fun q=>aO ea q,_,kp _ _ _ ea⟩
theorem tl(a b:Int):Builtin.Range.rangeSize a b 1=((b - a).toNat:Int):=by
 unfold Builtin.Range.rangeSize;simp only[show(1:Int)>0 by decide,if_true,Int.ediv_one]
 split<;>lia
theorem zC{a b:Int}(b1: -1000000≤a)(b2:a≤1000000)(b3: -1000000≤b)(b4:b≤1000000):Builtin.Range.small a b 1=true:=by
 unfold Builtin.Range.small;rw [tl];unfold Builtin.Range.rangeFitsLong;simp only[Bool.and_eq_true,decide_eq_true_eq,Bool.or_eq_true];refine⟨⟨⟨⟨⟨?_,?_⟩,?_,?_⟩,?_⟩,?_,?_⟩,.inr ?_⟩<;>(try simp)<;>lia
theorem C9{a b:Int}(hb:(jO (-1000000) a&&(jO a 1000000&&(jO (-1000000) b&&jO b 1000000)))=true)(V:ao C J M st.heap (.xT a b) rv):Made C 0 (.xT a b) s J M st A (pyIter rv):=by
 intro Q E K;obtain⟨y,t,u,w,rfl,hy,ey⟩:=V.inv
 have hsz:=tl a b
 have hsm:=zC (bI.mp (ae hb).1) (bI.mp (ae (ae hb).2).1) (bI.mp (ae (ae (ae hb).2).2).1) (bI.mp (ae (ae (ae hb).2).2).2)
 refine lf<|wpAny_pyIter_range ey hsm (K _ _ _ _ _ (gI (n:=(b - a).toNat) (item:=fun k=>match i6 (a+k) b with|true=>some (.int (.c (a+k)))|false=>none) (fun A hh=>Walks.range hh st.heap.objs.size a 1 (b - a).toNat) (fun i h q b hb=>?_) (fun s k r e=>?_) ?_ fun i h v q hp target A st Q E Y q' k=>?_) (List.mem_singleton.mpr rfl) (fun b hb=>?_) (kp _) fun aP h1 h2 aD=>?_)
 ·rw [ed hb];exact⟨_,q⟩
 ·refine aw (cO (show(Km a b k).leaf C.ν=some r from e):) fun Y e=>?_;injection e with e;subst e;rfl
 ·have:i6 (a+((b - a).toNat:Nat)) b=false:=by
   cases q:i6 (a+((b - a).toNat:Nat)) b with
   |false=>rfl
   |true=>have:=bz.mp q;lia
  rw [this]
 ·obtain⟨t,rfl⟩:=hp
  exact rM (fun a q=>by injection q) k
 ·rw [ed hb];exact⟨iw,_,gp _ rfl⟩
 ·refine⟨Nat.zero_le _,?_,fun b O2 hn=>absurd O2 hn,fun i v hi hp=>?_⟩
  ·have:=gp (st:=st) {cls:=.type "range_iterator",data:=.fields #[rawInt a,rawInt (Builtin.Range.rangeSize a b 1),rawInt 1]} rfl
   rw [hsz]at this;simp only[hsz];show(st.heap.push _).get? _=_
   simpa using this
  ·obtain⟨t,rfl⟩:=hp
   have:i6 (a+(i:Int)) b=true:=bz.mpr (by lia)
   rw [this];exact⟨_,rfl,.int _ _ t (by simp[IE.eval])⟩
theorem z7{i:Nat}(S:aq C J M s st.heap)(el:s.get i=some (.list l))(V:ao C J M st.heap (.ref i) rv):Made C 0 (.ref i) s J M st A (pyIter rv):=by
 intro Q E K;refine V.listE S el fun a vs n ha ea Va=>?_
 have hne:a≠st.heap.objs.size:=Nat.ne_of_lt (Heap.lt_size ea)
 refine lf<|wpAny_pyIter_list (cN ea) (K st.heap.objs.size (fun b=>b=st.heap.objs.size) (fun J M k h=>∃ax,J[i]?=some ax∧h.IsListIter st.heap.objs.size ax k) _ _ ⟨fun{Z J M h σ' M' h' k} hz G⟨ax,q1,o,q2,q3⟩=>?_,fun{J M k A st Q E} hh⟨ax,q1,q2⟩ q=>lf<|wpAny_pyIter_listiter q2 q,fun{Z J M s nM k A E r Q} hh S hT⟨ax,q1,q2⟩ er kn ks=>?_⟩ rfl (fun b hb=>?_) (kp _) fun aP h1 h2 aD=>?_)
 ·obtain⟨l,rfl,_⟩:=G.pre
  refine⟨ax,?_,o,G.dB (hz _ rfl) q2,q3⟩
  rw [List.getElem?_append_left]
  ·exact q1
  ·exact(List.getElem?_eq_some_iff.mp q1).1
 ·refine aC (cT (show(kH s (.ref i) fun l=>aH.ok l[k]?).leaf C.ν=some r from er):) fun l' Tr er=>?_
  injection er with er;subst er;exact eM (S.obj i _ ax Tr q1).listI fun vg n' e' V'=>by
   cases hq:l'[k]? with
   |some x=>
    refine aC (V'.get hq:) fun y hy Vy=>?_
    refine lf<|wpAny_pyNext_list_item q2 (cN e') (x:=y) (by simpa using hy) fun h' Dr qn=>?_
    obtain⟨S',G⟩:=S.mh (Z:=Z) hT (fun b o hb e=>qn.extBut b o hb e) (fun b hb=>by subst hb;obtain⟨o,e,_⟩:=Dr;exact⟨o,e⟩)
    refine ks x hq h' nM.toks y G S' (Vy.grow G) fun target A Q E Y K=>?_
    refine lM (id Dr:) fun o e hc hd=>?_
    exact yh e hc (by decide) (K h' (aJ.refl _ _ _ _) S' ⟨ax,q1,Dr⟩)
   |none=>
    refine lf<|wpAny_pyNext_list_end hh q2 (cN e') (by
     have:=V'.length
     have hk:l'.length≤k:=List.getElem?_eq_none_iff.mp hq
     simp;lia) fun h' O0=>kn hq h' nM.toks fun b o hb e=>O0 b o hb e
 ·rw [hb];exact⟨iw,_,gp _ rfl⟩
 ·exact⟨a,ha,_,gp _ rfl,rfl,rfl⟩
end
theorem Gw:iN C:=by
 intro src rv s J M st A S V ⟨r0,e0⟩;cases src with
 |t l=>exact C7 V
 |bytes l=>exact wq V
 |str l=>exact C8 V
 |eF l=>cases l with
  |nil=>exact Dc V
  |cons=>exact no e0
 |xT a b=>exact C9 (cO (show(Km a b 0).leaf C.ν=some r0 from e0)).1 V
 |ref i=>
  refine aC (cT (show(kH s (.ref i) fun l=>aH.ok l[0]?).leaf C.ν=some r0 from e0):) fun l el Y=>?_
  exact z7 S el V
 |_=>exact no e0
end
end
end Mine.Internal
namespace MineB.Internal
open PySem PySem.W PySem.Calls PyProof.Rows Builtin
open PySem.W.KBw
noncomputable section
namespace KBw
section
variable{prog:Program}{w:World}{A:Around}{E:Value→Shared→Prop}{s:Shared}{b:Array UInt8}{t:Tok}
theorem tV{it:Addr}{i:Nat}{c:UInt8}{Q:Value→Shared→Prop}(hit:IsBytesIter s.heap it b t i)(hx:b[i]?=some c)
  (hQ:∀h',IsBytesIter h' it b t (i+1)→Heap.SameBut it s.heap h'→Q (.int (c.toNat:Int) s.toks) {s with heap:=h',toks:=s.toks+1}):wpAny (model prog w) A (Builtin.SmallTypes.nextOf (.ref it)) Q E s:=by
 obtain⟨o,ho,hc,hd⟩:=id hit
 unfold Builtin.SmallTypes.nextOf;refine wpAny_bind (wpAny_callSpecial?_slot (name:=PySem.Str.ofString "__next__") (iter_typeIs hit) slot_next
  (wpAny_call_entry slot_next (iter_typeIs hit) entry_next ?_ (args_next _)))
 show wpAny _ _ (field (.ref it) 0>>=_) _ _ s;refine wpAny_bind (wpAny_field ho hd (x:=.bytes b t) rfl ?_)
 show wpAny _ _ (if(Value.bytes b t==Value.none)=true then _ else _) _ _ s;rw [if_neg (show¬((Value.bytes b t==Value.none)=true)from Bool.false_ne_true)]
 show wpAny _ _ (field (.ref it) 1>>=_) _ _ s;refine wpAny_bind (wpAny_field ho hd (x:=.int i 0) rfl ?_)
 refine wpAny_bind (wpAny_of_eq (a:=b) rfl ?_)
 simp only[Int.toNat_natCast,hx]
 refine wpAny_bind (wpAny_setField ho hd (by simp) (wpAny_bind (wpAny_mkInt (wpAny_pure ⟨_,rfl,wpAny_pure (hQ _ ?_ (Heap.SameBut.update ..))⟩))))
 exact⟨_,Heap.get?_update_self _ ho (Obj.isFreed_of_fields (Obj.data_mapFields hd _)),(Obj.cls_mapFields ..).trans hc,by
  rw [Obj.data_mapFields hd];simp[rawInt]⟩
theorem vZ{it:Addr}{i:Nat}{Q:Value→Shared→Prop}(hh:A.handled=none)(hit:IsBytesIter s.heap it b t i)(hx:b[i]?=none)
  (hE:∀h' e,Heap.ExtBut it s.heap h'→(∃o,h'.get? e=some o∧o.cls=.type "StopIteration")→E (.ref e) {s with heap:=h'}):wpAny (model prog w) A (Builtin.SmallTypes.nextOf (.ref it)) Q E s:=by
 obtain⟨o,ho,hc,hd⟩:=id hit
 unfold Builtin.SmallTypes.nextOf;refine wpAny_bind (wpAny_callSpecial?_slot (name:=PySem.Str.ofString "__next__") (iter_typeIs hit) slot_next
  (wpAny_call_entry slot_next (iter_typeIs hit) entry_next ?_ (args_next _)))
 show wpAny _ _ (field (.ref it) 0>>=_) _ _ s;refine wpAny_bind (wpAny_field ho hd (x:=.bytes b t) rfl ?_)
 show wpAny _ _ (if(Value.bytes b t==Value.none)=true then _ else _) _ _ s;rw [if_neg (show¬((Value.bytes b t==Value.none)=true)from Bool.false_ne_true)]
 show wpAny _ _ (field (.ref it) 1>>=_) _ _ s;refine wpAny_bind (wpAny_field ho hd (x:=.int i 0) rfl ?_)
 refine wpAny_bind (wpAny_of_eq (a:=b) rfl ?_)
 simp only[Int.toNat_natCast,hx]
 refine wpAny_bind (wpAny_rule (wpAny_bind (wpAny_setField ho hd (by simp) ?_)))
 show wpAny _ _ (newExc (.type "StopIteration") []>>=_) _ _ _;refine wpAny_bind ?_;simp only[newExc,newTuple];refine wpAny_bind (wpAny_newObj_type ?_ (by size_fits))
 refine wpAny_bind (m:=firstArgMember _ _) (wpAny_of_eq (a:=Value.none) (by first|rfl|(simp only[firstArgMember];rfl)) ?_)
 refine wpAny_newObj_type ?_ (by size_fits)
 unfold raiseNew;refine wpAny_bind (wpAny_handled ?_);rw [show A.in1.handled=none from hh]
 refine wpAny_bind (wpAny_pure (wpAny_throw ?_))
 exact hE _ _ (((Heap.SameBut.update ..).extBut.push _).push _) ⟨_,Heap.get?_push_size _ rfl,rfl⟩
end
theorem draws{prog:Program}{w:World}{A:Around}(hh:A.handled=none)(it:Addr)(b:Array UInt8)(t:Tok):
  Draws prog w A it [it] b.size (fun i v=>∃c u,b[i]?=some c∧v=.int (c.toNat:Int) u) (fun i h=>IsBytesIter h it b t i)where
 live:=fun Y Y st=>let⟨o,ho,_⟩:=st;⟨o,ho⟩
 frame:=fun Y Y Y st hk=>let⟨o,ho,r⟩:=st;⟨o,hk it (by simp) o ho,r⟩
 item:=fun i s Q E hi st hQ=>by
  refine tV st (c:=b[i]) (by simp[hi]) fun h' Dr qn=>?_
  exact hQ _ h' (s.toks+1) ⟨_,_,by simp[hi],rfl⟩ Dr qn
 done:=fun s Q E st hE=>vZ hh st (by simp) hE
theorem jw(x:Array UInt8)(t:Tok):
  Meets (Builtin.«enumerate.__new__» ⟨[.type "enumerate",.bytes x t],[]⟩) (fun Y R s=>
   R (.ok (.ret (.ref (s.heap.push {cls:=.type "bytes_iterator",data:=.fields #[.bytes x t,.int 0 0]}).objs.size)))
    {s with heap:=(s.heap.push {cls:=.type "bytes_iterator",data:=.fields #[.bytes x t,.int 0 0]}).push {cls:=.type "enumerate",data:=.fields #[.none,.bool false,.ref s.heap.objs.size,rawInt 0,.none,.none]}}):=
 .of_wp fun prog w A R s h=>by
  obtain⟨hp,g,d,tk,os⟩:=s
  have hsub:=sub_enumerate
  wp_walk
  refine wpAny_stack_any fun st=>wpAny_pure ?_
  refine wpAny_ite_split (fun Y=>?_) fun Y=>?_
  ·wp_walk using pyIter_bytes
   exact⟨_,rfl,h⟩
  ·wp_walk using pyIter_bytes
   exact⟨_,rfl,h⟩
theorem jG{prog:Program}{w:World}{A:Around}{E:Value→Shared→Prop}{s:Shared}{x:Array UInt8}{t:Tok}{Q:Value→Shared→Prop}
  (h:∀h',IsEnum h' (s.heap.objs.size+1) s.heap.objs.size 0 .none→IsBytesIter h' s.heap.objs.size x t 0→
   (∀b o,s.heap.get? b=some o→h'.get? b=some o)→Q (.ref (s.heap.objs.size+1)) {s with heap:=h'}):
  wpAny (model prog w) A (call (.type "enumerate") [.bytes x t]) Q E s:=by
 refine callType_new F.called_enumerate (by decide) (F.typeCall_enumerate_1 _) (F.newCall_enumerate_1 _) (fun obj=>F.args_object_init_2 obj _) F.entry_enumerate_new
  (jw x t) ?_
 have hz:(s.heap.push {cls:=.type "bytes_iterator",data:=.fields #[.bytes x t,.int 0 0]}).objs.size=s.heap.objs.size+1:=Heap.size_push ..
 show _∧_;rw [hz];have he:IsEnum ((s.heap.push {cls:=.type "bytes_iterator",data:=.fields #[.bytes x t,.int 0 0]}).push
   {cls:=.type "enumerate",data:=.fields #[.none,.bool false,.ref s.heap.objs.size,rawInt 0,.none,.none]}) (s.heap.objs.size+1) s.heap.objs.size 0 .none:=by
  have:=Heap.get?_push_size (s.heap.push {cls:=.type "bytes_iterator",data:=.fields #[.bytes x t,.int 0 0]})
   (o:={cls:=.type "enumerate",data:=.fields #[.none,.bool false,.ref s.heap.objs.size,rawInt 0,.none,.none]}) rfl
  rw [hz]at this;exact this
 refine⟨⟨_,he,rfl⟩,h _ he ⟨_,Heap.get?_push_of_some _ (Heap.get?_push_size _ rfl),rfl,rfl⟩ fun b o y=>Heap.get?_push_of_some _ (Heap.get?_push_of_some _ y)⟩
end KBw
end
end MineB.Internal
namespace Mine.Internal
open PySem PySem.W PyProof.Rows PySem.SeqAt
noncomputable section
variable{i:Nat}
section
variable{C:Cx}{s s':AS}{v w:AV}{Z:Addr→Prop}{J σ':List Addr}{M M':Addr→Prop}{A:Around}{st:Shared}{h h':Heap}
theorem ff(h:Heap)(k:Nat):h.get? (h.objs.size+k)=none:=by
 cases q:h.get? (h.objs.size+k)with
 |none=>rfl
 |some o=>exact absurd (Heap.lt_size q) (Nat.not_lt_of_le (Nat.le_add_right _ _))
section
variable{rv:Value}
theorem Al(hh:A.handled=none){l:List AV}(S:aq C J M s st.heap)(el:s.get i=some (.list l))(V:ao C J M st.heap (.ref i) rv):Made C 1 (.ref i) s J M st A (call (.type "enumerate") [rv] []):=by
 intro Q E K;have d0:st.heap.get? st.heap.objs.size=none:=Heap.bc _
 have d1:st.heap.get? (st.heap.objs.size+1)=none:=ff _ 1
 have hne:(st.heap.objs.size+1:Nat)≠st.heap.objs.size:=Nat.succ_ne_self _
 refine V.listE S el fun a vs n ha ea Va=>?_
 refine lf<|call_enumerate_list (cN ea) fun h₁ he hi Y hk=>?_
 refine K (st.heap.objs.size+1) (fun b=>b=st.heap.objs.size+1∨b=st.heap.objs.size) (fun J M k h=>∃ax old,J[i]?=some ax∧h.IsListIter st.heap.objs.size ax k∧IsEnum h (st.heap.objs.size+1) st.heap.objs.size k old) h₁ st.toks ?_ (.inl rfl) (fun b hb=>?_) hk fun aP h1 h2 aD=>⟨a,.none,ha,hi,he⟩
 ·refine⟨fun{Z J M h σ' M' h' k} hz G⟨ax,old,q1,⟨o,q2,q3⟩,q4⟩=>?_,fun{J M k A st Q E} hh⟨ax,old,q1,q2,q3⟩ q=>lf<|wpAny_pyIter_enum q3 q,fun{Z J M s nM k A E r Q} hh S hT⟨ax,old,q1,q2,q3⟩ er kn ks=>?_⟩
  ·obtain⟨l,rfl,_⟩:=G.pre
   refine⟨ax,old,?_,⟨o,G.dB (hz _ (.inr rfl)) q2,q3⟩,G.dB (hz _ (.inl rfl)) q4⟩
   rw [List.getElem?_append_left]
   ·exact q1
   ·exact(List.getElem?_eq_some_iff.mp q1).1
  ·refine aC (cT (show(kH s (.ref i) fun l=>aH.ok (l[k]?.map fun v=>AV.t [.int (.c k),v])).leaf C.ν=some r from er):) fun l' Tr er=>?_
   injection er with er;subst er;exact eM (S.obj i _ ax Tr q1).listI fun vg n' e' V'=>by
    have hax:ax≠st.heap.objs.size:=fun q=>(hT _ (.inr rfl)).2.2.1 (q▸bO q1)
    have Xf:ax≠st.heap.objs.size+1:=fun q=>(hT _ (.inl rfl)).2.2.1 (q▸bO q1)
    cases hq:l'[k]? with
    |some x=>
     refine aC (V'.get hq:) fun y hy Vy=>?_
     refine lf<|wpAny_pyNext_enum_item q3 q2 (cN e') (x:=y) (by simpa using hy) hne fun h' hO hI SR Y qn=>?_
     obtain⟨S',G⟩:=S.mh (Z:=Z) hT (fun b o hb e=>qn b o (fun q=>hb (.inl q)) (fun q=>hb (.inr q)) e) (fun b hb=>by
      rcases hb with rfl|rfl
      ·exact⟨_,hO⟩
      ·refine aC (hI:) fun o e Y=>?_;exact⟨o,e⟩)
     have SS:nM.heap.get? nM.heap.objs.size=none:=Heap.bc _
     refine ks _ (by rw [hq];rfl) h' _ (.ref nM.heap.objs.size) G S' (.t _ _ [.int k nM.toks,y] _ (S.nY SS) SR (.cons (.int _ _ _ rfl) (.cons (Vy.grow G) .nil))) fun target A Q E ht K=>?_
     obtain⟨xs,kk,pos,rfl⟩:=ht.resolve_left (by decide)
     refine lf<|wpAny_letOwnedTupleGo_enum (s:={nM with heap:=h',toks:=nM.toks+1}) hO fun br ug iS=>?_
     obtain⟨u5,QD⟩:=S'.mh (Z:=Z) hT (fun b o hb e=>iS.extBut b o (fun q=>hb (.inl q)) e) (fun b hb=>by
      rcases hb with rfl|rfl
      ·exact⟨_,ug⟩
      ·refine aC (hI.extBut iS.extBut hne.symm:) fun o e Y=>?_;exact⟨o,e⟩)
     refine K br QD u5 ⟨ax,y,q1,hI.extBut iS.extBut hne.symm,?_⟩
     have:((k:Int)+1)=((k+1:Nat):Int):=by lia
     rw [←this];exact ug
    |none=>
     refine lf<|wpAny_pyNext_enum_end hh q3 q2 (cN e') (by
      have:=V'.length
      have hk:l'.length≤k:=List.getElem?_eq_none_iff.mp hq
      simp;lia) fun h' O0=>kn (by rw [hq];rfl) h' nM.toks fun b o hb e=>O0 b o (fun q=>hb (.inr q)) e
 ·rcases hb with rfl|rfl
  ·exact⟨d1,_,he⟩
  ·refine aC (hi:) fun o e Y=>?_;exact⟨d0,o,e⟩
theorem wN(hh:A.handled=none){l:List IE}(V:ao C J M st.heap (.bytes l) rv):Made C 1 (.bytes l) s J M st A (call (.type "enumerate") [rv] []):=by
 intro Q E K;have d0:st.heap.get? st.heap.objs.size=none:=Heap.bc _
 have d1:st.heap.get? (st.heap.objs.size+1)=none:=ff _ 1
 have hne:(st.heap.objs.size+1:Nat)≠st.heap.objs.size:=Nat.succ_ne_self _
 refine V.eH fun hb t=>?_
 refine lf<|MineB.Internal.KBw.jG fun h₁ he hi hk=>?_
 refine K (st.heap.objs.size+1) (fun b=>b=st.heap.objs.size+1∨b=st.heap.objs.size) (fun J M k h=>∃old,KBw.IsBytesIter h st.heap.objs.size (aS C.ν l) t k∧k≤(aS C.ν l).size∧IsEnum h (st.heap.objs.size+1) st.heap.objs.size k old) h₁ st.toks ?_ (.inl rfl) (fun b hb=>?_) hk fun aP h1 h2 aD=>⟨.none,hi,Nat.zero_le _,he⟩
 ·refine⟨fun{Z J M h σ' M' h' k} hz G⟨old,⟨o,q2,q3⟩,q5,q4⟩=>?_,fun{J M k A st Q E} hh⟨old,q2,q5,q3⟩ q=>lf<|wpAny_pyIter_enum q3 q,fun{Z J M s nM k A E r Q} hh S hT⟨old,q2,q5,q3⟩ er kn ks=>?_⟩
  ·exact⟨old,⟨o,G.dB (hz _ (.inr rfl)) q2,q3⟩,q5,G.dB (hz _ (.inl rfl)) q4⟩
  ·injection er with er;subst er
   have D:=MineB.Internal.KBw.draws (prog:=C.prog) (w:=C.w) (A:=A.in1) hh st.heap.objs.size (aS C.ν l) t
   rcases Nat.lt_or_ge k (aS C.ν l).size with hk|hk
   ·refine lf<|wpAny_pyNext_enum_itemD D q3 q2 hk hne (by simp[hne]) fun x h' tk hP hO hI SR Y qn=>?_
    obtain⟨c,u,q1,rfl⟩:=hP
    have hq:(l.map (cz C.ν))[k]?=some c:=by
     have:(aS C.ν l)[k]?=some c:=q1
     unfold aS at this
     simpa using this
    rw [List.getElem?_map]at hq;refine aC (Option.map_eq_some_iff.mp hq:) fun x e2 e3=>?_
    have hx:=hb x (bO e2)
    obtain⟨S',G⟩:=S.mh (Z:=Z) hT (fun b o hb e=>qn b o (fun q=>hb (.inl q)) (fun q=>hb (.inr q)) e) (fun b hb=>by
     rcases hb with rfl|rfl
     ·exact⟨_,hO⟩
     ·refine aC (hI:) fun o e Y=>?_;exact⟨o,e⟩)
    have SS:nM.heap.get? nM.heap.objs.size=none:=Heap.bc _
    refine ks _ (by rw [e2];rfl) h' _ (.ref nM.heap.objs.size) G S' (.t _ _ [.int k tk,.int (c.toNat:Int) u] _ (S.nY SS) SR (.cons (.int _ _ _ rfl) (.cons (.int x _ u (BJ c x C.ν hx.1 hx.2 e3).symm) .nil))) fun target A Q E ht K=>?_
    obtain⟨xs,kk,pos,rfl⟩:=ht.resolve_left (by decide)
    refine lf<|wpAny_letOwnedTupleGo_enum (s:={nM with heap:=h',toks:=tk+1}) hO fun br ug iS=>?_
    have Ja:KBw.IsBytesIter br st.heap.objs.size (aS C.ν l) t (k+1):=by
     refine aC (hI:) fun o e r=>?_
     exact⟨o,iS.extBut _ _ hne.symm e,r⟩
    obtain⟨u5,QD⟩:=S'.mh (Z:=Z) hT (fun b o hb e=>iS.extBut b o (fun q=>hb (.inl q)) e) (fun b hb=>by
     rcases hb with rfl|rfl
     ·exact⟨_,ug⟩
     ·refine aC (Ja:) fun o e Y=>?_;exact⟨o,e⟩)
    refine K br QD u5 ⟨.int (c.toNat:Int) u,Ja,hk,?_⟩
    have:((k:Int)+1)=((k+1:Nat):Int):=by lia
    rw [←this];exact ug
   ·have:k=(aS C.ν l).size:=by lia
    subst this;refine lf<|wpAny_pyNext_enum_endD D q3 q2 fun h' O0=>kn (by rw [cJ];simp) h' nM.toks fun b o hb e=>O0 b o (fun q=>hb (.inr q)) e
 ·rcases hb with rfl|rfl
  ·exact⟨d1,_,he⟩
  ·refine aC (hi:) fun o e Y=>?_;exact⟨d0,o,e⟩
end
theorem G7:m8 C:=by
 intro src rv s J M st A hh _ S V ⟨r0,e0⟩;cases src with
 |bytes l=>exact wN hh V
 |ref i=>
  refine aC (cT (show(kH s (.ref i) fun l=>aH.ok (l[0]?.map fun v=>AV.t [.int (.c 0),v])).leaf C.ν=some r0 from e0):) fun l el Y=>?_
  exact Al hh S el V
 |_=>exact no e0
end
section
variable{C:Cx}{s s':AS}{v w:AV}{Z:Addr→Prop}{J σ':List Addr}{M M':Addr→Prop}{A:Around}{st:Shared}{h h':Heap}
theorem j7{n j:Nat}(h:i≠j):n+i≠n+j:=fun q=>h (Nat.add_left_cancel q)
def ZW(w:Value)(n:Nat)(i j:Nat)(J:List Addr)(k:Nat)(h:Heap):Prop:=∃a b x y,J[i]?=some a∧J[j]?=some b∧IsZip h (n+4) (n+2) (n+3) w∧IsPair h (n+2) (.ref n) (.ref (n+1))∧IsPair h (n+3) x y∧h.IsListIter n a k∧h.IsListIter (n+1) b k
abbrev MS:=ZW .none
theorem qm{n:Addr}{l:Addr}{k:Nat}(I:h.IsListIter n l k)(hk:∀o,h.get? n=some o→h'.get? n=some o):h'.IsListIter n l k:=let⟨o,e,r⟩:=I;⟨o,hk o e,r⟩
def ZT(n c:Addr):Prop:=c=n+4∨c=n+2∨c=n+3∨c=n∨c=n+1
theorem ZT.all{n:Addr}{P:Addr→Prop}(h1:P (n+4))(h2:P (n+2))(h3:P (n+3))(h4:P n)(h5:P (n+1)):∀c,ZT n c→P c:=fun c hc=>by
 rcases hc with rfl|rfl|rfl|rfl|rfl<;>assumption
theorem ZW.live{w:Value}{n j:Nat}{k:Nat}(H:ZW w n i j J k h):∀c,ZT n c→∃o,h.get? c=some o:=by
 obtain⟨a,b,x,y,_,_,q1,q2,q3,⟨o4,q4,_⟩,⟨o5,q5,_⟩⟩:=H
 exact ZT.all ⟨_,q1⟩ ⟨_,q2⟩ ⟨_,q3⟩ ⟨_,q4⟩ ⟨_,q5⟩
theorem xE{n a b:Addr}(na:¬ZT n a)(nb:¬ZT n b):ZipApart (n+4) (n+2) (n+3) n (n+1) a b:=
 ⟨j7 (by decide),j7 (by decide),j7 (i:=0) (by decide),j7 (by decide),j7 (by decide),j7 (j:=0) (by decide),j7 (by decide),j7 (j:=0) (by decide),j7 (by decide),j7 (i:=0) (by decide),
  fun q=>na (.inl q),fun q=>na (.inr (.inr (.inl q))),fun q=>na (.inr (.inr (.inr (.inl q)))),fun q=>na (.inr (.inr (.inr (.inr q)))),
  fun q=>nb (.inl q),fun q=>nb (.inr (.inr (.inl q))),fun q=>nb (.inr (.inr (.inr (.inl q)))),fun q=>nb (.inr (.inr (.inr (.inr q))))⟩
theorem ZW.keep{w:Value}{n j:Nat}{k:Nat}(hz:∀a,ZT n a→Z a)(G:aJ Z J M h σ' M' h')(H:ZW w n i j J k h):ZW w n i j σ' k h':=by
 refine R3 (H:) fun a b x y qa qb q1 q2 q3 q4 q5=>?_
 obtain⟨l,rfl,_⟩:=G.pre
 have ap:∀{i:Nat}{a:Addr},J[i]?=some a→(J++l)[i]?=some a:=fun{i a} q=>by
  rw [List.getElem?_append_left]
  ·exact q
  ·exact(List.getElem?_eq_some_iff.mp q).1
 exact⟨a,b,x,y,ap qa,ap qb,G.dB (hz _ (.inl rfl)) q1,G.dB (hz _ (.inr (.inl rfl))) q2,G.dB (hz _ (.inr (.inr (.inl rfl)))) q3,
  qm q4 fun o e=>G.dB (hz _ (.inr (.inr (.inr (.inl rfl))))) e,qm q5 fun o e=>G.dB (hz _ (.inr (.inr (.inr (.inr rfl))))) e⟩
section
variable{E:Value→Shared→Prop}{Q:Option Value→Shared→Prop}{n:Addr}{j k:Nat}{l m:List AV}
theorem Bm(S:aq C J M s st.heap)(hT:∀a,ZT n a→M a∧¬Z a∧a∉J∧∀p∈C.tabs,a≠p.2)(H:MS n i j J k st.heap)(el:s.get i=some (.list l))(em:s.get j=some (.list m)){x y:AV}(ex:l[k]?=some x)(ey:m[k]?=some y)
  (ks:∀h' tk rv,aJ Z J M st.heap J M h'→aq C J M s h'→ao C J M h' (.t [x,y]) rv→
   (∀(target:Expr)(A:Around)(Q:Unit→Shared→Prop)(E:Value→Shared→Prop),(2=0∨∃xs k pos,target=.Tuple xs k pos)→(∀qo,aJ Z J M h' J M qo→aq C J M s qo→MS n i j J (k+1) qo→Q () {st with heap:=qo,toks:=tk})→ab (Md C) A (letOwnedTupleGo target (.ref (n+4)) rv) Q E {st with heap:=h',toks:=tk})→
   Q (some rv) {st with heap:=h',toks:=tk}):ab (Md C) A (pyNext (.ref (n+4))) Q E st:=by
 refine R3 (H:) fun a b u v qa qb q1 q2 q3 q4 q5=>?_
 have D:=xE (fun q=>(hT _ q).2.2.1 (bO qa)) fun q=>(hT _ q).2.2.1 (bO qb)
 exact eM (S.obj i _ a el qa).listI fun Ur n1 e1 W1=>eM (S.obj j _ b em qb).listI fun Uq n2 e2 W2=>by
   refine aC (W1.get ex:) fun p hp Vp=>?_
   refine aC (W2.get ey:) fun q hq Vq=>?_
   refine lf<|wpAny_pyNext_zip_item D q1 q2 q3 q4 q5 (cN e1) (cN e2) (x:=p) (y:=q) (by simpa using hp) (by simpa using hq) fun h' a1 a2 a3 a4 a5 Y qn=>?_
   have k2:IsPair h' (n+2) (.ref n) (.ref (n+1)):=qn _ _ D.TIz D.TITO D.TIi1 D.TIi2 q2
   have H':ZW _ n i j J (k+1) h':=⟨a,b,p,q,qa,qb,a1,k2,a2,a3,a4⟩
   refine aw (S.mh (Z:=Z) hT (fun c o hc e=>qn c o (fun q=>hc (.inl q)) (fun q=>hc (.inr (.inr (.inl q)))) (fun q=>hc (.inr (.inr (.inr (.inl q))))) (fun q=>hc (.inr (.inr (.inr (.inr q))))) e) H'.live:) fun S' G=>?_
   refine ks h' _ (.ref st.heap.objs.size) G S' (.t _ _ [p,q] _ (S.nY (Heap.bc _)) a5 (.cons (Vp.grow G) (.cons (Vq.grow G) .nil))) fun target A Q E ht K=>?_
   obtain⟨xs,kk,pos,rfl⟩:=ht.resolve_left (by decide)
   refine lf<|wpAny_letOwnedTupleGo_zip (s:={st with heap:=h',toks:=st.toks}) a1 fun br OV iS=>?_
   have QB:MS n i j J (k+1) br:=⟨a,b,p,q,qa,qb,OV,iS.extBut _ _ D.TIz k2,iS.extBut _ _ D.TOz a2,a3.extBut iS.extBut D.i1z,a4.extBut iS.extBut D.i2z⟩
   refine aw (S'.mh (Z:=Z) hT (fun c o hc e=>iS.extBut c o (fun q=>hc (.inl q)) e) QB.live:) fun u5 QD=>?_
   exact K br QD u5 QB
theorem xF(hh:A.handled=none)(S:aq C J M s st.heap)(hT:∀a,ZT n a→M a∧¬Z a∧a∉J∧∀p∈C.tabs,a≠p.2)(H:MS n i j J k st.heap)(el:s.get i=some (.list l))(em:s.get j=some (.list m))(hend:l[k]?=none∨m[k]?=none)
  (kn:∀h' tk,(∀b o,¬ZT n b→st.heap.get? b=some o→h'.get? b=some o)→Q none {st with heap:=h',toks:=tk}):ab (Md C) A (pyNext (.ref (n+4))) Q E st:=by
 refine R3 (H:) fun a b u v qa qb q1 q2 q3 q4 q5=>?_
 have D:=xE (fun q=>(hT _ q).2.2.1 (bO qa)) fun q=>(hT _ q).2.2.1 (bO qb)
 exact eM (S.obj i _ a el qa).listI fun Ur n1 e1 W1=>eM (S.obj j _ b em qb).listI fun Uq n2 e2 W2=>by
   have he:Ur.toArray[k]?=none∨Uq.toArray[k]?=none:=hend.imp (fun c=>by
    have hk:=List.getElem?_eq_none_iff.mp c
    rw [W1.length]at hk
    simpa using hk) fun c=>by
    have hk:=List.getElem?_eq_none_iff.mp c
    rw [W2.length]at hk
    simpa using hk
   exact lf<|wpAny_pyNext_zip_end hh D q1 q2 q3 q4 q5 (cN e1) (cN e2) he fun h' MO=>kn h' st.toks fun c o hc e=>MO c o (fun q=>hc (.inl q)) (fun q=>hc (.inr (.inr (.inl q)))) (fun q=>hc (.inr (.inr (.inr (.inl q))))) (fun q=>hc (.inr (.inr (.inr (.inr q))))) e
end
theorem B3{j k:Nat}{ν:Nat→Int}{r:Option AV}(e:(iQ s 2 (.t [.ref i,.ref j]) k).leaf ν=some r):∃l m,s.get i=some (.list l)∧s.get j=some (.list m)∧x8 l[k]? m[k]?=r:=by
 refine aC (cT (show(kH s (.ref i) fun l=>kH s (.ref j) fun m=>aH.ok (x8 l[k]? m[k]?)).leaf ν=some r from e):) fun l el e=>?_
 refine aC (cT e:) fun m em e=>?_
 injection e with e;subst e;exact⟨l,m,el,em,rfl⟩
theorem Bl{j:Nat}(n:Addr):jJ C 2 (.t [.ref i,.ref j]) (n+4) (ZT n) fun J Y k h=>MS n i j J k h:=by
 refine⟨fun{Z J M h σ' M' h' k} hz G H=>H.keep hz G,fun{J M k A st Q E} hh⟨a,b,x,y,qa,qb,q1,_⟩ q=>lf<|wpAny_pyIter_zip q1 q,fun{Z J M s st k A E r Q} hh S hT H er kn ks=>?_⟩
 obtain⟨l,m,el,em,rfl⟩:=B3 er
 cases c1:l[k]? with
 |none=>exact xF hh S hT H el em (.inl c1) fun h' tk hk=>kn (by rw [c1];rfl) h' tk hk
 |some x=>cases c2:m[k]? with
  |none=>exact xF hh S hT H el em (.inr c2) fun h' tk hk=>kn (by rw [c1,c2];rfl) h' tk hk
  |some y=>exact Bm S hT H el em c1 c2 fun h' tk rv G S' V own=>ks _ (by rw [c1,c2];rfl) h' tk rv G S' V own
theorem Bk(hh:A.handled=none){j:Nat}{l m:List AV}{r1 r2:Value}(S:aq C J M s st.heap)(el:s.get i=some (.list l))(em:s.get j=some (.list m))(V1:ao C J M st.heap (.ref i) r1)(V2:ao C J M st.heap (.ref j) r2):Made C 2 (.t [.ref i,.ref j]) s J M st A (call (.type "zip") [r1,r2] []):=by
 intro Q E K;obtain⟨a,vs,na,rfl,ha,ea,Va⟩:=V1.n6 S el
 obtain⟨b,ws,nb,rfl,hb,eb,Vb⟩:=V2.n6 S em
 refine lf<|call_zip_2 (cN ea) (cN eb) fun h₁ z1 z2 z3 z4 z5 Y hk=>?_
 have H:MS st.heap.objs.size i j J 0 h₁:=⟨a,b,.none,.none,ha,hb,z1,z2,z3,z4,z5⟩
 exact K _ (ZT st.heap.objs.size) _ h₁ st.toks (Bl st.heap.objs.size) (.inl rfl) (fun c hc=>⟨ZT.all (P:=fun c=>st.heap.get? c=none) (ff _ 4) (ff _ 2) (ff _ 3) (ff _ 0) (ff _ 1) c hc,H.live c hc⟩) hk fun Y Y Y Y=>H
theorem JR:sg C:=by
 intro u1 u2 r1 r2 s J M st A hh _ S V1 V2 ⟨r0,e0⟩;obtain⟨i,l,rfl,el,e⟩:=eS (show(kH s u1 fun l=>kH s u2 fun m=>aH.ok (x8 l[0]? m[0]?)).leaf C.ν=some r0 from e0)
 obtain⟨j,m,rfl,em,_⟩:=eS e
 exact Bk hh S el em V1 V2
end
end
end Mine.Internal
namespace MineB.Internal
open PySem PySem.W PySem.Calls PyProof.Rows Builtin
open PySem.W.KBw
noncomputable section
namespace KBa
theorem zx:Slot "bytearray" "__init__" "bytearray.__init__":=
 .of (owner:="bytearray") (n:="__init__") (by rw [typeLookup_type,builtinLookup_eq_fast];kernel_rfl) (by decide+kernel) (by decide+kernel) (by decide+kernel)
  (by first|exact .inl (by decide+kernel)|exact .inr (by decide+kernel)) (by rw [isSubtype_type];kernel_rfl)
theorem kY:Slot "bytearray" "__getitem__" "bytearray.__getitem__":=
 .of (owner:="bytearray") (n:="__getitem__") (by rw [typeLookup_type,builtinLookup_eq_fast];kernel_rfl) (by decide+kernel) (by decide+kernel) (by decide+kernel)
  (by first|exact .inl (by decide+kernel)|exact .inr (by decide+kernel)) (by rw [isSubtype_type];kernel_rfl)
theorem kX:Slot "bytearray" "__setitem__" "bytearray.__setitem__":=
 .of (owner:="bytearray") (n:="__setitem__") (by rw [typeLookup_type,builtinLookup_eq_fast];kernel_rfl) (by decide+kernel) (by decide+kernel) (by decide+kernel)
  (by first|exact .inl (by decide+kernel)|exact .inr (by decide+kernel)) (by rw [isSubtype_type];kernel_rfl)
theorem p8:Slot "bytearray" "__len__" "bytearray.__len__":=
 .of (owner:="bytearray") (n:="__len__") (by rw [typeLookup_type,builtinLookup_eq_fast];kernel_rfl) (by decide+kernel) (by decide+kernel) (by decide+kernel)
  (by first|exact .inl (by decide+kernel)|exact .inr (by decide+kernel)) (by rw [isSubtype_type];kernel_rfl)
theorem mro:mroOf (.type "bytearray")=pure [.type "bytearray",.type "object"]:=by rw [mroOf_type];kernel_rfl
theorem wg:typeLookup (.type "bytearray") "__new__"=pure (some (.builtin "bytearray.__new__")):=by rw [typeLookup_type,builtinLookup_eq_fast];kernel_rfl
theorem called:TypeCalled "bytearray" "bytearray.__new__" "bytearray.__init__":=
 ⟨by decide+kernel,by decide+kernel,⟨_,_,mro⟩,madeBy_type mro wg (by decide+kernel),by decide+kernel,by rw [isSubtype_type];kernel_rfl,zx⟩
theorem vC(a:Value):checkTypeCall "bytearray" ⟨[a],[]⟩=pure ():=by kernel_rfl
theorem zM(a:Value):checkBuiltinCall "bytearray.__new__" ⟨[.type "bytearray",a],[]⟩=pure ():=by kernel_rfl
theorem Am:entryFor table "bytearray.__new__"=some Builtin.«list.__new__»:=entryFor_alias (id':="list.__new__") (by kernel_rfl) (by first|rfl|decide+kernel|(unfold String.splitOn;simp+decide [String.splitOnAux])) (by decide+kernel) (by kernel_rfl)
theorem wQ:entryFor table "bytearray.__init__"=some Builtin.«bytearray.__init__»:=entryFor_of_tree (by kernel_rfl)
theorem pJ:entryFor table "bytearray.__getitem__"=some Builtin.«bytearray.__getitem__»:=entryFor_of_tree (by kernel_rfl)
theorem pI:entryFor table "bytearray.__setitem__"=some Builtin.«bytearray.__setitem__»:=entryFor_of_tree (by kernel_rfl)
theorem wR:entryFor table "bytearray.__len__"=some Builtin.«bytearray.__len__»:=entryFor_of_tree (by kernel_rfl)
theorem qd:plainId "bytearray.__new__"=true:=by decide+kernel
theorem AQ(a b:Value):argsOk "bytearray.__init__" ⟨[a,b],[]⟩:=by unfold argsOk;kernel_rfl
theorem sf(a b:Value):argsOk "bytearray.__getitem__" ⟨[a,b],[]⟩:=by unfold argsOk;kernel_rfl
theorem sd(a b c:Value):argsOk "bytearray.__setitem__" ⟨[a,b,c],[]⟩:=by unfold argsOk;kernel_rfl
theorem AR(a:Value):argsOk "bytearray.__len__" ⟨[a],[]⟩:=by unfold argsOk;kernel_rfl
theorem zG:("bytearray.__new__".splitOn ".__new__").headD ""="bytearray":=by simp+decide [String.splitOn,String.splitOnAux]
theorem sub_self:isSubtype (.type "bytearray") (.type "bytearray")=pure true:=by rw [isSubtype_type];kernel_rfl
section
variable{prog:Program}{w:World}{A:Around}{E:Value→Shared→Prop}{s:Shared}
theorem D8(a:Value){Q₁:Value→Shared→Prop}
  (h:Q₁ (.ref s.heap.objs.size) {s with heap:=s.heap.push {cls:=.type "bytearray",data:=.bytearray #[]}}):
  codeAny (model prog w) A (.call (.builtin "bytearray.__new__") ⟨[.type "bytearray",a],[]⟩) (wants Q₁ E) s:=by
 refine codeAny_of_tree ?_
 show wpAny _ A.in1 (do checkBuiltinCall "bytearray.__new__" ⟨[.type "bytearray",a],[]⟩;again (.builtin "bytearray.__new__" ⟨[.type "bytearray",a],[]⟩)) _ _ s;refine wpAny_bind (wpAny_of_eq (zM a) (wpAny_pure ⟨plainId_quiet qd _,codeAny_builtin_stack Am rfl fun p st=>?_⟩))
 rw [Around.under_plainId qd _];have hsub:=sub_self
 have hown:=zG
 obtain⟨hp,g,d,tk,os⟩:=s
 simp only[hown]
 wp_walk
 exact h
end
end KBa
end
end MineB.Internal
namespace Mine.Internal
open PySem PySem.W PyProof.Rows PySem.SeqAt
noncomputable section
section
variable{C:Cx}{P:Pg}{N:pa}{ih:Ih}{d:Nat}{ρ:Env}{s s':AS}{v w:AV}{kd:Kd}{Z:Addr→Prop}{J:List Addr}{M:Addr→Prop}{env:PySem.Env}{A:Around}{st:Shared}{ex:Expr}{Q:Value→Shared→Prop}{E:Value→Shared→Prop}
def sA(C:Cx):Prop:=∀(A:Around)(st:Shared)(E:Value→Shared→Prop)(a:Addr)(b:Array UInt8)(Q:Value→Shared→Prop),st.heap.get? a=some (de b)→b.size≤100000→
 (∀tk t,Q (.int b.size t) {st with toks:=tk})→ab (Md C) A (call (.builtin "len") [.ref a] []) Q E st
def md(C:Cx):Prop:=∀(A:Around)(st:Shared)(E:Value→Shared→Prop)(a:Addr)(b:Array UInt8)(Q:Value→Shared→Prop),st.heap.get? a=some (de b)→b.size≤100000→
 (∀tk t,Q (.bytes b t) {st with toks:=tk})→ab (Md C) A (call (.type "bytes") [.ref a] []) Q E st
def sy(C:Cx):Prop:=∀(A:Around)(st:Shared)(E:Value→Shared→Prop)(b:Array UInt8)(t:Tok)(Q:Value→Shared→Prop),b.size≤100000→
 (∀tk h',(∀c o,st.heap.get? c=some o→h'.get? c=some o)→h'.get? st.heap.objs.size=some (de b)→Q (.ref st.heap.objs.size) {st with heap:=h',toks:=tk})→ab (Md C) A (call (.type "bytearray") [.bytes b t] []) Q E st
theorem gq(ν:Nat→Int)(l:List IE):(aS ν l).size=l.length:=by unfold aS;simp
theorem yt{h:Heap}{l:List AV}{es:List IE}{vs:List Value}(e:allOf intOf l=some es)(R:ay C J M h l vs):∃m:List (Int×Tok),vs=m.map (fun p=>Value.int p.1 p.2)∧m.map (·.1)=es.map (fun e=>e.eval C.ν):=
 lM (l7 (γ:=Int×Tok) (fun p=>.int p.1 p.2) (fun x c=>c.1=x.eval C.ν) (fun e V=>dF (z9 e▸V:ao C J M h (.int _) _).inv fun t q=>⟨(_,t),q,rfl⟩) e R) fun m h1 h2 h3=>
  ⟨m.map (·.2),h2.trans (by rw [List.map_map];rfl),by rw [h1,List.map_map,List.map_map];exact List.map_congr_left h3⟩
theorem zr{ν:Nat→Int}(es:List IE):∀a:IE,(Fw a es).eval ν=a.eval ν+(es.map fun e=>e.eval ν).sum:=by
 induction es with
 |nil=>exact fun a=>(Int.add_zero _).symm
 |cons e es ih=>exact fun a=>by rw [Fw,ih,ky,List.map_cons,List.sum_cons,Int.add_assoc]
theorem intsAre_map(m:List (Int×Tok)):IntsAre (m.map fun p=>Value.int p.1 p.2) (m.map (·.1)):=by
 induction m with
 |nil=>exact .nil
 |cons p m ih=>exact .cons _ _ ih
theorem AA{ν:Nat→Int}{rg:Rg}(R:cg ν rg){e:IE}(h:xm rg e=true):0≤e.eval ν∧e.eval ν<256:=by
 unfold xm at h;cases q:gk rg e with
 |none=>rw [q]at h;exact nomatch h
 |some p=>
  rw [q]at h;exact⟨Int.le_trans (bI.mp (ae h).1) (yl R q).1,Int.lt_of_le_of_lt (yl R q).2 (bz.mp (ae h).2)⟩
theorem rN{b:Array UInt8}{t:Tok}(h:Q (.bool false) {st with toks:=st.toks+1}):PySem.wpAny (Md C) A (call (.builtin "isinstance") [.bytes b t,.type "tuple"]) Q E st:=by
 refine PySem.call_isinstance (S:=fun Y R s=>R (.ok (.ret (.bool false))) {s with toks:=s.toks+1}) (fun Y Y Y Y s hs=>?_) h
 obtain⟨hp,g,d,t',os⟩:=s
 exact isinstance_outer (isinstance_nested_false_bytes (by decide+kernel) F.isi_meta_tuple (by rw [isSubtype_type];kernel_rfl) hs)
theorem rr{a:Addr}{n:Nat}(hh:A.handled=none)(hs:(a==sysModules)=false)(ea:st.heap.get? a=some (bK [] n))
  (h:∀h' tk D c,(∀b o,st.heap.get? b=some o→h'.get? b=some o)→st.heap.get? D=none→h'.get? D=some (bZ [] c)→Q (.ref D) {st with heap:=h',toks:=tk}):
  PySem.wpAny (Md C) A (call (.builtin "sorted") [.ref a]) Q E st:=by
 have hd:st.heap.DictAt (PySem.strKind C.prog C.w) a [] n:=⟨_,_,ea,⟨rfl,rfl,rfl⟩,rfl,fun e m=>by simp at m,.nil,by simp⟩
 refine Calls.call_function_entry kind_sorted plain_sorted entry_sorted (args_sorted1 _) ?_
 unfold Builtin.«sorted»;refine PySem.wpAny_bind (m:=checkCount "sorted" 1 1 _) (PySem.wpAny_pure ?_)
 refine PySem.wpAny_bind (kdu_collect (A:=A.in1) (kdl_dict (knd:=PySem.strKind C.prog C.w) (kvs:=[]) (ep:=n) hs) hh hd (Nat.zero_le _) fun h' tk acc hk hacc=>?_)
 have hl:acc=#[]:=Array.size_eq_zero_iff.mp hacc.1
 subst hl;refine PySem.wpAny_bind (wpAny_newList ?_ (Nat.zero_le _));have SI:(h'.push {cls:=.type "list",data:=.seq ([]:List Value).toArray}).get? h'.objs.size=some (seqObj "list" ([]:List Value).toArray 0):=Heap.get?_push_size _ rfl
 refine PySem.wpAny_bind (PySem.wpAny_holding (PySem.wpAny_call_entry (s:={st with heap:=h'.push {cls:=.type "list",data:=.seq ([]:List Value).toArray},toks:=tk}) slot_list_sort ⟨_,SI,rfl⟩ entry_list_sort (list_sort_tree SI .nil (by decide) fun out WB a1 a2 a3=>⟨_,rfl,?_⟩) (args_list_sort _)))
 have hns:WB=[]:=a2.eq_nil
 subst hns;have ho:out.toList=[]:=List.eq_nil_of_length_eq_zero a1.length
 have ho:out=#[]:=by apply Array.toList_inj.mp;exact ho
 subst ho;refine PySem.wpAny_pure ⟨_,rfl,?_⟩;have hdead:st.heap.get? h'.objs.size=none:=by
  cases q:st.heap.get? h'.objs.size with
  |none=>rfl
  |some o=>exact(aO (hk _ _ q) (Heap.bc h')).elim
 have key:∀b o,b≠h'.objs.size→h'.get? b=some o→(sortedHeap (h'.push {cls:=.type "list",data:=.seq ([]:List Value).toArray}) h'.objs.size [] #[]).get? b=some o:=fun b o hb e=>by
  unfold sortedHeap;rw [Heap.get?_update_other _ _ (Ne.symm hb)];refine cP _ (cP _ ?_);rw [Heap.get?_update_other _ _ (Ne.symm hb)];exact cP _ e
 obtain⟨c,hc⟩:∃c,(sortedHeap (h'.push {cls:=.type "list",data:=.seq ([]:List Value).toArray}) h'.objs.size [] #[]).get? h'.objs.size=some (bZ [] c):=by
  have W5:=get?_update_seq SI (fun Y=>#[])
  have W4:=cP (seqObj "list" #[] 0) (cP (seqObj "tuple" ([]:List Value).toArray 0) W5)
  exact⟨_,get?_update_seq W4 (fun Y=>#[])⟩
 exact h _ tk h'.objs.size c (fun b o e=>key b o (fun q=>aO (q▸e) hdead) (hk b o e)) hdead hc
end
section
variable{C:Cx}{P:Pg}{N:pa}{ih:Ih}{d:Nat}{ρ:Env}{s s':AS}{v w:AV}{kd:Kd}{Z:Addr→Prop}{J:List Addr}{M:Addr→Prop}{env:PySem.Env}{A:Around}{st:Shared}{ex:Expr}{Q:Value→Shared→Prop}{E:Value→Shared→Prop}
theorem wX:∀d:Nat,d<58→48≤d→PySem.intText? (aR [d])=some ((d - 48:Nat):Int):=by decide+kernel
theorem UM{h:Heap}{a:Addr}{vs:List Value}{n:Nat}(e:h.get? a=some (fP vs n)):IsTup h a vs.toArray:=⟨_,e,rfl,n,rfl⟩
theorem ao.Eu(S:aq C J M s st.heap){i:Nat}{l:List IE}{rv:Value}(V:ao C J M st.heap (.ref i) rv)(e:s.get i=some (.cu l)):∃a,rv=.ref a∧J[i]?=some a∧st.heap.get? a=some (de (aS C.ν l))∧bq C.ν l:=by
 obtain⟨a,rfl,ha⟩:=V.inv
 exact⟨a,rfl,ha,(S.obj i _ a e ha).jH⟩
def JJ(C:Cx)(k:Nat)(f:List AV→AS→RV):Prop:=∀as s v s',(f as s).leaf C.ν=some (v,s')→∀Z J M A st ras,aq C J M s st.heap→bu A 0→cm C Z J st.heap→ay C J M st.heap as ras→∀Q E,KV C Z J M st v s' Q→ab (Md C) A (call (vj k) ras []) Q E st
def y7(C:Cx)(k:Nat)(g:AV→AS→RV):Prop:=∀a s v s',(g a s).leaf C.ν=some (v,s')→∀Z J M A st ra,aq C J M s st.heap→bu A 0→ao C J M st.heap a ra→∀Q E,KV C Z J M st v s' Q→ab (Md C) A (call (vj k) [ra] []) Q E st
def MG(C:Cx)(k:Nat)(g:AV→AV→AS→RV):Prop:=∀a b s v s',(g a b s).leaf C.ν=some (v,s')→∀Z J M A st ra rb,aq C J M s st.heap→bu A 0→ao C J M st.heap a ra→ao C J M st.heap b rb→∀Q E,KV C Z J M st v s' Q→ab (Md C) A (call (vj k) [ra,rb] []) Q E st
@[elab_as_elim] theorem ao.Ju{P:Value→Prop}(S:aq C J M s st.heap){i:Nat}{l:List IE}{rv:Value}(V:ao C J M st.heap (.ref i) rv)(e:s.get i=some (.cu l))(k:∀a,J[i]?=some a→st.heap.get? a=some (de (aS C.ν l))→bq C.ν l→P (.ref a)):P rv:=A2 (V.Eu S e) fun a q a1 a2 a3=>q▸k a a1 a2 a3
theorem y7.one{k:Nat}{g:AV→AS→RV}(H:y7 C k g):JJ C k (pN g):=fun as s v s' e Z J M A st ras S R z V Q E K=>by
 obtain⟨a,rfl,e⟩:=ij e
 obtain⟨ra,rfl,V1⟩:=V.one
 exact H a s v s' e Z J M A st ra S R V1 Q E K
theorem MG.two{k:Nat}{g:AV→AV→AS→RV}(H:MG C k g):JJ C k (Hr g):=fun as s v s' e Z J M A st ras S R z V Q E K=>by
 obtain⟨a,b,rfl,e⟩:=kR e
 obtain⟨ra,rb,rfl,V1,W1⟩:=V.two
 exact H a b s v s' e Z J M A st ra rb S R V1 W1 Q E K
theorem y7.or{k:Nat}{g:AV→AS→RV}{g':AV→AV→AS→RV}(H:y7 C k g)(H':MG C k g'):JJ C k (yQ g g'):=fun as s v s' e Z J M A st ras S R z V Q E K=>by
 cases as with
 |nil=>exact no e
 |cons a l=>cases l with
  |nil=>exact H.one [a] s v s' e Z J M A st ras S R z V Q E K
  |cons b l=>exact H'.two (a::b::l) s v s' e Z J M A st ras S R z V Q E K
theorem JJ.no{k:Nat}:JJ C k Hq:=fun Y Y Y Y e=>Mine.Internal.no e
theorem iq{n:Nat}(e:(tZ n s).leaf C.ν=some (v,s')):n≤100000∧v=.int (.c n)∧s'=s:=by
 refine aw (bC e:) fun hl e=>?_
 injection e with e;injection e with e aN;subst e aN;exact⟨hl,rfl,rfl⟩
theorem Mm(HL:sA C):y7 C 0 Vk:=fun a s v s' e Z J M A st ra S R V Q E K=>by
 have ref:∀i,(A0 s (.ref i) (fun l=>tZ l.length s) fun l=>tZ l.length s).leaf C.ν=some (v,s')→ao C J M st.heap (.ref i) ra→ab (Md C) A (call (vj 0) [ra] []) Q E st:=fun i e V=>by
  refine aC (ik e:) fun Y q e=>?_
  injection q with q;subst q;rcases e with⟨l,ei,e⟩|⟨l,ei,e⟩
  ·obtain⟨hl,rfl,rfl⟩:=iq e
   refine V.listE S ei fun a vs n Y ea Vs=>?_
   have hlen:=Vs.length
   refine lf (Calls.call_len_list (cN ea) (by simp;lia) ?_)
   exact K.now S (.int _ _ _ (by simp[IE.eval];lia)) _
  ·obtain⟨hl,rfl,rfl⟩:=iq e
   refine V.Ju S ei fun a Y ea hb=>?_
   refine HL A st E a _ Q ea (by rw [gq];lia) fun tk t=>?_
   exact K.now S (.int _ _ _ (by rw [gq];rfl)) _
 cases a with
 |t l=>
  obtain⟨hl,rfl,rfl⟩:=iq e
  refine V.kS fun a vs n Y ea Vs=>?_
  have hlen:=Vs.length
  refine lf (len_tuple (UM ea) (by simp;lia) ?_)
  exact K.now S (.int _ _ _ (by simp[IE.eval];lia)) _
 |str l=>
  obtain⟨hl,rfl,rfl⟩:=iq e
  refine V.gO fun t=>?_
  refine lf (P.len_str (by unfold aR Str.length;simp;lia) ?_)
  exact K.now S (.int _ _ _ (by unfold aR Str.length;simp[IE.eval])) _
 |bytes l=>
  obtain⟨hl,rfl,rfl⟩:=iq e
  refine V.eH fun hb t=>?_
  refine lf (len_bytes (by rw [gq];lia) ?_)
  exact K.now S (.int _ _ _ (by rw [gq];rfl)) _
 |ref i=>exact ref i e V
 |_=>exact no e
theorem Mk:y7 C 1 Vi:=fun a s v s' e Z J M A st ra S R V Q E K=>by
 obtain⟨x,rfl,e⟩:=aX e
 refine aH.cM e fun n ag e1 e=>?_
 refine dN (fg 40 S.rg e1:) fun c1 c2 c3=>?_
 injection e with e;injection e with e aN;subst e aN;refine V.eN fun t=>?_
 rw [c1];refine lf (call_range_1 ?_);have hk:∀b o,st.heap.get? b=some o→(st.heap.push {cls:=.type "range",data:=.fields #[.int 0 st.toks,.int n t,.int 1 (st.toks+1)]}).get? b=some o:=fun b o e=>cP _ e
 have G:=aJ.heap Z J M hk
 have hm:¬M st.heap.objs.size:=S.nY (Heap.bc _)
 exact K _ _ _ _ _ G ((S.lT c2 c3).heap hk) (.xT 0 n _ _ _ _ hm (Heap.get?_push_size _ rfl))
theorem Hz:MG C 1 Qb:=fun a b s v s' e Z J M A st ra rb S R V W Q E K=>by
 obtain⟨x,rfl,f⟩:=aX e
 clear e;obtain⟨y,rfl,e⟩:=aX f
 clear f;refine aH.cM e fun n ag e1 e=>?_
 refine aH.cM e fun m aK e2 e=>?_
 refine dN (fg 40 S.rg e1:) fun c1 c2 c3=>?_
 refine dN (fg 40 c3 e2:) fun d1 d2 d3=>?_
 injection e with e;injection e with e aN;subst e aN;refine V.eN fun t=>?_
 refine W.eN fun u=>?_
 rw [c1,d1];refine lf (call_range_2 ?_);have hk:∀b o,st.heap.get? b=some o→(st.heap.push {cls:=.type "range",data:=.fields #[.int n t,.int m u,.int 1 st.toks]}).get? b=some o:=fun b o e=>cP _ e
 have G:=aJ.heap Z J M hk
 have hm:¬M st.heap.objs.size:=S.nY (Heap.bc _)
 exact K _ _ _ _ _ G (((S.lT c2 c3).lT d2 d3).heap hk) (.xT n m _ _ _ _ hm (Heap.get?_push_size _ rfl))
theorem Mj(HB:md C):y7 C 2 Vh:=fun a s v s' e Z J M A st ra S R V Q E K=>by
 obtain⟨i,rfl,⟨l,ei,e⟩|⟨l,ei,e⟩⟩:=ik e
 ·refine aC (aI e) fun es he e=>aw (cO e) fun hb e=>aw (bC e) fun hl e=>?_
  injection e with e;injection e with e aN;subst e aN;refine V.listE S ei fun a vs n Y ea Vs=>aC (yt he Vs) fun m q hm=>?_
  have hB:bq C.ν es:=fun e he=>AA S.rg (bT hb e he)
  refine lf (call_bytes_ints (cN ea) (q▸intsAre_map m) (fun n hn=>aC (List.mem_map.mp (hm▸hn:n∈es.map fun e=>e.eval C.ν)) fun(e:IE) he q=>(show e.eval C.ν=n from q)▸hB e he) (Vs.length▸bN hl) R.1 fun h' t k hk=>?_)
  rw [show byteArr (m.map (·.1))=aS C.ν es by unfold byteArr aS;rw [hm,List.map_map];rfl]
  exact K _ _ _ _ _ (aJ.heap Z J M hk) (S.heap hk) (.bytes _ t hB)
 ·refine aw (bC e:) fun hl e=>?_
  injection e with e;injection e with e aN;subst e aN;refine V.Ju S ei fun a Y ea hb=>?_
  refine HB A st E a _ Q ea (by rw [gq];exact hl) fun tk t=>?_
  exact K.now S (.bytes _ t hb) _
theorem Mi(HN:sy C):y7 C 3 Ve:=fun a s v s' e Z J M A st ra S R V Q E K=>by
 cases a with
 |bytes b=>
  refine aw (bC e:) fun hl e=>?_
  refine aH.cM e fun i ag e1 e=>?_
  injection e with e;injection e with e aN;subst e aN;refine V.eH fun hb t=>?_
  refine HN A st E _ t Q (by rw [gq];exact hl) fun tk h' hk hg=>?_
  exact nZ e1 hb S K tk hk (Heap.bc _) hg
 |_=>exact no e
theorem Mh:y7 C 4 Vc:=fun a s v s' e Z J M A st ra S R V Q E K=>by
 obtain⟨i,rfl,⟨l,ei,e⟩|⟨l,ei,e⟩⟩:=ik e
 ·have hl:=mj e
  refine V.listE S ei fun a vs n Y ea Vs=>?_
  refine lf (call_list_seq (hsz:=by have h1:=Vs.length;rw [sizeLine_eq,cW];lia) a (.inl rfl) ea rfl rfl fun h' c' hk hD=>?_)
  exact gE e S Vs K _ hk (Heap.bc _) hD
 ·exact no e
theorem Mg:y7 C 5 U9:=fun a s v s' e Z J M A st ra S R V Q E K=>by
 have ref:∀i,(A0 s (.ref i) (fun l=>jP l.length (.ok (.t l,s))) fun Y=>.bad 25).leaf C.ν=some (v,s')→ao C J M st.heap (.ref i) ra→ab (Md C) A (call (vj 5) [ra] []) Q E st:=fun i e V=>by
  obtain⟨_,q,⟨l,ei,e⟩|⟨l,ei,e⟩⟩:=ik e
  ·injection q with q;subst q
   refine aw (bC e:) fun hl e=>?_
   injection e with e;injection e with e aN;subst e aN;refine V.listE S ei fun a vs n Y ea Vs=>?_
   refine lf (call_tuple_list (hsz:=by have h1:=Vs.length;rw [sizeLine_eq,cW];lia) (cN ea) fun h' hk=>?_)
   have MO:∀b o,st.heap.get? b=some o→(h'.push {cls:=.type "tuple",data:=.seq vs.toArray}).get? b=some o:=fun b o e=>cP _ (hk b o e)
   have hm:¬M h'.objs.size:=fun q=>by
    refine dF (S.mlt _ q:) fun o e=>?_
    exact aO (hk _ _ e) (Heap.bc h')
   have G:=aJ.heap Z J M MO
   exact K _ _ _ _ _ G (S.heap MO) (.t _ _ vs 0 hm (Heap.get?_push_size _ rfl) (Vs.grow G))
  ·exact no e
 cases a with
 |t l=>
  injection e with e;injection e with e aN;subst e aN;exact o7 V.inv fun a vs n q Y ea Vs=>by
   rw [q]at V⊢;exact lf (call_tuple_tup (UM ea) (K.now S V _))
 |ref i=>exact ref i e V
 |_=>exact no e
theorem Mf:y7 C 6 U8:=fun a s v s' e Z J M A st ra S R V Q E K=>by
 cases a with
 |eF l=>cases l with
  |nil=>
   refine V.w3 fun a es n ha hs ea Ra=>?_
   subst Ra;refine lf (rr R.1 hs ea fun h' tk D c hk hd hg=>?_)
   exact gE e S .nil K tk hk hd hg
  |cons _ _=>exact no e
 |_=>exact no e
theorem Me:MG C 9 U7:=fun a b s v s' e Z J M A st ra rb S R V W Q E K=>by
 obtain⟨x,rfl,f⟩:=aX e
 clear e;obtain⟨y,rfl,e⟩:=aX f
 clear f;refine aH.cM e fun b ag e1 e=>?_
 refine dN (dH S.rg e1:) fun c1 c2 c3=>?_
 injection e with e;injection e with e aN;subst e aN;refine V.eN fun t=>?_
 refine W.eN fun u=>?_
 refine lf (max_two_ints R.1 fun h' tk hk=>?_)
 have c1:decide (_<_)=b:=c1
 refine K _ _ _ _ _ (aJ.heap Z J M hk) ((S.lT c2 c3).heap hk) ?_
 cases b with
 |true=>rw [if_pos (of_decide_eq_true c1)];exact .int _ _ _ rfl
 |false=>rw [if_neg (of_decide_eq_false c1)];exact .int _ _ _ rfl
theorem Hy:MG C 10 Qa:=fun a b s v s' e Z J M A st ra rb S R V W Q E K=>by
 obtain⟨x,rfl,f⟩:=aX e
 clear e;obtain⟨y,rfl,e⟩:=aX f
 clear f;refine aH.cM e fun b ag e1 e=>?_
 refine dN (dH S.rg e1:) fun c1 c2 c3=>?_
 injection e with e;injection e with e aN;subst e aN;refine V.eN fun t=>?_
 refine W.eN fun u=>?_
 refine lf (min_two_ints R.1 fun h' tk hk=>?_)
 have c1:decide (_<_)=b:=c1
 refine K _ _ _ _ _ (aJ.heap Z J M hk) ((S.lT c2 c3).heap hk) ?_
 cases b with
 |true=>rw [if_pos (of_decide_eq_true c1)];exact .int _ _ _ rfl
 |false=>rw [if_neg (of_decide_eq_false c1)];exact .int _ _ _ rfl
theorem Hx:y7 C 11 P9:=fun a s v s' e Z J M A st ra S R V Q E K=>by
 obtain⟨x,rfl,e⟩:=aX e
 refine aH.cM e fun b ag e1 e=>?_
 refine dN (dH S.rg e1:) fun c1 c2 c3=>?_
 injection e with e;injection e with e aN;subst e aN;refine V.eN fun t=>?_
 refine lf (call_abs_int fun u tk=>?_)
 have c1:decide (_<(0:Int))=b:=c1
 refine K.now (S.lT c2 c3) ?_ tk
 cases b with
 |true=>rw [if_pos (of_decide_eq_true c1)];exact .int _ _ _ (by rw [ku];simp[IE.eval])
 |false=>rw [if_neg (of_decide_eq_false c1)];exact .int _ _ _ rfl
set_option tactic.hygienic true in
theorem Hw:y7 C 12 Ml:=fun a s v s' e Z J M A st ra S R V Q E K=>by
 cases a with
 |str l=>cases l with
  |nil=>exact no e
  |cons d l=>cases l with
   |nil=>
    unfold Ml at e;simp only at e;split at e
    ·rename_i hd
     simp only[Bool.and_eq_true]at hd
     have h1:=bF hd.1
     have h2:=bF hd.2
     injection e with e;injection e with e aN;subst e aN;refine V.gO fun t=>?_
     refine lf (KIN.call_text (wX _ (Nat.lt_succ_of_le h2) h1) (by show 1≤640;decide) ?_)
     exact K.now S (.int _ _ _ rfl) _
    ·exact no e
   |cons _ _=>exact no e
 |int a=>
  injection e with e;injection e with e aN;subst e aN;exact dF V.inv fun t q=>by
   rw [q]at V⊢;exact lf (call_int_int (K.now S V _))
 |bool b=>
  injection e with e;injection e with e aN;subst e aN;cases V.inv;refine lf (call_int_bool ?_);refine K.now S (.int _ _ _ ?_) _;cases b<;>rfl
 |_=>exact no e
theorem Hv:y7 C 13 P8:=fun a s v s' e Z J M A st ra S R V Q E K=>by
 obtain⟨i,rfl,⟨l,ei,e⟩|⟨l,ei,e⟩⟩:=ik e
 ·refine aC (aI e) fun es he e=>?_
  injection e with e;injection e with e aN;subst e aN;refine V.listE S ei fun a vs n Y ea Vs=>aC (yt he Vs) fun m q hm=>?_
  rw [q]at ea;have hl:st.heap.IsList a (intItems m.toArray):=by
   have:=cN ea
   simpa[intItems]using this
  refine lf (sum_intListG R.1 hl fun h' tk t' hk=>K _ _ _ _ _ (aJ.heap Z J M hk) (S.heap hk) (.int _ _ _ ?_))
  rw [zr,preSum_eq,List.take_of_length_le (by rw [List.length_map];exact Nat.le_refl _)]
  exact(Int.zero_add _).trans (congrArg List.sum hm.symm)
 ·exact no e
set_option tactic.hygienic true in
theorem Ht{a b:AV}{r:AV×AS}(e:(Hu a b s).leaf C.ν=some r):b=.bi 5:=by
 cases b with
 |bi k=>
  unfold Hu at e;split at e
  ·rename_i h;exact h
  ·exact no e
 |_=>exact no e
theorem Hs:MG C 14 Hu:=fun a b s v s' e Z J M A st ra rb S R V W Q E K=>by
 cases Ht e
 cases W.inv
 cases a with
 |t l=>
  injection e with e;injection e with e aN;subst e aN;refine V.kS fun a vs n Y ea Vs=>?_
  exact lf (IsiPair.tuple_tuple ea rfl (K.now S (.bool true) _))
 |none=>
  injection e with e;injection e with e aN;subst e aN;cases V.inv;exact lf (IsiPair.NoneType_tuple (K.now S (.bool false) _))
 |bool b=>
  injection e with e;injection e with e aN;subst e aN;cases V.inv;exact lf (IsiPair.bool_tuple (K.now S (.bool false) _))
 |bytes l=>
  injection e with e;injection e with e aN;subst e aN;refine V.eH fun hb t=>?_
  exact lf (rN (K.now S (.bool false) _))
 |str l=>
  injection e with e;injection e with e aN;subst e aN;refine V.gO fun t=>?_
  exact lf (IsiPair.str_tuple (K.now S (.bool false) _))
 |_=>exact no e
noncomputable def EP(C:Cx):Nat→List (List AV→AS→RV)→Prop
 |_,[]=>True
 |k,f::r=>JJ C k f∧EP C (k+1) r
theorem EP.zI:∀{l:List (List AV→AS→RV)}{j:Nat}(k:Nat),EP C j l→JJ C (j+k) (K3 l k)
 |[],_,_,_=>JJ.no
 |_::_,_,0,H=>H.1
 |_::_,j,k+1,H=>by
  have:=EP.zI k H.2
  rw [Nat.add_right_comm]at this;exact this
theorem TO(HL:sA C)(HB:md C)(HN:sy C):QK C:=fun k=>by
 have H:EP C 0 U5:=⟨(Mm HL).one,Mk.or Hz,(Mj HB).one,(Mi HN).one,Mh.one,Mg.one,Mf.one,.no,.no,Me.two,Hy.two,Hx.one,Hw.one,Hv.one,Hs.two,trivial⟩
 have:=H.zI k
 rw [Nat.zero_add]at this;exact this
end
end
end Mine.Internal
namespace MineB.Internal
open PySem PySem.W PySem.Calls PyProof.Rows Builtin
open PySem.W.KBw
noncomputable section
namespace KBa
noncomputable abbrev ib(b:Array UInt8):Obj:={cls:=.type "bytearray",data:=.bytearray b 0}
theorem look_buffer:typeLookup (.type "bytearray") "__buffer__"=pure (some (.builtin "bytearray.__buffer__")):=by rw [typeLookup_type,builtinLookup_eq_fast];kernel_rfl
theorem look_release:typeLookup (.type "bytearray") "__release_buffer__"=pure (some (.builtin "bytearray.__release_buffer__")):=by rw [typeLookup_type,builtinLookup_eq_fast];kernel_rfl
theorem wj:typeLookup (.type "bytearray") "__bytes__"=pure none:=by rw [typeLookup_type,builtinLookup_eq_fast];kernel_rfl
theorem wi:typeLookup (.type "bytearray") "__index__"=pure none:=by rw [typeLookup_type,builtinLookup_eq_fast];kernel_rfl
section
variable{prog:Program}{w:World}{A:Around}{E:Value→Shared→Prop}{s:Shared}{a:Addr}{b:Array UInt8}
theorem typ(e:s.heap.get? a=some (ib b)):s.TypeIs (.ref a) "bytearray":=⟨_,e,rfl⟩
theorem gA{M:Model}(e:s.heap.get? a=some (ib b)){Q:Array UInt8→Shared→Prop}(h:Q b s):wpAny M A (Bytes.payload (.ref a)) Q E s:=by
 unfold Bytes.payload Bytes.payload?;refine wpAny_bind (wpAny_bind (wpAny_load e ?_));exact wpAny_pure (wpAny_pure h)
set_option tactic.hygienic true in
theorem own_buffer{M:Model}(e:s.heap.get? a=some (ib b)){Q:Bool→Shared→Prop}(h:Q true s):wpAny M A (Bytes.slotIsOwn (.ref a) "__buffer__") Q E s:=by
 unfold Bytes.slotIsOwn;refine wpAny_bind (wpAny_specialOf (typ e) look_buffer ?_);have key:∀x:String,x="bytearray"→wpAny M A (isInstance (.ref a) (.type x)) Q E s:=fun x hx=>by
  rw [hx];exact wpAny_isInstance (typ e) sub_self h
 simp only
 split
 ·rename_i hx
  exact absurd hx (by decide+kernel)
 ·exact key _ (by decide+kernel)
set_option tactic.hygienic true in
theorem own_release{M:Model}(e:s.heap.get? a=some (ib b)){Q:Bool→Shared→Prop}(h:Q false s):wpAny M A (Bytes.ownRelease (.ref a)) Q E s:=by
 unfold Bytes.ownRelease;refine wpAny_bind ?_;unfold Bytes.slotIsOwn;refine wpAny_bind (wpAny_specialOf (typ e) look_release ?_);have key:∀x:String,x="bytearray"→wpAny M A (isInstance (.ref a) (.type x)) (fun r s'=>wpAny M A (pure !r) Q E s') E s:=fun x hx=>by
  rw [hx];exact wpAny_isInstance (typ e) sub_self (wpAny_pure h)
 simp only
 split
 ·rename_i hx
  exact absurd hx (by decide+kernel)
 ·exact key _ (by decide+kernel)
theorem AB{M:Model}{id:String}{full:Bool}(e:s.heap.get? a=some (ib b)){Q:Option (Array UInt8)→Shared→Prop}(h:Q (some b) s):wpAny M A (Bytes.buffer? id (.ref a) full) Q E s:=by
 unfold Bytes.buffer?;refine wpAny_bind (wpAny_specialOf (typ e) look_buffer ?_);refine wpAny_bind (own_buffer e ?_);refine wpAny_bind (wpAny_specialOf (typ e) look_buffer ?_);refine wpAny_bind (own_release e ?_);exact wpAny_bind (gA e (wpAny_pure h))
theorem Lh{Q:Value→Shared→Prop}(e:s.heap.get? a=some (ib b))(hfit:b.size≤1000000)(h:Q (.int b.size (s.toks+1)) {s with toks:=s.toks+1+1}):wpAny (model prog w) A (call (.builtin "len") [.ref a]) Q E s:=by
 refine Calls.call_function_entry kind_len plain_len entry_len (args_len1 _) ?_
 unfold Builtin.«len»;refine wpAny_bind (m:=oneArg "len" _) (wpAny_pure ?_)
 refine wpAny_bind (m:=callSpecial? (.ref a) (Str.ofString "__len__")) (wpAny_callSpecial?_slot (name:=Str.ofString "__len__") (typ e) p8
  (wpAny_call_entry p8 (typ e) wR ?_ (AR _)))
 show wpAny _ _ (Bytes.payload (.ref a)>>=fun b=>retInt b.size) _ _ s
 refine wpAny_bind (gA e ?_)
 refine wpAny_bind (wpAny_mkInt (wpAny_pure ⟨_,rfl,?_⟩))
 refine wpAny_bind (wpAny_holding (wpAny_pure ?_))
 refine wpAny_bind (wpAny_letGo ?_)
 show wpAny _ _ (if((b.size:Nat):Int)<0 then _ else _) _ _ _;rw [if_neg (by lia)]
 show wpAny _ _ (if((b.size:Nat):Int)≥2^63 then _ else _) _ _ _;rw [if_neg (by lia)]
 exact wpAny_bind (wpAny_mkInt (wpAny_pure ⟨_,rfl,h⟩))
theorem Av{Q:Value→Shared→Prop}(e:s.heap.get? a=some (ib b))(hz:b.size≤sizeLine)(h:Q (.bytes b s.toks) {s with toks:=s.toks+1}):
  codeAny (model prog w) A (.call (.builtin "bytes.__new__") ⟨[.type "bytes",.ref a],[]⟩) (wants Q E) s:=by
 refine codeAny_of_tree ?_
 show wpAny _ A.in1 (do checkBuiltinCall "bytes.__new__" ⟨[.type "bytes",.ref a],[]⟩;again (.builtin "bytes.__new__" ⟨[.type "bytes",.ref a],[]⟩)) _ _ s;refine wpAny_bind (wpAny_of_eq (F.bm_newCall _) (wpAny_pure ⟨plainId_quiet F.bm_plain _,codeAny_builtin F.bm_entry ?_⟩));rw [Around.under_plainId F.bm_plain _];unfold Builtin.«bytes.__new__»;refine wpAny_bind (wpAny_of_eq (a:=true) rfl ?_)
 refine bm_if_false rfl ?_
 refine wpAny_bind (wpAny_of_eq F.bm_sub ?_)
 refine bm_if_false rfl ?_
 refine wpAny_bind (wpAny_of_eq (F.bm_bind _) ?_)
 refine wpAny_bind (wpAny_of_eq (a:=()) rfl ?_)
 refine wpAny_bind (wpAny_of_eq (a:=()) rfl ?_)
 refine bm_if_false rfl ?_
 refine wpAny_bind (wpAny_specialOf (typ e) wj ?_)
 refine wpAny_bind (wpAny_bind ?_)
 show wpAny _ _ (load a>>=_) _ _ _;refine wpAny_bind (wpAny_load e ?_);refine wpAny_pure (wpAny_pure ?_);refine bm_if_false rfl ?_;refine wpAny_bind (wpAny_specialOf (typ e) wi ?_);refine bm_if_true rfl ?_
 first
  |show wpAny _ _ (Builtin.Bytes.buffer? "bytes.__new__" (.ref a) true>>=_) _ _ _
  |(refine wpAny_bind ?_;show wpAny _ _ (Builtin.Bytes.buffer? "bytes.__new__" (.ref a) true>>=_) _ _ _)
 refine wpAny_bind (AB e ?_)
 refine wpAny_bind (wpAny_rule ?_)
 refine wpAny_bind (wpAny_mkBytes ?_ hz)
 first
  |exact wpAny_pure h
  |exact wpAny_pure (wpAny_pure h)
  |exact wpAny_bind (wpAny_pure (wpAny_pure h))
theorem Ej{Q:Value→Shared→Prop}(e:s.heap.get? a=some (ib b))(hz:b.size≤sizeLine)(h:Q (.bytes b s.toks) {s with toks:=s.toks+1}):wpAny (model prog w) A (call (.type "bytes") [.ref a]) Q E s:=by
 refine callType_codes (Q₁:=fun obj ag=>ag.TypeIs obj "bytes"∧Q obj ag) F.bm_called (F.bm_typeCall _) F.entry_object_init
  (Av e hz ⟨PySem.W.typeIs_bytes _ _ _,h⟩) fun obj ag h₁=>?_
 exact⟨h₁.1,F.args_object_init_2 obj _,object_init_meets F.bm_called.init.lookup F.bm_called.made (by decide) prog w A.in1 _ ag ⟨h₁.1,rfl,h₁.2⟩⟩
end
end KBa
end
end MineB.Internal
namespace Mine.Internal
open PySem PySem.W PyProof.Rows PySem.SeqAt
noncomputable section
variable{C:Cx}
theorem HD:sA C:=fun A st E a b Q e hz h=>lf (MineB.Internal.KBa.Lh e (by lia) (h _ _))
theorem AL:md C:=fun A st E a b Q e hz h=>lf (MineB.Internal.KBa.Ej e (by rw [sizeLine_eq];lia) (h _ _))
end
end Mine.Internal
namespace MineB.Internal
open PySem PySem.W PySem.Calls PyProof.Rows Builtin
open PySem.W.KBw
noncomputable section
namespace KBa
section
variable{prog:Program}{w:World}{A:Around}{E:Value→Shared→Prop}{s:Shared}{a sl:Addr}{b:Array UInt8}{l u:Value}{lo hi:Option Int}
theorem nS{M:Model}(hS:s.heap.IsSliceOf sl l u .none)(hl:IsPart l lo)(hu:IsPart u hi){Q:Value×Value×Value→Shared→Prop}(h:Q (rawPart lo,rawPart hi,rawPart none) s):wpAny M A (Bytes.sliceParts (.ref sl)) Q E s:=by
 obtain⟨o,ho,hc,hd⟩:=hS
 unfold Bytes.sliceParts;refine wpAny_bind (wpAny_field (x:=.none) ho hd rfl ?_)
 kby_none
 refine wpAny_ite (KBy.ite_no (show¬((Value.none==rawInt 0)=true)from Bool.false_ne_true) ?_)
 refine wpAny_bind (wpAny_field (x:=l) ho hd rfl ?_)
 cases hl<;>cases hu<;>(first
  |(kby_none;(refine wpAny_bind (wpAny_field (x:=.none) ho hd rfl ?_));kby_none)
  |(kby_none;(refine wpAny_bind (wpAny_field (x:=.int _ _) ho hd rfl ?_));kby_int)
  |(kby_int;(refine wpAny_bind (wpAny_field (x:=.none) ho hd rfl ?_));kby_none)
  |(kby_int;(refine wpAny_bind (wpAny_field (x:=.int _ _) ho hd rfl ?_));kby_int))<;>exact wpAny_pure h
theorem lg{M:Model}(hS:s.heap.IsSliceOf sl l u .none){Q:Option Int→Shared→Prop}(h:Q none s):wpAny M A (Bytes.subscript? (.ref sl)) Q E s:=by
 obtain⟨o,ho,hc,hd⟩:=hS
 have hT:s.TypeIs (.ref sl) "slice":=⟨o,ho,hc⟩
 unfold Bytes.subscript?;exact wpAny_bind (wpAny_specialOf hT slice_no_index (wpAny_pure h))
theorem pD{Q:Value→Shared→Prop}(e:s.heap.get? a=some (ib b))(hS:s.heap.IsSliceOf sl l u .none)(hl:IsPart l lo)(hu:IsPart u hi)(hz:b.size≤sizeLine)
  (h:Q (.ref s.heap.objs.size) {s with heap:=s.heap.push (ib (KBy.picked b lo hi))}):wpAny (model prog w) A (getItem (.ref a) (.ref sl)) Q E s:=by
 have hT:s.TypeIs (.ref sl) "slice":=let⟨o,ho,hc,_⟩:=hS;⟨o,ho,hc⟩
 refine wpAny_getItem_slot (typ e) (by decide) kY (wpAny_call_entry kY (typ e) pJ ?_ (sf _ _))
 show wpAny _ _ (Bytes.subscript? (.ref sl)>>=fun r=>_) _ _ s
 refine wpAny_bind (lg hS ?_)
 refine wpAny_bind (wpAny_typeOf hT ?_)
 show wpAny _ _ (Bytes.sliceParts (.ref sl)>>=fun r=>_) _ _ s
 refine wpAny_bind (nS hS hl hu ?_)
 refine wpAny_bind (gA e ?_)
 refine wpAny_bind (wpAny_of_eq (sliceIndices_raw lo hi none b.size (fun e=>nomatch e)) ?_)
 refine wpAny_bind ?_
 unfold Bytes.newBytearray;refine wpAny_newObj_type ?_ (Nat.le_trans (KBc.size_picked_le b lo hi) hz);exact wpAny_pure ⟨_,rfl,h⟩
end
end KBa
end
end MineB.Internal
namespace Mine.Internal
open PySem PySem.W PyProof.Rows PySem.SeqAt
noncomputable section
variable{C:Cx}
theorem AK:jS C:=fun A st E a sl b vl vu lo hi Q e hS hl hu hz h=>lf (MineB.Internal.KBa.pD e hS hl hu (by rw [sizeLine_eq];lia) (h _))
end
end Mine.Internal
namespace Mine.Internal
open PySem PySem.W PyProof.Rows Builtin
noncomputable section
section
variable{prog:Program}{w:World}{A:Around}{E:Value→Shared→Prop}{s:Shared}
theorem Au{args:List Value}{Bi:Builtin}{Q Q₁:Value→Shared→Prop}(hct:checkTypeCall "bytearray" ⟨args,[]⟩=pure ())(LX:entryFor table "bytearray.__init__"=some Bi)
  (hnew:PySem.codeAny (model prog w) A.in1 (.call (.builtin "bytearray.__new__") ⟨.type "bytearray"::args,[]⟩) (wants Q₁ E) s)
  (hnext:∀obj ag,Q₁ obj ag→ag.TypeIs obj "bytearray"∧argsOk "bytearray.__init__" ⟨obj::args,[]⟩∧
   ab (model prog w) A.in1.in1 (Bi ⟨obj::args,[]⟩) (GV (model prog w) A.in1 (wants (fun r aK=>r=.none∧Q obj aK) E)) (fun e s'=>E e s') ag):
  ab (model prog w) A (call (.type "bytearray") args) Q E s:=by
 have ft:=MineB.Internal.KBa.called
 refine dC (bk ?_)
 show ab _ _ (callAny (.type "bytearray") _) _ _ _;refine af ⟨Code.quiet_builtin _ (by decide+kernel),fM F.entry_type_call ?_⟩
 rw [Around.under_plain (weight_type_call_type "bytearray" args []) rfl];unfold Builtin.«type.__call__»;refine aZ (c:=(Value.type "bytearray"==Value.type "type")=true) (by rw [ft.notType];rfl) ?_
 refine aZ (c:=(_:Bool)=true) (decide_eq_false (by rw [ft.canCreate];exact Bool.false_ne_true)) ?_
 refine aa (aV hct (aa (aV MineB.Internal.KBa.mro (aZ rfl ?_))))
 rw [ft.made];refine aa (af (aa (af ?_)));refine aa (aj (dC (fZ (WM hnew) fun r ag hr=>?_)))
 rcases r with e|(obj|_|_|_)<;>first|exact hr|exact hr.elim|skip
 refine dN (hnext _ _ hr) fun hT SH hsi=>?_
 refine aa (lf (wpAny_isInstance hT ft.sub (aZ rfl ?_)))
 refine aa (aj (bA hT ft.init (dC ?_)))
 refine fZ (fw ft.init.plain LX (lf (ft.init.check _ _ _ _ _ _ _ _ hT SH hsi))) fun vK aK Dm=>?_
 rcases vK with e|(r|_|_|_)<;>first|exact Dm|exact Dm.elim|skip
 obtain⟨rfl,hq⟩:=Dm
 exact af hq
theorem uG{M:Model}{v:Value}{Q:Bool→Shared→Prop}(h:Q false s):ab M A (Bytes.exported v) Q E s:=fun Γ p iC hc=>by
 unfold Bytes.exported;show Sem.wp M Γ (stack>>=fun st=>pure (st.any _)) _ _ p s
 rw [Sem.wp_bind'];show Q (((Γ.code,p)::Γ.below).any _) s;rw [List.any_eq_false.mpr ?_]
 ·exact h
 ·intro x hx
  have hn:j9 x.1=true:=by
   rcases cK hx with rfl|hx
   ·exact hc.1
   ·exact hc.2 x hx
  obtain⟨c,q⟩:=x
  cases c with
  |builtin id args=>
   have hn:iG id=true:=hn
   have k:∀i:String,iG i=false→id≠i:=fun i hi e=>by rw [e,hi]at hn;injection hn
   intro hh
   delta Bytes.exported.match_1 at hh
   have hh:dite (id="bytearray.__contains__") _ _=true:=hh
   rw [dif_neg (k _ (by decide+kernel)),dif_neg (k _ (by decide+kernel)),dif_neg (k _ (by decide+kernel)),dif_neg (k _ (by decide+kernel)),dif_neg (k _ (by decide+kernel))]at hh
   have no:Bytes.decodersThatHold.contains id=false:=dA (ae hn).1
   obtain⟨pos,kw⟩:=args
   cases pos with
   |nil=>exact Bool.false_ne_true hh
   |cons a r=>
    have hh:(Bytes.sameRef a v&&Bytes.decodersThatHold.contains id)=true:=hh
    rw [no,Bool.and_false]at hh;exact Bool.false_ne_true hh
  |_=>exact Bool.false_ne_true
end
end
end Mine.Internal
namespace MineB.Internal
open PySem PySem.W PySem.Calls PyProof.Rows Builtin
open PySem.W.KBw
noncomputable section
namespace KBa
theorem AE(v:Value):Bytes.bindOptional "bytearray.__init__" "bytearray" ["source","encoding","errors"] [v] []=pure [some v,none,none]:=by kernel_rfl
theorem jr:typeLookup (.type "bytes") "__index__"=pure none:=by rw [typeLookup_type,builtinLookup_eq_fast];kernel_rfl
theorem uV{id:String}{b:Array UInt8}{t:Tok}:Bytes.buffer? id (.bytes b t) true=pure (some b):=by
 unfold Bytes.buffer?;rw [KBy.special_eq KBy.look_buffer,KBy.own_buffer,KBy.own_release]
 kernel_rfl
section
variable{prog:Program}{w:World}{A:Around}{E:Value→Shared→Prop}{s:Shared}{a:Addr}{b:Array UInt8}
theorem nC{M:Model}{f:Array UInt8→Array UInt8}(e:s.heap.get? a=some (ib b))(hz:(f b).size≤sizeLine){Q:Unit→Shared→Prop}(h:Q () {s with heap:=s.heap.update a (Obj.mapBytearray f)}):wpAny M A (Bytes.write (.ref a) f) Q E s:=by
 show wpAny M A (updateBytearray a f) Q E s;unfold updateBytearray;refine wpAny_bind (wpAny_load e ?_);show wpAny _ _ (update a (Obj.mapBytearray f)>>=fun Y=>lookBehind a) _ _ _
 refine wpAny_bind (wpAny_update e ?_)
 refine wpAny_lookBehind (Heap.get?_update_self (Obj.mapBytearray f) e rfl) ?_ h
 show(if(f b).size>sizeLine then some "bytearray:memory" else none)=none;rw [if_neg (Nat.not_lt.mpr hz)]
theorem lR{f:Array UInt8→Array UInt8}(e:s.heap.get? a=some (ib b)):(s.heap.update a (Obj.mapBytearray f)).get? a=some (ib (f b)):=Heap.get?_update_self (Obj.mapBytearray f) e rfl
end
end KBa
end
end MineB.Internal
namespace Mine.Internal
open PySem PySem.W PyProof.Rows Builtin
noncomputable section
section
variable{prog:Program}{w:World}{A:Around}{E:Value→Shared→Prop}{s:Shared}{a:Addr}{b:Array UInt8}{t:Tok}
open MineB.Internal.KBa (ib)
theorem wu{Q:Fin→Shared→Prop}(e:s.heap.get? a=some (ib #[]))(hz:b.size≤sizeLine)
  (h:∀h',(∀c o,c≠a→s.heap.get? c=some o→h'.get? c=some o)→h'.get? a=some (ib b)→Q (.done (.ret .none)) {s with heap:=h'}):
  ab (model prog w) A (Builtin.«bytearray.__init__» ⟨[.ref a,.bytes b t],[]⟩) Q E s:=by
 show ab _ _ (_>>=_) _ _ _;refine aa (lf (MineB.Internal.KBa.own_release e (aZ rfl (aa (aV (MineB.Internal.KBa.AE _) ?_)))));refine aa (aV (a:=()) rfl ?_)
 refine aa (aV (a:=()) rfl ?_)
 refine aa ?_
 show ab _ _ (Bytes.exported (.ref a)>>=fun r=>_) _ _ _
 refine aa (uG ?_)
 show ab _ _ (Bytes.exportsOf (.ref a)>>=fun r=>pure (decide (r>0))) _ _ _
 unfold Bytes.exportsOf;refine aa (aa (lf (wpAny_load e ?_)));refine af (af ?_);refine aZ rfl (aa (lf (MineB.Internal.KBa.nC e (Nat.zero_le _) ?_)));have e1:=MineB.Internal.KBa.lR (f:=fun Y=>#[]) e
 refine aa (aV (a:=none) rfl ?_)
 refine aZ rfl (aa (aV (a:=()) rfl ?_))
 refine aa (aV (a:=none) ((KBy.special_eq MineB.Internal.KBa.jr)) ?_)
 refine aZ rfl ?_
 rw [MineB.Internal.KBa.uV];refine aa (af (aa (dm (aa (lf (MineB.Internal.KBa.nC e1 hz ?_))))));refine af (h _ (fun c o hc ec=>?_) (MineB.Internal.KBa.lR (f:=fun Y=>b) e1))
 rw [Heap.get?_update_other _ _ (Ne.symm hc),Heap.get?_update_other _ _ (Ne.symm hc),ec]
end
variable{C:Cx}
theorem yR:sy C:=fun A st E b t Q hz h=>by
 refine Au (Q₁:=fun obj ag=>obj=.ref st.heap.objs.size∧ag={st with heap:=st.heap.push (MineB.Internal.KBa.ib #[])}) (MineB.Internal.KBa.vC _) MineB.Internal.KBa.wQ (MineB.Internal.KBa.D8 _ ⟨rfl,rfl⟩) fun obj ag h₁=>?_
 obtain⟨rfl,rfl⟩:=h₁
 have hS:(st.heap.push (MineB.Internal.KBa.ib #[])).get? st.heap.objs.size=some (MineB.Internal.KBa.ib #[]):=Heap.get?_push_size _ rfl
 refine⟨⟨_,hS,rfl⟩,MineB.Internal.KBa.AQ _ _,wu hS (by rw [sizeLine_eq];lia) fun h' hk hg=>?_⟩
 exact⟨rfl,h st.toks h' (fun c o ec=>hk c o (Nat.ne_of_lt (Heap.lt_size ec)) (cP _ ec)) hg⟩
theorem rI:typeLookup (.type "bytes") "__int__"=pure none:=by rw [typeLookup_type,builtinLookup_eq_fast];kernel_rfl
theorem nV:typeLookup (.type "bytes") "__float__"=pure none:=by rw [typeLookup_type,builtinLookup_eq_fast];kernel_rfl
theorem BI{b x:Array UInt8}{i j:Nat}(h:i≤j)(hj:j≤b.size)(hx:x.size=j - i):(b.extract 0 (i:Int).toNat++x++b.extract (j:Int).toNat b.size).size=b.size:=by
 rw [Array.size_append,Array.size_append,Array.size_extract,Array.size_extract,hx,Int.toNat_natCast,Int.toNat_natCast,Nat.min_eq_left (Nat.le_trans h hj),Nat.min_self,Nat.sub_zero,Nat.add_sub_cancel' h,Nat.add_sub_cancel' hj]
section
variable{C:Cx}
theorem pq{A:Around}{st:Shared}{E:Value→Shared→Prop}{a sl:Addr}{b x:Array UInt8}{t:Tok}{vl vu:Value}{lo hi:Option Int}{Q:PySem.Fin→Shared→Prop}(e:st.heap.get? a=some (MineB.Internal.KBa.ib b))(hS:st.heap.IsSliceOf sl vl vu .none)(pl:IsPart vl lo)(pu:IsPart vu hi)(hz:b.size≤100000)
  (hle:lo.elim 0 (clipAt b.size)≤hi.elim b.size (clipAt b.size))(hx:x.size=hi.elim b.size (clipAt b.size) - lo.elim 0 (clipAt b.size))(hh:hi.elim b.size (clipAt b.size)≤b.size)
  (h:∀h' tk,(∀c o,c≠a→st.heap.get? c=some o→h'.get? c=some o)→h'.get? a=some (MineB.Internal.KBa.ib (b.extract 0 (lo.elim 0 (clipAt b.size))++x++b.extract (hi.elim b.size (clipAt b.size)) b.size))→Q (.done (.ret .none)) {st with heap:=h',toks:=tk}):
  ab (Md C) A (Builtin.«bytearray.__setitem__» ⟨[.ref a,.ref sl,.bytes x t],[]⟩) Q E st:=by
 have hT:st.TypeIs (.ref sl) "slice":=let⟨o,ho,hc,_⟩:=hS;⟨o,ho,hc⟩
 unfold Builtin.«bytearray.__setitem__»
 dsimp only
 refine aZ rfl (aa (lf (MineB.Internal.KBa.lg hS ?_)))
 refine aa (lf (wpAny_typeOf hT (aZ rfl (aa (lf (MineB.Internal.KBa.nS hS pl pu ?_))))))
 refine aZ rfl (aa (lf (wpAny_isInstance (typeIs_bytes _ _ _) F.sub_bytes_bytearray (je rfl ?_))))
 rw [KBy.special_eq MineB.Internal.KBa.jr,KBy.special_eq rI,KBy.special_eq nV,show isInstance (.bytes x t) (.type "complex")=pure false from F.sub_bytes_complex]
 refine aa (aV (a:=false) rfl (aa (aV (a:=none) rfl (aZ rfl ?_))))
 refine aa (dm (aa (yR A st E x t _ (by rw [hx];exact Nat.le_trans (Nat.sub_le _ _) (Nat.le_trans hh hz)) fun tk h' hk hg=>?_)))
 have Xj:h'.IsSliceOf sl vl vu .none:=let⟨o,ho,q⟩:=hS;⟨o,hk _ _ ho,q⟩
 refine aa (aj (lf (MineB.Internal.KBa.nS (s:={st with heap:=h',toks:=tk}) Xj pl pu ?_)))
 refine aa (lf (MineB.Internal.KBa.gA (s:={st with heap:=h',toks:=tk}) hg (aa (lf (MineB.Internal.KBa.gA (s:={st with heap:=h',toks:=tk}) (hk _ _ e) ?_)))))
 refine aa (aV (sliceIndices_raw lo hi none b.size (fun e=>nomatch e)) ?_)
 rw [sliceBounds_plain];refine je rfl ?_
 generalize lo.elim 0 (clipAt b.size)=i at hle hx h⊢
 generalize hi.elim b.size (clipAt b.size)=j at hle hx hh h⊢
 rw [show max (i:Int) (j:Int)=(j:Int)from Int.max_eq_right (Int.ofNat_le.mpr hle)]
 refine aa (dm (aZ (decide_eq_false (by
  rw [bne_iff_ne];exact fun q=>q (by rw [hx];exact Int.ofNat_sub hle))) ?_))
 refine aa (lf (MineB.Internal.KBa.nC (s:={st with heap:=h',toks:=tk}) (hk _ _ e) (by rw [sizeLine_eq];exact Nat.le_trans (Nat.le_of_eq (BI hle hh hx)) (Nat.le_trans hz (by decide))) ?_))
 exact af (h _ tk (fun c o hca ec=>(Heap.get?_update_other _ _ (Ne.symm hca)).trans (hk _ _ ec)) (MineB.Internal.KBa.lR (f:=fun b=>b.extract 0 ((i:Int)).toNat++x++b.extract ((j:Int)).toNat b.size) (s:={st with heap:=h',toks:=tk}) (hk _ _ e)))
theorem Hg(n:Nat)(hi:Option Int):hi.elim n (clipAt n)≤n:=by
 cases hi with
 |none=>exact Nat.le_refl _
 |some i=>exact qJ n i
theorem HA:lL C:=fun A st E a sl b x t vl vu lo hi Q Y Y e hS pl pu hz hle hx h=>by
 have hT:st.TypeIs (.ref sl) "slice":=let⟨o,ho,hc,_⟩:=hS;⟨o,ho,hc⟩
 unfold setItem;refine aj ?_;refine aa (lf (wpAny_sequenceKey (MineB.Internal.KBa.typ e) (by decide) ?_))
 refine aa (bA (name:=Str.ofString "__setitem__") (MineB.Internal.KBa.typ e) MineB.Internal.KBa.kX
  (cf MineB.Internal.KBa.kX (MineB.Internal.KBa.typ e) MineB.Internal.KBa.pI ?_ (MineB.Internal.KBa.sd _ _ _)))
 refine pq e hS pl pu hz hle hx (Hg _ _) fun h' tk hk hg=>⟨_,rfl,?_⟩
 exact af (h h' tk hk hg)
end
end
end Mine.Internal
namespace MineB.Internal
open PySem PySem.W PySem.Calls PyProof.Rows Builtin
open PySem.W.KBw
noncomputable section
namespace Ub
theorem p7:Slot "bytes" "join" "bytes.join":=
 .of (owner:="bytes") (n:="join") (by rw [typeLookup_type,builtinLookup_eq_fast];kernel_rfl) (by decide+kernel) (by decide+kernel) (by decide+kernel)
  (by first|exact .inl (by decide+kernel)|exact .inr (by decide+kernel)) (by rw [isSubtype_type];kernel_rfl)
theorem zm:typeOf (.builtin "bytes.join")=pure (.type "method_descriptor"):=by show builtinType _=_;rw [builtinType_eq_fast];kernel_rfl
theorem wO:entryFor table "bytes.join"=some Builtin.«bytes.join»:=entryFor_of_tree (by kernel_rfl)
theorem AP(a b:Value):argsOk "bytes.join" ⟨[a,b],[]⟩:=by unfold argsOk;kernel_rfl
theorem Fs{id:String}{b:Array UInt8}{t:Tok}:Bytes.takeBufferQuiet? id (.bytes b t) 0=pure (some (b,none)):=by
 unfold Bytes.takeBufferQuiet? Bytes.takeBuffer?;rw [KBy.special_eq KBy.look_buffer,KBy.own_buffer];have h:((0:Int)==Bytes.fullReadOnly)=false:=by decide
 rw [h,KBy.buffer_eq]
 kernel_rfl
theorem z0(l:List (Array UInt8)):∀(k:Nat)(out:Array UInt8),
  ((l.zipIdx k).foldl (fun out(x:Array UInt8×Nat)=>(if x.2>0 then out++(#[]:Array UInt8)else out)++x.1) out).toList=out.toList++(l.map (·.toList)).flatten:=by
 induction l with
 |nil=>exact fun Y Y=>(List.append_nil _).symm
 |cons x r ih=>
  intro k out;rw [List.zipIdx_cons,List.foldl_cons,ih,List.map_cons,List.flatten_cons,←List.append_assoc,Array.toList_append]
  by_cases h:k>0
  ·rw [if_pos h,Array.append_empty]
  ·rw [if_neg h]
theorem z6(l:List (Array UInt8)):Bytes.joined #[] l=(l.map (·.toList)).flatten.toArray:=Array.toList_inj.mp (z0 l 0 #[])
theorem fold_add(l:List (Array UInt8)):∀k:Nat,l.foldl (fun n(x:Array UInt8)=>n+x.size) k=k+(l.map (·.toList)).flatten.length:=by
 induction l with
 |nil=>exact fun Y=>rfl
 |cons x r ih=>intro k;rw [List.foldl_cons,ih,List.map_cons,List.flatten_cons,List.length_append,Nat.add_assoc];rfl
section
variable{prog:Program}{w:World}{A:Around}{E:Value→Shared→Prop}{s:Shared}
theorem method{M:Model}{b:Array UInt8}{t:Tok}{pl:Sem Bool}{Q:Value×List Value→Shared→Prop}(h:Q (.builtin "bytes.join",[.bytes b t]) s):wpAny M A (getMethod (.bytes b t) "join" pl) Q E s:=
 KBd.method_of (.bytes b t) (typeIs_bytes _ _ _) p7 zm KBd.noRef h
theorem OH{M:Model}{Q:Unit→Shared→Prop}(h:Q () s)(l:List (Value×Option Value))(keep:List Value):(∀p∈l,p.2=none)→wpAny M A (Bytes.joinLetGo l keep) Q E s:=by
 induction l with
 |nil=>exact fun Y=>wpAny_pure h
 |cons p r ih=>
  intro hl;obtain⟨x,u⟩:=p
  cases (hl _ List.mem_cons_self:u=none)
  exact wpAny_bind (m:=letGo _ _) (wpAny_letGo (ih fun p m=>hl p (List.mem_cons_of_mem _ m)))
theorem Ah{β:Type}{f:Nat→β}{body:Nat→β→Sem (ForInStep β)}{Q:β→Shared→Prop}(n:Nat):∀(i:Nat)(_:∀k,i≤k→k<i+n→∀Q':ForInStep β→Shared→Prop,Q' (.yield (f (k+1))) s→wpAny (model prog w) A (body k (f k)) Q' E s)(_:Q (f (i+n)) s),wpAny (model prog w) A (forIn (List.range' i n) (f i) body) Q E s:=by
 induction n with
 |zero=>intro i _ h;rw [List.range'_zero,List.forIn_nil];exact wpAny_pure h
 |succ n ih=>
  intro i st h;rw [List.range'_succ,List.forIn_cons];refine wpAny_bind (st i (Nat.le_refl _) (Nat.lt_add_of_pos_right (Nat.succ_pos n)) _ ?_);exact ih (i+1) (fun k h1 h2=>st k (Nat.le_of_succ_le h1) (by rwa[Nat.add_right_comm,Nat.add_assoc]at h2)) (by rwa[Nat.add_right_comm,Nat.add_assoc])
abbrev Q2(bs:List (Array UInt8×Tok)):Array Value:=(bs.map fun p=>Value.bytes p.1 p.2).toArray
theorem El(bs:List (Array UInt8×Tok)):(Q2 bs).size=bs.length:=by rw [List.size_toArray,List.length_map]
theorem Hn{bs:List (Array UInt8×Tok)}{k:Nat}(h:k<bs.length):(Q2 bs).getD k .none=.bytes (bs[k]).1 (bs[k]).2:=by simp[Array.getD,h]
theorem Ho(l:List (Array UInt8×Tok)):((l.map fun p=>(Value.bytes p.1 p.2,(none:Option Value))).any fun y=>y.1.onHeap)=false:=by
 rw [List.any_eq_false];exact fun y hy=>Exists.elim (List.mem_map.mp hy) fun p q=>q.2▸Bool.false_ne_true
theorem yP{bs:List (Array UInt8×Tok)}{k:Nat}(h:k<bs.length):((bs.take (k+1)).map (·.1)).toArray=((bs.take k).map (·.1)).toArray.push bs[k].1∧((bs.take (k+1)).map fun p=>(Value.bytes p.1 p.2,(none:Option Value)))=((bs.take k).map fun p=>(Value.bytes p.1 p.2,none))++[(.bytes bs[k].1 bs[k].2,none)]:=by
 rw [List.take_add_one,List.getElem?_eq_getElem h,List.map_append,List.map_append];exact⟨Array.toList_inj.mp (by rw [Array.toList_push];rfl),rfl⟩
theorem Cy{l:List (Array UInt8)}(h:(l.map (·.toList)).flatten.length≤100000)(n:Nat):¬Bytes.tooLong (l.toArray.foldl (fun n(x:Array UInt8)=>n+x.size) ((#[]:Array UInt8).size*n))=true:=by
 rw [List.foldl_toArray',fold_add,show(#[]:Array UInt8).size*n=0 from Nat.zero_mul n,Nat.zero_add]
 ·exact fun q=>absurd (of_decide_eq_true q) (Nat.not_lt_of_le (by rw [sizeLine_eq];exact Nat.le_trans h (by decide)))
 ·rfl
theorem Gs{t:Tok}{x:Addr}{bs:List (Array UInt8×Tok)}{n:Nat}{Q:Value→Shared→Prop}(e:s.heap.get? x=some ({cls:=.type "list",data:=.seq (Q2 bs) n}:Obj))(h2:2≤bs.length)
  (hz:(bs.map fun p=>p.1.toList).flatten.length≤100000)(h:∀tk t',Q (.bytes (bs.map fun p=>p.1.toList).flatten.toArray t') {s with toks:=tk}):
  wpAny (model prog w) A (call (.builtin "bytes.join") [.bytes #[] t,.ref x]) Q E s:=by
 refine wpAny_call_entry p7 (typeIs_bytes _ _ _) wO ?_ (AP _ _)
 show wpAny _ _ (Bytes.joinM .bytes ⟨[.bytes #[] t,.ref x],[]⟩) _ _ _;unfold Bytes.joinM;refine wpAny_bind (wpAny_of_eq (a:=(Value.bytes #[] t,Value.ref x)) rfl ?_)
 show wpAny _ _ (Bytes.joinItems (.ref x)>>=_) _ _ _;unfold Bytes.joinItems;refine wpAny_bind (wpAny_bind (wpAny_typeOf (T:="list") ⟨_,e,rfl⟩ (wpAny_pure (wpAny_bind (wpAny_seqItems e rfl ?_)))))
 obtain⟨p,q,r,rfl⟩:∃p q r,bs=p::q::r:=by
  cases bs with
  |nil=>exact absurd h2 (by decide)
  |cons p bs=>cases bs with
   |nil=>exact absurd h2 (by decide:¬2≤1)
   |cons q r=>exact⟨p,q,r,rfl⟩
 refine wpAny_bind (m:=forIn _ _ _) ?_
 rw [Std.Legacy.Range.forIn_eq_forIn_range']
 generalize p::q::r=bs at*
 show wpAny _ _ (forIn (List.range' 0 (((Q2 bs).size - 0+1 - 1)/1) 1) _ _) _ _ s;rw [Nat.sub_zero,Nat.add_sub_cancel,Nat.div_one,El];refine Ah (f:=fun i=>(((bs.take i).map (·.1)).toArray,(bs.take i).map fun p=>(Value.bytes p.1 p.2,none))) bs.length 0 (fun k Y hlt Q' hq=>?_) ?_
 ·rw [Nat.zero_add]at hlt
  refine wpAny_bind (wpAny_seqItems e rfl ?_)
  show wpAny _ _ (if(_||List.any _ _)=true then _ else _) _ _ s;refine wpAny_ite_false (decide_eq_false (by rw [Ho];decide)) ?_
  rw [Hn hlt,Fs];refine wpAny_bind (wpAny_holding (wpAny_pure (wpAny_bind (wpAny_seqItems e rfl ?_))));refine wpAny_ite_false (decide_eq_false (by simp)) (wpAny_pure ?_)
  rw [(yP hlt).1,(yP hlt).2]at hq;exact hq
 ·rw [Nat.zero_add,List.take_length]
  refine wpAny_bind (wpAny_of_eq (a:=(#[]:Array UInt8)) rfl (wpAny_ite_false (decide_eq_false (Cy (by rw [List.map_map];exact hz) _)) ?_))
  show wpAny _ _ (mkBytes (Bytes.joined #[] (bs.map (·.1)))>>=_) _ _ _;rw [z6,List.map_map];refine wpAny_bind (wpAny_mkBytes ?_ (by rw [List.size_toArray,sizeLine_eq];exact Nat.le_trans hz (by decide)))
  exact wpAny_bind (wpAny_holding (wpAny_point (wpAny_bind (OH (wpAny_pure ⟨_,rfl,h _ _⟩) _ _ fun p m=>Exists.elim (List.mem_map.mp m) fun q w=>w.2▸rfl))))
end
end Ub
end
end MineB.Internal
namespace Mine.Internal
open PySem PySem.W PyProof.Rows PySem.SeqAt
noncomputable section
variable{C:Cx}{M:Addr→Prop}{a e:CE}{es:List CE}{f:AV→Value→Bool}{flat:Bool}{k n y:Nat}{l:List Nat}{o:Option NameKind}{r:Option (Option Value)}{v:Value}{x:Expr}{α:Type}{J:List Addr}
theorem Ax:iA C:=⟨fun A st E a t pl Q h=>lf (MineB.Internal.Ub.method h),fun A st E t x bs n Q e h2 hz Y h=>lf (MineB.Internal.Ub.Gs e h2 hz h)⟩
noncomputable def Qf(a b:Bool):Bool:=match a with|true=>b|false=>!b
noncomputable def tU(l:List α):Bool:=match l with|[]=>true|_::_=>false
def QU(a b:IE):Bool:=both a b iB false
noncomputable def allR(f:α→α→Bool):List α→List α→Bool
 |[],m=>tU m
 |a::x,m=>match m with|[]=>false|b::y=>f a b&&allR f x y
def Ls:List IE→List IE→Bool:=allR QU
structure VB where
 b:Bool
 i:IE
 s:List Nat
 y:List IE
 t:List AV
 d:List (List Nat×AV)
 r:Nat
noncomputable def w0:VB:=⟨false,.c 0,[],[],[],[],0⟩
def wA:AV→VB
 |.none=>w0
 |.bool b=>{w0 with b:=b}
 |.int i=>{w0 with i:=i}
 |.str s=>{w0 with s:=s}
 |.bytes y=>{w0 with y:=y}
 |.t t=>{w0 with t:=t}
 |.eF d=>{w0 with d:=d}
 |.ref r=>{w0 with r:=r}
 |.fn r=>{w0 with r:=r}
 |.cls r=>{w0 with r:=r}
 |.bi r=>{w0 with r:=r}
 |.vi _ _=>w0
 |.xT _ _=>w0
 |.mG r=>{w0 with r:=r}
noncomputable def lj(o:Option α)(g:α→Bool):Bool:=match o with|some a=>g a|none=>false
noncomputable def xZ(m:Nat)(π:Nat→Nat):Nat→AV→AV→Bool
 |0,_,_=>false
 |n+1,a,b=>Nat.beq a.ctorIdx b.ctorIdx&&(match a with
  |.none=>true
  |.bool x=>Qf x (wA b).b
  |.int x=>QU x (wA b).i
  |.str x=>lEq x (wA b).s
  |.bytes x=>Ls x (wA b).y
  |.t x=>allR (xZ m π n) x (wA b).t
  |.eF x=>tU x&&tU (wA b).d
  |.ref i=>Nat.blt i m&&Nat.beq (π i) (wA b).r
  |.fn i=>Nat.beq i (wA b).r
  |.cls i=>Nat.beq i (wA b).r
  |.bi i=>Nat.beq i (wA b).r
  |.vi _ _=>false
  |.xT _ _=>false
  |.mG _=>false)
def xZ.FU(m:Nat)(π:Nat→Nat)(n:Nat):List AV→List AV→Bool:=allR (xZ m π n)
structure SE where
 k:Nat
 d:Option Int
 as:List AV
 v:AV
def G9:Option Int→List IE→Bool
 |none,_=>true
 |some i,b=>match b.drop 5 with
  |x::_=>QU (.c i) x
  |[]=>false
noncomputable def ox(m:Nat)(b:List IE)(k:Nat)(as:List AV):List SE→Option AV
 |[]=>none
 |e::r=>match Nat.beq e.k k&&(G9 e.d b&&xZ.FU m id 20 e.as as)with
  |true=>some e.v
  |false=>ox m b k as r
def Nw(tab:List SE)(m:Nat)(k:Nat)(as:List AV)(s:AS):Option (aH (AV×AS)):=match Nat.beq k 136||(Nat.beq k 167||Nat.beq k 168)with
 |false=>none
 |true=>match s.hp.get m with
  |some (.cu b)=>match Nat.beq b.length 29 with
   |true=>match ox (m+1) b k as tab with
    |some v=>some (.ok (v,s))
    |none=>none
   |false=>none
  |_=>none
structure LR where
 k:Nat
 bR:List Nat
 params:Arguments
 body:Expr
 scope:Scope
 t:List (Nat×NameKind)
structure Tk where
 vE:List (List Nat)
 Gg:List (Str×Nat)
 pA:List LR
 rV:List Str
abbrev kF:=List (Nat×NameKind)
variable{t:kF}
structure qR where
 t:kF
 lam:Bool
noncomputable def hG:kF→Nat→Option NameKind
 |[],_=>none
 |p::r,x=>match Nat.beq p.1 x with|true=>some p.2|false=>hG r x
noncomputable def kB:NameKind→Nat
 |.local=>0|.cell=>1|.free=>2|.globalImplicit=>3|.globalExplicit=>4
def i0(o:Option NameKind)(n:Nat):Bool:=match o with|some k=>Nat.beq (kB k) n|none=>false
noncomputable def jN(T:Tk)(s:Str)(x:Nat):Tk:={T with Gg:=(s,x)::T.Gg}
noncomputable def Bn:List Nat→List (Str×NameKind)→Option kF
 |[],r=>match r with|[]=>some []|_::_=>none
 |x::l,r=>kg r fun p r=>gg (Bn l r) fun t=>some ((x,p.2)::t)
noncomputable def KW:List Nat→List (Str×NameKind)→List (Str×Nat)→List (Str×Nat)
 |[],_,acc=>acc
 |x::l,r,acc=>match r with|p::r=>(p.1,x)::KW l r acc|[]=>acc
def mF(T:Tk)(names:List (Str×NameKind)):Option (kF×List Nat×Tk):=kg T.vE fun l r=>gg (Bn l names) fun t=>some (t,l,{T with vE:=r})
def pushS(l:List Nat)(names:List (Str×NameKind))(T:Tk):Tk:={T with Gg:=KW l names T.Gg}
noncomputable def xO:List (Str×NameKind)→List (Str×NameKind)
 |[]=>[]
 |_::r=>r
def PT:List (Str×NameKind)→Bool
 |p::_=>Nat.beq (kB p.2) 0
 |[]=>false
def IH(l:List Nat)(names:List (Str×NameKind))(T:Tk):Tk:={pushS l (xO names) T with rV:=(match names with|p::_=>p.1|[]=>Str.empty)::T.rV}
def qH(K:kF)(t:kF):kF:=t.map fun p=>match Nat.beq (kB p.2) 2&&i0 (hG K p.1) 1 with|true=>(p.1,.cell)|false=>(p.1,p.2)
set_option genSizeOf false
set_option genInjectivity false
structure XV where
 s:Str
 c:Const
 a:Expr
 b:Expr
 d:Expr
 xs:List Expr
 kx:List (Option Expr)
 bo:BoolOp
 op:Operator
 uo:UnaryOp
 cs:List CmpOp
 l:Option Expr
 u:Option Expr
 t:Option Expr
 ar:Arguments
 sc:Scope
 kw:List Keyword
 gs:List Comprehension
 k:Nat
 p:Pos
noncomputable def x0:XV:=⟨default,default,default,default,default,[],[],default,default,default,[],none,none,none,default,default,[],[],0,default⟩
def vX:Expr→XV
 |.BoolOp o xs p=>{x0 with bo:=o,xs:=xs,p:=p}
 |.NamedExpr _ _ _=>x0
 |.BinOp a o b p=>{x0 with a:=a,op:=o,b:=b,p:=p}
 |.UnaryOp o a p=>{x0 with uo:=o,a:=a,p:=p}
 |.Lambda r a s p=>{x0 with ar:=r,a:=a,sc:=s,p:=p}
 |.IfExp a b d p=>{x0 with a:=a,b:=b,d:=d,p:=p}
 |.Dict k xs p=>{x0 with kx:=k,xs:=xs,p:=p}
 |.Set _ _ _=>x0
 |.ListComp a g s p=>{x0 with a:=a,gs:=g,sc:=s,p:=p}
 |.SetComp _ _ _ _=>x0
 |.DictComp _ _ _ _ _=>x0
 |.GeneratorExp _ _ _ _=>x0
 |.Await _ _=>x0
 |.Yield _ _=>x0
 |.YieldFrom _ _=>x0
 |.Compare a o xs p=>{x0 with a:=a,cs:=o,xs:=xs,p:=p}
 |.Call a xs k p=>{x0 with a:=a,xs:=xs,kw:=k,p:=p}
 |.FormattedValue _ _ _ _=>x0
 |.JoinedStr _ _=>x0
 |.Constant c k p=>{x0 with c:=c,k:=k,p:=p}
 |.Attribute a s p=>{x0 with a:=a,s:=s,p:=p}
 |.Subscript a b p=>{x0 with a:=a,b:=b,p:=p}
 |.Starred _ _=>x0
 |.Name s p=>{x0 with s:=s,p:=p}
 |.List xs p=>{x0 with xs:=xs,p:=p}
 |.Tuple xs k p=>{x0 with xs:=xs,k:=k,p:=p}
 |.Slice l u t p=>{x0 with l:=l,u:=u,t:=t,p:=p}
noncomputable def Vz(x:Expr)(v:XV):List Prop:=[x=.BoolOp v.bo v.xs v.p,True,x=.BinOp v.a v.op v.b v.p,x=.UnaryOp v.uo v.a v.p,x=.Lambda v.ar v.a v.sc v.p,x=.IfExp v.a v.b v.d v.p,x=.Dict v.kx v.xs v.p,True,x=.ListComp v.a v.gs v.sc v.p,
 True,True,True,True,True,True,x=.Compare v.a v.cs v.xs v.p,x=.Call v.a v.xs v.kw v.p,True,True,x=.Constant v.c v.k v.p,x=.Attribute v.a v.s v.p,x=.Subscript v.a v.b v.p,True,x=.Name v.s v.p,x=.List v.xs v.p,x=.Tuple v.xs v.k v.p,x=.Slice v.l v.u v.t v.p]
theorem tg(x:Expr):zI (Vz x (vX x)) x.ctorIdx:=by cases x<;>first|exact rfl|exact trivial
noncomputable def cY(x:Expr)(k:Nat):Bool:=Nat.beq x.ctorIdx k
theorem dP(h:cY x k=true):zI (Vz x (vX x)) k:=aL h▸tg x
theorem n7{y:Expr}(h:(!cY x k)=true)(e:y.ctorIdx=k):x≠y:=fun q=>by
 subst e q;unfold cY at h;rw [Nat.beq_refl]at h;injection h
noncomputable def Ob(c:Const)(g:Bool→Bool):Bool:=match c with|.bool b=>g b|_=>false
noncomputable def KU(c:Const)(g:Int→Bool):Bool:=match c with|.int b=>g b|_=>false
noncomputable def KQ(c:Const)(g:Str→Bool):Bool:=match c with|.str b=>g b|_=>false
noncomputable def Oa(c:Const)(g:List UInt8→Bool):Bool:=match c with|.bytes b=>g b|_=>false
noncomputable def OR(c:Const):Bool:=match c with|.none=>true|_=>false
noncomputable def KP(e:IE)(g:Int→Bool):Bool:=match e with|.c i=>g i|_=>false
noncomputable def zK{β:Type}(l:List α)(o:Option β):Option β:=match l with|[]=>o|_::_=>none
noncomputable def J6(l:List α)(g:α→List α→Bool):Bool:=match l with|a::r=>g a r|[]=>false
noncomputable def isNil(l:List α):Bool:=match l with|[]=>true|_::_=>false
noncomputable def N9(o:Option α)(g:α→Bool):Bool:=match o with|some a=>g a|none=>false
noncomputable def ua(o:Option α):Bool:=match o with|none=>true|some _=>false
noncomputable def oT:List IE→List UInt8→Bool
 |[],b=>isNil b
 |e::l,b=>J6 b fun u r=>KP e fun i=>(jO 0 i&&Nat.blt i.toNat 256)&&(Nat.beq i.toNat u.toNat&&oT l r)
noncomputable def Q3(a b:Bool):Bool:=match a with|true=>b|false=>!b
def fC(v:AV)(c:Const):Bool:=match v with
 |.none=>OR c
 |.bool b=>Ob c (Q3 b)
 |.int e=>KU c fun j=>KP e fun i=>iB i j
 |.str l=>KQ c fun s=>lEq l s.cps.toList
 |.bytes l=>Oa c (oT l)
 |_=>false
noncomputable def fK:List (List Nat)→List (Option Expr)→Bool
 |[],xs=>isNil xs
 |k::ks,xs=>J6 xs fun o xs=>N9 o fun x=>cY x 19&&(KQ (vX x).c (fun s=>lEq k s.cps.toList)&&fK ks xs)
noncomputable def Td(t:kF):List Nat→List Expr→Tk→Option Tk
 |[],xs,T=>zK xs (some T)
 |x::tg,xs,T=>kg xs fun e xs=>ck (cY e 23&&i0 (hG t x) 0) (Td t tg xs (jN T (vX e).s x))
def fT(t:kF)(tg:List Nat)(flat:Bool)(xt:Expr)(T:Tk):Option Tk:=match flat with
 |true=>kg tg fun x r=>ck (isNil r&&(cY xt 23&&i0 (hG t x) 0)) (some (jN T (vX xt).s x))
 |false=>ck (cY xt 25) (Td t tg (vX xt).xs T)
def nW(x:Expr):Bool:=!cY x 7
def x9(x:Expr):Bool:=!(cY x 16&&(cY (vX x).a 23&&isNil (vX x).xs))
def IQ(x:Expr):Bool:=!cY x 20
def noStar(x:Expr):Bool:=!cY x 22
def RY(a:Op)(b:Operator):Bool:=decide (b=II a)
def Q1(a:Cm)(b:CmpOp):Bool:=decide (b=m3 a)
noncomputable def rH:List (List Nat)→Bool
 |[]=>true
 |a::r=>r.all (fun b=>!lEq a b)&&rH r
noncomputable def gC:List Nat→Bool
 |[]=>true
 |a::r=>!gF a r&&gC r
structure Sp where
 d1:Nat
 d2:Nat
 en:Nat
 zp:Nat
 attrs:List Nat
variable{S:Sp}
abbrev Ff:=CE→Expr→Tk→Option Tk
noncomputable def fL(f:Ff):List CE→List Expr→Tk→Option Tk
 |[],xs,T=>zK xs (some T)
 |e::es,xs,T=>kg xs fun x xs=>ck (noStar x) ((f e x T).bind fun T=>fL f es xs T)
def fO(f:Ff)(e:Option CE)(x:Option Expr)(T:Tk):Option Tk:=match e with
 |none=>ck (ua x) (some T)
 |some e=>gg x fun x=>f e x T
noncomputable def sQ(f:Ff)(a:CE)(x:Expr)(T:Tk)(g:Tk→Option Tk):Option Tk:=(f a x T).bind g
def xa(K t:kF)(tg:List Nat)(xi:Expr)(sc:Scope):Bool:=
 (match sc.kind with|.function=>true|_=>false)&&(t.all (fun p=>!Nat.beq (kB p.2) 1)&&(t.all (fun p=>!Nat.beq (kB p.2) 0||i0 (hG t p.1) 0)&&
 (t.all (fun p=>!Nat.beq (kB p.2) 2||(i0 (hG K p.1) 1||i0 (hG K p.1) 2))&&(t.all (fun p=>!Nat.beq (kB p.2) 0||gF p.1 tg)&&(nW xi&&(!sc.isCoroutine&&!sc.isGenerator))))))
def OL(K t:kF)(bR:List Nat)(params:Arguments):Bool:=
 (match params.defaults,params.kw_defaults with|[],[]=>true|_,_=>false)&&(t.all (fun p=>!Nat.beq (kB p.2) 2||(i0 (hG K p.1) 1||i0 (hG K p.1) 2))&&(bR.all (fun x=>t.any fun p=>Nat.beq p.1 x&&Nat.beq (kB p.2) 2)&&t.all (fun p=>!Nat.beq (kB p.2) 2||gF p.1 bR)))
def U3(S:Sp)(K:qR)(y:Nat)(x:Expr)(T:Tk):Option Tk:=ck (cY x 23&&((i0 (hG K.t y) 0||(i0 (hG K.t y) 1||i0 (hG K.t y) 2))&&(!Nat.beq y S.d1&&!Nat.beq y S.d2))) (some (jN T (vX x).s y))
def Pp(S:Sp)(K:qR)(y:Nat)(x:Expr)(T:Tk):Option Tk:=ck (cY x 23&&(i0 (hG K.t y) 3&&!Nat.beq y S.d1)) (some (jN T (vX x).s y))
def Pr(f:Ff)(op:Cm)(a b:CE)(x:Expr)(T:Tk):Option Tk:=ck (cY x 15) (kg (vX x).cs fun q cs=>kg (vX x).xs fun r rs=>ck (isNil cs&&(isNil rs&&(Q1 op q&&nW r))) (sQ f a (vX x).a T fun T=>f b r T))
def DP(f:Ff)(op:Cm)(a b:CE)(jU:Cm)(c:CE)(x:Expr)(T:Tk):Option Tk:=ck (cY x 15) (kg (vX x).cs fun q cs=>kg cs fun q' cs=>kg (vX x).xs fun r rs=>kg rs fun r' rs=>
 ck (isNil cs&&(isNil rs&&(Q1 op q&&(Q1 jU q'&&nW r')))) (sQ f a (vX x).a T fun T=>sQ f b r T fun T=>f c r' T))
def yH(f:Ff)(o:BoolOp)(es:List CE)(x:Expr)(T:Tk):Option Tk:=ck (cY x 0&&decide ((vX x).bo=o)) (fL f es (vX x).xs T)
def QZ(f:Ff)(o:UnaryOp)(a:CE)(x:Expr)(T:Tk):Option Tk:=ck (cY x 3&&decide ((vX x).uo=o)) (f a (vX x).a T)
def Pk(f:Ff)(o:CE)(lo hi:Option CE)(x:Expr)(T:Tk):Option Tk:=ck (cY x 21&&(cY (vX x).b 26&&ua (vX (vX x).b).t)) (sQ f o (vX x).a T fun T=>(fO f lo (vX (vX x).b).l T).bind fun T=>fO f hi (vX (vX x).b).u T)
def Pl(f:Ff)(o:CE)(x:Expr)(T:Tk):Option Tk:=ck (cY x 21&&(cY (vX x).b 26&&(ua (vX (vX x).b).l&&ua (vX (vX x).b).u))) (gg (vX (vX x).b).t fun y=>ck (cY y 3&&(decide ((vX y).uo=.USub)&&(cY (vX y).a 19&&KU (vX (vX y).a).c (iB 1)))) (f o (vX x).a T))
def Po(K:qR)(k:Nat)(bR:List Nat)(x:Expr)(T:Tk):Option Tk:=ck (cY x 4) (gg (mF T (vX x).sc.names) fun p=>ck (K.lam&&OL K.t p.1 bR (vX x).ar) (some (pushS p.2.1 (vX x).sc.names {p.2.2 with pA:=⟨k,bR,(vX x).ar,(vX x).a,(vX x).sc,p.1⟩::p.2.2.pA})))
def Jk(f:Ff)(g:CE)(es:List CE)(x:Expr)(T:Tk):Option Tk:=ck (cY x 16&&(isNil (vX x).kw&&IQ (vX x).a)) (sQ f g (vX x).a T fun T=>fL f es (vX x).xs T)
def Jh(S:Sp)(f:Ff)(o:CE)(y:Nat)(es:List CE)(x:Expr)(T:Tk):Option Tk:=ck (cY x 16&&(isNil (vX x).kw&&(cY (vX x).a 20&&(gF y S.attrs&&(x9 (vX (vX x).a).a&&(Nat.blt (vX x).xs.length 30&&Nat.beq (vX (vX x).a).p.endLine (vX x).p.line))))))
 (sQ f o (vX (vX x).a).a (jN T (vX (vX x).a).s y) fun T=>fL f es (vX x).xs T)
def Jj(f f':Ff)(K:qR)(elt:CE)(tg:List Nat)(flat:Bool)(it:CE)(ifs:List CE)(x:Expr)(g:Comprehension)(p:kF×List Nat×Tk):Option Tk:=ck (PT (vX x).sc.names&&(iB 0 g.is_async&&xa K.t p.1 tg g.iter (vX x).sc))
 ((fT p.1 tg flat g.target p.2.2).bind fun T=>sQ f it g.iter T fun T=>sQ f' elt (vX x).a T fun T=>(fL f' ifs g.ifs T).bind fun T=>some (IH p.2.1 (vX x).sc.names T))
noncomputable def fE(S:Sp):Nat→qR→CE→Expr→Tk→Option Tk
 |0,_,_,_,_=>none
 |n+1,K,e,x,T=>match e with
  |.n y=>U3 S K y x T
  |.val v=>ck (cY x 19&&fC v (vX x).c) (some T)
  |.t es=>ck (cY x 25) (fL (fE S n K) es (vX x).xs T)
  |.list es=>ck (cY x 24) (fL (fE S n K) es (vX x).xs T)
  |.eF ks es=>ck (cY x 6&&(fK ks (vX x).kx&&(Nat.beq ks.length es.length&&(rH ks&&Nat.ble ks.length 15)))) (fL (fE S n K) es (vX x).xs T)
  |.bin op a b=>ck (cY x 2&&RY op (vX x).op) (sQ (fE S n K) a (vX x).a T fun T=>fE S n K b (vX x).b T)
  |.cmp op a b=>Pr (fE S n K) op a b x T
  |.chain op a b jU c=>DP (fE S n K) op a b jU c x T
  |.and es=>yH (fE S n K) .And es x T
  |.or es=>yH (fE S n K) .Or es x T
  |.not a=>QZ (fE S n K) .Not a x T
  |.neg a=>QZ (fE S n K) .USub a x T
  |.ite t a b=>ck (cY x 5) (sQ (fE S n K) t (vX x).a T fun T=>sQ (fE S n K) a (vX x).b T fun T=>fE S n K b (vX x).d T)
  |.attr o y=>ck (cY x 20&&(gF y S.attrs&&x9 (vX x).a)) (fE S n K o (vX x).a (jN T (vX x).s y))
  |.idx o i=>ck (cY x 21) (sQ (fE S n K) o (vX x).a T fun T=>fE S n K i (vX x).b T)
  |.iE o lo hi=>Pk (fE S n K) o lo hi x T
  |.rev o=>Pl (fE S n K) o x T
  |.call f es=>Jk (fE S n K) f es x T
  |.bG o y es=>Jh S (fE S n K) o y es x T
  |.comp elt tg flat it ifs=>ck (cY x 8) (kg (vX x).gs fun g gs=>ck (isNil gs) (gg (mF T (xO (vX x).sc.names)) fun p=>Jj (fE S n K) (fE S n ⟨qH K.t p.1,K.lam⟩) K elt tg flat it ifs x g p))
  |.gM ..=>none
  |.lam k bR=>Po K k bR x T
  |.eZ y=>Pp S K y x T
  |.bad _=>ck (nW x) (some T)
def T8(C:Cx)(r:LR):Prop:=C.bR r.k=r.bR∧∀pm cdv ctv qual clos,C.lam r.k {name:="<lambda>",qualname:=qual,params:=r.params,body:=.expr r.body,scope:=r.scope,globals:=mainGlobals,closure:=clos,defaults:=.none,kwdefaults:=.none,doc:=.none,pyModule:=pm,annotations:=none,code:=cdv,closureTuple:=ctv,builtins:=builtinsNs}
def aQ(C:Cx)(T:Tk):Prop:=(∀p∈T.Gg,p.1=C.nm p.2)∧(∀r∈T.pA,T8 C r)∧∀s∈T.rV,s=".0"
structure KR(C:Cx)(kd:Kd)(K:qR):Prop where
 k:∀x,kd.k (C.nm x)=hG K.t x
 lam:K.lam=true→∃c P,kd.code=some c∧(c,P)∈C.tabs∧∀pos,C.t4 P pos=kd.qual++"<lambda>"
structure eV(C:Cx)(S:Sp):Prop where
 d1:C.nm S.d1="__debug__"
 d2:C.nm S.d2="__classdict__"
 en:C.nm S.en="enumerate"
 zp:C.nm S.zp="zip"
 attrs:∀n,gF n S.attrs=true→n∈C.attrs
 inj:∀x y,C.nm x=C.nm y→x=y
 IL:∀x,C.nm x≠".0"
theorem js{β:Type}{l:List α}{o:Option β}{y:β}(h:zK l o=some y):l=[]∧o=some y:=by
 cases l with
 |nil=>exact⟨rfl,h⟩
 |cons a r=>injection h
theorem sR{l:List α}{g:α→List α→Bool}(h:J6 l g=true):∃a r,l=a::r∧g a r=true:=by
 cases l with
 |nil=>injection h
 |cons a r=>exact⟨a,r,rfl,h⟩
theorem bH{l:List α}(h:isNil l=true):l=[]:=by
 cases l with
 |nil=>rfl
 |cons a r=>injection h
theorem Cn{o:Option α}{g:α→Bool}(h:N9 o g=true):∃a,o=some a∧g a=true:=by
 cases o with
 |none=>injection h
 |some a=>exact⟨a,rfl,h⟩
theorem iJ{o:Option α}(h:ua o=true):o=none:=by
 cases o with
 |none=>rfl
 |some a=>injection h
theorem Ct{c:Const}{g:Bool→Bool}(h:Ob c g=true):∃b,c=.bool b∧g b=true:=by
 cases c<;>first|exact⟨_,rfl,h⟩|injection h
theorem tJ{c:Const}{g:Int→Bool}(h:KU c g=true):∃b,c=.int b∧g b=true:=by
 cases c<;>first|exact⟨_,rfl,h⟩|injection h
theorem tI{c:Const}{g:Str→Bool}(h:KQ c g=true):∃b,c=.str b∧g b=true:=by
 cases c<;>first|exact⟨_,rfl,h⟩|injection h
theorem Cs{c:Const}{g:List UInt8→Bool}(h:Oa c g=true):∃b,c=.bytes b∧g b=true:=by
 cases c<;>first|exact⟨_,rfl,h⟩|injection h
theorem GA{c:Const}(h:OR c=true):c=.none:=by
 cases c<;>first|exact rfl|injection h
theorem tH{e:IE}{g:Int→Bool}(h:KP e g=true):∃i,e=.c i∧g i=true:=by
 cases e<;>first|exact⟨_,rfl,h⟩|injection h
theorem di(P:α→Prop){x y:α}(q:x=y)(h:P y):P x:=q▸h
section
theorem Io(h:cY x 0=true):x=.BoolOp (vX x).bo (vX x).xs (vX x).p:=dP h
theorem Rh(h:cY x 2=true):x=.BinOp (vX x).a (vX x).op (vX x).b (vX x).p:=dP h
theorem Rc(h:cY x 3=true):x=.UnaryOp (vX x).uo (vX x).a (vX x).p:=dP h
theorem Rf(h:cY x 4=true):x=.Lambda (vX x).ar (vX x).a (vX x).sc (vX x).p:=dP h
theorem VE(h:cY x 5=true):x=.IfExp (vX x).a (vX x).b (vX x).d (vX x).p:=dP h
theorem Nb(h:cY x 6=true):x=.Dict (vX x).kx (vX x).xs (vX x).p:=dP h
theorem Uo(h:cY x 8=true):x=.ListComp (vX x).a (vX x).gs (vX x).sc (vX x).p:=dP h
theorem Nc(h:cY x 15=true):x=.Compare (vX x).a (vX x).cs (vX x).xs (vX x).p:=dP h
theorem Bs(h:cY x 16=true):x=.Call (vX x).a (vX x).xs (vX x).kw (vX x).p:=dP h
theorem vy(h:cY x 19=true):x=.Constant (vX x).c (vX x).k (vX x).p:=dP h
theorem Bt(h:cY x 20=true):x=.Attribute (vX x).a (vX x).s (vX x).p:=dP h
theorem zi(h:cY x 21=true):x=.Subscript (vX x).a (vX x).b (vX x).p:=dP h
theorem kP(h:cY x 23=true):x=.Name (vX x).s (vX x).p:=dP h
theorem M9(h:cY x 24=true):x=.List (vX x).xs (vX x).p:=dP h
theorem zh(h:cY x 25=true):x=.Tuple (vX x).xs (vX x).k (vX x).p:=dP h
theorem Rd(h:cY x 26=true):x=.Slice (vX x).l (vX x).u (vX x).t (vX x).p:=dP h
end
theorem aY{β:Type}{r:Option α}{g:α→Option β}{y:β}(h:r.bind g=some y):∃a,r=some a∧g a=some y:=by
 cases r with
 |none=>injection h
 |some a=>exact⟨a,rfl,h⟩
noncomputable def kU:Nat→NameKind
 |0=>.local|1=>.cell|2=>.free|3=>.globalImplicit|_=>.globalExplicit
theorem I0(a:NameKind):kU (kB a)=a:=by cases a<;>rfl
theorem lZ{a b:NameKind}(h:kB a=kB b):a=b:=by rw [←I0 a,h,I0]
theorem t6(h:i0 o 0=true):o=some .local:=by
 unfold i0 at h;split at h
 ·exact congrArg some (lZ (aL h))
 ·injection h
theorem C5(h:i0 o 1=true):o=some .cell:=by
 unfold i0 at h;split at h
 ·exact congrArg some (lZ (aL h))
 ·injection h
theorem Gr(h:i0 o 2=true):o=some .free:=by
 unfold i0 at h;split at h
 ·exact congrArg some (lZ (aL h))
 ·injection h
theorem Lj(h:i0 o 3=true):o=some .globalImplicit:=by
 unfold i0 at h;split at h
 ·exact congrArg some (lZ (aL h))
 ·injection h
theorem C6{a b:NameKind}(hb:kB b=n)(h:(!Nat.beq (kB a) n)=true):a≠b:=fun e=>by
 subst e;rw [hb,Nat.beq_refl]at h;injection h
theorem ju:∀{l:List Nat}{x:Nat},gF x l=true→x∈l
 |[],_,h=>by injection h
 |b::y,x,h=>by
  unfold gF at h;cases q:Nat.beq b x with
  |true=>rw [aL q];exact bS
  |false=>rw [q]at h;exact cq _ (ju h)
theorem n4:∀{l:List Nat}{x:Nat},gF x l=false→x∉l
 |[],_,_=>by simp
 |b::y,x,h=>by
  unfold gF at h;cases q:Nat.beq b x with
  |true=>rw [q]at h;injection h
  |false=>
   rw [q]at h;have:=n4 h
   intro m;rcases cK m with e|m
   ·subst e;rw [Nat.beq_refl]at q;injection q
   ·exact this m
theorem il:∀{l:List Nat},gC l=true→l.Nodup
 |[],_=>.nil
 |a::r,h=>by
  have⟨h1,h2⟩:=ae h
  exact List.nodup_cons.mpr ⟨n4 (dA h1),il h2⟩
theorem qi:∀{l:List (List Nat)},rH l=true→(l.map aR).Nodup
 |[],_=>.nil
 |a::r,h=>by
  have⟨h1,h2⟩:=ae h
  refine List.nodup_cons.mpr ⟨fun m=>?_,qi h2⟩
  refine aC (List.mem_map.mp m:) fun b hb e=>?_
  have:=nJ.mp e
  subst this;have:=bT h1 b hb
  rw [jx]at this;injection this
theorem kh{s:Str}(h:lEq l s.cps.toList=true):s=aR l:=by
 rw [kz h];exact(ig s).symm
noncomputable def jE:Str×NameKind:=(".0",.local)
section
variable{kd:Kd}{K:qR}{T T' u0:Tk}
theorem aQ.jN{s:Str}{x:Nat}(G:aQ C (jN T s x)):aQ C T∧s=C.nm x:=⟨⟨fun p m=>G.1 p (cq _ m),G.2⟩,G.1 (s,x) bS⟩
theorem nB:∀{l:List Nat}{names:List (Str×NameKind)}{t:kF}{acc:List (Str×Nat)},Bn l names=some t→(∀p∈KW l names acc,p.1=C.nm p.2)→(∀p∈acc,p.1=C.nm p.2)∧names=t.map (fun p=>(C.nm p.1,p.2))
 |[],[],t,acc,h,G=>by injection h with h;subst h;exact⟨G,rfl⟩
 |x::l,p::r,t,acc,h,G=>by
  refine aC (aM h:) fun t' q h=>?_
  ·injection h with h;subst h
   refine aw (nB q fun p m=>G p (cq _ m):) fun g1 g2=>?_
   refine⟨g1,?_⟩
   have:=G (p.1,x) bS
   rw [List.map_cons,←g2,←this]
 |[],_::_,_,_,h,_=>by injection h
 |_::_,[],_,_,h,_=>by injection h
theorem tx{names:List (Str×NameKind)}(h:mF T names=some (t,l,u0)):Bn l names=some t∧u0.Gg=T.Gg∧u0.pA=T.pA∧u0.rV=T.rV:=by
 refine eM (bD h:) fun l r e h=>?_
 refine aC (aM h:) fun t q h=>?_
 injection h with h;injection h with h aN;subst h;injection aN with aN nu;subst aN nu;exact⟨q,rfl,rfl,rfl⟩
theorem jL{names:List (Str×NameKind)}(h:mF T names=some (t,l,u0))(G:aQ C u0):aQ C T:=by
 refine lN (tx h:) fun Y a b c=>?_
 exact⟨a▸G.1,b▸G.2.1,c▸G.2.2⟩
theorem mT{names:List (Str×NameKind)}(h:mF T names=some (t,l,u0))(G:aQ C (pushS l names T')):aQ C T'∧names=t.map (fun p=>(C.nm p.1,p.2)):=by
 refine dN (tx h:) fun q Y Y=>?_
 refine aw (nB (C:=C) q G.1:) fun g1 g2=>?_
 exact⟨⟨g1,G.2⟩,g2⟩
theorem x6{names:List (Str×NameKind)}(h:mF T (xO names)=some (t,l,u0))(hd:PT names=true)(G:aQ C (IH l names T')):aQ C T'∧names=jE::t.map (fun p=>(C.nm p.1,p.2)):=by
 cases names with
 |nil=>injection hd
 |cons p r=>
  have hs:p.1=".0":=G.2.2 _ bS
  refine aw (mT (T':=T') h ⟨G.1,G.2.1,fun s m=>G.2.2 s (cq _ m)⟩:) fun g e=>?_
  refine⟨g,?_⟩
  have e:r=_:=e
  rw [←e];have hk:p.2=.local:=lZ (aL hd)
  show p::r=jE::r;rw [show p=jE from Prod.ext hs hk]
theorem eE(inj:∀x y,C.nm x=C.nm y→x=y)(x:Nat):∀t:kF,(t.map (fun p=>(C.nm p.1,p.2))).lookup (C.nm x)=hG t x
 |[]=>rfl
 |p::r=>by
  rw [List.map_cons,List.lookup_cons];unfold hG;cases q:Nat.beq p.1 x with
  |true=>rw [aL q];simp
  |false=>
   have:(C.nm x==C.nm p.1)=false:=by
    cases z:(C.nm x==C.nm p.1)with
    |false=>rfl
    |true=>rw [inj _ _ (beq_iff_eq.mp z),Nat.beq_refl]at q;injection q
   rw [this];exact eE inj x r
theorem iH(SO:eV C S)(x:Nat)(t:kF):(jE::t.map (fun p=>(C.nm p.1,p.2))).lookup (C.nm x)=hG t x:=by
 rw [List.lookup_cons];have:(C.nm x==jE.1)=false:=by
  cases z:(C.nm x==jE.1)with
  |false=>rfl
  |true=>exact(SO.IL x (beq_iff_eq.mp z)).elim
 rw [this];exact eE SO.inj x t
theorem m5{names:List (Str×NameKind)}(e:names=jE::t.map (fun p=>(C.nm p.1,p.2))){y:Str×NameKind}(m:y∈names):y=jE∨∃p∈t,y=(C.nm p.1,p.2):=by
 rw [e]at m;rcases cK m with q|m
 ·exact .inl q
 ·refine aC (List.mem_map.mp m:) fun p hp q=>?_
  exact .inr ⟨p,hp,q.symm⟩
theorem kN{names:List (Str×NameKind)}(e:names=t.map (fun p=>(C.nm p.1,p.2))){y:Str×NameKind}(m:y∈names):∃p∈t,y=(C.nm p.1,p.2):=by
 rw [e]at m;refine aC (List.mem_map.mp m:) fun p hp q=>?_
 exact⟨p,hp,q.symm⟩
theorem Ma{a b:Bool}(h:Q3 a b=true):a=b:=by cases a<;>cases b<;>first|rfl|injection h
theorem Hm:∀(l:List IE)(b:List UInt8),oT l b=true→(∀e∈l,∃i:Nat,i<256∧e=.c (i:Int))∧l.map (cz fun Y=>0)=b:=by
 intro l
 induction l with
 |nil=>
  intro b h;rw [bH h];exact⟨(fun Y m=>nomatch m),rfl⟩
 |cons e l ih=>
  intro b h;obtain⟨u,r,rfl,h⟩:=sR h
  obtain⟨i,rfl,h⟩:=tH h
  refine aw (ae h:) fun h h3=>?_
  refine aw (ae h:) fun h1 h4=>?_
  refine aw (ae h3:) fun h2 h3=>?_
  have h2:=aL h2
  refine aw (ih _ h3:) fun k1 k2=>?_
  have hi:i=(i.toNat:Int):=(Int.toNat_of_nonneg ((PySem.W.Z.leB_iff ..).mp h1)).symm
  refine⟨fun e m=>?_,?_⟩
  ·rcases cK m with rfl|m
   ·exact⟨i.toNat,bF h4,congrArg IE.c hi⟩
   ·exact k1 e m
  ·rw [List.map_cons,k2]
   congr 1
   show UInt8.ofNat i.toNat=u;rw [h2];simp
theorem Jl{v:AV}{c:Const}(h:fC v c=true):sr v c:=by
 cases v with
 |none=>rw [GA h];exact .none
 |bool b=>obtain⟨c',rfl,h⟩:=Ct h;rw [Ma h];exact .bool _
 |int e=>
  obtain⟨j,rfl,h⟩:=tJ h
  obtain⟨i,rfl,h⟩:=tH h
  rw [(PySem.W.Z.eqB_iff ..).mp h];exact .int _
 |str l=>obtain⟨s,rfl,h⟩:=tI h;rw [kh h];exact .str _
 |bytes l=>
  obtain⟨b,rfl,h⟩:=Cs h
  refine aw (Hm _ _ h:) fun a b=>?_
  exact .bytes _ _ a b
 |_=>injection h
theorem Ji:∀{ks:List (List Nat)}{xs:List (Option Expr)},fK ks xs=true→jc ks xs
 |[],xs,h=>bH h▸.nil
 |k::ks,xs,h=>by
  obtain⟨o,r,rfl,h⟩:=sR h
  obtain⟨x,rfl,h⟩:=Cn h
  refine aw (ae h:) fun h0 h=>?_
  refine aw (ae h:) fun h1 h=>?_
  refine aC (tI h1:) fun s e h1=>?_
  exact di (fun x=>jc (k::ks) (some x::r)) ((vy h0).trans (congrArg (fun c=>Expr.Constant c _ _) (e.trans (congrArg Const.str (kh h1))))) (.cons (Ji h))
theorem LN{k:Str→Option NameKind}(hk:∀x,k (C.nm x)=hG t x):∀{tg:List Nat}{xs:List Expr}{T T':Tk},Td t tg xs T=some T'→aQ C T'→aQ C T∧JC C k tg xs:=by
 intro tg
 induction tg with
 |nil=>
  intro xs T T' h G;obtain⟨rfl,h⟩:=js h
  injection h with h;subst h;exact⟨G,.nil⟩
 |cons x tg ih=>
  intro xs T T' h G;obtain⟨e,r,rfl,h⟩:=bD h
  refine aw (aB h:) fun h1 h2=>?_
  refine aw (ae h1:) fun h0 h1=>?_
  refine aw (ih h2 G:) fun g f=>?_
  refine aw (g.jN:) fun g q=>?_
  exact⟨g,di (fun e=>JC C k (x::tg) (e::r)) (kP h0) (.cons q (by rw [q,hk];exact t6 h1) f)⟩
theorem Pj{k:Str→Option NameKind}(hk:∀x,k (C.nm x)=hG t x){tg:List Nat}{xt:Expr}(h:fT t tg flat xt T=some T')(G:aQ C T'):aQ C T∧vd C k tg flat xt:=by
 cases flat with
 |true=>
  obtain⟨e,r,rfl,h⟩:=bD h
  refine aw (aB h:) fun h1 h=>?_
  refine aw (ae h1:) fun h2 h1=>?_
  refine aw (ae h1:) fun h0 h1=>?_
  injection h with h;subst h;refine aw (G.jN:) fun g q=>?_
  rw [bH h2];exact⟨g,di (vd C k [e] true) (kP h0) (.one q (by rw [q,hk];exact t6 h1))⟩
 |false=>
  refine aw (aB h:) fun h0 h=>?_
  refine aw (LN hk h G:) fun g f=>?_
  exact⟨g,di (vd C k tg false) (zh h0) (.many f)⟩
def Hf(C:Cx)(kd:Kd)(f:Ff):Prop:=∀e x T T',f e x T=some T'→aQ C T'→aQ C T∧aW C kd e x
theorem mu{f:Ff}(H:Hf C kd f):∀{es:List CE}{xs:List Expr}{T T':Tk},fL f es xs T=some T'→aQ C T'→aQ C T∧c0 C kd es xs:=by
 intro es
 induction es with
 |nil=>
  intro xs T T' h G;obtain⟨rfl,h⟩:=js h
  injection h with h;subst h;exact⟨G,.nil⟩
 |cons e es ih=>
  intro xs T T' h G;obtain⟨x,r,rfl,h⟩:=bD h
  refine aw (aB h:) fun h1 h2=>?_
  refine aC (aY h2:) fun T1 h2 h3=>?_
  refine aw (ih h3 G:) fun g f2=>?_
  refine aw (H _ _ _ _ h2 g:) fun g f1=>?_
  exact⟨g,.cons f1 (fun y p=>n7 h1 rfl) f2⟩
theorem Jg{f:Ff}(H:Hf C kd f){e:Option CE}{x:Option Expr}(h:fO f e x T=some T')(G:aQ C T'):aQ C T∧y4 C kd e x:=by
 cases e with
 |none=>
  refine aw (aB h:) fun h1 h=>?_
  injection h with h;subst h;exact⟨G,iJ h1▸.none⟩
 |some e=>
  obtain⟨y,rfl,h⟩:=aM h
  refine aw (H _ _ _ _ h G:) fun g f1=>?_
  exact⟨g,.some f1⟩
theorem KN{a:Op}{b:Operator}(h:RY a b=true):b=II a:=of_decide_eq_true h
theorem xc{a:Cm}{b:CmpOp}(h:Q1 a b=true):b=m3 a:=of_decide_eq_true h
theorem CB(h:nW x=true):∀xs k p,x≠.Set xs k p:=fun Y Y Y=>n7 h rfl
theorem tR{op:CmpOp}:nW x=true→behindInMarks op x=false:=by
 cases x<;>first|exact fun Y=>rfl|exact fun h=>nomatch h
theorem tQ(h:x9 x=true):∀id p q,x≠.Call (.Name id p) [] [] q:=by
 intro id p q e;rw [e]at h;injection h
theorem CC(h:IQ x=true):∀o n p,x≠.Attribute o n p:=fun Y Y Y=>n7 h rfl
theorem kr(SO:eV C S){d:Nat}{s:Str}(hd:C.nm d=s)(h:(!Nat.beq y d)=true):(C.nm y==s)=false:=by
 cases q:(C.nm y==s)with
 |false=>rfl
 |true=>
  have:=beq_iff_eq.mp q
  rw [←hd]at this;rw [SO.inj _ _ this,Nat.beq_refl]at h;injection h
theorem D6(SO:eV C S)(R:KR C kd K){sc:Scope}(e:sc.names=jE::t.map (fun p=>(C.nm p.1,p.2))):KR C (cC kd sc) ⟨qH K.t t,K.lam⟩:=by
 refine⟨fun x=>?_,R.lam⟩
 show((sc.names.map fun(p:Str×NameKind)=>if(p.2==NameKind.free&&kd.k p.1==some NameKind.cell)then(p.1,NameKind.cell)else(p.1,p.2)).lookup (C.nm x))=hG (qH K.t t) x
 rw [←iH SO x,e,List.map_cons];unfold qH;rw [List.map_map,List.map_map];have h0:(if(jE.2==NameKind.free&&kd.k jE.1==some NameKind.cell)=true then(jE.1,NameKind.cell)else(jE.1,jE.2))=jE:=by
  rw [show(jE.2==NameKind.free)=false from rfl];simp
 simp only[h0]
 congr 2
 refine List.map_congr_left fun p Y=>?_
 simp only[Function.comp]
 rw [R.k];have h1:(p.2==NameKind.free)=Nat.beq (kB p.2) 2:=by cases p.2<;>rfl
 have h2:(hG K.t p.1==some NameKind.cell)=i0 (hG K.t p.1) 1:=by
  cases hG K.t p.1 with
  |none=>rfl
  |some k=>cases k<;>rfl
 rw [h1,h2];cases (Nat.beq (kB p.2) 2&&i0 (hG K.t p.1) 1)<;>rfl
end
section
theorem rO{a b:Bool}(h:(!a||b)=true)(ha:a=true):b=true:=by subst ha;exact h
theorem w9{kd:Kd}{K:qR}(SO:eV C S)(R:KR C kd K){tg:List Nat}{xi:Expr}{sc:Scope}(e:sc.names=jE::t.map (fun p=>(C.nm p.1,p.2)))(h:xa K.t t tg xi sc=true):
  sc.kind=.function∧(∀y∈sc.names,y.2≠.cell)∧(∀y∈sc.names,y.2=.local→sc.names.lookup y.1=some .local)∧(∀y∈sc.names,y.2=.free→kd.k y.1=some .cell∨kd.k y.1=some .free)∧(∀x,sc.names.lookup (C.nm x)=some .local→x∈tg)∧(∀x k p,xi≠.Set x k p)∧sc.isCoroutine=false∧sc.isGenerator=false:=by
 unfold xa at h;refine aw (ae h:) fun h1 h=>?_
 refine aw (ae h:) fun h2 h=>?_
 refine aw (ae h:) fun h3 h=>?_
 refine aw (ae h:) fun h4 h=>?_
 refine aw (ae h:) fun h5 h=>?_
 refine aw (ae h:) fun h6 h=>?_
 refine aw (ae h:) fun h7 h8=>?_
 refine⟨?_,fun y m=>?_,fun y m q=>?_,fun y m q=>?_,fun x q=>?_,?_,dA h7,dA h8⟩
 ·revert h1;cases sc.kind<;>first|exact fun Y=>rfl|exact fun h=>nomatch h
 ·rcases m5 e m with rfl|⟨p,hp,rfl⟩
  ·intro q;injection q
  ·exact C6 rfl (bT h2 p hp)
 ·rcases m5 e m with rfl|⟨p,hp,rfl⟩
  ·rw [e];exact List.lookup_cons_self
  ·have q:p.2=.local:=q
   have:=bT h3 p hp
   rw [q]at this;rw [e,iH SO];exact t6 this
 ·rcases m5 e m with rfl|⟨p,hp,rfl⟩
  ·injection q
  ·have q:p.2=.free:=q
   have:=bT h4 p hp
   rw [q]at this;show kd.k (C.nm p.1)=_∨kd.k (C.nm p.1)=_;rw [R.k];exact(fS (rO this rfl)).imp C5 Gr
 ·rw [e,iH SO]at q
  have key:∀t:kF,t.all (fun p=>!Nat.beq (kB p.2) 0||gF p.1 tg)=true→hG t x=some .local→x∈tg:=by
   intro t
   induction t with
   |nil=>intro _ q;injection q
   |cons p r ih=>
    intro h q;rw [List.all_cons]at h;refine aw (ae h:) fun a b=>?_
    unfold hG at q;cases z:Nat.beq p.1 x with
    |true=>
     rw [z]at q;cases aL z;have q:p.2=.local:=bg q
     rw [q]at a;exact ju a
    |false=>rw [z]at q;exact ih b q
  exact key t h5 q
 ·intro x k p q;rw [q]at h6;injection h6
section
variable{kd:Kd}{K:qR}{f:Ff}{T T':Tk}
theorem nG(H:Hf C kd f){b:CE}{y:Expr}(h:sQ f a x T (fun T=>f b y T)=some T')(G:aQ C T'):aQ C T∧aW C kd a x∧aW C kd b y:=by
 refine aC (aY h:) fun T1 h1 h2=>?_
 refine aw (H _ _ _ _ h2 G:) fun g f2=>?_
 refine aw (H _ _ _ _ h1 g:) fun g f1=>?_
 exact⟨g,f1,f2⟩
theorem ji(H:Hf C kd f){b c:CE}{y z:Expr}(h:sQ f a x T (fun T=>sQ f b y T fun T=>f c z T)=some T')(G:aQ C T'):aQ C T∧aW C kd a x∧aW C kd b y∧aW C kd c z:=by
 refine aC (aY h:) fun T1 h1 h2=>?_
 refine aw (nG H h2 G:) fun g f2=>?_
 refine aw (H _ _ _ _ h1 g:) fun g f1=>?_
 exact⟨g,f1,f2⟩
theorem yg(H:Hf C kd f){xs:List Expr}(h:sQ f a x T (fun T=>fL f es xs T)=some T')(G:aQ C T'):aQ C T∧aW C kd a x∧c0 C kd es xs:=by
 refine aC (aY h:) fun T1 h1 h2=>?_
 refine aw (mu H h2 G:) fun g f2=>?_
 refine aw (H _ _ _ _ h1 g:) fun g f1=>?_
 exact⟨g,f1,f2⟩
theorem Oi(SO:eV C S)(R:KR C kd K)(h:U3 S K y x T=some T')(G:aQ C T'):aQ C T∧aW C kd (.n y) x:=by
 refine aw (aB h:) fun h1 h=>?_
 refine aw (ae h1:) fun h0 h1=>?_
 refine aw (ae h1:) fun h1 h2=>?_
 refine aw (ae h2:) fun a b=>?_
 injection h with h;subst h;refine aw (G.jN:) fun g e=>?_
 refine⟨g,di (aW C kd (.n y)) (kP h0) (.nm e ?_ (by rw [e];exact kr SO SO.d1 a) (by rw [e];exact kr SO SO.d2 b))⟩
 unfold gZ;rw [e,R.k];exact(fS h1).imp t6 fun h=>(fS h).imp C5 Gr
theorem LG(SO:eV C S)(R:KR C kd K)(h:Pp S K y x T=some T')(G:aQ C T'):aQ C T∧aW C kd (.eZ y) x:=by
 refine aw (aB h:) fun h1 h=>?_
 refine aw (ae h1:) fun h0 h1=>?_
 refine aw (ae h1:) fun h1 h2=>?_
 injection h with h;subst h;refine aw (G.jN:) fun g e=>?_
 exact⟨g,di (aW C kd (.eZ y)) (kP h0) (.eZ e (by rw [e,R.k];exact Lj h1) (by rw [e];exact kr SO SO.d1 h2))⟩
theorem J5{v:AV}(h:ck (cY x 19&&fC v (vX x).c) (some T)=some T')(G:aQ C T'):aQ C T∧aW C kd (.val v) x:=by
 refine aw (aB h:) fun h1 h=>?_
 refine aw (ae h1:) fun h0 h1=>?_
 injection h with h;subst h;exact⟨G,di (aW C kd (.val v)) (vy h0) (.val (Jl h1))⟩
theorem J9(H:Hf C kd f)(h:ck (cY x 25) (fL f es (vX x).xs T)=some T')(G:aQ C T'):aQ C T∧aW C kd (.t es) x:=by
 refine aw (aB h:) fun h0 h=>?_
 refine aw (mu H h G:) fun g f=>?_
 exact⟨g,di (aW C kd (.t es)) (zh h0) (.t f)⟩
theorem Gm(H:Hf C kd f)(h:ck (cY x 24) (fL f es (vX x).xs T)=some T')(G:aQ C T'):aQ C T∧aW C kd (.list es) x:=by
 refine aw (aB h:) fun h0 h=>?_
 refine aw (mu H h G:) fun g f=>?_
 exact⟨g,di (aW C kd (.list es)) (M9 h0) (.list f)⟩
theorem L3(H:Hf C kd f){ks:List (List Nat)}(h:ck (cY x 6&&(fK ks (vX x).kx&&(Nat.beq ks.length es.length&&(rH ks&&Nat.ble ks.length 15)))) (fL f es (vX x).xs T)=some T')(G:aQ C T'):aQ C T∧aW C kd (.eF ks es) x:=by
 refine aw (aB h:) fun h1 h=>?_
 refine aw (ae h1:) fun h0 h1=>?_
 refine aw (ae h1:) fun a h1=>?_
 refine aw (ae h1:) fun b h1=>?_
 refine aw (ae h1:) fun c d=>?_
 refine aw (mu H h G:) fun g f=>?_
 exact⟨g,di (aW C kd (.eF ks es)) (Nb h0) (.eF (Ji a) f (aL b) (qi c) (bF d))⟩
theorem Mb(H:Hf C kd f){op:Op}{b:CE}(h:ck (cY x 2&&RY op (vX x).op) (sQ f a (vX x).a T fun T=>f b (vX x).b T)=some T')(G:aQ C T'):aQ C T∧aW C kd (.bin op a b) x:=by
 refine aw (aB h:) fun h1 h=>?_
 refine aw (ae h1:) fun h0 h1=>?_
 refine dN (nG H h G:) fun g f1 f2=>?_
 exact⟨g,di (aW C kd (.bin op a b)) ((Rh h0).trans (congrArg (fun o=>Expr.BinOp _ o _ _) (KN h1))) (.bin f1 f2)⟩
theorem L5(H:Hf C kd f){op:Cm}{b:CE}(h:Pr f op a b x T=some T')(G:aQ C T'):aQ C T∧aW C kd (.cmp op a b) x:=by
 refine aw (aB h:) fun h0 h=>?_
 refine eM (bD h:) fun q cs ec h=>?_
 refine eM (bD h:) fun r rs er h=>?_
 refine aw (aB h:) fun h1 h=>?_
 refine aw (ae h1:) fun n1 h1=>?_
 refine aw (ae h1:) fun n2 h1=>?_
 refine aw (ae h1:) fun h1 h4=>?_
 refine dN (nG H h G:) fun g f1 f2=>?_
 have e:=Nc h0
 rw [ec,er,bH n1,bH n2,xc h1]at e;exact⟨g,di (aW C kd (.cmp op a b)) e (.cmp f1 f2 (tR h4))⟩
theorem Ea(H:Hf C kd f){op jU:Cm}{b c:CE}(h:DP f op a b jU c x T=some T')(G:aQ C T'):aQ C T∧aW C kd (.chain op a b jU c) x:=by
 refine aw (aB h:) fun h0 h=>?_
 refine eM (bD h:) fun q cs ec h=>?_
 refine eM (bD h:) fun q' E0 Xy h=>?_
 refine eM (bD h:) fun r rs er h=>?_
 refine eM (bD h:) fun r' XQ Xx h=>?_
 refine aw (aB h:) fun h1 h=>?_
 refine aw (ae h1:) fun n1 h1=>?_
 refine aw (ae h1:) fun n2 h1=>?_
 refine aw (ae h1:) fun h1 h2=>?_
 refine aw (ae h2:) fun h2 h4=>?_
 refine lN (ji H h G:) fun g f1 f2 f3=>?_
 have e:=Nc h0
 rw [ec,er,Xy,Xx,bH n1,bH n2,xc h1,xc h2]at e;exact⟨g,di (aW C kd (.chain op a b jU c)) e (.chain f1 f2 f3 (tR h4))⟩
theorem HR(H:Hf C kd f)(h:yH f .And es x T=some T')(G:aQ C T'):aQ C T∧aW C kd (.and es) x:=by
 refine aw (aB h:) fun h1 h=>?_
 refine aw (ae h1:) fun h0 h1=>?_
 refine aw (mu H h G:) fun g f=>?_
 exact⟨g,di (aW C kd (.and es)) ((Io h0).trans (congrArg (fun o=>Expr.BoolOp o _ _) (of_decide_eq_true h1))) (.and f)⟩
theorem KL(H:Hf C kd f)(h:yH f .Or es x T=some T')(G:aQ C T'):aQ C T∧aW C kd (.or es) x:=by
 refine aw (aB h:) fun h1 h=>?_
 refine aw (ae h1:) fun h0 h1=>?_
 refine aw (mu H h G:) fun g f=>?_
 exact⟨g,di (aW C kd (.or es)) ((Io h0).trans (congrArg (fun o=>Expr.BoolOp o _ _) (of_decide_eq_true h1))) (.or f)⟩
theorem Gd(H:Hf C kd f)(h:QZ f .Not a x T=some T')(G:aQ C T'):aQ C T∧aW C kd (.not a) x:=by
 refine aw (aB h:) fun h1 h=>?_
 refine aw (ae h1:) fun h0 h1=>?_
 refine aw (H _ _ _ _ h G:) fun g f=>?_
 exact⟨g,di (aW C kd (.not a)) ((Rc h0).trans (congrArg (fun o=>Expr.UnaryOp o _ _) (of_decide_eq_true h1))) (.not f)⟩
theorem Gh(H:Hf C kd f)(h:QZ f .USub a x T=some T')(G:aQ C T'):aQ C T∧aW C kd (.neg a) x:=by
 refine aw (aB h:) fun h1 h=>?_
 refine aw (ae h1:) fun h0 h1=>?_
 refine aw (H _ _ _ _ h G:) fun g f=>?_
 exact⟨g,di (aW C kd (.neg a)) ((Rc h0).trans (congrArg (fun o=>Expr.UnaryOp o _ _) (of_decide_eq_true h1))) (.neg f)⟩
theorem Gy(H:Hf C kd f){t b:CE}(h:ck (cY x 5) (sQ f t (vX x).a T fun T=>sQ f a (vX x).b T fun T=>f b (vX x).d T)=some T')(G:aQ C T'):aQ C T∧aW C kd (.ite t a b) x:=by
 refine aw (aB h:) fun h0 h=>?_
 refine lN (ji H h G:) fun g f1 f2 f3=>?_
 exact⟨g,di (aW C kd (.ite t a b)) (VE h0) (.ite f1 f2 f3)⟩
theorem Ez(SO:eV C S)(H:Hf C kd f){o:CE}(h:ck (cY x 20&&(gF y S.attrs&&x9 (vX x).a)) (f o (vX x).a (jN T (vX x).s y))=some T')(G:aQ C T'):aQ C T∧aW C kd (.attr o y) x:=by
 refine aw (aB h:) fun h1 h=>?_
 refine aw (ae h1:) fun h0 h1=>?_
 refine aw (ae h1:) fun h1 h2=>?_
 refine aw (H _ _ _ _ h G:) fun g f=>?_
 refine aw (g.jN:) fun g e=>?_
 exact⟨g,di (aW C kd (.attr o y)) (Bt h0) (.attr e (SO.attrs _ h1) (tQ h2) f)⟩
theorem GG(H:Hf C kd f){o i:CE}(h:ck (cY x 21) (sQ f o (vX x).a T fun T=>f i (vX x).b T)=some T')(G:aQ C T'):aQ C T∧aW C kd (.idx o i) x:=by
 refine aw (aB h:) fun h0 h=>?_
 refine dN (nG H h G:) fun g f1 f2=>?_
 exact⟨g,di (aW C kd (.idx o i)) (zi h0) (.idx f1 f2)⟩
theorem FD(H:Hf C kd f){o:CE}{lo hi:Option CE}(h:Pk f o lo hi x T=some T')(G:aQ C T'):aQ C T∧aW C kd (.iE o lo hi) x:=by
 refine aw (aB h:) fun h1 h=>?_
 refine aw (ae h1:) fun h0 h1=>?_
 refine aw (ae h1:) fun h1 h2=>?_
 refine aC (aY h:) fun T1 h3 h=>?_
 refine aC (aY h:) fun T2 h4 h5=>?_
 refine aw (Jg H h5 G:) fun g f3=>?_
 refine aw (Jg H h4 g:) fun g f2=>?_
 refine aw (H _ _ _ _ h3 g:) fun g f1=>?_
 exact⟨g,di (aW C kd (.iE o lo hi)) ((zi h0).trans (congrArg (fun b=>Expr.Subscript _ b _) ((Rd h1).trans (congrArg (fun t=>Expr.Slice _ _ t _) (iJ h2))))) (.iE f1 f2 f3)⟩
theorem FP(H:Hf C kd f){o:CE}(h:Pl f o x T=some T')(G:aQ C T'):aQ C T∧aW C kd (.rev o) x:=by
 refine aw (aB h:) fun h1 h=>?_
 refine aw (ae h1:) fun h0 h1=>?_
 refine aw (ae h1:) fun h1 h2=>?_
 refine aw (ae h2:) fun h2 h3=>?_
 refine aC (aM h:) fun y ey h=>?_
 refine aw (aB h:) fun h4 h=>?_
 refine aw (ae h4:) fun h4 h5=>?_
 refine aw (ae h5:) fun h5 h6=>?_
 refine aw (ae h6:) fun h6 h7=>?_
 refine aC (tJ h7:) fun i ei h7=>?_
 refine aw (H _ _ _ _ h G:) fun g f1=>?_
 have e1:=vy h6
 rw [ei,←(PySem.W.Z.eqB_iff ..).mp h7]at e1;have e2:=Rc h4
 rw [of_decide_eq_true h5,e1]at e2;have e3:=Rd h1
 rw [iJ h2,iJ h3,ey]at e3;exact⟨g,di (aW C kd (.rev o)) ((zi h0).trans (congrArg (fun b=>Expr.Subscript _ b _) (e3.trans (congrArg (fun t=>Expr.Slice none none (some t) _) e2)))) (.rev f1)⟩
theorem Eg(H:Hf C kd f){p:CE}(h:Jk f p es x T=some T')(G:aQ C T'):aQ C T∧aW C kd (.call p es) x:=by
 refine aw (aB h:) fun h1 h=>?_
 refine aw (ae h1:) fun h0 h1=>?_
 refine aw (ae h1:) fun h1 h2=>?_
 refine dN (yg H h G:) fun g f1 f2=>?_
 exact⟨g,di (aW C kd (.call p es)) ((Bs h0).trans (congrArg (fun k=>Expr.Call _ _ k _) (bH h1))) (.call f1 (CC h2) f2)⟩
theorem CL(SO:eV C S)(H:Hf C kd f){o:CE}(h:Jh S f o y es x T=some T')(G:aQ C T'):aQ C T∧aW C kd (.bG o y es) x:=by
 refine aw (aB h:) fun h1 h=>?_
 refine aw (ae h1:) fun h0 h1=>?_
 refine aw (ae h1:) fun h2 h1=>?_
 refine aw (ae h1:) fun h3 h1=>?_
 refine aw (ae h1:) fun h1 h4=>?_
 refine aw (ae h4:) fun h4 h5=>?_
 refine aw (ae h5:) fun h5 h6=>?_
 refine dN (yg H h G:) fun g f1 f2=>?_
 refine aw (g.jN:) fun g e=>?_
 have q:=Bs h0
 rw [bH h2]at q;exact⟨g,di (aW C kd (.bG o y es)) (q.trans (congrArg (fun a=>Expr.Call a _ _ _) (Bt h3))) (.bG e (SO.attrs _ h1) (tQ h4) f1 f2 (bF h5) (by rw [aL h6];exact beq_self_eq_true _))⟩
theorem D5(SO:eV C S)(R:KR C kd K)(H:Hf C kd f){f':kF→Ff}(H':∀t Su,KR C Su ⟨qH K.t t,K.lam⟩→Hf C Su (f' t)){elt it:CE}{tg:List Nat}{ifs:List CE}{g:Comprehension}{p:kF×List Nat×Tk}
  (hp:mF T (xO (vX x).sc.names)=some p)(e:x=.ListComp (vX x).a [g] (vX x).sc (vX x).p)(h:Jj f (f' p.1) K elt tg flat it ifs x g p=some T')(G:aQ C T'):aQ C T∧aW C kd (.comp elt tg flat it ifs) x:=by
 obtain⟨t,l,T1⟩:=p
 obtain⟨gt,gi,gf,ga⟩:=g
 refine aw (aB h:) fun h1 h=>?_
 refine aw (ae h1:) fun h0 h1=>?_
 refine aw (ae h1:) fun ha h1=>?_
 refine aC (aY h:) fun T2 h2 h=>?_
 refine aC (aY h:) fun T3 h3 h=>?_
 refine aC (aY h:) fun T4 h4 h=>?_
 refine aC (aY h:) fun T5 h5 h=>?_
 injection h with h;subst h;refine aw (x6 hp h0 G:) fun c ec=>?_
 refine UA (w9 SO R ec h1:) fun c1 c2 c3 c4 c5 c6 c7 c8=>?_
 have HC:=H' t _ (D6 SO R ec)
 refine aw (mu HC h5 c:) fun c f4=>?_
 refine aw (HC _ _ _ _ h4 c:) fun c f3=>?_
 refine aw (H _ _ _ _ h3 c:) fun c f2=>?_
 refine aw (Pj (k:=fun n=>(vX x).sc.names.lookup n) (fun x=>by rw [ec];exact iH SO x t) h2 c:) fun c f1=>?_
 rw [←(show(0:Int)=ga from(PySem.W.Z.eqB_iff ..).mp ha)]at e
 exact⟨jL hp c,di (aW C kd (.comp elt tg flat it ifs)) e (ak.PZ ⟨_,_,_,_,_,_,rfl,⟨f1,f2,f3,f4,c1,c2,c3,c4,c5,c6,c7,c8⟩⟩)⟩
theorem Gq(R:KR C kd K){bR:List Nat}(h:Po K k bR x T=some T')(G:aQ C T'):aQ C T∧aW C kd (.lam k bR) x:=by
 refine aw (aB h:) fun h0 h=>?_
 obtain⟨⟨t,l,T1⟩,hp,h⟩:=aM h
 refine aw (aB h:) fun h1 h=>?_
 refine aw (ae h1:) fun hl h1=>?_
 injection h with h;subst h;refine aw (mT hp G:) fun g e=>?_
 have gl:=g.2.1 _ bS
 have g:=jL (C:=C) hp ⟨g.1,fun r m=>g.2.1 r (cq _ m),g.2.2⟩
 unfold OL at h1;refine aw (ae h1:) fun a1 h1=>?_
 refine aw (ae h1:) fun a2 h1=>?_
 refine aw (ae h1:) fun a3 a4=>?_
 refine⟨g,di (aW C kd (.lam k bR)) (Rf h0) (.lam ⟨R.lam hl,fun env=>?_,gl.1,fun y m q=>?_,fun x m=>?_,fun y m q=>?_,gl.2⟩)⟩
 ·revert a1
  generalize (vX x).ar=params
  intro a1;cases params with
  |mk p a v ko kd kw df=>
   cases df<;>cases kd<;>first|rfl|injection a1
 ·obtain⟨p,hp,rfl⟩:=kN e m
  have q:p.2=.free:=q
  have:=bT a2 p hp
  rw [q]at this;show kd.k (C.nm p.1)=_∨kd.k (C.nm p.1)=_;rw [R.k];exact(fS (rO this rfl)).imp C5 Gr
 ·have:=bT a3 x m
  refine aC (List.any_eq_true.mp this:) fun p hp q=>?_
  refine aw (ae q:) fun q1 q2=>?_
  rw [e];refine List.mem_map.mpr ⟨p,hp,?_⟩;rw [aL q1,show p.2=NameKind.free from lZ (aL q2)]
 ·obtain⟨p,hp,rfl⟩:=kN e m
  have q:p.2=.free:=q
  have:=bT a4 p hp
  rw [q]at this;exact⟨p.1,ju this,rfl⟩
theorem HM(h:ck (nW x) (some T)=some T')(G:aQ C T'):aQ C T∧aW C kd (.bad n) x:=by
 refine aw (aB h:) fun h1 h=>?_
 injection h with h;subst h;exact⟨G,.bad (CB h1)⟩
end
theorem mv(SO:eV C S):∀(n:Nat)(K:qR)(kd:Kd),KR C kd K→Hf C kd (fE S n K):=by
 intro n
 induction n with
 |zero=>intro K kd R e x T T' h;injection h
 |succ n ih=>
  intro K kd R e;have H:=ih K kd R
  cases e with
  |n y=>exact fun x T T'=>Oi SO R
  |val v=>exact fun x T T'=>J5
  |t es=>exact fun x T T'=>J9 H
  |list es=>exact fun x T T'=>Gm H
  |eF ks es=>exact fun x T T'=>L3 H
  |bin op a b=>exact fun x T T'=>Mb H
  |cmp op a b=>exact fun x T T'=>L5 H
  |chain op a b jU c=>exact fun x T T'=>Ea H
  |and es=>exact fun x T T'=>HR H
  |or es=>exact fun x T T'=>KL H
  |not a=>exact fun x T T'=>Gd H
  |neg a=>exact fun x T T'=>Gh H
  |ite t a b=>exact fun x T T'=>Gy H
  |attr o y=>exact fun x T T'=>Ez SO H
  |idx o i=>exact fun x T T'=>GG H
  |iE o lo hi=>exact fun x T T'=>FD H
  |rev o=>exact fun x T T'=>FP H
  |call f es=>exact fun x T T'=>Eg H
  |bG o y es=>exact fun x T T'=>CL SO H
  |comp elt tg flat it ifs=>
   intro x T T' h G;refine aw (aB h:) fun h0 h=>?_
   refine eM (bD h:) fun g gs eg h=>?_
   refine aw (aB h:) fun h1 h=>?_
   refine aC (aM h:) fun p hp h=>?_
   exact D5 SO R H (f':=fun t=>fE S n ⟨qH K.t t,K.lam⟩) (fun t Su R'=>ih _ _ R') hp ((Uo h0).trans (congrArg (fun g=>Expr.ListComp _ g _ _) (eg.trans (congrArg (g::·) (bH h1))))) h G
  |gM=>exact fun x T T' h=>nomatch h
  |lam k bR=>exact fun x T T'=>Gq R
  |eZ y=>exact fun x T T'=>LG SO R
  |bad n=>exact fun x T T'=>HM
end
set_option genSizeOf false
set_option genInjectivity false
def zu(t:kF)(cs:Bool)(x:Nat):Bool:=i0 (hG t x) 0||(cs&&i0 (hG t x) 1)
noncomputable def GY(t:kF)(cs:Bool):List Nat→List Expr→Tk→Option Tk
 |[],xs,T=>zK xs (some T)
 |x::tg,xs,T=>kg xs fun e xs=>ck (cY e 23&&zu t cs x) (GY t cs tg xs (jN T (vX e).s x))
def Jf(t:kF)(cs:Bool)(tg:List Nat)(flat:Bool)(xt:Expr)(T:Tk):Option Tk:=match flat with
 |true=>kg tg fun x r=>ck (isNil r&&(cY xt 23&&zu t cs x)) (some (jN T (vX xt).s x))
 |false=>ck (cY xt 25) (GY t cs tg (vX xt).xs T)
def nX(x:Expr):Bool:=!cY x 8&&(!cY x 9&&!cY x 10)
def IM(x:Expr):Bool:=!cY x 25
noncomputable def kZ(l:Nat):List Expr→Bool
 |[]=>true
 |x::r=>Nat.beq (vX x).p.line l&&kZ l r
def wk(ts:List Expr):Nat:=match ts with|x::_=>(vX x).p.line|[]=>0
def Rv(t:kF)(xs:List Nat)(ts:List Expr)(ex:Expr):Bool:=match cY ex 25 with
 |true=>(vX ex).xs.all (foldedForSure 8)||(!(Nat.beq xs.length 2||Nat.beq xs.length 3)||(xs.all (fun x=>i0 (hG t x) 0)&&(kZ (wk ts) ts&&(!(vX ex).xs.all (constantsAlone 8)&&gC xs))))
 |false=>true
noncomputable def yA(T:Tk):List Nat:=match T.vE with|l::_=>l|[]=>[]
def Ei(x:Expr):Bool:=cY x 16&&(isNil (vX x).kw&&cY (vX x).a 23)
def GR(S:Sp)(n:Nat)(K:qR)(kind:Nat)(it:CE)(x:Expr)(T:Tk):Option Tk:=match kind with
 |0=>fE S n K it x T
 |1=>kg (vX x).xs fun y r=>ck (Ei x&&(isNil r&&(i0 (hG K.t S.en) 3&&noStar y))) (fE S n K it y (jN T (vX (vX x).a).s S.en))
 |2=>kg (vX x).xs fun y r=>kg r fun z r=>ck (Ei x&&(isNil r&&(i0 (hG K.t S.zp) 3&&Nat.beq it.ctorIdx 2))) (fE S n K it (.Tuple [y,z] 0 default) (jN T (vX (vX x).a).s S.zp))
 |_=>none
def Mt(S:Sp)(n:Nat)(K:qR)(y:Nat)(e:CE)(ex:Expr)(T:Tk):Option Tk:=match Nat.beq e.ctorIdx 19 with
 |true=>ck (!gF y (yA T)) (fE S n K e ex T)
 |false=>ck (nX ex) (fE S n K e ex T)
structure SV where
 a:Expr
 b:Expr
 ts:List Expr
 o:Option Expr
 ys:List Stmt
 zs:List Stmt
 ws:List Stmt
 hs:List ExceptHandler
 p:Pos
 nm:Str
 ar:Arguments
 sc:Scope
 ns:List Str
noncomputable def s0:SV:=⟨default,default,[],none,[],[],[],[],default,default,default,default,[]⟩
def vS:Stmt→SV
 |.FunctionDef n r ys _ _ _ s _ _ p=>{s0 with nm:=n,ar:=r,ys:=ys,sc:=s,p:=p}
 |.AsyncFunctionDef _ _ _ _ _ _ _ _ _ _=>s0
 |.ClassDef n bs _ ys _ _ s _ _ ns p=>{s0 with nm:=n,ys:=ys,ts:=bs,sc:=s,ns:=ns,p:=p}
 |.Return o p=>{s0 with o:=o,p:=p}
 |.Delete _ _=>s0
 |.Assign ts a p=>{s0 with ts:=ts,a:=a,p:=p}
 |.TypeAlias _ _ _ _ _ _ _=>s0
 |.AugAssign _ _ _ _=>s0
 |.AnnAssign _ _ _ _ _=>s0
 |.For a b ys zs p=>{s0 with a:=a,b:=b,ys:=ys,zs:=zs,p:=p}
 |.AsyncFor _ _ _ _ _=>s0
 |.While a ys zs p=>{s0 with a:=a,ys:=ys,zs:=zs,p:=p}
 |.If a ys zs p=>{s0 with a:=a,ys:=ys,zs:=zs,p:=p}
 |.With _ _ _=>s0
 |.AsyncWith _ _ _=>s0
 |.Match _ _ _=>s0
 |.Raise _ _ _=>s0
 |.Try ys hs zs ws p=>{s0 with ys:=ys,hs:=hs,zs:=zs,ws:=ws,p:=p}
 |.TryStar _ _ _ _ _=>s0
 |.Assert _ _ _=>s0
 |.Import _ _=>s0
 |.ImportFrom _ _ _ _=>s0
 |.Global _ _=>s0
 |.Nonlocal _ _=>s0
 |.Expr a p=>{s0 with a:=a,p:=p}
 |.Pass _=>s0
 |.Break _=>s0
 |.Continue _=>s0
noncomputable def Vx(x:Stmt)(v:SV):List Prop:=[True,True,True,x=.Return v.o v.p,True,x=.Assign v.ts v.a v.p,True,True,True,x=.For v.a v.b v.ys v.zs v.p,True,x=.While v.a v.ys v.zs v.p,x=.If v.a v.ys v.zs v.p,True,True,True,True,x=.Try v.ys v.hs v.zs v.ws v.p,
 True,True,True,True,True,True,x=.Expr v.a v.p]
theorem ts(x:Stmt):zI (Vx x (vS x)) x.ctorIdx:=by cases x<;>first|exact rfl|exact trivial
noncomputable def gm(x:Stmt)(k:Nat):Bool:=Nat.beq x.ctorIdx k
theorem iI{x:Stmt}(h:gm x k=true):zI (Vx x (vS x)) k:=aL h▸ts x
abbrev Fx:=CS→Stmt→Tk→Option Tk
noncomputable def A5(f:Fx):List CS→List Stmt→Tk→Option Tk
 |[],xs,T=>zK xs (some T)
 |e::es,xs,T=>kg xs fun x xs=>(f e x T).bind fun T=>A5 f es xs T
def Mu(x:Stmt)(g:Expr→Option Tk):Option Tk:=ck (gm x 5) (kg (vS x).ts fun t r=>ck (isNil r) (g t))
def AM(x:Stmt)(b:Bool)(g:Expr→Option Tk):Option Tk:=Mu x fun t=>ck (b&&nX (vS x).a) (g t)
def Nd(S:Sp)(n:Nat)(K:qR)(cs:Bool)(y:Nat)(e:CE)(x:Stmt)(T:Tk):Option Tk:=Mu x fun t=>ck (cY t 23&&zu K.t cs y) (Mt S n K y e (vS x).a (jN T (vX t).s y))
def Ip(K:qR)(cs:Bool)(f:Ff)(ys:List Nat)(e:CE)(x:Stmt)(T:Tk):Option Tk:=AM x true fun t=>ck (cY t 25&&Rv K.t ys (vX t).xs (vS x).a) ((GY K.t cs ys (vX t).xs T).bind fun T=>f e (vS x).a T)
def Bx(K:qR)(cs:Bool)(f:Ff)(o i:CE)(y:Nat)(e:CE)(x:Stmt)(T:Tk):Option Tk:=AM x (zu K.t cs y&&IM (vS x).a) fun t=>ck (cY t 25) (kg (vX t).xs fun q r=>kg r fun n r=>ck (isNil r&&(cY q 21&&cY n 23)) (sQ f o (vX q).a (jN T (vX n).s y) fun T=>sQ f i (vX q).b T fun T=>f e (vS x).a T))
def Iu(S:Sp)(f:Ff)(o:CE)(y:Nat)(e:CE)(x:Stmt)(T:Tk):Option Tk:=AM x (gF y S.attrs) fun t=>ck (cY t 20) (sQ f o (vX t).a (jN T (vX t).s y) fun T=>f e (vS x).a T)
def Ir(f:Ff)(o i e:CE)(x:Stmt)(T:Tk):Option Tk:=AM x true fun t=>ck (cY t 21) (sQ f o (vX t).a T fun T=>sQ f i (vX t).b T fun T=>f e (vS x).a T)
def Iq(f:Ff)(o lo hi e:CE)(x:Stmt)(T:Tk):Option Tk:=AM x true fun t=>ck (cY t 21&&(cY (vX t).b 26&&ua (vX (vX t).b).t)) (gg (vX (vX t).b).l fun l=>gg (vX (vX t).b).u fun u=>sQ f o (vX t).a T fun T=>sQ f lo l T fun T=>sQ f hi u T fun T=>f e (vS x).a T)
noncomputable def valOf(e:CE):AV:=match e with|.val v=>v|_=>.none
def yo(e:CE):Bool:=Nat.beq e.ctorIdx 1&&Nat.beq (valOf e).ctorIdx 0
def M8(f:Ff)(e:CE)(x:Stmt)(T:Tk):Option Tk:=ck (gm x 3) (match(vS x).o with
 |some y=>f e y T
 |none=>ck (yo e) (some T))
def Na(S:Sp)(n:Nat)(K:qR)(cs:Bool)(f:Fx)(tg:List Nat)(flat:Bool)(kind:Nat)(it:CE)(b:List CS)(x:Stmt)(T:Tk):Option Tk:=ck (gm x 9&&(isNil (vS x).zs&&(Nat.beq kind 0||!flat)))
 ((Jf K.t cs tg flat (vS x).a T).bind fun T=>(GR S n K kind it (vS x).b T).bind fun T=>A5 f b (vS x).ys T)
noncomputable def fX(S:Sp):Nat→qR→Bool→CS→Stmt→Tk→Option Tk
 |0,_,_,_,_,_=>none
 |n+1,K,cs,c,x,T=>match c with
  |.b8 y e=>Nd S n K cs y e x T
  |.cQ ys e=>Ip K cs (fE S n K) ys e x T
  |.aT o y e=>Iu S (fE S n K) o y e x T
  |.jZ o i e=>Ir (fE S n K) o i e x T
  |.i9 o lo hi e=>Iq (fE S n K) o lo hi e x T
  |.iX o i y e=>Bx K cs (fE S n K) o i y e x T
  |.ex e=>ck (gm x 24&&nX (vS x).a) (fE S n K e (vS x).a T)
  |.ret e=>M8 (fE S n K) e x T
  |.ite t a b=>ck (gm x 12) (sQ (fE S n K) t (vS x).a T fun T=>(A5 (fX S n K cs) a (vS x).ys T).bind fun T=>A5 (fX S n K cs) b (vS x).zs T)
  |.for tg flat kind it b=>Na S n K cs (fX S n K cs) tg flat kind it b x T
  |.hH ..=>none
  |.while t b=>ck (gm x 11&&isNil (vS x).zs) (sQ (fE S n K) t (vS x).a T fun T=>A5 (fX S n K cs) b (vS x).ys T)
  |.try b=>ck (gm x 17&&(!isNil (vS x).hs&&(isNil (vS x).zs&&isNil (vS x).ws))) (A5 (fX S n K cs) b (vS x).ys T)
  |.pass=>none
  |.bad _=>some T
structure FE where
 k:Nat
 i:Nat
 j:Option Nat
 a:Addr
 c:Addr
 df:Option Addr
 pm:Value
 lam:Bool
 vE:List (List Nat)
def jB(body:List Stmt)(i:Nat)(j:Option Nat):Str×SV:=match j with
 |none=>(Str.empty,vS (body.getD i default))
 |some j=>((vS (body.getD i default)).nm++(".":Str),vS ((vS (body.getD i default)).ys.getD j default))
noncomputable def Xs(e:FE)(pre:Str)(v:SV):FuncData:={name:=v.nm,qualname:=pre++v.nm,params:=v.ar,body:=.stmts v.ys,scope:=v.sc,globals:=3,closure:=[],closureTuple:=.none,code:=.ref e.c,builtins:=builtinsNs,defaults:=(match e.df with|some d=>.ref d|none=>.none),kwdefaults:=.none,annotations:=none,pyModule:=e.pm,doc:=.none}
def fdOf(body:List Stmt)(e:FE):FuncData:=Xs e (jB body e.i e.j).1 (jB body e.i e.j).2
noncomputable def F9:List Nat→List Arg→Tk→Option Tk
 |[],xs,T=>zK xs (some T)
 |x::l,xs,T=>kg xs fun a r=>F9 l r (jN T a.arg x)
noncomputable def isFn(k:ScopeKind):Bool:=decide (k=.function)
def Qu(a:Arguments):Bool:=isNil a.posonlyargs&&(ua a.vararg&&(isNil a.kwonlyargs&&ua a.kwarg))
def U4(S:Sp)(e:FE)(f:Fn)(v:SV)(p:kF×List Nat×Tk):Option Tk:=ck (Qu v.ar&&(isFn v.sc.kind&&(!v.sc.isCoroutine&&(!v.sc.isGenerator&&(p.1.all (fun p=>!Nat.beq (kB p.2) 2)&&(f.ps.all (fun x=>i0 (hG p.1 x) 0||i0 (hG p.1 x) 1)&&gC f.ps))))))
 ((F9 f.ps v.ar.args p.2.2).bind fun T=>(A5 (fX S 60 ⟨p.1,e.lam⟩ (!e.lam)) f.body v.ys T).bind fun T=>some (pushS p.2.1 v.sc.names T))
def fF(S:Sp)(fs:aE Fn)(body:List Stmt)(e:FE)(T:Tk):Option Tk:=gg (fs.get e.k) fun f=>gg (mF {T with vE:=e.vE} (jB body e.i e.j).2.sc.names) fun p=>U4 S e f (jB body e.i e.j).2 p
noncomputable def Q0(S:Sp)(fs:aE Fn)(body:List Stmt):List FE→Tk→Option Tk
 |[],T=>some T
 |e::r,T=>(fF S fs body e T).bind fun T=>Q0 S fs body r T
def Pm(S:Sp)(r:LR)(T:Tk)(ps cs:List Nat)(e:CE)(p:kF×List Nat×Tk):Option Tk:=ck (Qu r.params&&(isFn r.scope.kind&&(!r.scope.isCoroutine&&(!r.scope.isGenerator&&(p.1.all (fun p=>!Nat.beq (kB p.2) 1)&&(ps.all (fun x=>i0 (hG p.1 x) 0)&&(p.1.all (fun p=>!Nat.beq (kB p.2) 2||gF p.1 cs)&&(cs.all (fun x=>i0 (hG p.1 x) 2)&&(gC ps&&lEq r.bR cs)))))))))
 ((F9 ps r.params.args p.2.2).bind fun T'=>(fE S 60 ⟨p.1,false⟩ e r.body T').bind fun T'=>ck (isNil T'.pA) (some {pushS p.2.1 r.scope.names T' with pA:=T.pA}))
def Te(S:Sp)(gH:aE (List Nat×List Nat×CE))(lW:List (Nat×List (List Nat)))(r:LR)(T:Tk):Option Tk:=gg (gH.get r.k) fun q=>gg (lW.lookup r.k) fun tp=>gg (mF {T with vE:=tp,pA:=[]} r.scope.names) fun p=>Pm S r T q.1 q.2.1 q.2.2 p
noncomputable def Ak(S:Sp)(gH:aE (List Nat×List Nat×CE))(lW:List (Nat×List (List Nat))):List LR→Tk→Option Tk
 |[],T=>some T
 |r::l,T=>(Te S gH lW r T).bind fun T=>Ak S gH lW l T
section
variable{kd:Kd}{K:qR}{cs:Bool}{T T':Tk}
theorem kW(R:KR C kd K){x:Nat}{s:Str}(e:s=C.nm x)(h:zu K.t cs x=true):eC kd cs s:=by
 subst e;unfold eC;rw [R.k];rcases fS h with h|h
 ·exact .inl (t6 h)
 ·refine aw (ae h:) fun a b=>?_
  exact .inr ⟨C5 b,a⟩
theorem yG(R:KR C kd K):∀{tg:List Nat}{xs:List Expr}{T T':Tk},GY K.t cs tg xs T=some T'→aQ C T'→aQ C T∧pO C kd cs tg xs:=by
 intro tg
 induction tg with
 |nil=>
  intro xs T T' h G;obtain⟨rfl,h⟩:=js h
  injection h with h;subst h;exact⟨G,.nil⟩
 |cons x tg ih=>
  intro xs T T' h G;obtain⟨e,r,rfl,h⟩:=bD h
  refine aw (aB h:) fun h1 h2=>?_
  refine aw (ae h1:) fun h0 h1=>?_
  refine aw (ih h2 G:) fun g f=>?_
  refine aw (g.jN:) fun g q=>?_
  exact⟨g,di (fun e=>pO C kd cs (x::tg) (e::r)) (kP h0) (.cons q (kW R q h1) f)⟩
theorem DN(R:KR C kd K){tg:List Nat}{xt:Expr}(h:Jf K.t cs tg flat xt T=some T')(G:aQ C T'):aQ C T∧mN C kd cs tg flat xt:=by
 cases flat with
 |true=>
  obtain⟨e,r,rfl,h⟩:=bD h
  refine aw (aB h:) fun h1 h=>?_
  refine aw (ae h1:) fun h2 h1=>?_
  refine aw (ae h1:) fun h0 h1=>?_
  injection h with h;subst h;refine aw (G.jN:) fun g q=>?_
  rw [bH h2];exact⟨g,di (mN C kd cs [e] true) (kP h0) (.one q (kW R q h1))⟩
 |false=>
  refine aw (aB h:) fun h0 h=>?_
  refine aw (yG R h G:) fun g f=>?_
  exact⟨g,di (mN C kd cs tg false) (zh h0) (.many f)⟩
theorem Ol(a:cY x 8=false)(b:cY x 9=false)(c:cY x 10=false):bW x:=⟨a,b,c⟩
theorem lV(h:nX x=true):bW x:=Ol (dA (ae h).1) (dA (ae (ae h).2).1) (dA (ae (ae h).2).2)
theorem CA(h:IM x=true):∀es k p,x≠.Tuple es k p:=fun Y Y Y=>n7 h rfl
theorem Gn:∀{xs:List Nat}{ts:List Expr},pO C kd cs xs ts→xs.length=ts.length:=by
 intro es
 induction es with
 |nil=>exact fun h=>h.nl▸rfl
 |cons e es ihl=>exact fun h=>o7 h.un fun Y Y Y q Y Y r=>q▸congrArg Nat.succ (ihl r)
theorem yb(a b:Nat):Nat.beq a b=(a==b):=by rw [Bool.eq_iff_iff,beq_iff_eq];exact⟨aL,fun e=>e▸Nat.beq_refl a⟩
theorem namesOf(R:KR C kd K){env:PySem.Env}(hk:∀x,env.kindOf x=kd.k x)(l:Nat){F:Expr→Option Str}(hF:∀s pos,F (.Name s pos)=if(env.kindOf s==some .local&&pos.line==l)=true then some s else none):∀{xs:List Nat}{ts:List Expr},pO C kd cs xs ts→xs.all (fun x=>i0 (hG K.t x) 0)=true→kZ l ts=true→
  ts.filterMap F=xs.map C.nm:=by
 intro xs
 induction xs with
 |nil=>exact fun h Y Y=>h.nl▸rfl
 |cons x xs ih=>
  intro ts h h1 h2;refine o7 h.un fun s pos ts q e st r=>?_
  rw [q]at h2⊢;rw [List.all_cons]at h1;have:(env.kindOf s==some NameKind.local&&pos.line==l)=true:=by
   rw [hk,e,R.k,t6 (ae h1).1,show pos.line=l from aL (ae h2).1];simp
  rw [List.filterMap_cons_some ((hF s pos).trans (if_pos this)),ih r (ae h1).2 (ae h2).2,e,List.map_cons]
theorem yx{P:Prop} [Decidable P]{a b c:α}{Q:Prop}(h:¬P→b=a∨(b=c∧Q)):(if P then a else b)=a∨((if P then a else b)=c∧Q):=by
 by_cases p:P
 ·exact .inl (if_pos p)
 ·rw [if_neg p];exact h p
theorem Kg(R:KR C kd K){xs:List Nat}{ts vs:List Expr}{k':Nat}{p p':Pos}(hs:pO C kd cs xs ts)
  (h:(vs.all (foldedForSure 8)||(!(Nat.beq xs.length 2||Nat.beq xs.length 3)||(xs.all (fun x=>i0 (hG K.t x) 0)&&(kZ (wk ts) ts&&(!vs.all (constantsAlone 8)&&gC xs)))))=true):yV C kd xs [.Tuple ts k p] (.Tuple vs k' p'):=by
 intro env hk hfun;have W8:(ts.head?.map (·.pos.line)).getD 0=wk ts:=by
  cases xs with
  |nil=>exact hs.nl▸rfl
  |cons=>exact o7 hs.un fun Y Y Y q Y Y Y=>q▸rfl
 unfold swappedStores;refine yx fun c1=>yx fun c2=>yx fun c3=>yx fun c4=>?_
 rcases fS h with h|h
 ·exact(c4 h).elim
 rcases fS h with h|h
 ·rw [yb,yb,Gn hs]at h
  rw [h]at c1;exact(c1 rfl).elim
 refine aw (ae h:) fun h2 h=>?_
 refine aw (ae h:) fun h3 h=>?_
 refine aw (ae h:) fun h4 h5=>?_
 have c5:¬vs.all (constantsAlone 8)=true:=by rw [dA h4];exact Bool.false_ne_true
 exact .inr ⟨(if_neg c5).trans (congrArg (fun l=>pure (some l)) (namesOf R hk _ (fun Y Y=>rfl) hs h2 (by rw [W8];exact h3))),il h5⟩
theorem Fv{ts:List Expr}{p:Pos}{env:PySem.Env}{ex:Expr}:cY ex 25=false→swappedStores [.Tuple ts k p] ex env=pure none:=by
 cases ex<;>first|exact fun Y=>rfl|exact fun h=>nomatch (show true=false from h)
theorem Kh(R:KR C kd K){xs:List Nat}{ts:List Expr}{p:Pos}{ex:Expr}(hs:pO C kd cs xs ts)(h:Rv K.t xs ts ex=true):yV C kd xs [.Tuple ts k p] ex:=by
 unfold Rv at h;cases q:cY ex 25 with
 |true=>
  rw [q]at h;exact di (yV C kd xs [.Tuple ts k p]) (zh q) (Kg R hs h)
 |false=>exact fun env Y Y=>.inl (Fv q)
end
section
variable{x:Stmt}
theorem RH(h:gm x 3=true):x=.Return (vS x).o (vS x).p:=iI h
theorem RK(h:gm x 5=true):x=.Assign (vS x).ts (vS x).a (vS x).p:=iI h
theorem RI(h:gm x 9=true):x=.For (vS x).a (vS x).b (vS x).ys (vS x).zs (vS x).p:=iI h
theorem Kw(h:gm x 11=true):x=.While (vS x).a (vS x).ys (vS x).zs (vS x).p:=iI h
theorem V5(h:gm x 12=true):x=.If (vS x).a (vS x).ys (vS x).zs (vS x).p:=iI h
theorem RG(h:gm x 17=true):x=.Try (vS x).ys (vS x).hs (vS x).zs (vS x).ws (vS x).p:=iI h
theorem RJ(h:gm x 24=true):x=.Expr (vS x).a (vS x).p:=iI h
end
theorem Ee(e:CE):zI [True,e=.val (valOf e),∃es,e=.t es,True,True,True,True,True,True,True,True,True,True,True,True,True,True,True,True,∃a b c d f,e=.comp a b c d f] e.ctorIdx:=by
 cases e<;>first|exact trivial|exact rfl|exact⟨_,rfl⟩|exact⟨_,_,_,_,_,rfl⟩
theorem Qg(v:AV):zI [v=.none] v.ctorIdx:=by cases v<;>first|exact trivial|exact rfl
theorem L8(h:Nat.beq e.ctorIdx 2=true):∃es,e=.t es:=by
 have:=Ee e
 rw [aL h]at this;exact this
theorem Hj(h:Nat.beq e.ctorIdx 19=true):∃a b c d f,e=.comp a b c d f:=by
 have:=Ee e
 rw [aL h]at this;exact this
theorem Hi(h:yo e=true):e=.val .none:=by
 refine aw (ae h:) fun h1 h2=>?_
 have a:=Ee e
 rw [aL h1]at a;have b:=Qg (valOf e)
 rw [aL h2]at b;exact Eq.trans a (congrArg CE.val b)
section
variable{kd:Kd}{K:qR}{cs:Bool}{T T':Tk}
theorem uT(h:Ei x=true):x=.Call (.Name (vX (vX x).a).s (vX (vX x).a).p) (vX x).xs [] (vX x).p:=by
 refine aw (ae h:) fun h0 h=>?_
 refine aw (ae h:) fun h1 h2=>?_
 have e:=Bs h0
 rw [bH h1]at e;exact e.trans (congrArg (fun a=>Expr.Call a _ _ _) (kP h2))
theorem Fj{y z:Expr}(h:c0 C kd es [y,z]):∃a b,es=[a,b]∧aW C kd a y∧aW C kd b z∧(∀w p,y≠.Starred w p)∧∀w p,z≠.Starred w p:=by
 cases es with
 |nil=>exact nomatch h.nl
 |cons a es=>
  refine K0 h.un fun x r q f1 s1 h=>?_
  injection q with q sL;subst q sL;cases es with
  |nil=>exact nomatch h.nl
  |cons b es=>
   refine K0 h.un fun x r q f2 s2 h=>?_
   injection q with q sL;subst q sL;cases es with
   |nil=>exact⟨a,b,rfl,f1,f2,s1,s2⟩
   |cons c es=>exact Gb h.un fun Y Y q=>nomatch q.1
theorem DH(SO:eV C S)(R:KR C kd K){y z:Expr}(h:fE S n K (.t es) (.Tuple [y,z] 0 default) T=some T')(G:aQ C T'):aQ C T∧∃a b,es=[a,b]∧aW C kd a y∧aW C kd b z∧(∀w p,y≠.Starred w p)∧∀w p,z≠.Starred w p:=by
 cases n with
 |zero=>injection h
 |succ n=>
  have h:fL (fE S n K) es [y,z] T=some T':=h
  refine aw (mu (mv SO n K kd R) h G:) fun g h=>?_
  refine⟨g,?_⟩
  exact Fj h
theorem GQ(SO:eV C S)(R:KR C kd K):∀{kind:Nat}{it:CE}{x:Expr},GR S n K kind it x T=some T'→aQ C T'→aQ C T∧H9 C kd kind it x
 |0,_,_,h,G=>⟨(mv SO n K kd R _ _ _ _ h G).1,.plain (mv SO n K kd R _ _ _ _ h G).2⟩
 |1,it,x,h,G=>by
  refine eM (bD h:) fun y r ey h=>?_
  refine aw (aB h:) fun h1 h=>?_
  refine aw (ae h1:) fun hc h1=>?_
  refine aw (ae h1:) fun hr h1=>?_
  refine aw (ae h1:) fun a b=>?_
  refine aw (mv SO n K kd R _ _ _ _ h G:) fun g f=>?_
  refine aw (g.jN:) fun g e=>?_
  have q:=uT hc
  rw [ey,bH hr,e,SO.en]at q;exact⟨g,di (H9 C kd 1 it) q (.enum (by rw [←SO.en,R.k];exact Lj a) f fun Y Y=>n7 b rfl)⟩
 |2,it,x,h,G=>by
  refine eM (bD h:) fun y r ey h=>?_
  refine eM (bD h:) fun z r' ez h=>?_
  refine aw (aB h:) fun h1 h=>?_
  refine aw (ae h1:) fun hc h1=>?_
  refine aw (ae h1:) fun hr h1=>?_
  refine aw (ae h1:) fun a b=>?_
  obtain⟨es,rfl⟩:=L8 b
  obtain⟨g,u,v,rfl,f1,f2,s1,s2⟩:=DH SO R h G
  refine aw (g.jN:) fun g e=>?_
  have q:=uT hc
  rw [ey,ez,bH hr,e,SO.zp]at q;exact⟨g,di (H9 C kd 2 (.t [u,v])) q (.zip (by rw [←SO.zp,R.k];exact Lj a) f1 f2 s1 s2)⟩
 |_+3,_,_,h,_=>nomatch h
theorem sM:∀{l:List Nat}{names:List (Str×NameKind)}{t:kF},Bn l names=some t→∀p∈t,p.1∈l
 |[],[],_,h,_,m=>by injection h with h;subst h;cases m
 |[],_::_,_,h,_,_=>nomatch h
 |x::l,names,t,h,q,m=>by
  obtain⟨p,r,rfl,h⟩:=bD h
  refine aC (aM h:) fun t' e h=>?_
  injection h with h;subst h;rcases cK m with rfl|m
  ·exact bS
  ·exact cq _ (sM e q m)
theorem F0{names:List (Str×NameKind)}{p:kF×List Nat×Tk}(h:mF T names=some p):∀q∈p.1,q.1∈yA T:=by
 refine eM (bD h:) fun l r e h=>?_
 refine aC (aM h:) fun t q h=>?_
 injection h with h;subst h;unfold yA;rw [e];exact sM q
theorem w8(SO:eV C S){elt it:CE}{tg:List Nat}{ifs:List CE}{ex:Expr}(h1:(!gF y (yA T))=true)(h:fE S n K (.comp elt tg flat it ifs) ex T=some T')(G:aQ C T'):
  ∃xe xt xi xs sc p,ex=.ListComp xe [⟨xt,xi,xs,0⟩] sc p∧∀z∈sc.names,z.1≠C.nm y:=by
 cases n with
 |zero=>injection h
 |succ n=>
  refine aw (aB h:) fun h0 h=>?_
  obtain⟨⟨gt,gi,gf,ga⟩,gs,eg,h⟩:=bD h
  refine aw (aB h:) fun hn h=>?_
  refine aC (aM h:) fun p hp h=>?_
  refine aw (aB h:) fun hd h=>?_
  refine aC (aY h:) fun T2 Y h=>?_
  refine aC (aY h:) fun T3 Y h=>?_
  refine aC (aY h:) fun T4 Y h=>?_
  refine aC (aY h:) fun T5 Y h=>?_
  have e:=Uo h0
  rw [eg,bH hn]at e;rw [←(show(0:Int)=ga from(PySem.W.Z.eqB_iff ..).mp (ae (ae hd).2).1)]at e
  refine⟨_,_,_,_,_,_,e,fun z m q=>?_⟩
  have m2:=F0 hp
  obtain⟨t,l,T1⟩:=p
  injection h with h;subst h;refine aw (x6 hp (ae hd).1 G:) fun Y e=>?_
  rcases m5 e m with rfl|⟨p',Lu,rfl⟩
  ·exact SO.IL _ q.symm
  ·exact n4 (dA h1) (SO.inj _ _ q▸m2 p' Lu)
theorem Mq(SO:eV C S)(R:KR C kd K){ex:Expr}{s:Str}{p pos:Pos}(hy:zu K.t cs y=true)(h:Mt S n K y e ex (jN T s y)=some T')(G:aQ C T'):aQ C T∧fW C kd cs (.b8 y e) (.Assign [.Name s p] ex pos):=by
 unfold Mt at h;cases q:Nat.beq e.ctorIdx 19 with
 |true=>
  rw [q]at h;refine aw (aB h:) fun h1 h=>?_
  obtain⟨elt,tg,flat,it,ifs,rfl⟩:=Hj q
  obtain⟨xe,xt,xi,xs,sc,lp,ee,ap⟩:=w8 SO h1 h G
  refine aw (mv SO n K kd R _ _ _ _ h G:) fun g f=>?_
  refine aw (g.jN:) fun g es=>?_
  rw [←es]at ap;rw [ee]at f⊢;exact⟨g,.TU es (kW R es hy) f ap⟩
 |false=>
  rw [q]at h;refine aw (aB h:) fun h1 h=>?_
  refine aw (mv SO n K kd R _ _ _ _ h G:) fun g f=>?_
  refine aw (g.jN:) fun g es=>?_
  exact⟨g,.b8 es (kW R es hy) f (lV h1)⟩
def MW(C:Cx)(kd:Kd)(cs:Bool)(f:Fx):Prop:=∀e x T T',f e x T=some T'→aQ C T'→aQ C T∧fW C kd cs e x
theorem l4{f:Fx}(H:MW C kd cs f):∀{es:List CS}{xs:List Stmt}{T T':Tk},A5 f es xs T=some T'→aQ C T'→aQ C T∧dc C kd cs es xs:=by
 intro es
 induction es with
 |nil=>
  intro xs T T' h G;obtain⟨rfl,h⟩:=js h
  injection h with h;subst h;exact⟨G,.nil⟩
 |cons e es ih=>
  intro xs T T' h G;obtain⟨x,r,rfl,h⟩:=bD h
  refine aC (aY h:) fun T1 h2 h3=>?_
  refine aw (ih h3 G:) fun g f2=>?_
  refine aw (H _ _ _ _ h2 g:) fun g f1=>?_
  exact⟨g,.cons f1 f2⟩
variable{f:Ff}{fx:Fx}{x:Stmt}
theorem uX{g:Expr→Option Tk}(h:Mu x g=some T'):∃t,x=.Assign [t] (vS x).a (vS x).p∧g t=some T':=by
 refine aw (aB h:) fun h0 h=>?_
 refine eM (bD h:) fun t r e h=>?_
 refine aw (aB h:) fun h1 h=>?_
 have q:=RK h0
 rw [e,bH h1]at q;exact⟨t,q,h⟩
theorem jI{b:Bool}{g:Expr→Option Tk}(h:AM x b g=some T'):∃t,x=.Assign [t] (vS x).a (vS x).p∧b=true∧bW (vS x).a∧g t=some T':=by
 refine aC (uX h:) fun t e h=>?_
 refine aw (aB h:) fun h1 h=>?_
 refine aw (ae h1:) fun h1 h2=>?_
 exact⟨t,e,h1,lV h2,h⟩
theorem qN{c:CS}{t t':Expr}(e:x=.Assign [t] (vS x).a (vS x).p)(q:t=t')(h:fW C kd cs c (.Assign [t'] (vS x).a (vS x).p)):fW C kd cs c x:=di (fW C kd cs c) (e.trans (congrArg (fun t=>Stmt.Assign [t] _ _) q)) h
theorem Fh(SO:eV C S)(R:KR C kd K)(h:Nd S n K cs y e x T=some T')(G:aQ C T'):aQ C T∧fW C kd cs (.b8 y e) x:=by
 refine aC (uX h:) fun t q h=>?_
 refine aw (aB h:) fun h1 h=>?_
 refine aw (ae h1:) fun h0 h1=>?_
 refine aw (Mq (p:=(vX t).p) (pos:=(vS x).p) SO R h1 h G:) fun g f=>?_
 exact⟨g,qN q (kP h0) f⟩
theorem Bu(R:KR C kd K)(H:Hf C kd f){ys:List Nat}(h:Ip K cs f ys e x T=some T')(G:aQ C T'):aQ C T∧fW C kd cs (.cQ ys e) x:=by
 refine A2 (jI h:) fun t q Y nc h=>?_
 refine aw (aB h:) fun h1 h=>?_
 refine aw (ae h1:) fun h0 h1=>?_
 refine aC (aY h:) fun T1 h2 h3=>?_
 refine aw (H _ _ _ _ h3 G:) fun g f2=>?_
 refine aw (yG R h2 g:) fun g f1=>?_
 exact⟨g,qN q (zh h0) (.cQ f1 f2 nc (Kh R f1 h1))⟩
theorem zj(R:KR C kd K)(H:Hf C kd f){o i:CE}(h:Bx K cs f o i y e x T=some T')(G:aQ C T'):aQ C T∧fW C kd cs (.iX o i y e) x:=by
 refine A2 (jI h:) fun t q h1 nc h=>?_
 refine aw (ae h1:) fun h1 h2=>?_
 refine aw (aB h:) fun h0 h=>?_
 refine eM (bD h:) fun u r eu h=>?_
 refine eM (bD h:) fun w r' ew h=>?_
 refine aw (aB h:) fun h3 h=>?_
 refine aw (ae h3:) fun h3 h4=>?_
 refine aw (ae h4:) fun h4 h5=>?_
 refine lN (ji H h G:) fun g f1 f2 f3=>?_
 refine aw (g.jN:) fun g e=>?_
 have p:=zh h0
 rw [eu,ew,bH h3]at p;have p:=p.trans (congrArg (fun u=>Expr.Tuple [u,w] _ _) (zi h4))
 exact⟨g,qN q (p.trans (congrArg (fun w=>Expr.Tuple [_,w] _ _) (kP h5))) (.iX e (kW R e h1) f1 f2 f3 nc (CA h2))⟩
theorem By(SO:eV C S)(H:Hf C kd f){o:CE}(h:Iu S f o y e x T=some T')(G:aQ C T'):aQ C T∧fW C kd cs (.aT o y e) x:=by
 refine A2 (jI h:) fun t q h1 nc h=>?_
 refine aw (aB h:) fun h0 h=>?_
 refine dN (nG H h G:) fun g f1 f2=>?_
 refine aw (g.jN:) fun g e=>?_
 exact⟨g,qN q (Bt h0) (.aT e (SO.attrs _ h1) f1 f2 nc)⟩
theorem Bw(H:Hf C kd f){o i:CE}(h:Ir f o i e x T=some T')(G:aQ C T'):aQ C T∧fW C kd cs (.jZ o i e) x:=by
 refine A2 (jI h:) fun t q Y nc h=>?_
 refine aw (aB h:) fun h0 h=>?_
 refine lN (ji H h G:) fun g f1 f2 f3=>?_
 exact⟨g,qN q (zi h0) (.jZ f1 f2 f3 nc)⟩
theorem Bv(H:Hf C kd f){o lo hi:CE}(h:Iq f o lo hi e x T=some T')(G:aQ C T'):aQ C T∧fW C kd cs (.i9 o lo hi e) x:=by
 refine A2 (jI h:) fun t q Y nc h=>?_
 refine aw (aB h:) fun h1 h=>?_
 refine aw (ae h1:) fun h0 h1=>?_
 refine aw (ae h1:) fun h1 h2=>?_
 refine aC (aM h:) fun l el h=>?_
 refine aC (aM h:) fun u eu h=>?_
 refine aC (aY h:) fun T1 h3 h=>?_
 refine lN (ji H h G:) fun g f2 f3 f4=>?_
 refine aw (H _ _ _ _ h3 g:) fun g f1=>?_
 have p:=Rd h1
 rw [iJ h2,el,eu]at p;exact⟨g,qN q ((zi h0).trans (congrArg (fun b=>Expr.Subscript _ b _) p)) (.i9 f1 f2 f3 f4 nc)⟩
theorem Fd(H:Hf C kd f)(h:M8 f e x T=some T')(G:aQ C T'):aQ C T∧fW C kd cs (.ret e) x:=by
 refine aw (aB h:) fun h0 h=>?_
 have q:=RH h0
 cases eo:(vS x).o with
 |some y=>
  rw [eo]at h q;refine aw (H _ _ _ _ h G:) fun g f1=>?_
  exact⟨g,di (fW C kd cs (.ret e)) q (.ret f1)⟩
 |none=>
  rw [eo]at h q;refine aw (aB h:) fun h1 h=>?_
  injection h with h;subst h;rw [Hi h1];exact⟨G,di (fW C kd cs (.ret (.val .none))) q .RP⟩
theorem Fe(SO:eV C S)(R:KR C kd K)(HX:MW C kd cs fx){kind:Nat}{tg:List Nat}{it:CE}{b:List CS}(h:Na S n K cs fx tg flat kind it b x T=some T')(G:aQ C T'):aQ C T∧fW C kd cs (.for tg flat kind it b) x:=by
 refine aw (aB h:) fun h1 h=>?_
 refine aw (ae h1:) fun h0 h1=>?_
 refine aw (ae h1:) fun h2 h1=>?_
 refine aC (aY h:) fun T1 h3 h=>?_
 refine aC (aY h:) fun T2 h4 h=>?_
 refine aw (l4 HX h G:) fun g f3=>?_
 refine aw (GQ SO R h4 g:) fun g f2=>?_
 refine aw (DN R h3 g:) fun g f1=>?_
 exact⟨g,di (fW C kd cs (.for tg flat kind it b)) ((RI h0).trans (congrArg (fun z=>Stmt.For _ _ _ z _) (bH h2))) (.for f1 ((fS h1).imp aL dA) f2 f3)⟩
theorem JY(H:Hf C kd f)(HX:MW C kd cs fx){t:CE}{a b:List CS}(h:ck (gm x 12) (sQ f t (vS x).a T fun T=>(A5 fx a (vS x).ys T).bind fun T=>A5 fx b (vS x).zs T)=some T')(G:aQ C T'):aQ C T∧fW C kd cs (.ite t a b) x:=by
 refine aw (aB h:) fun h0 h=>?_
 refine aC (aY h:) fun T1 h3 h=>?_
 refine aC (aY h:) fun T2 h4 h=>?_
 refine aw (l4 HX h G:) fun g f3=>?_
 refine aw (l4 HX h4 g:) fun g f2=>?_
 refine aw (H _ _ _ _ h3 g:) fun g f1=>?_
 exact⟨g,di (fW C kd cs (.ite t a b)) (V5 h0) (.ite f1 f2 f3)⟩
theorem zg(H:Hf C kd f)(HX:MW C kd cs fx){t:CE}{b:List CS}(h:ck (gm x 11&&isNil (vS x).zs) (sQ f t (vS x).a T fun T=>A5 fx b (vS x).ys T)=some T')(G:aQ C T'):aQ C T∧fW C kd cs (.while t b) x:=by
 refine aw (aB h:) fun h1 h=>?_
 refine aw (ae h1:) fun h0 h1=>?_
 refine aC (aY h:) fun T1 h3 h=>?_
 refine aw (l4 HX h G:) fun g f2=>?_
 refine aw (H _ _ _ _ h3 g:) fun g f1=>?_
 exact⟨g,di (fW C kd cs (.while t b)) ((Kw h0).trans (congrArg (fun z=>Stmt.While _ _ z _) (bH h1))) (.while f1 f2)⟩
theorem Fc(HX:MW C kd cs fx){b:List CS}(h:ck (gm x 17&&(!isNil (vS x).hs&&(isNil (vS x).zs&&isNil (vS x).ws))) (A5 fx b (vS x).ys T)=some T')(G:aQ C T'):aQ C T∧fW C kd cs (.try b) x:=by
 refine aw (aB h:) fun h1 h=>?_
 refine aw (ae h1:) fun h0 h1=>?_
 refine aw (ae h1:) fun h2 h1=>?_
 refine aw (ae h1:) fun h3 h4=>?_
 refine aw (l4 HX h G:) fun g f1=>?_
 have q:=RG h0
 rw [bH h3,bH h4]at q;cases eh:(vS x).hs with
 |nil=>rw [eh]at h2;injection h2
 |cons a r=>
  rw [eh]at q;exact⟨g,di (fW C kd cs (.try b)) q (.try f1)⟩
theorem JZ(H:Hf C kd f)(h:ck (gm x 24&&nX (vS x).a) (f e (vS x).a T)=some T')(G:aQ C T'):aQ C T∧fW C kd cs (.ex e) x:=by
 refine aw (aB h:) fun h1 h=>?_
 refine aw (ae h1:) fun h0 h1=>?_
 refine aw (H _ _ _ _ h G:) fun g f1=>?_
 exact⟨g,di (fW C kd cs (.ex e)) (RJ h0) (.ex f1 (lV h1))⟩
theorem Ph(SO:eV C S)(R:KR C kd K):∀n:Nat,MW C kd cs (fX S n K cs):=by
 intro n
 induction n with
 |zero=>intro c x T T' h;injection h
 |succ n HX=>
  intro c;have H:=mv SO n K kd R
  cases c with
  |b8 y e=>exact fun x T T'=>Fh SO R
  |cQ ys e=>exact fun x T T'=>Bu R H
  |aT o y e=>exact fun x T T'=>By SO H
  |jZ o i e=>exact fun x T T'=>Bw H
  |i9 o lo hi e=>exact fun x T T'=>Bv H
  |iX o i y e=>exact fun x T T'=>zj R H
  |ex e=>exact fun x T T'=>JZ H
  |ret e=>exact fun x T T'=>Fd H
  |ite t a b=>exact fun x T T'=>JY H HX
  |«for» tg flat kind it b=>exact fun x T T'=>Fe SO R HX
  |hH=>exact fun x T T' h=>nomatch h
  |«while» t b=>exact fun x T T'=>zg H HX
  |«try» b=>exact fun x T T'=>Fc HX
  |pass=>exact fun x T T' h=>nomatch h
  |bad n=>intro x T T' h G;injection h with h;subst h;exact⟨G,.bad⟩
end
def nQ(body:List Stmt)(e:FE):Str:=(fdOf body e).qualname
structure HF(C:Cx)(body:List Stmt)(e:FE)(f:Fn):Prop where
 a:C.mL e.k=e.a
 get:C.hb.get? e.a=some {cls:=.type "function",data:=.func (fdOf body e)}
 code:C.hb.CodeRec (.ref e.c) (nQ body e)
 XE:∃ds:List Value,ds.length≤f.ps.length∧((e.df=none∧ds=[])∨∃T o n,e.df=some T∧C.hb.get? T=some o∧o.data=.seq ds.toArray n)∧∀J M h,(∀b o,C.hb.get? b=some o→¬M b∧h.get? b=some o)→ay C J M h f.df ds
 tab:e.lam=true→∃P,(e.c,P)∈C.tabs∧∀pos,C.t4 P pos=(nQ body e++".<locals>.")++"<lambda>"
section
variable{kd:Kd}{K:qR}{cs:Bool}{T T':Tk}
theorem rE:∀{ps:List Nat}{args:List Arg}{T T':Tk},F9 ps args T=some T'→aQ C T'→aQ C T∧args.map (·.arg)=ps.map C.nm
 |[],_,_,_,h,G=>by
  obtain⟨rfl,h⟩:=js h
  injection h with h;subst h;exact⟨G,rfl⟩
 |x::l,_,T,T',h,G=>by
  obtain⟨a,r,rfl,h⟩:=bD h
  refine aw (rE (ps:=l) (args:=r) (T:=jN T a.arg x) h G:) fun g e=>?_
  refine aw (g.jN:) fun g e'=>?_
  exact⟨g,by rw [List.map_cons,List.map_cons,e,e']⟩
theorem IT(SO:eV C S){ps:List Nat}(h:gC ps=true):(ps.map C.nm).Nodup:=List.pairwise_map.mpr ((il h).imp fun hne q=>hne (SO.inj _ _ q))
theorem nq{names:List (Str×NameKind)}{x:Str}{k:NameKind}:names.lookup x=some k→(x,k)∈names:=by
 induction names with
 |nil=>intro h;injection h
 |cons p r ih=>
  intro h;rw [List.lookup_cons]at h;cases q:x==p.1 with
  |true=>rw [q]at h;injection h with h;subst h;rw [beq_iff_eq.mp q];exact bS
  |false=>rw [q]at h;exact cq _ (ih h)
theorem yq{k:ScopeKind}(h:isFn k=true):k=.function:=of_decide_eq_true h
theorem ED{a:Arguments}(h:Qu a=true):a.posonlyargs=[]∧a.vararg=none∧a.kwonlyargs=[]∧a.kwarg=none:=
 ⟨bH (ae h).1,iJ (ae (ae h).2).1,bH (ae (ae (ae h).2).2).1,iJ (ae (ae (ae h).2).2).2⟩
structure QI(C:Cx)(e:FE)(f:Fn)(v:SV)(t:kF):Prop where
 ar:Qu v.ar=true
 kind:v.sc.kind=.function
 co:v.sc.isCoroutine=false
 gen:v.sc.isGenerator=false
 free:t.all (fun p=>!Nat.beq (kB p.2) 2)=true
 loc:f.ps.all (fun x=>i0 (hG t x) 0||i0 (hG t x) 1)=true
 nd:gC f.ps=true
 en:v.sc.names=t.map (fun p=>(C.nm p.1,p.2))
 ea:v.ar.args.map (·.arg)=f.ps.map C.nm
theorem LP(SO:eV C S){e:FE}{f:Fn}{v:SV}{p:kF×List Nat×Tk}(hp:mF T v.sc.names=some p)(h:U4 S e f v p=some T')(G:aQ C T')
  (R:v.sc.names=p.1.map (fun p=>(C.nm p.1,p.2))→KR C kd ⟨p.1,e.lam⟩):aQ C T∧QI C e f v p.1∧dc C kd (!e.lam) f.body v.ys:=by
 obtain⟨t,l,T1⟩:=p
 refine aw (aB h:) fun h1 h=>?_
 refine aC (aY h:) fun T2 h2 h=>?_
 refine aC (aY h:) fun T3 h3 h=>?_
 injection h with h;subst h;refine aw (mT hp G:) fun g en=>?_
 refine aw (l4 (Ph (cs:=!e.lam) SO (R en) 60) h3 g:) fun g fx=>?_
 refine aw (rE h2 g:) fun g ea=>?_
 refine aw (ae h1:) fun a0 h1=>?_
 refine aw (ae h1:) fun a1 h1=>?_
 refine aw (ae h1:) fun a2 h1=>?_
 refine aw (ae h1:) fun a3 h1=>?_
 refine aw (ae h1:) fun a4 h1=>?_
 refine aw (ae h1:) fun a5 a6=>?_
 exact⟨jL hp g,⟨a0,yq a1,dA a2,dA a3,a4,a5,a6,en,ea⟩,fx⟩
theorem QI.rG{e:FE}{f:Fn}{v:SV}(V:QI C e f v t)(x:Str)(q:v.sc.names.lookup x=some .free):False:=by
 refine aC (kN V.en (nq q):) fun p hp ep=>?_
 exact C6 (a:=p.2) (b:=.free) rfl (bT V.free p hp) (Prod.mk.inj ep).2.symm
theorem QI.kinds{e:FE}{f:Fn}{v:SV}(SO:eV C S)(V:QI C e f v t):∀x∈f.ps,v.sc.names.lookup (C.nm x)=some .local∨v.sc.names.lookup (C.nm x)=some .cell:=fun x m=>by
 rw [V.en,eE SO.inj];exact(fS (bT V.loc x m)).imp t6 C5
def kdOf(body:List Stmt)(e:FE):Kd:=⟨fun x=>(jB body e.i e.j).2.sc.names.lookup x,if e.lam then some e.c else none,nQ body e++".<locals>."⟩
theorem OO(SO:eV C S){body:List Stmt}{e:FE}{f:Fn}(H:HF C body e f)(en:(jB body e.i e.j).2.sc.names=t.map (fun p=>(C.nm p.1,p.2))):KR C (kdOf body e) ⟨t,e.lam⟩:=by
 refine⟨fun x=>?_,fun hl=>?_⟩
 ·show(jB body e.i e.j).2.sc.names.lookup (C.nm x)=hG t x
  rw [en];exact eE SO.inj x t
 ·refine aC (H.tab hl:) fun P p1 p2=>?_
  exact⟨e.c,P,if_pos hl,p1,p2⟩
theorem Pq(SO:eV C S){fs:aE Fn}{body:List Stmt}{e:FE}{f:Fn}(hf:fs.get e.k=some f)(h:fF S fs body e T=some T')(G:aQ C T')(H:HF C body e f):aQ C T∧vb C e.k f:=by
 refine aC (aM h:) fun f' ef h=>?_
 cases hf.symm.trans ef
 refine aC (aM h:) fun p hp h=>?_
 refine dN (LP SO hp h G (OO SO H):) fun g V fx=>?_
 refine⟨⟨g.1,g.2⟩,?_⟩
 refine lM (H.XE:) fun ds d1 d2 d3=>?_
 refine lN (ED V.ar:) fun r1 r2 r3 r4=>?_
 exact⟨{cls:=.type "function",data:=.func (fdOf body e)},fdOf body e,(jB body e.i e.j).2.ys,!e.lam,ds,kdOf body e,{
  at_:=H.a▸H.get
  data:=rfl
  code:=H.code
  n8:=rfl
  vi:=rfl
  glob:=rfl
  i8:=rfl
  kind:=V.kind
  co:=V.co
  gen:=V.gen
  pos:=r1
  args:=V.ea
  vararg:=r2
  OM:=r3
  kwarg:=r4
  nd:=IT SO V.nd
  PU:=d1
  dflt:=by
   rcases d2 with⟨q1,q2⟩|⟨T,o,n,q1,q2,q3⟩
   ·exact .inl ⟨show(match e.df with|some d=>Value.ref d|none=>.none)=_ by rw [q1],q2⟩
   ·exact .inr ⟨T,o,n,show(match e.df with|some d=>Value.ref d|none=>.none)=_ by rw [q1],q2,q3⟩
  PR:=d3
  rG:=fun x q=>V.rG x q
  kinds:=V.kinds SO
  EX:=rfl
  lx:=fun c q=>by
   cases hl:e.lam with
   |true=>
    have q:(if e.lam then some e.c else none)=some c:=q
    rw [hl]at q;injection q with q;subst q;exact⟨rfl,rfl,rfl⟩
   |false=>
    have q:(if e.lam then some e.c else none)=some c:=q
    rw [hl]at q;injection q
  fits:=fx}⟩
structure Uh(C:Cx)(r:LR)(ps cs:List Nat)(e:CE)(t:kF):Prop where
 ar:Qu r.params=true
 kind:r.scope.kind=.function
 co:r.scope.isCoroutine=false
 gen:r.scope.isGenerator=false
 cell:t.all (fun p=>!Nat.beq (kB p.2) 1)=true
 loc:ps.all (fun x=>i0 (hG t x) 0)=true
 free:t.all (fun p=>!Nat.beq (kB p.2) 2||gF p.1 cs)=true
 apart:cs.all (fun x=>i0 (hG t x) 2)=true
 nd:gC ps=true
 bR:r.bR=cs
 en:r.scope.names=t.map (fun p=>(C.nm p.1,p.2))
 ea:r.params.args.map (·.arg)=ps.map C.nm
 fits:aW C ⟨fun x=>r.scope.names.lookup x,none,""⟩ e r.body
theorem GZ(SO:eV C S){r:LR}{T0:Tk}{ps cs:List Nat}{p:kF×List Nat×Tk}(hp:mF T0 r.scope.names=some p)(h:Pm S r T ps cs e p=some T')(G:aQ C T'):aQ C T0∧Uh C r ps cs e p.1:=by
 obtain⟨t,l,T1⟩:=p
 refine aw (aB h:) fun h1 h=>?_
 refine aC (aY h:) fun T2 h2 h=>?_
 refine aC (aY h:) fun T3 h3 h=>?_
 refine aw (aB h:) fun hl h=>?_
 injection h with h;subst h;refine aw (mT (C:=C) (T':=T3) hp ⟨G.1,(fun x m=>by rw [show(pushS l r.scope.names T3).pA=[]from bH hl]at m;cases m),G.2.2⟩:) fun g en=>?_
 have R:KR C ⟨fun x=>r.scope.names.lookup x,none,""⟩ ⟨t,false⟩:=⟨fun x=>by
  show r.scope.names.lookup (C.nm x)=hG t x;rw [en];exact eE SO.inj x t,fun hl=>by injection hl⟩
 refine aw (mv SO 60 _ _ R _ _ _ _ h3 g:) fun g fx=>?_
 refine aw (rE h2 g:) fun g ea=>?_
 refine aw (ae h1:) fun a0 h1=>?_
 refine aw (ae h1:) fun a1 h1=>?_
 refine aw (ae h1:) fun a2 h1=>?_
 refine aw (ae h1:) fun a3 h1=>?_
 refine aw (ae h1:) fun a4 h1=>?_
 refine aw (ae h1:) fun a5 h1=>?_
 refine aw (ae h1:) fun a6 h1=>?_
 refine aw (ae h1:) fun a7 h1=>?_
 refine aw (ae h1:) fun a8 a9=>?_
 exact⟨jL hp g,⟨a0,yq a1,dA a2,dA a3,a4,a5,a6,a7,a8,kz a9,en,ea,fx⟩⟩
theorem Uh.fn(SO:eV C S){r:LR}{ps cs:List Nat}(V:Uh C r ps cs e t)(fd:FuncData)(b1:fd.body=.expr r.body)(b2:fd.params=r.params)(b3:fd.scope=r.scope)(b4:fd.globals=mainGlobals)(b5:fd.builtins=builtinsNs)(b6:fd.defaults=.none):
  oY C r.k ps cs e fd r.body ⟨fun x=>r.scope.names.lookup x,none,""⟩:=by
 refine lN (ED V.ar:) fun r1 r2 r3 r4=>?_
 exact{
  n8:=b1
  glob:=b4
  i8:=b5
  kind:=b3▸V.kind
  co:=b3▸V.co
  gen:=b3▸V.gen
  pos:=b2▸r1
  args:=b2▸V.ea
  vararg:=b2▸r2
  OM:=b2▸r3
  kwarg:=b2▸r4
  dflt:=b6
  nd:=IT SO V.nd
  cell:=fun x m=>by
   rw [b3]at m;obtain⟨p,hp,rfl⟩:=kN V.en m
   exact C6 rfl (bT V.cell p hp)
  loc:=fun x m=>by
   rw [b3,V.en,eE SO.inj];exact t6 (bT V.loc x m)
  free:=fun x q=>by
   rw [b3]at q;refine aC (kN V.en (nq q):) fun p hp ep=>?_
   refine aw (Prod.mk.inj ep:) fun e1 e2=>?_
   have:=bT V.free p hp
   rw [←e2]at this;exact⟨p.1,ju (rO this rfl),e1⟩
  apart:=fun x m=>by
   rw [b3,V.en,eE SO.inj];exact Gr (bT V.apart x m)
  EX:=by rw [b3]
  lx:=rfl
  fits:=V.fits}
theorem ux{gH:aE (List Nat×List Nat×CE)}{lt:List (Nat×List (List Nat))}{r:LR}{T T':Tk}(h:Te S gH lt r T=some T'):T'.pA=T.pA:=by
 refine aC (aM h:) fun q Y h=>?_
 refine aC (aM h:) fun tp Y h=>?_
 refine aC (aM h:) fun p Y h=>?_
 refine aw (aB h:) fun Y h=>?_
 refine aC (aY h:) fun T2 Y h=>?_
 refine aC (aY h:) fun T3 Y h=>?_
 refine aw (aB h:) fun Y h=>?_
 injection h with h;subst h;rfl
theorem LO(SO:eV C S){gH:aE (List Nat×List Nat×CE)}{lt:List (Nat×List (List Nat))}{r:LR}(h:Te S gH lt r T=some T')(G:aQ C T'):aQ C T∧∀ps cs e,gH.get r.k=some (ps,cs,e)→
  r.bR=cs∧∀fd:FuncData,fd.body=.expr r.body→fd.params=r.params→fd.scope=r.scope→fd.globals=mainGlobals→fd.builtins=builtinsNs→fd.defaults=.none→∃body kd,oY C r.k ps cs e fd body kd:=by
 have hs:=ux h
 refine aC (aM h:) fun q eq h=>?_
 refine aC (aM h:) fun tp Y h=>?_
 refine aC (aM h:) fun p hp h=>?_
 refine aw (GZ SO hp h G:) fun g V=>?_
 refine⟨⟨g.1,hs▸G.2.1,g.2.2⟩,fun ps cs e q'=>?_⟩
 cases eq.symm.trans q'
 exact⟨V.bR,fun fd b1 b2 b3 b4 b5 b6=>⟨_,_,V.fn SO fd b1 b2 b3 b4 b5 b6⟩⟩
theorem qB{gH:aE (List Nat×List Nat×CE)}{lt:List (Nat×List (List Nat))}:∀(l:List LR)(T T':Tk),Ak S gH lt l T=some T'→T'.pA=T.pA
 |[],T,T',h=>by injection h with h;subst h;rfl
 |r::l,T,T',h=>by
  unfold Ak at h;refine aC (aY h:) fun T1 h1 h2=>?_
  exact(qB l T1 T' h2).trans (ux h1)
end
noncomputable def iV(i:Int):CE:=.val (.int (.c i))
noncomputable def sV(l:List Nat):CE:=.val (.str l)
noncomputable def cG(k:Nat)(l:List CE):CE:=.call (.eZ k) l
noncomputable def tN(v:α)(l r:aE α):aE α:=.node (some v) l r
noncomputable def tM(l r:aE α):aE α:=.node none l r
noncomputable def tO:aE α:=.nil
def oz:List CS:=[.b8 138 (iV 17),.for [29] true 0 (.iE (.n 168) none (some (iV 24))) [.b8 138 (.bin .add (.bin .mul (.n 138) (iV 1543)) (.bin .mod (.bin .add (.bin .mul (iV 2) (cG 3 [cG 10 [.n 29]])) (cG 10 [.cmp .lt (.n 29) (iV 0)])) (.bin .pow (iV 10) (iV 36))))],.ret (.list [.n 138,iV 0,.bin .add (.bin .mul (iV 2) (.n 138)) (iV 1)])]
def iu:List CS:=[.b8 40 (cG 259 [.n 168]),.cQ [36,184] (.t [cG 258 [.n 40,iV 2],cG 262 [.n 40,.t [.val (.bytes [.c 51]),.val (.bytes [.c 55]),.val (.bytes [.c 50,.c 48]),.val (.bytes [.c 49]),.val (.bytes [.c 52,.c 53])]]]),.cQ [160,139] (.t [cG 334 [.n 40],cG 291 []]),.b8 65 (.t [.t [cG 261 [sV [73]],.val (.none),cG 180 [sV [67],.n 36]],.t [cG 261 [sV [71]],.val (.none),.val (.none)]]),.b8 199 (cG 180 [sV [80],.n 36]),.b8 6 (.t [sV [117,110,115,116,114,105,110,103],cG 261 [sV [83]],.t [.t [.t [sV [116,101,120,116],.val (.bytes [.c 44])],.val (.bool false)]],.n 65,.n 199,cG 180 [sV [78],.n 36],.t []]),.ite (.cmp .ne (cG 332 [.n 139,.n 160,.n 6]) (cG 217 [.n 160])) [.ret (.val (.bool false))] [],.b8 319 (.t [sV [115,116,114,105,110,103],.t [.t [.t [sV [116,101,120,116],.n 184],.val (.none)]],cG 261 [sV [73]],.n 199,.t []]),.b8 113 (cG 260 [.n 160,.bin .add (iV 21) (.bin .mul (iV 2) (.bin .sub (.idx (.n 160) (iV 5)) (iV 49))),.val (.bytes [.c 48,.c 49])]),.for [16] true 0 (.t [.n 160,.n 113]) [.ite (.cmp .ne (cG 332 [.n 139,.n 16,.n 319]) (cG 333 [.n 16,.n 184])) [.ret (.val (.bool false))] []],.ret (.val (.bool true))]
def A4:aE Fn:=(tM (tM (tM (tM (tN ⟨[73,2],[],[.ite (.cmp .o8 (.iE (.n 73) (some (.n 2)) (some (.bin .add (.n 2) (iV 2)))) (.t [sV [67,82],sV [68,66]])) [.bad 0] [],.ite (.cmp .CG (.idx (.n 73) (.n 2)) (.eZ 79)) [.bad 0] [],.ret (.idx (.n 73) (.n 2))]⟩ (tM (tM (tN ⟨[43],[],[.ite (.cmp .t9 (.attr (.n 43) 137) (.val (.none))) [.bad 0] [],.ite (.not (cG 226 [.n 43])) [.ret (cG 249 [.n 43])] [],.b8 47 (.comp (.n 11) [11] true (cG 314 [.n 43]) [.cmp .eq (.attr (.n 11) 278) (sV [])]),.ret (.bG (.val (.bytes [])) 44 [.comp (.bin .mul (cG 367 [.n 11]) (.bG (.n 11) 89 [])) [11] true (.n 47) []])]⟩ tO tO) (tN ⟨[67,68,89,2],[],[.aT (.n 67) 68 (.n 68),.aT (.n 67) 89 (.n 89),.aT (.n 67) 2 (.n 2)]⟩ tO tO)) (tN ⟨[43],[],[.b8 52 (.bin .add (.rev (cG 370 [.n 43])) (.list [.n 43])),.ret (.comp (.n 16) [16] true (.n 52) [.cmp .t9 (.attr (.n 16) 162) (.val (.none))])]⟩ (tN ⟨[121,83,184],[],[.b8 112 (.bG (.n 121) 318 []),.ite (.cmp .lt (.n 112) (iV 0)) [.ret (.n 184)] [],.bad 0,.bad 0,.bad 0,.bad 0,.bad 0,.bad 0]⟩ tO tO) (tN ⟨[67],[],[.aT (.n 67) 213 (.list []),.aT (.n 67) 192 (.list []),.aT (.n 67) 94 (.eF [] []),.aT (.n 67) 124 (.list []),.aT (.n 67) 69 (iV 0),.aT (.n 67) 187 (.eF [] [])]⟩ tO tO))) (tM (tN ⟨[121,163],[],[.ite (.cmp .eq (.attr (.n 121) 220) (sV [110,117,109,101,114,105,99])) [.ret (cG 275 [.n 121,.n 163])] [],.ite (.cmp .eq (.attr (.n 121) 220) (sV [101,100,105,116,101,100])) [.bad 0] [],.ret (cG 183 [cG 415 [.n 163]])]⟩ (tN ⟨[163,175,2],[],[.ret (.cmp .eq (.iE (.n 163) (some (.n 2)) (some (.bin .add (.n 2) (cG 12 [.n 175])))) (.n 175))]⟩ tO tO) (tN ⟨[67],[],[.ite (.or [.cmp .eq (.bG (.n 67) 151 []) (iV 0),.cmp .o8 (.attr (.n 67) 49) (.t [sV [44],sV [46]])]) [.ret (.val (.bool false))] [],.ret (.cmp .le (.bin .add (.bin .add (.bG (.n 67) 151 []) (.attr (.n 67) 50)) (.attr (.n 67) 133)) (.eZ 417))]⟩ tO tO)) (tN ⟨[43,90],[],[.b8 69 (iV 0),.b8 83 (.list []),.for [11] true 0 (cG 314 [.n 43]) [.ex (cG 280 [.n 11,.bin .add (.n 90) (iV 1)]),.ite (.cmp .eq (.attr (.n 11) 278) (sV [])) [.b8 69 (.bin .add (.n 69) (cG 326 [.n 11]))] [.bad 0],.ex (.bG (.n 83) 146 [.n 11])],.ite (.cmp .gt (.bin .mul (.n 69) (.bG (.n 43) 89 [])) (.eZ 412)) [.bad 0] [],.ret (.n 69)]⟩ (tN ⟨[56,36],[],[.b8 16 (cG 261 [sV [73]]),.ret (.t [sV [114,101,102],.n 56,.t [],.t [.ite (.cmp .eq (.n 36) (iV 0)) (.n 16) (.t [sV [45],.t [sV [43],.n 16,.n 16],.n 16])],.val (.none)])]⟩ tO tO) tO))) (tN ⟨[73],[],[.ite (.cmp .gt (cG 12 [.n 73]) (.eZ 255)) [.bad 0] [],.b8 97 (.bG (sV []) 44 [.comp (.ite (.chain .le (sV [97]) (.n 68) .le (sV [122])) (.bad 0) (.n 68)) [68] true (.n 73) []]),.b8 123 (cG 242 [.n 97]),.ite (.cmp .ne (.comp (.n 16) [16] true (.n 123) [.cmp .o8 (.attr (.n 16) 68) (.t [sV [65],sV [88]])]) (.list [])) [.ret (cG 382 [.n 97,.n 123])] [],.ret (cG 407 [.n 97,.n 123])]⟩ (tM (tN ⟨[121,163],[],[.ite (.cmp .ne (cG 12 [.n 163]) (.attr (.n 121) 69)) [.bad 0] [],.ite (.cmp .eq (.attr (.n 121) 136) (sV [100,105,115,112,108,97,121])) [.ret (cG 389 [.n 121,.n 163])] [],.bad 0,.bad 0,.ret (.n 96)]⟩ (tN ⟨[139,58],[],[.ite (.cmp .is (.n 58) (.val (.none))) [.ret (.val (.none))] [],.bad 0,.bad 0]⟩ tO tO) tO) (tN ⟨[96,56],[],[.ite (.cmp .eq (cG 12 [.n 96]) (iV 0)) [.bad 0] [],.ite (.cmp .gt (cG 12 [.n 96]) (iV 1)) [.bad 0] [],.ret (.idx (.n 96) (iV 0))]⟩ (tN ⟨[139,19],[],[.cQ [75,56,316,320,58] (.n 19),.b8 194 (cG 134 [.comp (cG 409 [.n 139,.n 33]) [33] true (.n 320) []]),.b8 32 (.ite (.cmp .is (.n 58) (.val (.none))) (.val (.none)) (.bad 0)),.ret (.t [.n 75,.n 56,.n 316,.n 194,.n 32])]⟩ tO tO) tO)) (tM (tN ⟨[131],[],[.ret (.and [cG 302 [.n 131,.eZ 134],.cmp .eq (cG 12 [.n 131]) (iV 5),.cmp .eq (.idx (.n 131) (iV 0)) (sV [114,101,102])])]⟩ tO (tN ⟨[67],[],[.ite (.or [.cmp .ne (.attr (.n 67) 220) (sV [110,117,109,101,114,105,99]),.cmp .ne (.attr (.n 67) 136) (sV [100,105,115,112,108,97,121]),.not (.attr (.n 67) 272)]) [.ret (.neg (iV 1))] [],.ret (.ite (.cmp .eq (.attr (.n 67) 68) (sV [108,101,97,100,105,110,103])) (iV 0) (.bin .sub (.attr (.n 67) 69) (iV 1)))]⟩ tO tO)) (tM (tN ⟨[160,184],[],[.b8 2 (.bin .sub (.idx (.n 160) (iV 5)) (iV 49)),.ite (.cmp .ne (.idx (.n 160) (.bin .add (iV 22) (.bin .mul (iV 2) (.n 2)))) (iV 49)) [.ret (.t [.n 160,sV [111,118,101,114]])] [],.ret (.t [cG 360 [cG 260 [.n 160,iV 5,.iE (.n 184) none (some (iV 1))],.n 2,iV 2],.ite (.cmp .gt (cG 12 [.n 184]) (iV 1)) (sV [111,118,101,114]) (sV [])])]⟩ tO tO) tO)))) (tN ⟨[0,120,301],[],[.ite (.cmp .ge (.n 120) (.idx (.n 0) (iV 1))) [.ret (.bin .mul (.idx (.n 0) (iV 0)) (.bin .pow (iV 10) (.bin .sub (.n 120) (.idx (.n 0) (iV 1)))))] [],.bad 0,.bad 0,.bad 0,.bad 0]⟩ (tN ⟨[209],[],[.ret (cG 21 [.comp (.bin .mul (.n 89) (cG 12 [.n 68])) [68,89] false (.n 209) [.cmp .CG (.n 68) (.bG (.eZ 356) 125 [sV [32]])]])]⟩ (tM (tN ⟨[30],[],[.ite (.cmp .o8 (.n 30) (.eZ 358)) [.bad 0] [],.ite (.cmp .o8 (.n 30) (.eZ 384)) [.bad 0] [],.ret (.t [.bin .sub (.n 30) (.eZ 385),.val (.bool false)])]⟩ (tN ⟨[33,161],[],[.b8 59 (.list []),.for [48,58] false 0 (cG 200 [.n 33]) [.ite (.cmp .eq (.n 48) (sV [108,101,97,102])) [.ex (.bG (.n 59) 146 [.call (.n 161) [.n 58]])] [.ite (.cmp .eq (.n 58) (sV [110,101,103])) [.bad 0] [.b8 118 (.bG (.n 59) 18 []),.ex (.bG (.n 59) 146 [cG 182 [.n 58,.bG (.n 59) 18 [],.n 118]])]]],.ret (.bG (.n 59) 18 [])]⟩ tO tO) (tN ⟨[67,89,228],[],[.ite (.cmp .ne (.attr (.n 67) 115) (sV [])) [.bad 0,.bad 0] []]⟩ tO tO)) (tN ⟨[43],[],[.b8 96 (cG 212 [.n 43,.lam 0 []]),.ret (.ite (.cmp .ne (.n 96) (sV [])) (.n 96) (sV [100,105,115,112,108,97,121]))]⟩ (tN ⟨[71,163],[],[.cQ [160,164,121] (.n 71),.i9 (.n 160) (.n 164) (.bin .add (.n 164) (.attr (.n 121) 69)) (cG 238 [.n 163,.n 121])]⟩ tO tO) (tN ⟨[67,56,31,94,315,299],[(.bool false)],[.aT (.n 67) 56 (.n 56),.aT (.n 67) 31 (.n 31),.aT (.n 67) 94 (.n 94),.aT (.n 67) 315 (.n 315),.aT (.n 67) 299 (.n 299)]⟩ tO tO))) (tN ⟨[197,369,391],[],[.ite (.and [.n 369,.bad 0]) [.bad 0] [],.ite (.and [.n 391,.bad 0]) [.bad 0] [],.ite (.and [.n 391,.bad 0]) [.bad 0] []]⟩ (tN ⟨[171,163,37],[],[.ite (.not (cG 219 [.attr (.n 171) 220,.attr (.n 37) 220])) [.bad 0] [],.ite (.or [.cmp .eq (.attr (.n 171) 220) (sV [103,114,111,117,112]),.cmp .eq (.attr (.n 37) 220) (sV [103,114,111,117,112])]) [.bad 0] [],.ite (.cmp .o8 (.attr (.n 37) 220) (.eZ 177)) [.ret (cG 308 [.n 37,cG 401 [.n 171,.n 163]])] [],.ret (cG 245 [.n 37,cG 211 [.n 171,.n 163]])]⟩ (tN ⟨[163,297,2],[],[.for [55,157] false 0 (.n 297) [.ite (.cmp .eq (cG 12 [.n 55]) (iV 0)) [.bad 0] [],.ite (cG 191 [.n 163,.n 55,.n 2]) [.ret (.t [.n 55,.n 157])] []],.ret (.val (.none))]⟩ tO tO) tO) (tN ⟨[64,164,28],[],[.ex (cG 280 [.n 64,iV 0]),.ex (cG 351 [.n 64,.n 164,.n 28]),.for [43] true 0 (.attr (.n 64) 47) [.ite (.cmp .eq (.attr (.n 43) 100) (.eZ 214)) [.bad 0] []]]⟩ (tN ⟨[160,164,163],[],[.ret (.bin .add (.bin .add (.iE (.n 160) none (some (.n 164))) (.n 163)) (.iE (.n 160) (some (.bin .add (.n 164) (cG 12 [.n 163]))) none))]⟩ tO tO) tO))) (tM (tN ⟨[121],[],[.ret (.cmp .eq (.attr (.n 121) 220) (sV [110,117,109,101,114,105,99]))]⟩ (tN ⟨[171,37],[],[.ret (.cmp .o8 (.n 37) (cG 223 [.n 171]))]⟩ (tN ⟨[139,33],[],[.ret (cG 239 [.n 33,.lam 1 [139]])]⟩ tO tO) tO) (tN ⟨[43],[],[.b8 136 (cG 250 [.n 43]),.ite (.cmp .eq (.n 136) (sV [105,110,100,101,120])) [.bad 0,.bad 0] [],.ite (.cmp .is (.attr (.n 43) 375) (.val (.none))) [.bad 0] [],.b8 197 (cG 377 [.attr (.n 43) 375]),.b8 392 (.and [.cmp .eq (.n 136) (sV [100,105,115,112,108,97,121]),.cmp .eq (.attr (.n 197) 220) (sV [110,117,109,101,114,105,99]),.attr (.n 197) 272]),.cQ [68,342] (.ite (.or [.cmp .ne (.attr (.n 43) 68) (sV []),.n 392]) (cG 206 [.n 43]) (.t [sV [116,114,97,105,108,105,110,103],.val (.bool false)])),.ret (cG 241 [.n 197,.n 136,.n 68,.n 342,.attr (.n 43) 369,.attr (.n 43) 391])]⟩ (tN ⟨[168],[],oz⟩ tO tO) tO)) (tM (tN ⟨[31],[],[.b8 96 (.list []),.for [64] true 0 (cG 202 [.n 31]) [.ex (.bG (.n 96) 153 [cG 344 [.n 64]])],.ret (.n 96)]⟩ (tN ⟨[281,98],[],[.b8 110 (.list []),.for [195,265] false 0 (.idx (.n 281) (iV 1)) [.b8 55 (.ite (.cmp .is (.n 265) (.val (.none))) (.val (.none)) (.bad 0)),.ex (.bG (.n 110) 146 [.t [cG 348 [.n 195,.n 98],.n 55]])],.cQ [37,85] (.t [cG 348 [.idx (.n 281) (iV 2),.n 98],cG 198 [.idx (.n 281) (iV 3),.n 98]]),.ite (.not (.chain .le (iV 1) (.n 85) .le (cG 12 [.n 37]))) [.ret (sV [111,118,101,114])] [],.cQ [163,270,57] (cG 172 [.n 110,.n 37,.n 85]),.ex (.bG (.n 98) 114 [.idx (.n 281) (iV 2),.n 163]),.ex (cG 233 [.idx (.n 281) (iV 3),.n 270,.n 98]),.ret (.ite (.n 57) (sV [111,118,101,114]) (sV []))]⟩ tO tO) (tN ⟨[67,11],[],[.aT (.n 11) 165 (.n 67),.ex (.bG (.attr (.n 67) 47) 146 [.n 11])]⟩ tO tO)) (tN ⟨[31,43],[],[.ite (.cmp .t9 (.attr (.attr (.n 43) 162) 266) (.val (.none))) [.bad 0,.bad 0,.bad 0] [],.b8 107 (.comp (.attr (.n 16) 56) [16] true (cG 344 [.n 43]) []),.for [368,56] false 0 (.attr (.attr (.n 43) 162) 46) [.bad 0]]⟩ tO tO))))) (tN ⟨[0,1],[],[.cQ [95,169,120] (cG 383 [.n 0,.n 1]),.ret (cG 183 [.bin .add (.n 95) (.n 169),.n 120])]⟩ (tM (tN ⟨[73],[],[.cQ [96,2] (.t [.list [],iV 0]),.while (.cmp .lt (.n 2) (cG 12 [.n 73])) [.b8 68 (cG 205 [.n 73,.n 2]),.cQ [89,7] (cG 221 [.n 73,.bin .add (.n 2) (cG 12 [.n 68])]),.ite (.and [.cmp .gt (.n 7) (.bin .add (.n 2) (cG 12 [.n 68])),.cmp .o8 (.n 68) (.bG (.eZ 402) 125 [sV [32]])]) [.bad 0] [],.ex (.bG (.n 96) 146 [cG 27 [.n 68,.n 89,.n 2]]),.b8 2 (.n 7)],.ret (.n 96)]⟩ (tM (tN ⟨[121,135],[],[.b8 51 (cG 303 [.n 121,.n 135]),.ite (.cmp .eq (.attr (.n 121) 136) (sV [100,105,115,112,108,97,121])) [.ret (cG 403 [.n 121,.n 51])] [],.bad 0]⟩ (tN ⟨[33],[],[.b8 96 (.list []),.b8 52 (.list [.t [sV [101,120,112,114],.n 33]]),.while (.n 52) [.cQ [48,41] (.bG (.n 52) 18 []),.ite (.cmp .eq (.n 48) (sV [111,112])) [.ex (.bG (.n 96) 146 [.t [.n 48,.n 41]])] [.ite (.cmp .o8 (.idx (.n 41) (iV 0)) (.eZ 256)) [.ex (.bG (.n 52) 153 [.list [.t [sV [111,112],.idx (.n 41) (iV 0)],.t [sV [101,120,112,114],.idx (.n 41) (iV 2)],.t [sV [101,120,112,114],.idx (.n 41) (iV 1)]]])] [.ite (.cmp .eq (.idx (.n 41) (iV 0)) (sV [110,101,103])) [.bad 0] [.ex (.bG (.n 96) 146 [.t [sV [108,101,97,102],.n 41]])]]]],.ret (.n 96)]⟩ tO tO) (tN ⟨[67],[],[.aT (.n 67) 66 (iV 0),.aT (.n 67) 229 (.val (.bool false)),.aT (.n 67) 115 (sV []),.aT (.n 67) 50 (iV 0),.aT (.n 67) 133 (iV 0),.aT (.n 67) 108 (iV 0),.aT (.n 67) 76 (sV []),.aT (.n 67) 141 (iV 0),.aT (.n 67) 156 (iV 0),.aT (.n 67) 148 (iV 0),.aT (.n 67) 188 (.val (.bool false)),.aT (.n 67) 68 (sV []),.aT (.n 67) 105 (sV []),.aT (.n 67) 49 (sV []),.aT (.n 67) 189 (.val (.bool false)),.aT (.n 67) 340 (.val (.bool false))]⟩ tO tO)) (tN ⟨[43],[],[.ret (.comp (.n 11) [11] true (.attr (.n 43) 47) [.cmp .ne (.attr (.n 11) 100) (.eZ 214)])]⟩ (tN ⟨[139,19,163],[],[.cQ [160,164,121] (cG 207 [.n 139,.n 19]),.ite (.cmp .ne (.attr (.n 121) 136) (sV [100,105,115,112,108,97,121])) [.bad 0] [],.i9 (.n 160) (.n 164) (.bin .add (.n 164) (.attr (.n 121) 69)) (cG 380 [.n 121,cG 87 [.iE (.n 160) (some (.n 164)) (some (.bin .add (.n 164) (.attr (.n 121) 69)))],.n 163])]⟩ tO tO) (tN ⟨[67,201,122,65],[],[.aT (.n 67) 201 (.n 201),.aT (.n 67) 122 (.n 122),.aT (.n 67) 65 (cG 53 [.n 65]),.aT (.n 67) 286 (.list []),.aT (.n 67) 160 (cG 264 [cG 405 [.attr (.n 201) 31]]),.aT (.n 67) 187 (.eF [] []),.for [56] true 0 (cG 170 [.attr (.attr (.n 201) 31) 187]) [.bad 0],.aT (.n 67) 101 (.eF [] []),.aT (.n 67) 186 (.eF [] []),.aT (.n 67) 310 (.list []),.aT (.n 67) 235 (.val (.bytes [])),.aT (.n 67) 124 (.eF [] [])]⟩ tO tO))) (tN ⟨[197,136],[],[.ite (.cmp .CG (.n 136) (.bG (.eZ 144) 125 [sV [32]])) [.bad 0] [],.ite (.cmp .eq (.n 136) (sV [105,110,100,101,120])) [.bad 0] [],.ite (.and [.cmp .ne (.n 136) (sV [100,105,115,112,108,97,121]),.bad 0]) [.bad 0] []]⟩ (tN ⟨[121,163],[],[.ite (.cmp .eq (.attr (.n 121) 220) (sV [97,108,110,117,109,45,101,100,105,116,101,100])) [.bad 0] [],.ret (cG 181 [.n 163,.attr (.n 121) 69,.attr (.n 121) 369])]⟩ (tN ⟨[163,265],[],[.ite (.cmp .is (.n 265) (.val (.none))) [.ret (.n 163)] [],.bad 0,.bad 0]⟩ tO tO) tO) (tM (tN ⟨[161],[],[.ret (cG 87 [.list [.bin .add (iV 48) (.bin .div (.n 161) (iV 10)),.bin .add (iV 48) (.bin .mod (.n 161) (iV 10))]])]⟩ tO tO) tO))) (tM (tM (tN ⟨[121,161],[],[.ret (cG 309 [.n 121,cG 246 [.n 161,.attr (.n 121) 120,.val (.bool false)]])]⟩ (tN ⟨[139,195],[],[.ite (.cmp .eq (.idx (.n 195) (iV 0)) (sV [114,101,102])) [.cQ [160,164,121] (cG 207 [.n 139,.n 195]),.ret (.t [.n 121,cG 87 [.iE (.n 160) (some (.n 164)) (some (.bin .add (.n 164) (.attr (.n 121) 69)))]])] [],.ite (.cmp .eq (.idx (.n 195) (iV 0)) (sV [110,117,109,98,101,114])) [.bad 0,.bad 0] [],.ite (.cmp .eq (.idx (.n 195) (iV 0)) (sV [116,101,120,116])) [.ret (.t [cG 324 [.idx (.n 195) (iV 1)],.idx (.n 195) (iV 1)])] [],.bad 0]⟩ tO tO) tO) (tN ⟨[43,320,58],[],[.b8 173 (cG 397 [.n 43]),.ite (.cmp .ne (cG 12 [.n 320]) (cG 12 [.n 173])) [.bad 0] [],.b8 164 (.attr (.n 43) 164),.for [128,282] false 2 (.t [.n 173,.n 320]) [.ite (.not (.chain .le (iV 1) (.n 282) .le (.attr (.attr (.n 128) 162) 42))) [.bad 0] [],.b8 164 (.bin .add (.n 164) (.bin .mul (.bin .sub (.n 282) (iV 1)) (.attr (.n 128) 69)))],.ite (.cmp .is (.n 58) (.val (.none))) [.ret (.t [.n 164,.attr (.n 43) 69])] [],.bad 0,.bad 0,.bad 0,.bad 0]⟩ (tN ⟨[139,281],[],[.ret (cG 352 [cG 353 [.n 139,.iE (.n 281) none (some (.neg (iV 1)))],cG 224 [.n 139]])]⟩ tO tO) tO)) (tM (tN ⟨[31],[],[.b8 96 (.list []),.for [56] true 0 (.attr (.n 31) 94) [.bad 0],.ret (.bin .add (.bin .add (.n 96) (.attr (.n 31) 213)) (.attr (.n 31) 192))]⟩ (tN ⟨[199,98],[],[.ret (.ite (.cmp .is (.n 199) (.val (.none))) (iV 1) (.bG (.n 98) 145 [.n 199]))]⟩ tO tO) tO) (tM (tN ⟨[168],[],iu⟩ tO tO) tO)))) (tN ⟨[0],[],[.ret (cG 246 [.n 0,iV 0,.val (.bool false)])]⟩ (tN ⟨[209],[],[.b8 123 (.comp (.n 68) [68,89] false (.n 209) []),.ite (.or [.cmp .o8 (sV [66]) (.n 123),.cmp .o8 (sV [48]) (.n 123),.cmp .o8 (sV [47]) (.n 123)]) [.bad 0] [],.ret (.ite (.cmp .eq (.n 123) (.list [sV [65]])) (sV [97,108,112,104,97,98,101,116,105,99]) (sV [97,108,112,104,97,110,117,109,101,114,105,99]))]⟩ (tM (tM (tN ⟨[139,43],[],[.ite (.cmp .eq (.attr (.n 43) 28) (sV [])) [.ret (.t [.attr (.n 139) 160,iV 0,cG 12 [.attr (.n 139) 160]])] [],.bad 0,.bad 0]⟩ tO tO) tO) (tN ⟨[31,43],[],[.b8 22 (cG 204 [.n 43]),.for [56] true 0 (.attr (.n 31) 94) [.bad 0],.ret (sV [])]⟩ (tN ⟨[139],[],[.ret (cG 77 [.lam 2 [139],.lam 3 [139],.lam 4 [139],.lam 5 [139],.lam 6 [139],.eZ 273,.lam 7 []])]⟩ tO tO) tO)) (tN ⟨[69],[],[.ret (cG 80 [sV [103,114,111,117,112],.n 69])]⟩ (tN ⟨[195,121],[],[.ite (.cmp .eq (.n 195) (.t [sV [102,105,103,117,114,101],sV [90,69,82,79]])) [.ret (cG 308 [.n 121,cG 183 [iV 0]])] [],.bad 0,.bad 0]⟩ (tN ⟨[163,297,85],[],[.for [2] true 0 (cG 117 [.n 85,cG 12 [.n 163]]) [.b8 9 (cG 366 [.n 163,.n 297,.n 2]),.ite (.cmp .t9 (.n 9) (.val (.none))) [.ret (.t [.iE (.n 163) (some (.n 85)) (some (.n 2)),.idx (.n 9) (iV 0),cG 413 [.n 163,.idx (.n 9) (iV 0),.idx (.n 9) (iV 1),.n 2]])] []],.ret (.t [.iE (.n 163) (some (.n 85)) none,.val (.bytes []),cG 12 [.n 163]])]⟩ tO tO) (tN ⟨[67,220,69,197,136,68,342,369,391],[(.none),(.str [100,105,115,112,108,97,121]),(.str [116,114,97,105,108,105,110,103]),(.bool false),(.bool false),(.bool false)],[.aT (.n 67) 220 (.n 220),.aT (.n 67) 69 (.n 69),.aT (.n 67) 197 (.n 197),.aT (.n 67) 136 (.n 136),.aT (.n 67) 68 (.n 68),.aT (.n 67) 342 (.n 342),.aT (.n 67) 369 (.n 369),.aT (.n 67) 391 (.n 391),.aT (.n 67) 151 (iV 0),.aT (.n 67) 120 (iV 0),.aT (.n 67) 272 (.val (.bool false)),.ite (.and [.cmp .t9 (.n 197) (.val (.none)),.cmp .o8 (.n 220) (.t [sV [110,117,109,101,114,105,99],sV [101,100,105,116,101,100]])]) [.aT (.n 67) 151 (.attr (.n 197) 151),.aT (.n 67) 120 (.attr (.n 197) 120),.aT (.n 67) 272 (.attr (.n 197) 272)] []]⟩ tO tO)) (tN ⟨[119,164],[],[.b8 7 (.n 164),.b8 83 (.list []),.for [64] true 0 (.n 119) [.ite (.cmp .eq (.attr (.n 64) 278) (sV [])) [.ex (cG 317 [.n 64,.n 7,sV []])] [.bad 0],.b8 7 (cG 14 [.n 7,.bin .add (.attr (.n 64) 164) (.attr (.n 64) 69)]),.ex (.bG (.n 83) 146 [.n 64])],.ret (.n 7)]⟩ (tN ⟨[73,112],[],[.b8 96 (.val (.bytes [])),.while (.and [.cmp .lt (.n 112) (cG 12 [.n 73]),.cmp .ne (.idx (.n 73) (.n 112)) (iV 44)]) [.cQ [96,112] (.t [.bin .add (.n 96) (.iE (.n 73) (some (.n 112)) (some (.bin .add (.n 112) (iV 1)))),.bin .add (.n 112) (iV 1)])],.ret (.t [.n 96,cG 15 [.bin .add (.n 112) (iV 1),cG 12 [.n 73]]])]⟩ tO tO) tO))) (tM (tN ⟨[121],[],[.ret (.bin .pow (iV 10) (.attr (.n 121) 151))]⟩ (tN ⟨[163,69],[],[.ite (.cmp .eq (.n 163) (.val (.bytes []))) [.bad 0] [],.ret (.iE (.bin .mul (.n 163) (.bin .add (.bin .div (.n 69) (cG 12 [.n 163])) (iV 1))) none (some (.n 69)))]⟩ (tN ⟨[121,135],[],[.ite (.cmp .eq (.attr (.n 121) 220) (sV [101,100,105,116,101,100])) [.bad 0] [],.ret (cG 309 [.n 121,.n 135])]⟩ tO tO) tO) (tM (tN ⟨[40,70],[],[.ret (.idx (.n 70) (cG 258 [.n 40,cG 12 [.n 70]]))]⟩ tO tO) tO)) (tN ⟨[161,89],[],[.cQ [96,62] (.t [.list [],.n 161]),.for [74] true 0 (cG 117 [.n 89]) [.ex (.bG (.n 96) 146 [.bin .mod (.n 62) (iV 10)]),.b8 62 (.bin .div (.n 62) (iV 10))],.ret (.rev (.n 96))]⟩ (tN ⟨[43],[],[.b8 147 (cG 370 [.n 43]),.ret (.ite (.cmp .ne (.n 147) (.list [])) (.idx (.n 147) (.neg (iV 1))) (.n 43))]⟩ (tN ⟨[281,98],[],[.b8 163 (cG 348 [.idx (.n 281) (iV 1),.n 98]),.b8 102 (.comp (.t [cG 348 [.n 195,.n 98],.n 157]) [195,157] false (.idx (.n 281) (iV 2)) []),.b8 85 (cG 198 [.idx (.n 281) (iV 4),.n 98]),.b8 126 (.comp (.bG (.n 98) 71 [.n 37]) [37,55,89] false (.idx (.n 281) (iV 3)) []),.b8 306 (.comp (.ite (.cmp .is (.n 55) (.val (.none))) (.val (.none)) (.bad 0)) [37,55,89] false (.idx (.n 281) (iV 3)) []),.ite (.not (.chain .le (iV 1) (.n 85) .le (cG 12 [.n 163]))) [.ret (sV [111,118,101,114])] [],.ite (.cmp .eq (.n 102) (.list [])) [.bad 0] [.cQ [166,270,57] (cG 248 [.n 163,.n 102,.n 85,cG 12 [.n 126]])],.ex (cG 304 [.n 166,.idx (.n 281) (iV 3),.n 126,.n 306,.n 98]),.ex (cG 233 [.idx (.n 281) (iV 4),.n 270,.n 98]),.ite (.cmp .t9 (.idx (.n 281) (iV 5)) (.val (.none))) [.ex (.bG (.n 98) 45 [.idx (.n 281) (iV 5),.bin .add (.bG (.n 98) 145 [.idx (.n 281) (iV 5)]) (cG 12 [.n 166])])] [],.ret (.ite (.n 57) (sV [111,118,101,114]) (sV []))]⟩ tO tO) tO) tO))))) (tN ⟨[135,120],[(.int (.c (0)))],[.ite (.cmp .lt (.n 120) (iV 0)) [.bad 0] [],.while (.and [.cmp .gt (.n 120) (iV 0),.bad 0]) [.bad 0,.bad 0],.ret (.t [.n 135,.n 120])]⟩ (tN ⟨[0,1],[],[.b8 120 (cG 14 [.idx (.n 0) (iV 1),.idx (.n 1) (iV 1)]),.ret (.t [.bin .mul (.idx (.n 0) (iV 0)) (.bin .pow (iV 10) (.bin .sub (.n 120) (.idx (.n 0) (iV 1)))),.bin .mul (.idx (.n 1) (iV 0)) (.bin .pow (iV 10) (.bin .sub (.n 120) (.idx (.n 1) (iV 1)))),.n 120])]⟩ (tM (tN ⟨[73,2],[],[.ite (.cmp .ne (.iE (.n 73) (some (.n 2)) (some (.bin .add (.n 2) (iV 1)))) (sV [40])) [.ret (.t [iV 1,.n 2])] [],.b8 7 (.bG (.n 73) 34 [sV [41],.n 2]),.b8 184 (.iE (.n 73) (some (.bin .add (.n 2) (iV 1))) (some (cG 14 [.n 7,.n 2]))),.ite (.or [.not (.chain .le (iV 1) (cG 12 [.n 184]) .le (iV 4)),.cmp .ne (.comp (.n 68) [68] true (.n 184) [.cmp .CG (.n 68) (.eZ 176)]) (.list []),.cmp .eq (cG 10 [.n 184]) (iV 0)]) [.bad 0] [],.ret (.t [cG 10 [.n 184],.bin .add (.n 7) (iV 1)])]⟩ (tM (tM (tN ⟨[31],[],[.b8 96 (cG 264 [.bin .mul (.val (.bytes [.c 32])) (.attr (.n 31) 69)]),.for [56] true 0 (.attr (.n 31) 94) [.bad 0],.for [64] true 0 (.attr (.n 31) 213) [.ite (.cmp .eq (.attr (.n 64) 278) (sV [])) [.i9 (.n 96) (.attr (.n 64) 164) (.bin .add (.attr (.n 64) 164) (.attr (.n 64) 69)) (cG 367 [.n 64])] []],.ret (cG 87 [.n 96])]⟩ tO tO) tO) (tN ⟨[43],[],[.ret (.cmp .ne (.comp (.n 11) [11] true (.attr (.n 43) 47) [.cmp .ne (.attr (.n 11) 100) (.eZ 214)]) (.list []))]⟩ (tN ⟨[139,195,69],[],[.ite (.cmp .o8 (.idx (.n 195) (iV 0)) (.t [sV [102,105,103,117,114,101],sV [97,108,108]])) [.bad 0] [],.cQ [121,163] (cG 311 [.n 139,.n 195]),.ret (cG 376 [.n 121,.n 163])]⟩ tO tO) tO)) (tN ⟨[197,136,342],[],[.ite (.cmp .eq (.n 136) (sV [112,97,99,107,101,100])) [.bad 0] [],.ite (.cmp .eq (.n 136) (sV [98,105,110,97,114,121])) [.bad 0] [],.ret (.bin .add (.attr (.n 197) 69) (.ite (.n 342) (iV 1) (iV 0)))]⟩ (tN ⟨[121,163],[],[.ite (.cmp .ne (.attr (.n 121) 220) (sV [110,117,109,101,114,105,99])) [.ret (.n 163)] [],.bad 0,.bad 0]⟩ tO (tN ⟨[67],[],[.ite (.cmp .gt (.attr (.n 67) 50) (iV 0)) [.bad 0] [],.ret (.bin .sub (.attr (.n 67) 148) (.attr (.n 67) 133))]⟩ tO tO)) (tN ⟨[43,164,28],[],[.aT (.n 43) 164 (.n 164),.aT (.n 43) 28 (.n 28),.b8 41 (.n 164),.b8 83 (.list []),.for [11] true 0 (cG 314 [.n 43]) [.ite (.cmp .eq (.attr (.n 11) 278) (sV [])) [.ex (cG 351 [.n 11,.n 41,.n 28]),.b8 41 (.bin .add (.n 41) (cG 326 [.n 11]))] [.bad 0],.ex (.bG (.n 83) 146 [.n 11])]]⟩ (tN ⟨[],[],[.cQ [31,167] (.t [cG 24 [],cG 25 [iV 1,sV [82,69,67]]]),.for [56,197] false 0 (.t [.t [sV [83],sV [88,40,53,41]],.t [sV [73],sV [57]],.t [sV [71],sV [88,40,51,41]],.t [sV [67],sV [57]],.t [sV [78],sV [57,57]],.t [sV [80],sV [83,57,57]]]) [.b8 43 (cG 25 [iV 2,.n 56]),.aT (.n 43) 375 (.n 197),.ite (.cmp .o8 (.n 56) (.t [sV [67],sV [78],sV [80]])) [.aT (.n 43) 162 (cG 143 [iV 4,iV 4])] [],.ex (.bG (.n 167) 4 [.n 43])],.aT (.n 31) 213 (.list [.n 167]),.ex (cG 190 [.n 31]),.ret (cG 81 [cG 179 [sV [80],.n 31,.eF [] [],.val (.none)],.val (.none),.list []])]⟩ tO tO) tO))) (tM (tM (tN ⟨[121,163],[],[.ret (cG 183 [cG 247 [.n 121,.n 163],.attr (.n 121) 120])]⟩ (tN ⟨[139,19],[],[.b8 43 (cG 269 [.attr (.attr (.n 139) 201) 31,.idx (.n 19) (iV 1),.idx (.n 19) (iV 2)]),.b8 58 (cG 196 [.n 139,.idx (.n 19) (iV 4)]),.cQ [164,69] (cG 208 [.n 43,.comp (cG 251 [.n 139,.n 33]) [33] true (.idx (.n 19) (iV 3)) [],.n 58]),.cQ [160,112] (cG 410 [.n 139,.n 43,.n 164,.n 69]),.ret (.t [.n 160,.n 112,.ite (.cmp .is (.n 58) (.val (.none))) (.attr (.n 43) 121) (.bad 0)])]⟩ tO tO) tO) (tN ⟨[31,56,316],[],[.b8 84 (.comp (.n 43) [43] true (cG 263 [.n 31]) [.cmp .eq (.attr (.n 43) 56) (.n 56)]),.ret (cG 234 [.comp (.n 43) [43] true (.n 84) [cG 393 [.bin .add (cG 371 [.n 43]) (.list [cG 185 [.n 31,.n 43]]),.n 316]],.n 56])]⟩ (tN ⟨[139,281],[],[.ret (cG 404 [.n 281,.lam 8 [139]])]⟩ tO tO) tO)) (tM (tN ⟨[131,149],[],[.ite (.not (cG 302 [.n 131,.eZ 134])) [.ret (.n 131)] [],.b8 96 (cG 134 [.comp (cG 404 [.n 16,.n 149]) [16] true (.n 131) []]),.ret (.ite (cG 158 [.n 96]) (.call (.n 149) [.n 96]) (.n 96))]⟩ (tN ⟨[195,98],[],[.ret (.bG (.n 98) 93 [.n 195,iV 1])]⟩ tO tO) (tN ⟨[67,13,42,266,46,187],[(.none),(.t []),(.t [])],[.aT (.n 67) 13 (.n 13),.aT (.n 67) 42 (.n 42),.aT (.n 67) 266 (.n 266),.aT (.n 67) 46 (cG 134 [.n 46]),.aT (.n 67) 187 (cG 134 [.n 187])]⟩ tO tO)) (tN ⟨[31],[],[.aT (.n 31) 187 (.eF [] []),.b8 107 (.comp (.attr (.n 43) 56) [43] true (cG 263 [.n 31]) []),.for [43] true 0 (cG 263 [.n 31]) [.for [56] true 0 (.ite (.cmp .t9 (.attr (.n 43) 162) (.val (.none))) (.attr (.attr (.n 43) 162) 187) (.t [])) [.bad 0,.bad 0,.bad 0]]]⟩ (tN ⟨[139,160,281],[],[.i9 (.attr (.n 139) 160) (iV 0) (iV 29) (.n 160),.try [.b8 75 (.ite (.cmp .eq (.idx (.n 281) (iV 0)) (sV [115,116,114,105,110,103])) (cG 267 [.n 139,.n 281]) (cG 336 [.n 139,.n 281]))],.ret (.t [cG 87 [.attr (.n 139) 160],.n 75])]⟩ tO tO) tO)))) (tN ⟨[0],[],[.ret (.cmp .eq (.idx (.n 0) (iV 1)) (iV 0))]⟩ (tN ⟨[73,123],[],[.cQ [109,209] (.t [cG 78 [],cG 321 [.n 123]]),.for [16] true 0 (.n 123) [.ex (.bG (.n 109) 72 [.n 16])],.ite (.or [.not (.bG (.n 109) 230 []),.cmp .gt (cG 411 [.n 209]) (.eZ 416)]) [.bad 0] [],.b8 113 (.cmp .eq (.comp (.n 68) [68,89] false (.n 209) [.cmp .CG (.n 68) (.bG (.eZ 331) 125 [sV [32]])]) (.list [])),.b8 220 (.ite (.n 113) (sV [110,117,109,101,114,105,99]) (sV [101,100,105,116,101,100])),.b8 272 (.or [.attr (.n 109) 229,.cmp .ne (.attr (.n 109) 68) (sV [])]),.ret (cG 178 [.n 73,.n 209,.n 220,.bG (.n 109) 151 [],.bG (.n 109) 120 [],.n 272,cG 411 [.n 209]])]⟩ (tM (tN ⟨[121,163],[],[.cQ [184,341] (.t [.comp (.bin .sub (.n 30) (.eZ 385)) [30] true (.n 163) [],.val (.bool false)]),.b8 112 (.bG (.n 121) 318 []),.ite (.and [.cmp .ge (.n 112) (iV 0),.attr (.n 121) 342]) [.bad 0,.bad 0,.bad 0] [.ite (.cmp .ge (.n 112) (iV 0)) [.iX (.n 184) (.n 112) 341 (cG 396 [.idx (.n 163) (.n 112)])] []],.b8 96 (cG 406 [.n 184]),.ret (.ite (.n 341) (.bad 0) (.n 96))]⟩ (tN ⟨[139,195],[],[.ret (.and [.cmp .eq (.idx (.n 195) (iV 0)) (sV [114,101,102]),.cmp .eq (.idx (.n 195) (iV 2)) (.t []),.cmp .o8 (.idx (.n 195) (iV 1)) (.attr (.n 139) 187)])]⟩ tO tO) (tN ⟨[67,16],[],[.ite (.or [.cmp .gt (.attr (.n 67) 133) (iV 0),.attr (.n 67) 188]) [.bad 0] [],.aT (.n 67) 108 (.bin .add (.attr (.n 67) 108) (.attr (.n 16) 89)),.ex (.bG (.n 67) 292 [.attr (.n 16) 89,.val (.bool false)])]⟩ tO tO)) (tN ⟨[43],[],[.for [16] true 0 (.bin .add (.list [.n 43]) (cG 370 [.n 43])) [.ite (.cmp .ne (.attr (.n 16) 68) (sV [])) [.bad 0] []],.ret (.t [sV [116,114,97,105,108,105,110,103],.val (.bool false)])]⟩ tO tO)) (tN ⟨[197,136,68,342,369,391],[(.str [100,105,115,112,108,97,121]),(.str [116,114,97,105,108,105,110,103]),(.bool false),(.bool false),(.bool false)],[.ex (cG 335 [.n 197,.n 136]),.ex (cG 293 [.n 197,.n 136,.n 68,.n 342]),.ex (cG 388 [.n 197,.n 369,.n 391]),.b8 69 (cG 243 [.n 197,.n 136,.n 342]),.ret (cG 80 [.attr (.n 197) 220,.n 69,.n 197,.n 136,.n 68,.n 342,.n 369,.n 391])]⟩ (tN ⟨[195],[],[.ite (.cmp .eq (.idx (.n 195) (iV 0)) (sV [97,108,108])) [.ret (.idx (.n 195) (iV 1))] [],.ret (.idx (.eF [[90,69,82,79],[83,80,65,67,69],[72,73,71,72],[76,79,87],[81,85,79,84,69]] [.val (.bytes [.c 48]),.val (.bytes [.c 32]),.val (.bytes [.c 255]),.val (.bytes [.c 0]),.val (.bytes [.c 34])]) (.idx (.n 195) (iV 1)))]⟩ (tN ⟨[163,55,157,2],[],[.b8 148 (.bin .add (.n 2) (cG 12 [.n 55])),.while (.and [.n 157,.bad 0]) [.bad 0],.ret (.n 148)]⟩ tO tO) tO) (tM (tN ⟨[160,2,236],[],[.ret (cG 260 [.n 160,.bin .add (iV 21) (.bin .mul (iV 2) (.n 2)),.bin .add (.val (.bytes [.c 48])) (.iE (.val (.bytes [.c 123,.c 65,.c 66,.c 67,.c 68,.c 69,.c 70,.c 71,.c 72,.c 73])) (some (.n 236)) (some (.bin .add (.n 236) (iV 1))))])]⟩ tO tO) tO))) (tM (tN ⟨[121],[],[.ret (.cmp .o8 (.attr (.n 121) 220) (.t [sV [110,117,109,101,114,105,99],sV [105,110,100,101,120]]))]⟩ (tN ⟨[163,69,369],[(.bool false)],[.ite (.n 369) [.bad 0] [],.ret (.bin .add (.iE (.n 163) none (some (.n 69))) (.bin .mul (.eZ 355) (.bin .sub (.n 69) (cG 12 [.n 163]))))]⟩ (tN ⟨[139,33],[],[.b8 140 (cG 253 [.n 139,.n 33]),.ite (.not (cG 230 [.n 140])) [.bad 0] [],.ret (cG 252 [.n 140])]⟩ tO tO) tO) (tN ⟨[43],[],[.ret (.bin .mul (.attr (.n 43) 69) (.bG (.n 43) 89 []))]⟩ (tN ⟨[40,54],[],[.ite (.cmp .eq (.idx (.n 40) (iV 0)) (iV 0)) [.jZ (.n 40) (iV 1) (.bin .add (.idx (.n 40) (iV 1)) (iV 1)),.jZ (.n 40) (iV 0) (.bin .mul (.bin .pow (iV 1000003) (.bin .add (iV 5) (.idx (.n 40) (iV 1)))) (.idx (.n 40) (iV 2)))] [],.b8 91 (.bin .mod (.idx (.n 40) (iV 0)) (.n 54)),.jZ (.n 40) (iV 0) (.bin .div (.idx (.n 40) (iV 0)) (.n 54)),.ret (.n 91)]⟩ tO tO) tO)) (tN ⟨[121,135],[],[.b8 51 (.bin .mod (cG 3 [.n 135]) (cG 325 [.n 121])),.ret (.ite (.and [.cmp .lt (.n 135) (iV 0),.attr (.n 121) 272]) (.bad 0) (.n 51))]⟩ (tN ⟨[43],[],[.b8 96 (.list []),.b8 82 (.attr (.n 43) 165),.while (.cmp .t9 (.n 82) (.val (.none))) [.ex (.bG (.n 96) 146 [.n 82]),.b8 82 (.attr (.n 82) 165)],.ret (.n 96)]⟩ (tN ⟨[166,65,126,306,98],[],[.for [2] true 0 (cG 117 [cG 12 [.n 166]]) [.cQ [111,55] (.idx (.n 166) (.n 2)),.ex (.bG (.n 98) 86 [.idx (.n 126) (.n 2),.n 111]),.ite (.cmp .t9 (.idx (.n 306) (.n 2)) (.val (.none))) [.bad 0] [],.ite (.cmp .t9 (.idx (.idx (.n 65) (.n 2)) (iV 2)) (.val (.none))) [.ex (.bG (.n 98) 45 [.idx (.idx (.n 65) (.n 2)) (iV 2),cG 12 [.n 111]])] []]]⟩ tO tO) (tN ⟨[67],[],[.ret (.ite (.cmp .is (.attr (.n 67) 162) (.val (.none))) (iV 1) (.attr (.attr (.n 67) 162) 42))]⟩ tO tO)) (tN ⟨[31],[],[.b8 41 (iV 0),.for [56] true 0 (.attr (.n 31) 94) [.bad 0],.aT (.n 31) 69 (cG 346 [.attr (.n 31) 213,.n 41]),.ite (.cmp .gt (.attr (.n 31) 69) (.eZ 329)) [.bad 0] [],.ex (cG 345 [.attr (.n 31) 192]),.ex (cG 350 [.n 31]),.for [43] true 0 (cG 263 [.n 31]) [.ite (.cmp .t9 (.attr (.n 43) 162) (.val (.none))) [.ex (cG 363 [.n 31,.n 43])] []]]⟩ (tN ⟨[67,73,209,220,151,120,272,69],[],[.aT (.n 67) 73 (.n 73),.aT (.n 67) 209 (.n 209),.aT (.n 67) 220 (.n 220),.aT (.n 67) 151 (.n 151),.aT (.n 67) 120 (.n 120),.aT (.n 67) 272 (.n 272),.aT (.n 67) 69 (.n 69)]⟩ tO tO) tO))))) (tN ⟨[0,1],[],[.cQ [95,169,120] (cG 383 [.n 0,.n 1]),.ret (cG 183 [.bin .sub (.n 95) (.n 169),.n 120])]⟩ (tM (tN ⟨[123],[],[.b8 96 (.list []),.for [16] true 0 (.n 123) [.ite (.and [.cmp .ne (.n 96) (.list []),.cmp .eq (.idx (.idx (.n 96) (.neg (iV 1))) (iV 0)) (.attr (.n 16) 68)]) [.jZ (.n 96) (.neg (iV 1)) (.t [.attr (.n 16) 68,.bin .add (.idx (.idx (.n 96) (.neg (iV 1))) (iV 1)) (.attr (.n 16) 89)])] [.ex (.bG (.n 96) 146 [.t [.attr (.n 16) 68,.attr (.n 16) 89]])]],.ret (.n 96)]⟩ (tM (tN ⟨[184],[],[.b8 96 (iV 0),.for [2,154] false 1 (.n 184) [.ite (.not (.chain .le (iV 0) (.n 154) .le (iV 9))) [.bad 0] [],.b8 96 (.bin .add (.bin .mul (iV 10) (.n 96)) (.n 154))],.ret (.n 96)]⟩ (tN ⟨[68,51,118],[],[.ite (.cmp .eq (.n 68) (sV [43])) [.ret (cG 60 [.n 51,.n 118])] [],.ite (.cmp .eq (.n 68) (sV [45])) [.ret (cG 104 [.n 51,.n 118])] [],.bad 0,.bad 0]⟩ tO tO) (tN ⟨[67],[],[.ret (.bin .add (.bin .add (.attr (.n 67) 108) (.attr (.n 67) 141)) (.attr (.n 67) 156))]⟩ tO tO)) (tN ⟨[43,61],[],[.for [16] true 0 (.bin .add (.list [.n 43]) (cG 370 [.n 43])) [.ite (.cmp .ne (.call (.n 61) [.n 16]) (sV [])) [.bad 0] []],.ret (sV [])]⟩ (tN ⟨[163,121],[],[.ite (.cmp .gt (cG 12 [.n 163]) (iV 0)) [.ret (cG 106 [cG 324 [.n 163],.n 163,.n 121])] [],.ite (.cmp .o8 (.attr (.n 121) 220) (.t [sV [110,117,109,101,114,105,99],sV [101,100,105,116,101,100]])) [.ret (cG 155 [.t [sV [102,105,103,117,114,101],sV [90,69,82,79]],.n 121])] [],.ret (cG 155 [.t [sV [102,105,103,117,114,101],sV [83,80,65,67,69]],.n 121])]⟩ tO tO) (tN ⟨[67,93,114,145,45,71,86,63],[],[.aT (.n 67) 93 (.n 93),.aT (.n 67) 114 (.n 114),.aT (.n 67) 145 (.n 145),.aT (.n 67) 45 (.n 45),.aT (.n 67) 71 (.n 71),.aT (.n 67) 86 (.n 86),.aT (.n 67) 63 (.n 63)]⟩ tO tO))) (tN ⟨[197,136,68,342],[],[.ite (.and [.cmp .ne (.n 68) (sV [108,101,97,100,105,110,103]),.cmp .ne (.n 68) (sV [116,114,97,105,108,105,110,103])]) [.bad 0] [],.ite (.and [.cmp .eq (.n 68) (sV [116,114,97,105,108,105,110,103]),.not (.n 342)]) [.ret (.val .none)] [],.bad 0]⟩ (tN ⟨[121,161],[],[.ite (.cmp .eq (.attr (.n 121) 220) (sV [101,100,105,116,101,100])) [.bad 0] [],.ret (cG 295 [.n 121,.n 161])]⟩ (tN ⟨[65,37,85],[],[.ite (.not (.chain .le (iV 1) (.n 85) .le (cG 12 [.n 37]))) [.bad 0] [],.b8 270 (.n 85),.for [163,265] false 0 (.n 65) [.b8 111 (cG 279 [.n 163,.n 265]),.b8 63 (.bin .sub (.bin .add (cG 12 [.n 37]) (iV 1)) (.n 270)),.b8 39 (.iE (.n 111) none (some (.n 63))),.b8 37 (.bin .add (.bin .add (.iE (.n 37) none (some (.bin .sub (.n 270) (iV 1)))) (.n 39)) (.iE (.n 37) (some (.bin .add (.bin .sub (.n 270) (iV 1)) (cG 12 [.n 39]))) none)),.b8 270 (.bin .add (.n 270) (cG 12 [.n 39])),.ite (.cmp .lt (cG 12 [.n 39]) (cG 12 [.n 111])) [.ret (.t [.n 37,.n 270,.val (.bool true)])] []],.ret (.t [.n 37,.n 270,.val (.bool false)])]⟩ tO tO) tO) (tM (tN ⟨[40],[],[.b8 85 (.bin .add (.bin .add (cG 87 [.comp (cG 262 [.n 40,.val (.bytes [.c 50,.c 44,.c 51,.c 49,.c 52,.c 44])]) [74] true (cG 117 [iV 5]) []]) (cG 87 [.list [.bin .add (iV 49) (cG 258 [.n 40,iV 4])]])) (.val (.bytes [.c 103,.c 104,.c 105]))),.b8 150 (cG 87 [.comp (.bin .add (iV 48) (cG 258 [.n 40,iV 10])) [74] true (cG 117 [iV 4]) []]),.b8 210 (.bG (.val (.bytes [])) 44 [.comp (cG 218 [cG 258 [.n 40,iV 90]]) [74] true (cG 117 [iV 4]) []]),.ret (.bin .add (.bin .add (.bin .add (.n 85) (.n 150)) (.n 210)) (.bG (.val (.bytes [])) 44 [.comp (cG 218 [cG 258 [.n 40,iV 8]]) [74] true (cG 117 [iV 4]) []]))]⟩ tO tO) tO))) (tM (tM (tN ⟨[220],[],[.b8 130 (.t [sV [103,114,111,117,112],sV [97,108,112,104,97,98,101,116,105,99],sV [97,108,112,104,97,110,117,109,101,114,105,99],sV [97,108,110,117,109,45,101,100,105,116,101,100]]),.b8 65 (.eF [[103,114,111,117,112],[97,108,112,104,97,110,117,109,101,114,105,99],[97,108,112,104,97,98,101,116,105,99],[97,108,110,117,109,45,101,100,105,116,101,100],[110,117,109,101,114,105,99],[101,100,105,116,101,100]] [.bin .add (.n 130) (.eZ 177),.bin .add (.n 130) (.eZ 177),.n 130,.n 130,.bin .add (.t [sV [103,114,111,117,112],sV [97,108,112,104,97,110,117,109,101,114,105,99],sV [97,108,110,117,109,45,101,100,105,116,101,100]]) (.eZ 177),.bin .add (.t [sV [103,114,111,117,112],sV [97,108,112,104,97,110,117,109,101,114,105,99],sV [97,108,110,117,109,45,101,100,105,116,101,100]]) (.eZ 177)]),.ret (.bG (.n 65) 8 [.n 220,.t []])]⟩ (tN ⟨[139,195],[],[.ite (.cmp .eq (.idx (.n 195) (iV 0)) (sV [110,117,109,98,101,114])) [.ret (.idx (.n 195) (iV 1))] [],.ite (.cmp .eq (.n 195) (.t [sV [102,105,103,117,114,101],sV [90,69,82,79]])) [.bad 0] [],.ite (cG 227 [.n 139,.n 195]) [.bad 0] [],.cQ [121,163] (cG 311 [.n 139,.n 195]),.ite (.not (cG 271 [.n 121])) [.bad 0] [],.ret (cG 275 [.n 121,.n 163])]⟩ tO tO) tO) (tM (tN ⟨[139,281],[],[.ret (cG 400 [cG 353 [.n 139,.iE (.n 281) none (some (.neg (iV 1)))],cG 224 [.n 139]])]⟩ tO tO) tO)) (tM (tN ⟨[43],[],[.b8 96 (.list []),.b8 52 (.list [.n 43]),.while (.cmp .ne (.n 52) (.list [])) [.b8 16 (.bG (.n 52) 18 []),.ex (.bG (.n 96) 146 [.n 16]),.ex (.bG (.n 52) 153 [.rev (.attr (.n 16) 47)])],.ret (.n 96)]⟩ (tN ⟨[199,236,98],[],[.ite (.cmp .t9 (.n 199) (.val (.none))) [.ex (.bG (.n 98) 45 [.n 199,.n 236])] []]⟩ tO tO) (tN ⟨[67,100,56],[],[.aT (.n 67) 100 (.n 100),.aT (.n 67) 56 (.n 56),.aT (.n 67) 375 (.val (.none)),.aT (.n 67) 136 (sV []),.aT (.n 67) 68 (sV []),.aT (.n 67) 342 (.val (.bool false)),.aT (.n 67) 162 (.val (.none)),.aT (.n 67) 278 (sV []),.aT (.n 67) 137 (.val (.none)),.aT (.n 67) 369 (.val (.bool false)),.aT (.n 67) 391 (.val (.bool false)),.aT (.n 67) 294 (.list []),.aT (.n 67) 47 (.list []),.aT (.n 67) 165 (.val (.none)),.aT (.n 67) 203 (.val (.none)),.aT (.n 67) 28 (sV []),.aT (.n 67) 164 (iV 0),.aT (.n 67) 69 (iV 0),.aT (.n 67) 121 (.val (.none))]⟩ tO tO)) tO))) (tN ⟨[135,151],[],[.ret (.cmp .lt (cG 3 [.n 135]) (.bin .pow (iV 10) (.n 151)))]⟩ (tN ⟨[73,123],[],[.for [16] true 0 (.n 123) [.ite (.cmp .CG (.attr (.n 16) 68) (.bG (.eZ 289) 125 [sV [32]])) [.bad 0] []],.b8 209 (cG 321 [.n 123]),.ite (.cmp .gt (cG 411 [.n 209]) (.eZ 416)) [.bad 0] [],.ret (cG 178 [.n 73,.n 209,cG 399 [.n 209],iV 0,iV 0,.val (.bool false),cG 411 [.n 209]])]⟩ (tM (tM (tN ⟨[139,43,164,69],[],[.cQ [160,85,7] (cG 274 [.n 139,.n 43]),.ite (.cmp .gt (.bin .add (.bin .add (.n 85) (.n 164)) (.n 69)) (.n 7)) [.bad 0] [],.ret (.t [.n 160,.bin .add (.n 85) (.n 164)])]⟩ tO tO) tO) (tN ⟨[147,316],[],[.b8 2 (iV 0),.for [56] true 0 (.n 147) [.ite (.and [.cmp .lt (.n 2) (cG 12 [.n 316]),.bad 0]) [.bad 0] []],.ret (.cmp .eq (.n 2) (cG 12 [.n 316]))]⟩ (tN ⟨[139,33],[],[.ret (.ite (.cmp .is (.n 33) (.val (.none))) (.val (.none)) (.t [sV [110,117,109,98,101,114],cG 183 [cG 251 [.n 139,.n 33]]]))]⟩ tO tO) tO)) (tN ⟨[163],[],[.ret (cG 80 [sV [97,108,112,104,97,110,117,109,101,114,105,99],cG 12 [.n 163]])]⟩ (tN ⟨[195,121],[],[.ite (.cmp .o8 (.attr (.n 121) 220) (.eZ 177)) [.ret (cG 390 [.n 195,.n 121])] [],.ite (.or [.cmp .eq (.attr (.n 121) 220) (sV [105,110,100,101,120]),.and [.cmp .eq (.attr (.n 121) 220) (sV [97,108,112,104,97,98,101,116,105,99]),.cmp .eq (.n 195) (.t [sV [102,105,103,117,114,101],sV [90,69,82,79]])]]) [.bad 0] [],.b8 73 (cG 240 [cG 312 [.n 195],.attr (.n 121) 69]),.ret (.ite (.cmp .eq (.attr (.n 121) 220) (sV [97,108,110,117,109,45,101,100,105,116,101,100])) (.bad 0) (.n 73))]⟩ (tN ⟨[163,297,85,54],[],[.ite (.not (.chain .le (iV 1) (.n 85) .le (cG 12 [.n 163]))) [.bad 0] [],.cQ [166,2] (.t [.list [],.bin .sub (.n 85) (iV 1)]),.while (.and [.cmp .lt (cG 12 [.n 166]) (.n 54),.cmp .lt (.n 2) (cG 12 [.n 163])]) [.cQ [111,55,2] (cG 307 [.n 163,.n 297,.n 2]),.ex (.bG (.n 166) 146 [.t [.n 111,.n 55]])],.ret (.t [.n 166,.bin .add (.n 2) (iV 1),.cmp .lt (.n 2) (cG 12 [.n 163])])]⟩ tO tO) tO) (tN ⟨[119],[],[.b8 83 (.list []),.for [64] true 0 (.n 119) [.bad 0,.ex (.bG (.n 83) 146 [.n 64])]]⟩ (tN ⟨[160],[],[.cQ [2,73] (.t [.bin .sub (.idx (.n 160) (iV 5)) (iV 49),.iE (.n 160) none (some (iV 5))]),.b8 85 (.bin .sub (.idx (.n 160) (.bin .add (iV 22) (.bin .mul (iV 2) (.n 2)))) (iV 48)),.ite (.not (.chain .le (iV 1) (.n 85) .le (iV 5))) [.ret (.t [.n 160,sV [111,118,101,114]])] [],.cQ [95,112] (cG 290 [.n 73,.bin .sub (.n 85) (iV 1)]),.cQ [166,96] (.t [iV 1,cG 260 [.n 160,iV 5,.iE (.bin .add (.val (.bytes [.c 48])) (.n 95)) (some (.neg (iV 1))) none]]),.b8 96 (cG 260 [.n 96,.bin .add (iV 9) (.n 2),cG 87 [.list [.bin .add (iV 48) (cG 12 [.n 95])]]]),.ite (.cmp .lt (.n 112) (iV 5)) [.cQ [169,112] (cG 290 [.n 73,.n 112]),.cQ [166,96] (.t [iV 2,cG 260 [.n 96,iV 6,.iE (.bin .add (.n 169) (.val (.bytes [.c 32,.c 32,.c 32]))) none (some (iV 3))]])] [],.b8 129 (.bin .add (.bin .sub (.bin .add (.bin .mul (iV 10) (.bin .sub (.idx (.n 160) (.bin .add (iV 13) (.bin .mul (iV 2) (.n 2)))) (iV 48))) (.idx (.n 160) (.bin .add (iV 14) (.bin .mul (iV 2) (.n 2))))) (iV 48)) (.n 166)),.b8 96 (cG 260 [cG 360 [.n 96,.n 2,.bin .add (.n 112) (iV 1)],.bin .add (iV 13) (.bin .mul (iV 2) (.n 2)),cG 218 [.n 129]]),.ret (.t [.n 96,.ite (.cmp .lt (.n 112) (iV 5)) (sV [111,118,101,114]) (sV [])])]⟩ tO tO) tO))) (tM (tM (tN ⟨[163],[],[.b8 161 (iV 0),.for [2,30] false 1 (.n 163) [.ite (.not (.chain .le (.eZ 330) (.n 30) .le (.bin .add (.eZ 330) (iV 9)))) [.bad 0] [],.b8 161 (.bin .sub (.bin .add (.bin .mul (iV 10) (.n 161)) (.n 30)) (.eZ 330))],.ret (.n 161)]⟩ (tN ⟨[139,19,161,301],[],[.ite (cG 227 [.n 139,.n 19]) [.bad 0,.bad 0,.ret (.val (.bool false))] [],.cQ [160,164,121] (cG 207 [.n 139,.n 19]),.ite (.cmp .CG (.attr (.n 121) 220) (.t [sV [110,117,109,101,114,105,99],sV [101,100,105,116,101,100]])) [.bad 0] [],.b8 135 (cG 246 [.n 161,.attr (.n 121) 120,.n 301]),.ite (.not (cG 35 [.n 135,.attr (.n 121) 151])) [.ret (.val (.bool true))] [],.i9 (.n 160) (.n 164) (.bin .add (.n 164) (.attr (.n 121) 69)) (cG 394 [.n 121,.n 135]),.ret (.val (.bool false))]⟩ tO tO) (tN ⟨[67,16],[],[.b8 68 (.attr (.n 16) 68),.ite (.or [.attr (.n 67) 189,.and [.attr (.n 67) 229,.cmp .CG (.n 68) (.t [sV [57],sV [80],sV [86]])],.and [.cmp .eq (.n 68) (sV [83]),.cmp .gt (.attr (.n 67) 66) (iV 0)]]) [.bad 0] [],.ite (.cmp .eq (.n 68) (sV [83])) [.aT (.n 67) 229 (.val (.bool true))] [.ite (.cmp .eq (.n 68) (sV [57])) [.ex (.bG (.n 67) 283 [.n 16])] [.bad 0]],.aT (.n 67) 66 (.bin .add (.attr (.n 67) 66) (iV 1)),.aT (.n 67) 49 (.n 68)]⟩ tO tO)) (tN ⟨[43,90],[],[.ite (.cmp .gt (.n 90) (.eZ 288)) [.bad 0] [],.ite (.and [.cmp .t9 (.attr (.n 43) 162) (.val (.none)),.or [.cmp .eq (.attr (.n 43) 100) (iV 1),.cmp .eq (.attr (.n 43) 100) (.eZ 327),.cmp .lt (.attr (.attr (.n 43) 162) 42) (iV 1)]]) [.bad 0] [],.ite (.not (cG 226 [.n 43])) [.aT (.n 43) 121 (cG 305 [.n 43]),.aT (.n 43) 69 (.attr (.attr (.n 43) 121) 69),.ret (.val .none)] [],.ite (.cmp .t9 (.attr (.n 43) 375) (.val (.none))) [.bad 0] [],.aT (.n 43) 69 (cG 298 [.n 43,.n 90]),.aT (.n 43) 121 (cG 338 [.attr (.n 43) 69])]⟩ (tN ⟨[56],[],[.ret (.t [sV [114,101,102],.n 56,.t [],.t [],.val (.none)])]⟩ tO tO) tO)) (tN ⟨[121,135],[],[.b8 88 (.comp (.bin .add (.eZ 385) (.n 154)) [154] true (cG 337 [cG 3 [.n 135],.attr (.n 121) 151]) []),.ite (.not (.attr (.n 121) 272)) [.ret (cG 87 [.n 88])] [],.ite (.attr (.n 121) 342) [.bad 0,.bad 0] [],.b8 112 (.ite (.cmp .eq (.attr (.n 121) 68) (sV [108,101,97,100,105,110,103])) (iV 0) (.bin .sub (cG 12 [.n 88]) (iV 1))),.b8 20 (.ite (.cmp .lt (.n 135) (iV 0)) (.eZ 384) (.eZ 358)),.jZ (.n 88) (.n 112) (.idx (.n 20) (.bin .sub (.idx (.n 88) (.n 112)) (.eZ 385))),.ret (cG 87 [.n 88])]⟩ (tN ⟨[43],[],[.ret (.comp (.attr (.n 16) 56) [16] true (cG 370 [.n 43]) [.cmp .ne (.attr (.n 16) 56) (.eZ 142)])]⟩ (tN ⟨[121,163],[],[.ite (.cmp .eq (.attr (.n 121) 220) (sV [105,110,100,101,120])) [.bad 0] [],.ite (.cmp .ne (.attr (.n 121) 220) (sV [110,117,109,101,114,105,99])) [.ret (.n 163)] [],.ite (.cmp .ne (.attr (.n 121) 136) (sV [100,105,115,112,108,97,121])) [.bad 0] [],.b8 112 (.bG (.n 121) 318 []),.ite (.cmp .lt (.n 112) (iV 0)) [.ret (.n 163)] [],.bad 0,.bad 0,.bad 0]⟩ tO tO) tO) (tN ⟨[43],[],[.ite (.or [.cmp .eq (.attr (.attr (.n 43) 121) 220) (sV [105,110,100,101,120]),cG 300 [.attr (.n 43) 121]]) [.ret (cG 309 [.attr (.n 43) 121,iV 0])] [],.ret (.bin .mul (.val (.bytes [.c 32])) (.attr (.n 43) 69))]⟩ tO tO)))))))
def ka:aE (List Nat×List Nat×CE):=(tN (([16],[],.attr (.n 16) 136)) (tN (([195],[139],cG 276 [.n 139,.n 195])) (tN (([19,163],[139],cG 354 [.n 139,.n 19,.n 163])) (tN (([71],[],.bad 0)) tO tO) tO) (tN (([19,161],[139],cG 127 [.n 139,.n 19,cG 183 [.n 161],.val (.bool false)])) tO tO)) (tN (([195,69],[139],cG 349 [.n 139,.n 195,.n 69])) (tN (([19],[139],cG 252 [cG 276 [.n 139,.n 19]])) (tN (([19],[139],cG 378 [.n 139,.n 19])) tO tO) tO) (tN (([19],[139],cG 207 [.n 139,.n 19])) tO tO)))
def Hd:aE (Nat×List (Nat×Nat)):=(tM (tM (tM (tN ((191,[(216,191),(92,192)])) (tN ((226,[(216,226)])) tO tO) tO) (tN ((216,[(216,216)])) tO tO)) (tM tO (tN ((223,[(216,223)])) tO tO))) (tM (tM (tN ((193,[(216,193),(151,194),(292,195),(283,196),(285,197),(323,198),(381,199),(398,200),(284,203),(322,204),(244,205),(72,206),(230,207),(120,208)])) (tN ((227,[(216,227)])) tO tO) tO) (tN ((218,[(216,218),(4,219),(89,220)])) tO tO)) (tN ((188,[(216,188)])) (tN ((213,[(216,213),(318,215)])) tO tO) (tN ((225,[(216,225)])) tO tO))))
def EZ:aE AV:=(tM (tM (tN (.bi 11) (tM (tN (.bi 10) (tM (tM (tN (.fn 142) (tN (.int (.c (30))) tO tO) (tN (.fn 4) tO tO)) (tN (.fn 143) tO tO)) (tM (tM tO (tN (.fn 78) tO tO)) (tN (.fn 74) (tN (.fn 112) tO tO) tO))) (tM (tN (.str [65,66,80,83,86,88,90,57,48,47,44,46,43,45,42,36]) (tN (.cls 11) (tN (.fn 44) tO tO) (tN (.fn 21) tO tO)) (tN (.fn 136) (tN (.fn 49) tO tO) tO)) (tM (tM (tN (.fn 60) tO tO) tO) (tN (.fn 131) (tN (.fn 127) tO tO) tO)))) (tN (.bi 8) (tM (tM (tM (tN (.fn 91) tO tO) tO) (tM (tN (.int (.c (77))) tO tO) tO)) (tM (tM (tN (.fn 73) tO tO) tO) tO)) (tM (tN (.bi 2) (tM (tN (.fn 145) tO tO) (tN (.fn 20) tO tO)) tO) (tM (tN (.fn 2) (tN (.fn 137) tO tO) tO) (tN (.fn 71) tO tO))))) (tM (tM (tN (.fn 14) (tM (tM (tN (.fn 171) tO tO) tO) tO) (tM (tM (tN (.fn 176) tO tO) tO) (tN (.fn 132) (tN (.bytes [.c 32]) tO tO) tO))) (tM (tM (tM (tN (.fn 72) tO tO) (tN (.fn 62) tO tO)) (tN (.fn 80) tO tO)) (tM (tN (.cls 16) (tN (.fn 149) tO tO) tO) (tN (.fn 48) (tN (.fn 94) tO tO) tO)))) (tN (.cls 7) (tM (tM (tM (tN (.fn 169) tO tO) tO) (tM (tN (.str [57,32,80,32,83,32,86]) tO tO) tO)) (tM tO (tM (tN (.fn 123) tO tO) tO))) (tM (tM (tN (.fn 86) tO (tN (.fn 19) tO tO)) (tN (.fn 75) tO tO)) (tM tO (tN (.fn 140) tO tO)))))) (tM (tM (tM (tM (tM (tM tO (tN (.int (.c (48))) tO tO)) (tM (tN (.fn 18) tO tO) tO)) (tM (tM (tN (.str [65,32,88,32,57,32,66,32,48,32,47]) tO tO) (tN (.int (.c (18))) tO tO)) (tM (tN (.fn 168) tO tO) tO))) (tM (tN (.cls 14) (tM (tN (.fn 163) tO tO) (tN (.fn 79) tO tO)) (tM (tN (.fn 61) tO tO) tO)) (tM (tN (.t [(.str [110,117,109,101,114,105,99]),(.str [101,100,105,116,101,100])]) (tN (.fn 107) tO tO) tO) (tN (.fn 52) tO tO)))) (tN (.cls 12) (tM (tM (tM tO (tN (.fn 102) tO tO)) (tM (tN (.int (.c (10000000))) tO tO) tO)) (tM tO (tN (.fn 154) tO tO))) (tM (tM (tM tO (tN (.fn 166) tO tO)) (tN (.fn 182) (tN (.fn 118) tO tO) tO)) (tM (tN (.fn 101) tO tO) (tN (.fn 126) (tN (.fn 23) tO tO) tO))))) (tM (tN (.bi 13) (tM (tM (tM (tN (.fn 174) tO tO) (tN (.fn 68) tO tO)) (tM (tN (.fn 45) tO tO) tO)) (tM (tM (tN (.fn 50) tO tO) tO) tO)) (tN (.bi 4) (tM (tM tO (tN (.fn 128) tO tO)) tO) (tN (.bi 1) (tN (.fn 76) (tN (.fn 65) tO tO) tO) (tN (.fn 81) tO tO)))) (tM (tM (tN (.cls 15) (tM (tN (.fn 104) tO tO) (tN (.fn 95) tO tO)) (tN (.fn 15) (tN (.fn 183) tO tO) tO)) tO) (tM (tM (tM tO (tN (.fn 148) tO tO)) (tN (.fn 16) (tN (.fn 160) tO tO) tO)) (tM (tM (tN (.fn 115) tO tO) tO) (tN (.fn 139) tO tO))))))) (tM (tM (tM (tM (tM (tM (tM (tN (.t [(.str [43]),(.str [45]),(.str [42]),(.str [47]),(.str [42,42])]) tO tO) (tN (.bytes [.c 125,.c 74,.c 75,.c 76,.c 77,.c 78,.c 79,.c 80,.c 81,.c 82]) tO tO)) tO) (tM (tM (tN (.int (.c (20))) tO tO) (tN (.int (.c (9999))) tO tO)) (tN (.fn 165) (tN (.fn 155) tO tO) tO))) (tM (tN (.cls 10) (tN (.str [100,105,115,112,108,97,121,32,112,97,99,107,101,100,32,98,105,110,97,114,121,32,105,110,100,101,120]) tO (tN (.fn 157) tO tO)) (tN (.fn 105) (tN (.fn 170) tO tO) tO)) (tM (tN (.str [48,49,50,51,52,53,54,55,56,57]) (tN (.fn 156) tO tO) tO) (tN (.fn 77) tO tO)))) (tN (.cls 13) (tM (tM (tM (tN (.bi 3) tO tO) tO) (tN (.fn 129) tO tO)) (tN (.fn 6) tO (tM (tN (.fn 180) tO tO) tO))) (tM (tM (tM (tN (.fn 110) tO tO) tO) (tM (tN (.fn 90) tO tO) tO)) (tM (tM (tN (.fn 84) tO tO) tO) (tN (.fn 150) (tN (.fn 158) tO tO) tO))))) (tN (.bi 0) (tM (tM (tM (tM (tN (.fn 179) tO tO) (tN (.fn 51) tO tO)) (tN (.fn 135) (tN (.fn 54) tO tO) tO)) (tM tO (tM (tN (.str [80,32,83,32,86]) tO tO) tO))) (tM (tM (tM (tN (.fn 138) tO tO) (tN (.fn 88) tO tO)) (tN (.fn 98) tO tO)) (tM (tN (.fn 175) (tN (.fn 82) tO tO) tO) tO))) (tM (tM (tM (tM (tN (.bi 7) tO tO) (tN (.fn 67) tO tO)) (tN (.fn 93) (tN (.fn 184) tO tO) tO)) (tM (tN (.fn 146) (tN (.fn 43) tO tO) tO) tO)) (tN (.fn 5) (tM (tM tO (tN (.int (.c (1000000))) tO tO)) (tM (tN (.fn 152) tO tO) tO)) (tM tO (tN (.fn 13) (tN (.fn 159) tO tO) tO)))))) (tM (tN (.bi 12) (tM (tM (tM (tM (tN (.fn 172) tO tO) tO) tO) (tM (tM (tN (.fn 181) tO tO) tO) (tN (.fn 96) (tN (.fn 161) tO tO) tO))) (tM (tM (tM (tN (.fn 133) tO tO) (tN (.str [83,32,86,32,46,32,67,82,32,68,66]) tO tO)) (tM (tN (.fn 53) tO tO) tO)) (tM (tN (.cls 6) tO tO) (tN (.fn 17) (tN (.fn 92) tO tO) tO)))) (tM (tM (tM (tM tO (tN (.fn 141) tO tO)) (tN (.fn 89) (tN (.int (.c (48))) tO tO) tO)) (tN (.fn 83) (tN (.bi 6) (tN (.fn 111) tO tO) tO) (tN (.fn 103) tO tO))) (tM (tM (tM tO (tN (.fn 134) tO tO)) (tN (.fn 177) (tN (.fn 117) tO tO) tO)) (tM (tM (tN (.fn 97) tO tO) tO) (tN (.fn 99) (tN (.fn 167) tO tO) tO))))) (tN (.bi 9) (tM (tM (tM (tN (.bi 5) (tN (.fn 173) tO tO) (tN (.fn 85) tO tO)) (tN (.fn 153) (tN (.fn 108) tO tO) tO)) (tM tO (tN (.fn 12) (tN (.bytes [.c 123,.c 65,.c 66,.c 67,.c 68,.c 69,.c 70,.c 71,.c 72,.c 73]) tO tO) tO))) (tM (tM (tM tO (tN (.fn 66) tO tO)) (tN (.int (.c (66))) tO tO)) (tM (tN (.fn 130) tO tO) (tN (.fn 11) tO tO)))) (tM (tM (tN (.cls 8) (tN (.str [70,73,76,76,69,82]) tO tO) (tN (.fn 100) (tN (.fn 178) tO tO) tO)) (tM (tM (tN (.bi 14) tO tO) tO) (tN (.fn 162) (tN (.fn 147) tO tO) tO))) (tM (tM (tN (.fn 87) tO tO) (tM (tN (.fn 120) tO tO) tO)) (tM (tN (.fn 124) tO tO) (tM (tN (.fn 22) tO tO) tO))))))))
noncomputable def dj:pa:=⟨146,153,18,125,34,44,8,216⟩
noncomputable def Tb:List (Nat×Nat):=[(2,125),(4,139),(5,146),(6,153),(11,189),(12,196),(13,203),(14,210),(15,278),(16,283),(17,290),(18,297),(19,302),(20,433),(21,438),(22,445),(23,450),(43,660),(44,667),(45,674),(48,695),(49,702),(50,709),(51,714),(52,722),(53,729),(54,736),(60,778),(61,785),(62,790),(65,809),(66,816),(67,823),(68,828),(71,849),(72,856),(73,863),(74,871),(75,878),(76,886),(77,893),(78,900),(79,907),(80,914),(81,921),(82,928),(83,935),(84,942),(85,949),(86,956),(87,963),(88,968),(89,1079),(90,1086),(91,1093),(92,1100),(93,1107),(94,1112),(95,1117),(96,1122),(97,1127),(98,1134),(99,1141),(100,1148),(101,1153),(102,1160),(103,1167),(104,1172),(105,1179),(107,1193),(108,1200),(110,1214),(111,1221),(112,1228),(115,1247),(117,1261),(118,1268),(120,1280),(123,1295),(124,1302),(126,1316),(127,1321),(128,1328),(129,1336),(130,1343),(131,1350),(132,1378),(133,1385),(134,1392),(135,1399),(136,1404),(137,1411),(138,1418),(139,1425),(140,1432),(141,1439),(142,1446),(143,1453),(145,1467),(146,1474),(147,1481),(148,1488),(149,1495),(150,1502),(152,1537),(153,1544),(154,1551),(155,1558),(156,1565),(157,1570),(158,1575),(159,1582),(160,1589),(161,1596),(162,1603),(163,1610),(165,1624),(166,1631),(167,1636),(168,1643),(169,1650),(170,1657),(171,1693),(172,1700),(173,1707),(174,1714),(175,1721),(176,1728),(177,1735),(178,1740),(179,1747),(180,1754),(181,1761),(182,1768),(183,1775),(184,1782),(185,1789),(188,224),(191,257),(193,316),(194,323),(195,330),(196,337),(206,407),(207,414),(208,421),(213,632),(215,646),(216,985),(218,1013),(219,1020),(220,1027),(223,1060),(225,1364),(226,1523),(227,1672),(192,264),(197,344),(198,351),(199,358),(200,365),(203,386),(204,393),(205,400)]
noncomputable def dq:List (Nat×Nat×Nat):=[(6,239,238),(7,267,266),(8,424,423),(10,649,648),(11,995,994),(12,1042,1041),(13,1068,1067),(14,1367,1366),(15,1526,1525),(16,1682,1681)]
def CD:aE Str:=(tN "a" (tN "b" (tN "abs" (tN "end" (tN "min" (tN "data" (tN "room" (tN "store" (tN "MOST_TEXT" tO tO) (tN "units_beside" tO tO)) (tN "lies_at" (tN "strung_row" tO tO) tO)) (tN "first" (tN "length" (tN "CheckFault" tO tO) (tN "whole_figures_of" tO tO)) (tN "goals_of" (tN "set_offsets" tO tO) tO))) (tN "kids" (tN "SIGNS" (tN "Occurs" (tN "has_units" tO tO) (tN "text_category" tO tO)) (tN "spot_in" (tN "check_usage" tO tO) tO)) (tN "piece" (tN "wanted" (tN "kept_units" tO tO) tO) (tN "reckoned" (tN "first_octets" tO tO) tO)))) (tN "zip" (tN "head" (tN "spot" (tN "units" (tN "all_items" tO tO) (tN "is_blank_zero" tO tO)) (tN "pointer" (tN "ALONE_items" tO tO) tO)) (tN "meant" (tN "record" (tN "cut_octets" tO tO) tO) (tN "lay_file" (tN "PictureFault" tO tO) tO))) (tN "mark" (tN "bytes" (tN "digits" (tN "sent_part" tO tO) (tN "number_picture" tO tO)) (tN "RunFault" (tN "items_meant" tO tO) tO)) (tN "roots" (tN "decimal" (tN "operand_in" tO tO) tO) (tN "units_in" (tN "picture_text" tO tO) tO))))) (tN "kid" (tN "ref" (tN "fits" (tN "self" (tN "thing" (tN "_law_heap" tO tO) (tN "binary_octets" tO tO)) (tN "operand" (tN "take_point" tO tO) tO)) (tN "index" (tN "octets" (tN "_law_world" tO tO) tO) (tN "is_index" (tN "BLANK_moving" tO tO) tO))) (tN "left" (tN "ahead" (tN "around" (tN "number_in" tO tO) (tN "display_octets" tO tO)) (tN "text_in" (tN "index_shape" tO tO) tO)) (tN "point" (tN "Program" (tN "next_piece" tO tO) tO) (tN "size_for" (tN "names_around" tO tO) tO)))) (tN "Sign" (tN "item" (tN "word" (tN "world" (tN "do_string" tO tO) (tN "packed_octets" tO tO)) (tN "renames" (tN "PLAIN_SIGNS" tO tO) tO)) (tN "names" (tN "source" (tN "is_initial" tO tO) tO) (tN "open_row" (tN "check_occurs" tO tO) tO))) (tN "pile" (tN "digit" (tN "filled" (tN "take_nine" tO tO) (tN "size_of_symbols" tO tO)) (tN "can_move" (tN "lies_within" tO tO) tO)) (tN "signs" (tN "indexes" (tN "procedures" tO tO) tO) (tN "whole_in" (tN "set_renaming" tO tO) tO)))))) (tN "chr" (tN "hit" (tN "ord" (tN "expr" (tN "rows" (tN "tally" (tN "__debug__" tO tO) (tN "NOUGHT_usages" tO tO)) (tN "negated" (tN "symbols_of" tO tO) tO)) (tN "great" (tN "number" (tN "TEXT_SIGNS" tO tO) (tN "MOST_DIGITS_pictures" tO tO)) (tN "inserted" (tN "with_places" tO tO) tO))) (tN "last" (tN "World" (tN "amount" (tN "lay_piece" tO tO) (tN "worth_in_text" tO tO)) (tN "symbols" (tN "figures_for" tO tO) tO)) (tN "plain" (tN "NUMBERS" (tN "leaf_shape" tO tO) tO) (tN "shape_of" (tN "is_justified" tO tO) tO)))) (tN "Item" (tN "here" (tN "text" (tN "value" (tN "delimiter" tO tO) (tN "leads_through" tO tO)) (tN "program" (tN "MOST_MEMORY" tO tO) tO)) (tN "money" (tN "second" (tN "delimiters" tO tO) tO) (tN "moved_on" (tN "binary_units" tO tO) tO))) (tN "over" (tN "count" (tN "extend" (tN "statement" tO tO) (tN "number_in_place" tO tO)) (tN "_law_cut" (tN "lay_linkage" tO tO) tO)) (tN "shape" (tN "file_of" (tN "piece_size" tO tO) tO) (tN "unvalued" (tN "read_picture" tO tO) tO))))) (tN "low" (tN "sum" (tN "goal" (tN "size" (tN "trail" (tN "_law_name" tO tO) (tN "display_units" tO tO)) (tN "picture" (tN "unit_bound" tO tO) tO)) (tN "links" (tN "parent" (tN "check_sign" tO tO) tO) (tN "is_plain" (tN "MINUS_usages" tO tO) tO))) (tN "list" (tN "begin" (tN "change" (tN "redefined" tO tO) (tN "initial_memory" tO tO)) (tN "working" (tN "is_negative" tO tO) tO)) (tN "range" (tN "aligned" (tN "octets_for" tO tO) tO) (tN "text_for" (tN "packed_units" tO tO) tO)))) (tN "cell" (tN "keep" (tN "Hands" (tN "zeros" (tN "find_item" tO tO) (tN "tables_around" tO tO)) (tN "sign_at" (tN "_law_joined" tO tO) tO)) (tN "order" (tN "tables" (tN "is_rounded" tO tO) tO) (tN "quotient" (tN "cut_quotient" tO tO) tO))) (tN "read" (tN "fetch" (tN "is_all" (tN "take_zero" tO tO) (tN "behind_delimiter" tO tO)) (tN "count_at" (tN "sent_octets" tO tO) tO)) (tN "split" (tN "is_over" (tN "set_record" tO tO) tO) (tN "worth_in" (tN "take_scaling" tO tO) tO))))))) (tN "at" (tN "add" (tN "get" (tN "one" (tN "ends" (tN "root" (tN "table" (tN "TWO_SIDED" tO tO) (tN "MINUS_FIGURES" tO tO)) (tN "linkage" (tN "subscripts" tO tO) tO)) (tN "found" (tN "memory" (tN "MOST_DEPTH" tO tO) (tN "MOST_SIZE_pictures" tO tO)) (tN "hands_of" (tN "string_with" tO tO) tO))) (tN "kind" (tN "Shape" (tN "USAGES" (tN "is_signed" tO tO) (tN "unstring_with" tO tO)) (tN "stretch" (tN "do_unstring" tO tO) tO)) (tN "place" (tN "FIGURES" (tN "lay_pieces" tO tO) tO) (tN "repeated" (tN "is_ascending" tO tO) tO)))) (tN "Data" (tN "heap" (tN "take" (tN "usage" (tN "bytearray" tO tO) (tN "is_signed_row" tO tO)) (tN "postfix" (tN "LedgerError" tO tO) tO)) (tN "minus" (tN "script" (tN "data_fault" tO tO) tO) (tN "lay_upon" (tN "_law_pointer" tO tO) tO))) (tN "name" (tN "codes" (tN "edited" (tN "set_sizes" tO tO) (tN "unsigned_shape" tO tO)) (tN "__init__" (tN "items_under" tO tO) tO)) (tN "scale" (tN "figures" (tN "pattern_of" tO tO) tO) (tN "unstrung" (tN "plain_octets" tO tO) tO))))) (tN "len" (tN "row" (tN "form" (tN "sign" (tN "times" (tN "_law_laid" tO tO) (tN "check_clauses" tO tO)) (tN "part_of" (tN "text_shape" tO tO) tO)) (tN "level" (tN "offset" (tN "add_behind" tO tO) tO) (tN "is_loose" (tN "LAID_NOWHERE" tO tO) tO))) (tN "line" (tN "alike" (tN "behind" (tN "number_of" tO tO) (tN "exchanged_refs" tO tO)) (tN "told_up" (tN "is_inserted" tO tO) tO)) (tN "power" (tN "_law_at" (tN "number_for" tO tO) tO) (tN "take_end" (tN "number_shape" tO tO) tO)))) (tN "base" (tN "join" (tN "zero" (tN "worth" (tN "enumerate" tO tO) (tN "signed_figure" tO tO)) (tN "root_of" (tN "_law_behind" tO tO) tO)) (tN "nines" (tN "strung" (tN "is_numeric" tO tO) tO) (tN "position" (tN "cut_by_sizes" tO tO) tO))) (tN "plus" (tN "fault" (tN "floats" (tN "take_sign" tO tO) (tN "MOST_SIZE_layout" tO tO)) (tN "category" (tN "lone_octets" tO tO) tO)) (tN "sorts" (tN "is_late" (tN "qualifiers" tO tO) tO) (tN "whole_of" (tN "signed_again" tO tO) tO)))))) (tN "cut" (tN "int" (tN "pop" (tN "find" (tN "seen" (tN "texts" (tN "_law_draw" tO tO) (tN "__classdict__" tO tO)) (tN "numbers" (tN "take_money" tO tO) tO)) (tN "hands" (tN "occurs" (tN "_law_piece" tO tO) tO) (tN "is_group" (tN "write_plain" tO tO) tO))) (tN "lead" (tN "above" (tN "append" (tN "memory_of" tO tO) (tN "ALONE_pictures" tO tO)) (tN "tallies" (tN "group_shape" tO tO) tO)) (tN "plant" (tN "Picture" (tN "mark_spots" tO tO) tO) (tN "signs_of" (tN "items_around" tO tO) tO)))) (tN "PLUS" (tN "high" (tN "turn" (tN "whole" (tN "depending" tO tO) (tN "number_octets" tO tO)) (tN "records" (tN "NOUGHT_CODE" tO tO) tO)) (tN "moved" (tN "sorted" (tN "group_size" tO tO) tO) (tN "only_one" (tN "binary_width" tO tO) tO))) (tN "part" (tN "depth" (tN "figure" (tN "subscript" tO tO) (tN "place_of_octets" tO tO)) (tN "_law_two" (tN "lay_working" tO tO) tO)) (tN "shelf" (tN "handles" (tN "plain_kids" tO tO) tO) (tN "usage_of" (tN "ref_in_place" tO tO) tO))))) (tN "max" (tN "top" (tN "half" (tN "some" (tN "tuple" (tN "_law_pick" tO tO) (tN "filled_number" tO tO)) (tN "pointed" (tN "whole_size" tO tO) tO)) (tN "marks" (tN "pieces" (tN "conditions" tO tO) tO) (tN "is_whole" (tN "PLUS_FIGURES" tO tO) tO))) (tN "many" (tN "bring" (tN "counts" (tN "redefines" tO tO) (tN "joined_figures" tO tO)) (tN "RENAMING" (tN "is_separate" tO tO) tO)) (tN "right" (tN "applied" (tN "open_paths" tO tO) tO) (tN "units_at" (tN "packed_width" tO tO) tO)))) (tN "code" (tN "keys" (tN "Order" (tN "FILLER" (tN "following" tO tO) (tN "take_inserted" tO tO)) (tN "sign_of" (tN "_law_memory" tO tO) tO)) (tN "pairs" (tN "valued" (tN "isinstance" tO tO) tO) (tN "received" (tN "delimiter_at" tO tO) tO))) (tN "rest" (tN "files" (tN "is_ref" (tN "told_rows" tO tO) (tN "number_of_edited" tO tO)) (tN "first_at" (tN "set_indexes" tO tO) tO)) (tN "spots" (tN "lay_out" (tN "sign_place" tO tO) tO) (tN "DataFault" (tN "text_picture" tO tO) tO))))))))
noncomputable def tT:Nat:=418
noncomputable def zw:Sp:=⟨257,386,268,23,[4,292,145,146,2,28,148,86,220,294,89,31,266,151,153,92,93,94,34,156,8,186,42,99,187,391,299,340,369,188,189,229,342,272,230,44,45,46,47,49,50,100,192,101,13,160,105,56,108,162,164,310,235,165,197,375,114,115,18,315,201,278,203,63,65,120,66,121,122,68,318,69,124,125,71,209,72,244,398,322,283,323,381,284,285,73,286,133,136,137,213,76,141]⟩
noncomputable def IU:Value:=.str "ledgerspeak.decimals" 316
noncomputable def sC:Value:=.str "ledgerspeak.pictures" 447
noncomputable def A3:Value:=.str "ledgerspeak.shapes" 1043
noncomputable def EW:Value:=.str "ledgerspeak.usages" 1260
noncomputable def zN:Value:=.str "ledgerspeak.moving" 1400
noncomputable def UG:Value:=.str "ledgerspeak.tree" 1518
noncomputable def tW:Value:=.str "ledgerspeak.items" 1533
noncomputable def Ou:Value:=.str "ledgerspeak.references" 1796
noncomputable def yd:Value:=.str "ledgerspeak.layout" 1843
noncomputable def Si:Value:=.str "ledgerspeak.reckoning" 2049
noncomputable def mH:Value:=.str "ledgerspeak.world" 2089
noncomputable def fA:Value:=.str "ledgerspeak.stringing" 2238
noncomputable def Sj:Value:=.str "ledgerspeak.program" 2561
def A6:List FE:=[⟨2,13,none,125,124,(some 118),IU,false,[[135,120]]⟩,
 ⟨4,15,none,139,138,none,IU,false,[[0,1,120,14]]⟩,
 ⟨5,16,none,146,145,none,IU,false,[[0,1,95,169,120,383,183]]⟩,
 ⟨6,17,none,153,152,none,IU,false,[[0,1,95,169,120,383,183]]⟩,
 ⟨11,22,none,189,188,none,IU,false,[[0,120,301,69,38,365,3]]⟩,
 ⟨12,23,none,196,195,none,IU,false,[[0]]⟩,
 ⟨13,24,none,203,202,none,IU,false,[[0,246]]⟩,
 ⟨14,25,none,210,209,none,IU,false,[[135,151,3]]⟩,
 ⟨15,38,none,278,277,none,sC,false,[[73,2,79,359]]⟩,
 ⟨16,39,none,283,282,none,sC,false,[[73,2,7,184,14,12,10,359],[68,176]]⟩,
 ⟨17,40,none,290,289,none,sC,false,[[73,96,2,68,89,7,12,205,221,402,359,27]]⟩,
 ⟨18,41,none,297,296,none,sC,false,[[123,96,16]]⟩,
 ⟨19,42,none,302,301,none,sC,false,[[209,21],[68,89,356,12]]⟩,
 ⟨20,44,none,433,432,none,sC,false,[[73,123,109,209,16,113,220,272,78,321,411,416,359,12,178],[68,89,331]]⟩,
 ⟨21,45,none,438,437,none,sC,false,[[209,123],[68,89]]⟩,
 ⟨22,46,none,445,444,none,sC,false,[[73,123,16,209,289,321,411,416,359,12,178,399]]⟩,
 ⟨23,47,none,450,449,none,sC,false,[[73,97,123,12,255,359,242,382,407],[68,5,17],[16]]⟩,
 ⟨43,81,none,660,659,none,A3,false,[[121]]⟩,
 ⟨44,82,none,667,666,none,A3,false,[[121]]⟩,
 ⟨45,83,none,674,673,none,A3,false,[[121]]⟩,
 ⟨48,86,none,695,694,none,A3,false,[[197,136,342,374,362]]⟩,
 ⟨49,87,none,702,701,none,A3,false,[[197,136,144,254]]⟩,
 ⟨50,88,none,709,708,none,A3,false,[[197,136,68,342,254]]⟩,
 ⟨51,89,none,714,713,none,A3,false,[[197,369,391,254]]⟩,
 ⟨52,90,none,722,721,(some 715),A3,false,[[197,136,68,342,369,391,69,335,293,388,243,80]]⟩,
 ⟨53,91,none,729,728,none,A3,false,[[69,80]]⟩,
 ⟨54,92,none,736,735,none,A3,false,[[163,80,12]]⟩,
 ⟨60,107,none,778,777,none,EW,false,[[121,135,51,3,325]]⟩,
 ⟨61,108,none,785,784,none,EW,false,[[161,89,96,62,74,117]]⟩,
 ⟨62,109,none,790,789,none,EW,false,[[121,135,88,68,112,20,337,3,87,357,26,12,384,358,385],[154,385]]⟩,
 ⟨65,112,none,809,808,none,EW,false,[[121,135,51,303,403,395,387]]⟩,
 ⟨66,113,none,816,815,none,EW,false,[[184,96,2,154,268,215]]⟩,
 ⟨67,114,none,823,822,none,EW,false,[[30,358,384,385]]⟩,
 ⟨68,115,none,828,827,none,EW,false,[[121,163,184,341,112,96,26,357,215,396,406],[30,385]]⟩,
 ⟨71,118,none,849,848,none,EW,false,[[121,163,96,12,215,389,373,361,3,325]]⟩,
 ⟨72,119,none,856,855,none,EW,false,[[121,163,183,247]]⟩,
 ⟨73,120,none,863,862,none,EW,false,[[121,161,309,246]]⟩,
 ⟨74,125,none,871,870,none,zN,false,[[220,130,65,177]]⟩,
 ⟨75,126,none,878,877,none,zN,false,[[171,37,223]]⟩,
 ⟨76,127,none,886,885,(some 879),zN,false,[[163,69,369,355,12,14]]⟩,
 ⟨77,128,none,893,892,none,zN,false,[[163,69,215,12]]⟩,
 ⟨78,129,none,900,899,none,zN,false,[[163,161,2,30,268,330,215]]⟩,
 ⟨79,130,none,907,906,none,zN,false,[[121,163,275,414,183,415]]⟩,
 ⟨80,131,none,914,913,none,zN,false,[[121,163,215,309,408,3,247]]⟩,
 ⟨81,132,none,921,920,none,zN,false,[[121,163,225,181]]⟩,
 ⟨82,133,none,928,927,none,zN,false,[[121,161,152,295]]⟩,
 ⟨83,134,none,935,934,none,zN,false,[[171,163,37,219,215,181,177,308,401,245,211]]⟩,
 ⟨84,135,none,942,941,none,zN,false,[[195]]⟩,
 ⟨85,136,none,949,948,none,zN,false,[[195,121,308,183,215,415,240]]⟩,
 ⟨86,137,none,956,955,none,zN,false,[[195,121,73,177,390,215,240,312,225]]⟩,
 ⟨87,139,none,963,962,none,UG,false,[[131,302,134,12]]⟩,
 ⟨88,140,none,968,967,none,UG,false,[[131,149,96,302,134,158],[16,404,149]]⟩,
 ⟨89,148,none,1079,1078,none,tW,false,[[31,96,56]]⟩,
 ⟨90,149,none,1086,1085,none,tW,false,[[43,96,52,16]]⟩,
 ⟨91,150,none,1093,1092,none,tW,false,[[31,96,64,202,344]]⟩,
 ⟨92,151,none,1100,1099,none,tW,false,[[43,96,82]]⟩,
 ⟨93,152,none,1107,1106,none,tW,false,[[43,147,370]]⟩,
 ⟨94,153,none,1112,1111,none,tW,false,[[43,370],[16,142]]⟩,
 ⟨95,154,none,1117,1116,none,tW,false,[[43,52,370],[16]]⟩,
 ⟨96,155,none,1122,1121,none,tW,false,[[43],[11,214]]⟩,
 ⟨97,156,none,1127,1126,none,tW,false,[[43],[11,214]]⟩,
 ⟨98,157,none,1134,1133,none,tW,false,[[43,61,16,370]]⟩,
 ⟨99,158,none,1141,1140,none,tW,true,[[43,96,212],[16]]⟩,
 ⟨100,159,none,1148,1147,none,tW,false,[[43,16,370]]⟩,
 ⟨101,161,none,1153,1152,none,Ou,false,[[31,43,22,56,204]]⟩,
 ⟨102,162,none,1160,1159,none,Ou,false,[[147,316,2,56,12]]⟩,
 ⟨103,163,none,1167,1166,none,Ou,false,[[96,56,12,287]]⟩,
 ⟨104,164,none,1172,1171,none,Ou,false,[[31,56,316,84,263,234],[43,56],[43,393,371,185,31,316]]⟩,
 ⟨105,165,none,1179,1178,none,Ou,false,[[43,320,58,173,164,128,282,85,159,397,12,215,23]]⟩,
 ⟨107,171,none,1193,1192,none,yd,false,[[43,136,197,392,68,342,250,296,339,377,206,241]]⟩,
 ⟨108,172,none,1200,1199,none,yd,false,[[43]]⟩,
 ⟨110,174,none,1214,1213,none,yd,false,[[43,90,288,296,327,226,305,298,338]]⟩,
 ⟨111,175,none,1221,1220,none,yd,false,[[43,90,69,83,11,314,280,326,277,296,412]]⟩,
 ⟨112,176,none,1228,1227,none,yd,false,[[43,164,28,41,83,11,314,351,326,277]]⟩,
 ⟨115,179,none,1247,1246,none,yd,false,[[64,164,28,43,280,351,214,379]]⟩,
 ⟨117,181,none,1261,1260,none,yd,false,[[119,164,7,83,64,317,232,14]]⟩,
 ⟨118,182,none,1268,1267,none,yd,false,[[119,83,64,317,232]]⟩,
 ⟨120,184,none,1280,1279,none,yd,false,[[31,43,107,56,263,296],[43]]⟩,
 ⟨123,187,none,1295,1294,none,yd,false,[[31,43,103,107,368,56,343,296,344],[16]]⟩,
 ⟨124,188,none,1302,1301,none,yd,false,[[31,41,56,43,231,346,329,254,345,350,263,363]]⟩,
 ⟨126,190,none,1316,1315,none,yd,false,[[43,300,309]]⟩,
 ⟨127,191,none,1321,1320,none,yd,false,[[43,47,174,226,249,314],[11],[11,367]]⟩,
 ⟨128,192,none,1328,1327,none,yd,false,[[31,96,56,64,264,367,87]]⟩,
 ⟨129,195,none,1336,1335,none,Si,false,[[33,96,52,48,41,256]]⟩,
 ⟨130,196,none,1343,1342,none,Si,false,[[68,51,118,60,104,132,237,116]]⟩,
 ⟨131,197,none,1350,1349,none,Si,false,[[33,161,59,48,58,118,200,193,182]]⟩,
 ⟨132,200,none,1378,1377,none,mH,false,[[139,195]]⟩,
 ⟨133,201,none,1385,1384,none,mH,false,[[139,43,12,215]]⟩,
 ⟨134,202,none,1392,1391,none,mH,false,[[139,43,164,69,160,85,7,274,215]]⟩,
 ⟨135,203,none,1399,1398,none,mH,false,[[139,58,159,251]]⟩,
 ⟨136,204,none,1404,1403,none,mH,false,[[139,19,43,58,164,69,160,112,269,196,208,410,80],[33,251,139]]⟩,
 ⟨137,205,none,1411,1410,none,mH,false,[[139,195,160,164,121,207,87,372,309,246,324,215]]⟩,
 ⟨138,206,none,1418,1417,none,mH,false,[[139,195,121,163,227,183,311,271,215,275]]⟩,
 ⟨139,207,none,1425,1424,none,mH,true,[[139,33,239],[195,139,276]]⟩,
 ⟨140,208,none,1432,1431,none,mH,false,[[139,33,140,253,230,215,252]]⟩,
 ⟨141,209,none,1439,1438,none,mH,false,[[121,135,152,183,309]]⟩,
 ⟨142,210,none,1446,1445,none,mH,false,[[139,19,161,301,160,164,121,135,227,230,215,252,207,246,35,394]]⟩,
 ⟨143,212,none,1453,1452,none,fA,false,[[163,175,2,12]]⟩,
 ⟨145,214,none,1467,1466,none,fA,false,[[163,265,2,222]]⟩,
 ⟨146,215,none,1474,1473,none,fA,false,[[65,37,85,270,163,265,111,63,39,12,279]]⟩,
 ⟨147,216,none,1481,1480,none,fA,false,[[163,297,2,55,157,12,215,191]]⟩,
 ⟨148,217,none,1488,1487,none,fA,false,[[163,55,157,2,148,12,191]]⟩,
 ⟨149,218,none,1495,1494,none,fA,false,[[163,297,85,2,9,117,12,366,413]]⟩,
 ⟨150,219,none,1502,1501,none,fA,false,[[163,297,85,54,166,2,111,55,12,307]]⟩,
 ⟨152,222,none,1537,1536,none,fA,false,[[195,98]]⟩,
 ⟨153,223,none,1544,1543,none,fA,false,[[199,98]]⟩,
 ⟨154,224,none,1551,1550,none,fA,false,[[199,236,98]]⟩,
 ⟨155,225,none,1558,1557,none,fA,false,[[281,98,110,195,265,55,37,85,163,270,57,348,198,12,172,233]]⟩,
 ⟨156,226,none,1565,1564,none,fA,false,[[166,65,126,306,98,2,111,55,117,12]]⟩,
 ⟨157,227,none,1570,1569,none,fA,false,[[281,98,163,102,85,126,306,166,270,57,348,198,12,364,248,304,233],[195,157,348,98],[37,55,89,98],[37,55,89,98]]⟩,
 ⟨158,228,none,1575,1574,none,fA,false,[[121,163,154,112,341,215,87,337,3,247,396,385]]⟩,
 ⟨159,229,none,1582,1581,none,fA,false,[[121,83,184,112,154,341,229,123,396,385,384,358,87]]⟩,
 ⟨160,230,none,1589,1588,none,fA,false,[[139,195,69,121,163,155,80,311,376]]⟩,
 ⟨161,231,none,1596,1595,none,fA,false,[[139,19,163,160,164,121,207,215,380,87]]⟩,
 ⟨162,232,none,1603,1602,none,fA,false,[[163,121,12,106,324,155]]⟩,
 ⟨163,233,none,1610,1609,none,fA,false,[[71,163,160,164,121,238]]⟩,
 ⟨165,235,none,1624,1623,none,fA,true,[[139,77,273],[195,69,139,349],[19,163,139,354],[19,139,252,276],[19,161,139,127,183],[19,139,207],[71,313]]⟩,
 ⟨166,236,none,1631,1630,none,fA,false,[[139,33,183,251]]⟩,
 ⟨167,237,none,1636,1635,none,fA,false,[[139,19,75,56,316,320,58,194,32,134],[33,409,139]]⟩,
 ⟨168,238,none,1643,1642,none,fA,true,[[139,281,404],[19,139,378]]⟩,
 ⟨169,239,none,1650,1649,none,fA,false,[[139,281,352,353,224]]⟩,
 ⟨170,240,none,1657,1656,none,fA,false,[[139,281,400,353,224]]⟩,
 ⟨171,244,none,1693,1692,none,(.str "law_pq0659_01" 2607),false,[[168,138,29,3,10]]⟩,
 ⟨172,245,none,1700,1699,none,(.str "law_pq0659_01" 2607),false,[[40,54,91]]⟩,
 ⟨173,246,none,1707,1706,none,(.str "law_pq0659_01" 2607),false,[[40,70,258,12]]⟩,
 ⟨174,247,none,1714,1713,none,(.str "law_pq0659_01" 2607),false,[[56]]⟩,
 ⟨175,248,none,1721,1720,none,(.str "law_pq0659_01" 2607),false,[[56,36,16,261]]⟩,
 ⟨176,249,none,1728,1727,none,(.str "law_pq0659_01" 2607),false,[[31,167,56,197,43,24,25,143,190,81,179]]⟩,
 ⟨177,250,none,1735,1734,none,(.str "law_pq0659_01" 2607),false,[[161,87]]⟩,
 ⟨178,251,none,1740,1739,none,(.str "law_pq0659_01" 2607),false,[[40,85,150,210,87,117,258],[74,262,40],[74,258,40],[74,218,258,40],[74,218,258,40]]⟩,
 ⟨179,252,none,1747,1746,none,(.str "law_pq0659_01" 2607),false,[[160,164,163,12]]⟩,
 ⟨180,253,none,1754,1753,none,(.str "law_pq0659_01" 2607),false,[[160,2,236,260]]⟩,
 ⟨181,254,none,1761,1760,none,(.str "law_pq0659_01" 2607),false,[[73,112,96,12,15]]⟩,
 ⟨182,255,none,1768,1767,none,(.str "law_pq0659_01" 2607),false,[[160,2,73,85,95,112,166,96,169,129,290,260,87,12,360,218]]⟩,
 ⟨183,256,none,1775,1774,none,(.str "law_pq0659_01" 2607),false,[[160,184,2,360,260,12]]⟩,
 ⟨184,257,none,1782,1781,none,(.str "law_pq0659_01" 2607),false,[[139,160,281,75,267,336,328,87]]⟩,
 ⟨185,258,none,1789,1788,none,(.str "law_pq0659_01" 2607),false,[[168,40,36,184,160,139,65,199,6,319,113,16,259,258,262,334,291,261,180,332,217,260,333]]⟩,
 ⟨188,36,(some 0),224,223,none,sC,false,[[67,73,209,220,151,120,272,69]]⟩,
 ⟨191,37,(some 0),257,256,none,sC,false,[[67,68,89,2]]⟩,
 ⟨193,43,(some 0),316,315,none,sC,false,[[67]]⟩,
 ⟨194,43,(some 1),323,322,none,sC,false,[[67]]⟩,
 ⟨195,43,(some 2),330,329,none,sC,false,[[67,89,228]]⟩,
 ⟨196,43,(some 3),337,336,none,sC,false,[[67,16]]⟩,
 ⟨206,43,(some 13),407,406,none,sC,false,[[67,16,68]]⟩,
 ⟨207,43,(some 14),414,413,none,sC,false,[[67,417]]⟩,
 ⟨208,43,(some 15),421,420,none,sC,false,[[67]]⟩,
 ⟨213,80,(some 0),632,631,(some 625),A3,false,[[67,220,69,197,136,68,342,369,391]]⟩,
 ⟨215,80,(some 2),646,645,none,A3,false,[[67]]⟩,
 ⟨216,145,(some 0),985,984,(some 978),tW,false,[[67,13,42,266,46,187,134]]⟩,
 ⟨218,146,(some 0),1013,1012,none,tW,false,[[67,100,56]]⟩,
 ⟨219,146,(some 1),1020,1019,none,tW,false,[[67,11]]⟩,
 ⟨220,146,(some 2),1027,1026,none,tW,false,[[67]]⟩,
 ⟨223,147,(some 0),1060,1059,none,tW,false,[[67]]⟩,
 ⟨225,199,(some 0),1364,1363,none,mH,false,[[67,201,122,65,56,53,264,405,170]]⟩,
 ⟨226,221,(some 0),1523,1522,none,fA,false,[[67,93,114,145,45,71,86,63]]⟩,
 ⟨227,242,(some 0),1672,1671,(some 1665),Sj,false,[[67,56,31,94,315,299]]⟩]
noncomputable def lW:List (Nat×List (List Nat)):=[(0,[[16]]),(1,[[195,139,276]]),(2,[[195,69,139,349]]),(3,[[19,163,139,354]]),(4,[[19,139,252,276]]),(5,[[19,161,139,127,183]]),(6,[[19,139,207]]),(7,[[71,313]]),(8,[[19,139,378]])]
structure TS where
 n:Nat
 t:Nat
 tr:BT
 rest:List DictEntry
 me:Nat
 nm:Value
 ct:List Value
 Rw:List DictEntry
 se:Nat
noncomputable def GD:BT→Nat→Obj→BT
 |.nil,_,o=>.node o .nil .nil
 |.node v l r,i,o=>match Nat.beq i 0 with
  |true=>.node o l r
  |false=>match Nat.beq (i %2) 1 with
   |true=>.node v (GD l (i/2) o) r
   |false=>.node v l (GD r (i/2 - 1) o)
noncomputable def th:BT→Nat→(Obj→Obj)→BT
 |.nil,_,_=>.nil
 |.node v l r,i,f=>match Nat.beq i 0 with
  |true=>.node (f v) l r
  |false=>match Nat.beq (i %2) 1 with
   |true=>.node v (th l (i/2) f) r
   |false=>.node v l (th r (i/2 - 1) f)
namespace TS
noncomputable def txt(s:TS)(x:Str):Value×TS:=(.str x s.t,{s with t:=s.t+1})
def al(s:TS)(o:Obj):Nat×TS:=(s.n,{s with tr:=GD s.tr s.n o,n:=s.n+1})
noncomputable def BK:List Str→TS→List Value×TS
 |[],s=>([],s)
 |x::r,s=>match s.txt x with
  |(v,s)=>match BK r s with
   |(vs,s)=>(v::vs,s)
end TS
noncomputable def pn(l:List Value):Obj:={cls:=.type "tuple",data:=.seq l.toArray 0}
noncomputable def mM(c:Value)(l:List Value):Obj:={cls:=c,data:=.fields l.toArray}
noncomputable def ri(n:Nat):Value:=.int n 0
def Jq(s:TS)(name qual:Str)(first argc flags:Nat)(free:List Str)(WR:Bool)(loc:Option (List Str×List Str))(tm:Option FuncData):Nat×TS:=
 match s.txt name with
 |(v0,s)=>match s.txt qual with
 |(v1,s)=>match s.txt "/claim/cut.py" with
 |(v2,s)=>match TS.BK free s with
 |(fv,s)=>match s.al (pn fv)with
 |(ft,s)=>match s.al (mM .none [])with
 |(tb,s)=>match(match loc with|some l=>(match TS.BK l.1 s with|(a,s)=>match s.al (pn a)with|(x,s)=>match TS.BK l.2 s with|(b,s)=>match s.al (pn b)with|(y,s)=>((Value.ref x,Value.ref y),s))|none=>((Value.none,Value.none),s))with
 |((l1,l2),s)=>match(match tm with|some fd=>(match s.al {cls:=.none,data:=.func fd}with|(x,s)=>(Value.ref x,s))|none=>(Value.none,s))with
 |(tv,s)=>match(s.t,{s with t:=s.t+1})with
 |(idv,s)=>match s.txt "/claim/cut.py" with
 |(v3,s)=>s.al (mM (.type "code") [v0,v1,v2,ri first,ri argc,ri 0,ri 0,ri flags,.ref ft,.bool WR,ri 181,.ref tb,.none,l1,l2,tv,ri idv,ri first,v3])
noncomputable def CZ(x:Str):List DictEntry→Option Value
 |[]=>none
 |e::r=>match e.key.isStr x with|true=>some e.val|false=>CZ x r
noncomputable def Xw(s:TS):Const→Value×TS
 |.int i=>(.int i s.t,{s with t:=s.t+1})
 |.str x=>s.txt x
 |.bytes b=>(.bytes b.toArray s.t,{s with t:=s.t+1})
 |.bool b=>(.bool b,s)
 |_=>(.none,s)
noncomputable def LU(f:TS→Expr→Value×TS):List Expr→TS→List Value×TS
 |[],s=>([],s)
 |e::r,s=>match f s e with|(v,s)=>match LU f r s with|(vs,s)=>(v::vs,s)
noncomputable def Tn:Nat→TS→Expr→Value×TS
 |0,s,_=>(.none,s)
 |n+1,s,e=>match cY e 19 with
  |true=>Xw s (vX e).c
  |false=>match cY e 23 with
   |true=>((CZ (vX e).s s.rest).getD .none,s)
   |false=>match cY e 25 with
    |true=>match LU (Tn n) (vX e).xs s with|(vs,s)=>match s.al (pn vs)with|(a,s)=>(.ref a,s)
    |false=>(.none,s)
def UZ(s:TS)(pre:Str)(st:Stmt):Str×Nat×Nat×Pos×TS:=match vS st with
 |⟨_,_,_,_,body,_,_,_,pos,name,args,scope,_⟩=>match LU (Tn 5) args.defaults s with
  |(dv,s)=>match(match dv with|[]=>(Value.none,s)|_=>match s.al (pn dv)with|(a,s)=>(Value.ref a,s))with
  |(dV,s)=>match Jq s name (pre++name) pos.line (args.posonlyargs.length+args.args.length) (functionFlags false false scope ⟨"",0,false,0⟩) scope.freeNames true (localNames args scope (.stmts body))
    (some {name,qualname:=pre++name,params:=args,body:=.stmts body,scope,globals:=builtinsNs,closure:=[],defaults:=.none,kwdefaults:=.none})with
  |(c,s)=>match s.al {cls:=.type "function",data:=.func {name,qualname:=pre++name,params:=args,body:=.stmts body,scope,globals:=mainNs,closure:=[],closureTuple:=.none,code:=.ref c,builtins:=builtinsNs,defaults:=dV,kwdefaults:=.none,annotations:=none,pyModule:=s.nm,doc:=.none}}with
  |(f,s)=>(name,f,c,pos,s)
noncomputable def KA(P:Params)(s:TS)(x:Str)(v:Value):TS:={s with rest:=⟨PyData.keyHash P x,.str x s.t,v⟩::s.rest,t:=s.t+1,me:=s.me+1}
def Kc(pos:Pos)(c:Nat):List Value:=[ri pos.line,ri pos.col,.ref c]
noncomputable def Eo(P:Params)(pre:Str):List Stmt→TS→List DictEntry→List Value→List DictEntry×List Value×TS
 |[],s,es,ct=>(es,ct,s)
 |st::r,s,es,ct=>match gm st 25 with
  |true=>Eo P pre r s es ct
  |false=>match UZ s pre st with
  |(x,f,c,pos,s)=>Eo P pre r {s with t:=s.t+1} (es++[⟨PyData.keyHash P x,.str x s.t,.ref f⟩]) (ct++Kc pos c)
noncomputable def uI(es:List DictEntry)(n:Nat):Obj:={cls:=.type "dict",data:=.dict es.toArray n}
noncomputable def key(P:Params)(x:Str)(t:Nat)(v:Value):DictEntry:=⟨PyData.keyHash P x,.str x t,v⟩
noncomputable def Qt:Value→Option String
 |.type x=>some x
 |_=>none
noncomputable def EB:Value→Option Nat
 |.ref b=>some b
 |_=>none
noncomputable def P2:Data→Option ClassData
 |.cls cd=>some cd
 |_=>none
noncomputable def LI:Data→List Value
 |.fields vs=>vs.toList
 |_=>[]
noncomputable def IP:Option α→Bool
 |none=>true
 |some _=>false
def TL(P:Params)(s:TS)(name:Str)(bases:List Expr)(body:List Stmt)(scope:Scope)(statics:List Str)(pos:Pos):TS:=
 let base:Option Value:=match bases with|b::_=>some ((CZ (vX b).s s.rest).getD (.type "Exception"))|[]=>none
 match s.al (pn base.toList)with
 |(bt,s)=>match s.txt name with
 |(nv,s)=>match{s with t:=s.t+1}.al (mM (.type "builtin_function_or_method") [.builtin "type.__prepare__",.type "type"])with
 |(_,s)=>match s.al (uI [] 0)with
 |(ns,s)=>match Jq s name name pos.line 0 0 [] false none none with
 |(code,s)=>match s.al {cls:=.type "frame",data:=.plain,slots:=#[some (.ref code),some (.ref mainNs),some (.ref ns),none,some s.nm,none,some (.ref builtinsNs)]}with
 |(_,s)=>match(s.t,{s with t:=s.t+5})with
 |(k,s)=>match([key P "__module__" k s.nm,key P "__qualname__" (k+2) (.str name (k+1)),key P "__firstlineno__" (k+4) (.int pos.line (k+3))]:List DictEntry)with
 |es=>match Eo P (name++".") body s es []with
 |(es,ct,s)=>match TS.BK statics s with
 |(sv,s)=>match s.al (pn sv)with
 |(sa,s)=>match(es++[key P "__static_attributes__" s.t (.ref sa)],{s with t:=s.t+1})with
 |(es,s)=>
  let cdict:=s.n
  let cls:=s.n+1
  let own:List DictEntry:=es.filter fun e=>!e.key.isStr "__qualname__"
  let plain:=IP base
  let exc:=!IP (base.bind Qt)
  let(own,adds,more,V6):List DictEntry×Nat×List Obj×Nat:=match plain,exc with
   |true,_=>(own++[key P "__dict__" (s.t+1) (.ref (cls+1)),key P "__weakref__" (s.t+3) (.ref (cls+2)),key P "__doc__" (s.t+4) .none],3,
     [mM (.type "getset_descriptor") [.str "__dict__" s.t,.ref cls,.builtin "function.__dict__",.builtin "function.__dict__#set"],mM (.type "getset_descriptor") [.str "__weakref__" (s.t+2),.ref cls,.builtin "ExceptionGroup.__weakref__",.none]],s.t+5)
   |_,true=>(own++[key P "__weakref__" (s.t+1) (.ref (cls+1)),key P "__doc__" (s.t+2) .none],2,
     [mM (.type "getset_descriptor") [.str "__weakref__" s.t,.ref cls,.builtin "ExceptionGroup.__weakref__",.none]],s.t+3)
   |_,_=>(own++[key P "__doc__" s.t .none],1,[],s.t+1)
  let mro:List Value:=match base with
   |none=>[.type "object"]
   |some v=>match Qt v with
    |some x=>[.type x,.type "BaseException",.type "object"]
    |none=>match(EB v).bind fun b=>(s.tr.get b).bind fun o=>P2 o.data with
     |some cd=>cd.mro
     |none=>[]
  let cd:ClassData:={name,bases:=(match base with|none=>[Value.type "object"]|some b=>[b]),mro:=Value.ref cls::mro,ns:=cdict,qualname:=name,hasDict:=true,slotNames:=[],subclasses:=[],abstract:=false,collection:=none,hasDel:=false}
  let co:Obj:={cls:=.type "type",data:=.cls cd,slots:=#[(match base with|none=>(none:Option Value)|_=>some (Value.ref bt)),none,some nv,some (.str name (k+1)),some (.builtin (if plain then "object.__new__" else "Exception.__new__")),some (.bool true)]}
  let objs:List Obj:=[uI own (adds+1),co]++more++[mM (.type "super") [Value.ref cls,Value.ref cls,Value.ref cls],mM (.type "builtin_function_or_method") [Value.builtin "object.__init_subclass__",Value.ref cls]]
  let s:TS:=objs.foldl (fun s o=>(TS.al s o).2) {s with t:=V6}
  let s:=match exc with
   |true=>{s with Rw:=[key P "type.__subclasses__.Exception.0" s.t (ri cls),key P "type.__subclasses__.Exception.n" (s.t+1) (ri 1)],se:=2,t:=s.t+2}
   |false=>s
  let s:=match base.bind EB with
   |some b=>{s with tr:=th s.tr b fun o=>match P2 o.data with|some cd=>{o with data:=.cls {cd with subclasses:=cd.subclasses++[Value.ref cls]}}|none=>o}
   |none=>s
  let s:={s with tr:=(th s.tr ns fun Y=>uI es es.length),t:=s.t+1}
  let s:=match((s.tr.get code).bind fun o=>(LI o.data)[11]?).bind EB with
   |some tb=>{s with tr:=th s.tr tb fun Y=>mM Value.none ct}
   |none=>s
  let s:=KA P s name (.ref cls)
  {s with ct:=(Kc pos code).reverse++s.ct}
def i9(P:Params)(s:TS)(st:Stmt):List Expr→TS
 |[]=>s
 |x::_=>match Tn 5 s (vS st).a with
  |(v,s)=>match(vX x).s==("__name__":Str)with
   |true=>{s with nm:=v,t:=s.t+1}
   |false=>KA P s (vX x).s v
def IA(P:Params)(s:TS)(st:Stmt):TS:=match gm st 0 with
 |true=>match UZ s Str.empty st with
  |(x,fa,ca,pos,s)=>match KA P s x (.ref fa)with
   |s=>{s with ct:=(Kc pos ca).reverse++s.ct}
 |false=>match gm st 2 with
  |true=>match vS st with
   |⟨_,_,bases,_,body,_,_,_,pos,name,_,scope,statics⟩=>TL P s name bases body scope statics pos
  |false=>match gm st 5 with
   |true=>i9 P s st (vS st).ts
   |false=>s
noncomputable def kj(P:Params):List Stmt→TS→TS
 |[],s=>s
 |st::r,s=>kj P r (IA P s st)
section
noncomputable def prog:Program:=(PySem.Challenge.rw_pq0659_01.row).prog
def body:List Stmt:=behindTheImports prog
noncomputable def LV:PySem.Env:={scope:=prog.main.scope,locals:=mainNs,globals:=mainNs,cells:=[],code:=.ref 13,frame:=some 14}
def codeB:Code:=.body body LV
noncomputable def fR:Pos:=⟨0,0,0,0⟩
def posOf(st:Stmt):Pos:=match gm st 5 with
 |true=>match(vS st).ts with
  |x::_=>(vX x).p
  |[]=>fR
 |false=>(vS st).p
def posAt:Nat→Pos
 |0=>fR
 |k+1=>match body[k]? with|some st=>posOf st|none=>fR
def Kk(P:Params):List Obj:=(boot_heap P).objs.toList++[pn [],mM .none [],mM (.type "code") [.str "<module>" 182,.str "<module>" 183,.str "/claim/cut.py" 184,ri 1,ri 0,ri 0,ri 0,ri 0,.ref 11,.bool false,ri 181,.ref 12,.none,.none,.none,.none,ri 185,ri 1,.str "/claim/cut.py" 186],
 {cls:=.type "frame",data:=.plain,slots:=#[some (.ref 13),some (.ref 3),some (.ref 3),none,some (.str "__main__" 164),none,some (.ref 0)]}]
noncomputable def treeOf:List Obj→Nat→BT→BT
 |[],_,t=>t
 |o::r,n,t=>treeOf r (n+1) (GD t n o)
noncomputable def Ow(P:Params):List DictEntry:=match(((boot_heap P).objs.toList.drop 3):List Obj)with|(⟨_,_,Data.dict es _,_⟩:Obj)::_=>es.toList|_=>[]
def QM(P:Params):TS:={n:=15,t:=187,tr:=treeOf (Kk P) 0 .nil,rest:=[],me:=9,nm:=.str "__main__" 164,ct:=[],Rw:=[],se:=0}
def gc(P:Params)(k:Nat):TS:=kj P (body.take k) (QM P)
noncomputable def IB(v:Value):List DictEntry→List DictEntry
 |[]=>[]
 |e::r=>match e.key.isStr "__name__" with|true=>{e with val:=v}::r|false=>e::IB v r
def Aj(P:Params)(s:TS):BT:=th (th (th s.tr 3 fun Y=>uI (IB s.nm (Ow P)++s.rest.reverse) s.me) 12 fun Y=>mM .none s.ct.reverse) 2 fun Y=>{uI s.Rw s.se with cls:=.none}
def FG(w:World)(os:OsState)(s:TS):SharedT:=⟨Aj w.params s,s.n,(boot_heap w.params).life,#[],boot_drawn,s.t,os⟩
noncomputable def part(a b:Nat):List Stmt:=(body.drop a).take (b - a)
abbrev iM(w:World)(os:OsState)(a b N:Nat):Prop:=segRunT treeTable prog w 11 (some (.ref 6)) 1 N (FG w os (gc w.params a)) (piecesOf (part a b) LV codeB (posAt a) [topFrame fR])=some (.next,FG w os (kj w.params (part a b) (gc w.params a)),codeB,posAt b)
abbrev fc(a b N:Nat):Prop:=∀(w:World)(os:OsState),iM w os a b N
theorem Mn(C:World→OsState→Prop):Nonempty {q:World×OsState//C q.1 q.2→∀w os,C w os}:=by
 by_cases h:∀w os,C w os
 ·exact⟨⟨(⟨fun Y Y=>0,{strHash:=fun Y=>0,shareClass:=fun Y=>0,mergeTok:=fun t=>t,idOf:=fun Y=>0,idOfShared:=fun Y Y=>0,followText:=fun Y=>false,idOfImm:=fun Y=>0}⟩,{}),fun Y=>h⟩⟩
 ·have⟨w,h⟩:=Classical.not_forall.mp h
  have⟨os,h⟩:=Classical.not_forall.mp h
  exact⟨⟨(w,os),fun k=>absurd k h⟩⟩
noncomputable def bad(C:World→OsState→Prop):{q:World×OsState//C q.1 q.2→∀w os,C w os}:=Classical.choice (Mn C)
theorem fV(C:World→OsState→Prop)(h:C (bad C).1.1 (bad C).1.2):∀w os,C w os:=(bad C).2 h
theorem Wj:fc 0 50 4000:=fV (fun w os=>iM w os 0 50 4000) (by kernel_rfl)
theorem Wh:fc 50 100 4000:=fV (fun w os=>iM w os 50 100 4000) (by kernel_rfl)
theorem Wg:fc 100 145 4000:=fV (fun w os=>iM w os 100 145 4000) (by kernel_rfl)
theorem Wf:fc 145 190 4000:=fV (fun w os=>iM w os 145 190 4000) (by kernel_rfl)
theorem We:fc 190 225 4000:=fV (fun w os=>iM w os 190 225 4000) (by kernel_rfl)
theorem Wc:fc 225 259 4000:=fV (fun w os=>iM w os 225 259 4000) (by kernel_rfl)
end
section
noncomputable def nameOf:Stmt→List Str
 |.Assign [.Name x _] _ _=>[x]
 |.FunctionDef x _ _ _ _ _ _ _ _ _=>[x]
 |.ClassDef x _ _ _ _ _ _ _ _ _ _=>[x]
 |_=>[]
def qv:Program:=view prog [258]
def loose:List Str:=(body.take 258).flatMap nameOf
noncomputable def mods:List Str:=importedModules prog.main.body
def kI(P:Params):Heap:=absHeap (Aj P (gc P 259)) 1790 (boot_heap P).life
end
section
noncomputable def jV(x:Nat):Str:=(CD.get x).getD ⟨#[x+1000]⟩
noncomputable def jX(s:Str):Nat:=s.cps.toList.foldl (fun a c=>Nat.add (Nat.add (Nat.mul a 2097152) c) 1) 0
noncomputable def XI:List Nat→Bool:=fun l=>l.casesOn true fun c r=>r.casesOn (Nat.blt c 1000) fun Y Y=>true
def TV(s:Str)(prev e:Nat)(r:Bool):Bool:=Nat.blt prev e&&(XI s.cps.toList&&r)
def HQ(n:Nat):Nat→Nat→Bool:=n.rec (fun Y Y=>true) fun Y r x prev=>(CD.get x).any fun s=>TV s prev (jX s) (r (x+1) (jX s))
theorem bl{o:Option α}{p:α→Bool}(h:o.any p=true):∃a,o=some a∧p a=true:=(Option.any_eq_true p o).mp h
namespace aE
noncomputable def ents(t:aE α):List (Nat×α):=t.rec [] fun v Y Y a b=>v.toList.map (fun a=>(0,a))++(a.map (fun p=>(2*p.1+1,p.2))++b.map (fun p=>(2*p.1+2,p.2)))
theorem fD{t:aE α}{i:Nat}{a:α}(h:t.get i=some a):(i,a)∈t.ents:=by
 induction t generalizing i with
 |nil=>exact no h
 |node v l r ihl ihr=>
  cases i with
  |zero=>exact List.mem_append_left _ (List.mem_map.mpr ⟨a,by rw [show v=some a from h];exact List.mem_singleton_self a,rfl⟩)
  |succ i=>
   have h:Nat.rec (motive:=fun Y=>Option α) (r.get ((i+1)/2 - 1)) (fun Y Y=>l.get ((i+1)/2)) ((i+1) %2)=some a:=h
   have d:=Nat.div_add_mod (i+1) 2
   refine List.mem_append_right _ ?_
   cases q:(i+1) %2 with
   |zero=>
    rw [q]at h d;refine List.mem_append_right _ (List.mem_map.mpr ⟨_,ihr h,Prod.ext (Eq.trans ?_ d) rfl⟩);show 2*((i+1)/2 - 1)+2=2*((i+1)/2)+0
    generalize (i+1)/2=m at d
    cases m with
    |zero=>exact nomatch d
    |succ k=>rfl
   |succ k=>
    have k0:k=0:=Nat.le_zero.mp (Nat.le_of_lt_succ (Nat.lt_of_succ_lt_succ ((congrArg (·<2) q).mp (Nat.mod_lt (i+1) Nat.two_pos))))
    rw [q]at h d;rw [k0]at d;exact List.mem_append_left _ (List.mem_map.mpr ⟨_,ihl h,Prod.ext d rfl⟩)
end aE
theorem rJ{x:Nat}{s:Str}(q:CD.get x=some s):jV x=s:=by unfold jV;rw [q];rfl
theorem CF{x:Nat}(q:CD.get x=none):jV x=⟨#[x+1000]⟩:=by unfold jV;rw [q];rfl
theorem yT{x:Nat}:∀(n k prev:Nat),HQ n k prev=true→k≤x→x<k+n→∃s,CD.get x=some s∧prev<jX s∧(∀c,s.cps.toList=[c]→c<1000):=by
 intro n
 induction n with
 |zero=>intro k _ _ h1 h2;exact absurd h2 (Nat.not_lt.mpr h1)
 |succ n ih=>
  intro k prev h h1 h2;refine aC (bl h:) fun s q h=>?_
  refine aw (ae h:) fun a h=>?_
  refine aw (ae h:) fun b h=>?_
  refine(Nat.eq_or_lt_of_le h1).elim (fun e=>?_) fun l=>?_
  ·subst e;exact⟨s,q,bF a,fun c e=>by rw [e]at b;exact bF b⟩
  ·refine lM (ih (k+1) _ h l (Nat.succ_add_eq_add_succ k n▸h2):) fun s' e1 e2 e3=>?_
   exact⟨s',e1,Nat.lt_trans (bF a) e2,e3⟩
theorem HP{x:Nat}(hl:x<y):∀(n k prev:Nat),HQ n k prev=true→k≤x→y<k+n→jX (jV x)<jX (jV y):=by
 intro n
 induction n with
 |zero=>intro k _ _ h1 h2;exact absurd (Nat.lt_trans hl h2) (Nat.not_lt.mpr h1)
 |succ n ih=>
  intro k prev h h1 h2;refine aC (bl h:) fun s q h=>?_
  refine aw (ae h:) fun Y h=>?_
  refine aw (ae h:) fun Y h=>?_
  refine(Nat.eq_or_lt_of_le h1).elim (fun e=>?_) fun l=>?_
  ·subst e
   refine lM (yT n (k+1) _ h hl (Nat.succ_add_eq_add_succ k n▸h2):) fun s' e1 e2 Y=>?_
   rw [rJ q,rJ e1];exact e2
  ·exact ih (k+1) _ h l (Nat.succ_add_eq_add_succ k n▸h2)
theorem K4(h:HQ tT 0 0=true)(hb:CD.ents.all (fun p=>Nat.blt p.1 tT)=true)(x y:Nat)(e:jV x=jV y):x=y:=by
 have lt:∀{x s},CD.get x=some s→x<tT:=fun q=>bF (bT hb _ (aE.fD q))
 have le:∀{x},x<tT→x<0+tT:=fun l=>(Nat.zero_add tT).symm▸l
 have far:∀{x},¬x<tT→jV x=⟨#[x+1000]⟩:=fun{x} l=>by
  cases q:CD.get x with
  |none=>exact CF q
  |some s=>exact absurd (lt q) l
 have one:∀{x y},x<tT→¬y<tT→jV x=jV y→False:=fun{x y} l l' e=>by
  refine lM (yT tT 0 0 h (Nat.zero_le x) (le l):) fun s q Y c=>?_
  rw [rJ q,far l']at e;exact absurd (c (y+1000) (by rw [e])) (Nat.not_lt.mpr (Nat.le_add_left 1000 y))
 have two:∀{x y},x<y→y<tT→jV x=jV y→False:=fun{x y} l l' e=>absurd (HP l tT 0 0 h (Nat.zero_le x) (le l')) (by rw [e];exact Nat.lt_irrefl _)
 refine(Decidable.em (x<tT)).elim (fun hx=>?_) fun hx=>?_
 ·refine(Decidable.em (y<tT)).elim (fun hy=>?_) fun hy=>(one hx hy e).elim
  exact(Nat.lt_trichotomy x y).elim (fun l=>(two l hy e).elim) fun q=>q.elim id fun l=>(two l hx e.symm).elim
 ·refine(Decidable.em (y<tT)).elim (fun hy=>(one hy hx e.symm).elim) fun hy=>?_
  rw [far hx,far hy]at e;exact Nat.add_right_cancel (List.cons.inj (congrArg (fun s:Str=>s.cps.toList) e)).1
noncomputable def UI(l:List (Nat×Nat))(x:Nat):Nat:=l.rec 0 fun p Y r=>cond (Nat.beq p.1 x) p.2 r
def l3(k:Nat):Nat:=UI Tb k
def qI(k:Nat):Nat:=UI (dq.map fun p=>(p.1,p.2.1)) k
noncomputable def gJ:Obj:={cls:=.none,data:=.freed}
noncomputable def t5:List FE:=A6.filter fun e=>e.lam
noncomputable def eI:List (Addr×Addr):=t5.map fun e=>(e.c,e.c - 4)
def BR(P:Params):BT:=Aj P (gc P 259)
def Lx(l:List (Addr×Addr))(t:BT):BT:=l.foldl (fun t p=>t.set p.2 fun Y=>gJ) t
def ES(P:Params):BT:=Lx eI (BR P)
noncomputable def lives(o:Obj):Bool:=!Nat.beq o.data.ctorIdx 10
theorem Ds(l:List (Addr×Addr))(t:BT)(b:Addr)(h:∀p∈l,b≠p.2):(Lx l t).get b=t.get b:=by
 induction l generalizing t with
 |nil=>rfl
 |cons p r ih=>exact(ih _ fun x m=>h x (cq _ m)).trans ((BT.get_set ..).trans (if_neg (h p bS)))
theorem GI{t:BT}{b x:Addr}(hs:(t.get b).isSome=true):(t.set x fun Y=>gJ).get b=some gJ∨b≠x∧(t.set x fun Y=>gJ).get b=t.get b:=by
 rw [BT.get_set];refine(Decidable.em (b=x)).elim (fun e=>.inl ?_) fun e=>.inr ⟨e,if_neg e⟩
 rw [if_pos e,←e];refine dF (Option.isSome_iff_exists.mp hs:) fun o q=>?_
 rw [q];rfl
theorem Ab(l:List (Addr×Addr))(t:BT)(b:Addr)(hs:(t.get b).isSome=true)(h:(∃p∈l,b=p.2)∨t.get b=some gJ):(Lx l t).get b=some gJ:=by
 induction l generalizing t with
 |nil=>exact h.elim (fun h=>aC h fun p m Y=>nomatch m) id
 |cons p r ih=>
  refine(GI (x:=p.2) hs).elim (fun q=>ih _ (by rw [q];rfl) (.inr q)) fun q=>ih _ (q.2▸hs) (h.elim (fun h=>?_) fun h=>.inr (q.2.trans h))
  refine aC h fun x m e=>(cK m).elim (fun z=>absurd (z▸e) q.1) fun m=>.inl ⟨x,m,e⟩
noncomputable def ki(a b:String):Bool:=a==b
noncomputable def vB(v:Value):Option Bool:=v.casesOn none none none (fun b=>some b) (fun Y Y=>none) (fun Y Y=>none) (fun Y Y=>none) (fun Y Y=>none) (fun Y=>none) (fun Y=>none) fun Y=>none
noncomputable def vI(v:Value):Option Int:=v.casesOn none none none (fun Y=>none) (fun i Y=>some i) (fun Y Y=>none) (fun Y Y=>none) (fun Y Y=>none) (fun Y=>none) (fun Y=>none) fun Y=>none
noncomputable def vStr(v:Value):Option Str:=v.casesOn none none none (fun Y=>none) (fun Y Y=>none) (fun Y Y=>none) (fun s Y=>some s) (fun Y Y=>none) (fun Y=>none) (fun Y=>none) fun Y=>none
noncomputable def vY(v:Value):Option (Array UInt8):=v.casesOn none none none (fun Y=>none) (fun Y Y=>none) (fun Y Y=>none) (fun Y Y=>none) (fun b Y=>some b) (fun Y=>none) (fun Y=>none) fun Y=>none
noncomputable def vT(v:Value):Option String:=v.casesOn none none none (fun Y=>none) (fun Y Y=>none) (fun Y Y=>none) (fun Y Y=>none) (fun Y Y=>none) (fun s=>some s) (fun Y=>none) fun Y=>none
noncomputable def vU(v:Value):Option String:=v.casesOn none none none (fun Y=>none) (fun Y Y=>none) (fun Y Y=>none) (fun Y Y=>none) (fun Y Y=>none) (fun Y=>none) (fun s=>some s) fun Y=>none
noncomputable def vR(v:Value):Option Addr:=v.casesOn none none none (fun Y=>none) (fun Y Y=>none) (fun Y Y=>none) (fun Y Y=>none) (fun Y Y=>none) (fun Y=>none) (fun Y=>none) fun a=>some a
theorem Iw{x:Bool}(h:vB v=some x):v=.bool x:=by cases v<;>first|exact no h|exact congrArg _ (bg h)
theorem Iv{x:Int}(h:vI v=some x):∃t,v=.int x t:=by cases v<;>first|exact no h|exact⟨_,congrArg (Value.int · _) (bg h)⟩
theorem rn{x:Str}(h:vStr v=some x):∃t,v=.str x t:=by cases v<;>first|exact no h|exact⟨_,congrArg (Value.str · _) (bg h)⟩
theorem Nj{x:Array UInt8}(h:vY v=some x):∃t,v=.bytes x t:=by cases v<;>first|exact no h|exact⟨_,congrArg (Value.bytes · _) (bg h)⟩
theorem pU{x:String}(h:vT v=some x):v=.type x:=by cases v<;>first|exact no h|exact congrArg _ (bg h)
theorem BB{x:String}(h:vU v=some x):v=.builtin x:=by cases v<;>first|exact no h|exact congrArg _ (bg h)
theorem pV{x:Addr}(h:vR v=some x):v=.ref x:=by cases v<;>first|exact no h|exact congrArg _ (bg h)
noncomputable def L4(d:Data):Option (List Value):=d.casesOn none (fun Y=>none) (fun vs Y=>some vs.toList) (fun Y Y=>none) (fun Y Y Y=>none) (fun Y Y=>none) (fun Y=>none) (fun Y=>none) (fun Y=>none) (fun Y=>none) none
noncomputable def Jp(d:Data):Option (List DictEntry):=d.casesOn none (fun Y=>none) (fun Y Y=>none) (fun es Y=>some es.toList) (fun Y Y Y=>none) (fun Y Y=>none) (fun Y=>none) (fun Y=>none) (fun Y=>none) (fun Y=>none) none
noncomputable def TJ(d:Data):Option (List Value):=d.casesOn none (fun Y=>none) (fun Y Y=>none) (fun Y Y=>none) (fun Y Y Y=>none) (fun Y Y=>none) (fun Y=>none) (fun Y=>none) (fun Y=>none) (fun vs=>some vs.toList) none
theorem yM{d:Data}{l:List Value}(h:L4 d=some l):∃n,d=.seq l.toArray n:=by cases d<;>first|exact no h|exact⟨_,by rw [←bg h]⟩
theorem D1{d:Data}{l:List DictEntry}(h:Jp d=some l):∃n,d=.dict l.toArray n:=by cases d<;>first|exact no h|exact⟨_,by rw [←bg h]⟩
theorem D0{d:Data}{l:List Value}(h:TJ d=some l):d=.fields l.toArray:=by cases d<;>first|exact no h|rw [←bg h]
theorem xA{d:Data}(h:Nat.beq d.ctorIdx 0=true):d=.plain:=by cases d<;>first|rfl|exact Bool.noConfusion h
def TP(v w:Value):Bool:=(vU w).elim ((vT w).any fun t=>(vT v).any (ki · t)) fun t=>(vU v).any (ki · t)
theorem Mc{w:Value}(h:TP v w=true):v=w:=by
 unfold TP at h;cases q:vU w with
 |some t=>
  rw [q]at h;refine aC (bl h:) fun s q1 h=>?_
  rw [BB q,BB q1,show s=t from beq_iff_eq.mp h]
 |none=>
  rw [q]at h;refine aC (bl h:) fun t q h=>?_
  refine aC (bl h:) fun s q1 h=>?_
  rw [pU q,pU q1,show s=t from beq_iff_eq.mp h]
noncomputable def UQ(e:IE):Option Int:=e.casesOn (fun i=>some i) (fun Y=>none) (fun Y Y=>none) (fun Y Y=>none) (fun Y Y=>none) (fun Y Y=>none) (fun Y Y=>none) fun Y Y=>none
theorem Lp{e:IE}{i:Int}(h:UQ e=some i):e=.c i:=by cases e<;>first|exact no h|exact congrArg _ (bg h)
noncomputable def Ky(f:AV→Value→Bool)(l:List AV):List Value→Bool:=l.rec (fun r=>r.isEmpty) fun a Y k r=>r.casesOn false fun v r=>f a v&&k r
def FR(tr:BT)(f:AV→Value→Bool)(a:AV)(v:Value):Bool:=match a with
 |.none=>Nat.beq v.ctorIdx 0
 |.bool b=>(vB v).any (Q3 b)
 |.int e=>(UQ e).any fun i=>(vI v).any (iB i)
 |.str l=>(vStr v).any fun s=>lEq l s.cps.toList
 |.bytes l=>(vY v).any fun b=>oT l b.toList
 |.t l=>(vR v).any fun x=>(tr.get x).any fun o=>(vT o.cls).any (ki · "tuple")&&(o.dict.isNone&&(o.slots.isEmpty&&(Nat.blt x 1790&&(L4 o.data).any (Ky f l))))
 |.fn k=>(vR v).any (Nat.beq · (l3 k))
 |.cls k=>(vR v).any (Nat.beq · (qI k))
 |.bi k=>TP v (vj k)
 |_=>false
def Cf(tr:BT)(n:Nat):AV→Value→Bool:=n.rec (fun Y Y=>false) fun Y f=>FR tr f
theorem Ay:∀(l:List IE)(b:List UInt8),oT l b=true→(∀e∈l,∃i:Nat,i<256∧e=.c (i:Int))∧∀ν,l.map (cz ν)=b:=by
 intro l b h;have:=Jl (v:=.bytes l) (c:=.bytes b) h
 cases this with
 |bytes _ _ h1 h2=>
  refine⟨h1,fun ν=>?_⟩
  rw [←h2];refine List.map_congr_left fun e m=>?_
  obtain⟨i,_,rfl⟩:=h1 e m
  rfl
def oX(tr:BT)(h:Heap):Prop:=∀a o,tr.get a=some o→Nat.blt a 1790=true→lives o=true→h.get? a=some o
theorem xW{h:Heap}(ok:∀a v,f a v=true→ao C J M h a v):∀(l:List AV)(r:List Value),Ky f l r=true→ay C J M h l r:=by
 intro l
 induction l with
 |nil=>intro r q;exact(List.isEmpty_iff.mp q).symm▸.nil
 |cons a l ih=>
  intro r q;cases r with
  |nil=>exact Bool.noConfusion q
  |cons v r=>exact aw (ae q:) fun q1 q2=>.cons (ok a v q1) (ih r q2)
theorem KY{o:Obj}{c:Value}{d:Option Addr}{da:Data}{s:Array (Option Value)}(h1:o.cls=c)(h2:o.dict=d)(h3:o.data=da)(h4:o.slots=s):o=⟨c,d,da,s⟩:=by subst h1 h2;subst h3 h4;rfl
theorem ip{o:Obj}{d:Data}(e:o.data=d)(h:Nat.beq d.ctorIdx 10=false):lives o=true:=by unfold lives;rw [e,h];rfl
theorem Cg{tr:BT}(hb:oX tr C.hb){h:Heap}(ext:∀b o,C.hb.get? b=some o→¬M b∧h.get? b=some o)(ok:∀a v,f a v=true→ao C J M h a v){l:List AV}(q:FR tr f (.t l) v=true):ao C J M h (.t l) v:=by
 refine aC (bl q:) fun x e q=>?_
 refine aC (bl q:) fun o g q=>?_
 refine aw (ae q:) fun a1 q=>?_
 refine aw (ae q:) fun a2 q=>?_
 refine aw (ae q:) fun a3 q=>?_
 refine aw (ae q:) fun a4 q=>?_
 refine aC (bl q:) fun vs d q=>?_
 refine aC (bl a1:) fun t b1 a1=>?_
 refine dF (yM d:) fun n d=>?_
 refine aw (ext _ _ (hb _ _ g a4 (ip d rfl)):) fun g1 g2=>?_
 rw [pV e];refine .t _ _ vs n g1 (g2.trans (congrArg some (KY ((pU b1).trans (congrArg _ (beq_iff_eq.mp a1))) (Option.isNone_iff_eq_none.mp a2) d (Array.isEmpty_iff.mp a3)))) (xW ok _ _ q)
theorem vN{tr:BT}{h:Heap}{l:List IE}(q:FR tr f (.bytes l) v=true):ao C J M h (.bytes l) v:=by
 refine aC (bl q:) fun b e q=>?_
 refine dF (Nj e:) fun t e=>?_
 refine aw (Ay _ _ q:) fun h1 h2=>?_
 rw [e,show b=aS C.ν l by unfold aS;rw [h2]]
 exact .bytes _ _ fun x m=>aC (h1 x m) fun i hi e=>e▸⟨Int.natCast_nonneg i,Int.ofNat_lt.mpr hi⟩
theorem HO{b c:Bool}(h:Q3 b c=true):c=b:=by cases b<;>cases c<;>first|rfl|exact Bool.noConfusion h
theorem FQ{tr:BT}(hb:oX tr C.hb)(hf:C.mL=l3)(hc:C.dq=qI){h:Heap}(ext:∀b o,C.hb.get? b=some o→¬M b∧h.get? b=some o)(ok:∀a v,f a v=true→ao C J M h a v)(a:AV)(v:Value)(q:FR tr f a v=true):ao C J M h a v:=by
 cases a with
 |none=>cases v<;>first|exact .none|exact Bool.noConfusion q
 |bool b=>exact aC (bl q:) fun c e q=>by rw [Iw e,HO q];exact .bool _
 |int e=>exact aC (bl q:) fun i e q=>aC (bl q:) fun j e2 q=>dF (Iv e2:) fun t e2=>by rw [Lp e,e2];exact .int _ _ _ ((PySem.W.Z.eqB_iff ..).mp q)
 |str l=>exact aC (bl q:) fun s e q=>dF (rn e:) fun t e=>by rw [e,kh q];exact .str _ _
 |bytes l=>exact vN q
 |t l=>exact Cg hb ext ok q
 |fn k=>exact aC (bl q:) fun x e q=>by rw [pV e,aL q,←hf];exact .fn k
 |cls k=>exact aC (bl q:) fun x e q=>by rw [pV e,aL q,←hc];exact .cls k
 |bi k=>rw [Mc q];exact .bi k
 |_=>exact Bool.noConfusion q
theorem xV{tr:BT}(hb:oX tr C.hb)(hf:C.mL=l3)(hc:C.dq=qI)(n:Nat){h:Heap}(ext:∀b o,C.hb.get? b=some o→¬M b∧h.get? b=some o):∀(a:AV)(v:Value),Cf tr n a v=true→ao C J M h a v:=by
 induction n with
 |zero=>intro a v h;exact Bool.noConfusion h
 |succ n ih=>exact FQ hb hf hc ext ih
end
section
noncomputable def yN(k:Nat):List Nat:=((ka.get k).map fun p=>p.2.1).getD []
def LK:Option Tk:=(Q0 zw A4 body A6 ⟨[],[],[],[]⟩).bind fun T=>Ak zw ka lW T.pA T
noncomputable def iT:Tk:=LK.getD ⟨[],[],[],[]⟩
def Ss(k:Nat)(fd:FuncData):Prop:=∃r∈iT.pA,r.k=k∧fd.body=.expr r.body∧fd.params=r.params∧fd.scope=r.scope∧fd.globals=mainGlobals∧fd.builtins=builtinsNs∧fd.defaults=.none
def Uv(e:FE):Str:=(nQ body e++(".<locals>.":Str))++("<lambda>":Str)
def IZ(P:Addr)(_:Pos):Str:=(t5.find? fun e=>Nat.beq (e.c - 4) P).elim Str.empty Uv
def Jr(tr:BT)(c:Addr):Option Str:=(tr.get c).bind fun o=>(TJ o.data).bind fun vs=>vs[1]?.bind vStr
def TG(tr:BT)(e:FE):Bool:=(A4.get e.k).any fun f=>e.df.elim f.df.isEmpty fun T=>Nat.blt T 1790&&(tr.get T).any fun o=>(L4 o.data).any fun vs=>Nat.ble vs.length f.ps.length&&Ky (Cf tr 10) f.df vs
def U2(tr:BT)(e:FE):Bool:=Nat.beq (l3 e.k) e.a&&(Nat.blt e.a 1790&&(Nat.blt e.c 1790&&TG tr e))
noncomputable def MR(vs:List Value)(i:Nat)(p:Value→Bool):Bool:=vs[i]?.any p
theorem oF{vs:List Value}{i:Nat}{p:Value→Bool}(h:MR vs i p=true):∃v,vs.toArray[i]?=some v∧p v=true:=aC (bl h:) fun v e q=>⟨v,(List.getElem?_toArray ..).trans e,q⟩
theorem gD{vs:Array Value}{i:Nat}(h:vs[i]?=some v):vs.getD i .none=v:=by rw [Array.getD_eq_getD_getElem?,h];rfl
theorem yp(h:(vI v).isSome=true):∃i t,v=.int i t:=dF (Option.isSome_iff_exists.mp h:) fun i e=>⟨i,Iv e⟩
theorem GB(h:(vB v).isSome=true):∃b,v=.bool b:=dF (Option.isSome_iff_exists.mp h:) fun i e=>⟨i,Iw e⟩
theorem ym(h:(vStr v).isSome=true):∃s t,v=.str s t:=dF (Option.isSome_iff_exists.mp h:) fun i e=>⟨i,rn e⟩
def Ll(P:Addr)(v:Value):Bool:=(vR v).any (Nat.beq · P)
theorem yn{P:Addr}(h:Ll P v=true):v=.ref P:=aC (bl h:) fun a e q=>(pV e).trans (congrArg _ (aL q))
def UT(tr:BT)(p:Addr×Addr):Bool:=Nat.blt p.1 1790&&(tr.get p.1).any fun o=>(vT o.cls).any (ki · "code")&&(TJ o.data).any fun vs=>MR vs 7 (fun v=>(vI v).isSome)&&(MR vs 9 (fun v=>(vB v).isSome)&&(MR vs 10 (fun v=>(vI v).isSome)&&(MR vs 11 (Ll p.2)&&(MR vs 18 (fun v=>(vStr v).isSome)&&!Nat.beq p.1 p.2))))
def PV(tr:BT)(a:Addr):Option (List DictEntry):=(tr.get a).bind fun o=>Jp o.data
def oP(tr:BT)(a:Addr):List DictEntry:=(PV tr a).getD []
def mZ(tr:BT)(a:Addr):Bool:=(PV tr a).any fun es=>es.all fun e=>(vStr e.key).isSome
def Li(v:Value)(l:List Nat):Bool:=(vStr v).any fun s=>lEq s.cps.toList l
def jC(l:List Nat)(es:List DictEntry):Option Value:=(es.find? fun e=>Li e.key l).map (·.val)
def Dy(tr:BT)(es bs:List DictEntry)(v:AV)(l:List Nat):Bool:=(jC l es).elim ((jC l bs).any (Cf tr 10 v)) (Cf tr 10 v)
def O8(tr:BT)(es bs:List DictEntry)(p:Nat×AV):Bool:=Dy tr es bs p.2 (jV p.1).cps.toList
def Sx(r:Option (Option Value))(s:String):Bool:=r.any fun o=>o.any fun v=>(vU v).any (ki · s)
noncomputable def Sw(r:Option (Option Value)):Bool:=r.any (·.isNone)
def Sv(r:Option (Option Value))(a:Addr):Bool:=r.any fun o=>o.any (Ll a)
def Lm(r:Option Value):Bool:=r.any fun v=>(vT v).any (ki · "function")
def P1(K:Frag)(a f:Nat)(ms:List (Nat×Nat)):Bool:=(clsIn K a).any (·.hasDict)&&(Sx (findIn K (.ref a) "__getattribute__") "object.__getattribute__"&&(Sw (findIn K (.ref a) "__getattr__")&&
  (zw.attrs.all (fun n=>(gG ms n).isSome||Sw (findIn K (.ref a) (jV n)))&&(ms.all (fun q=>Sv (findIn K (.ref a) (jV q.1)) (l3 q.2)&&Lm (typeIn K (.ref (l3 q.2))))&&
  (makesIn K a&&(Sv (findIn K (.ref a) "__init__") (l3 f)&&(Lm (typeIn K (.ref (l3 f)))&&(plainOver K a&&Sx (findIn K (.ref a) "__setattr__") "object.__setattr__"))))))))
def TM(K:Frag)(p:Nat×(Nat×List (Nat×Nat))):Bool:=P1 K (qI p.1) p.2.1 p.2.2
def Ug:List Addr:=dq.flatMap (fun p=>[p.2.1,p.2.2])++Hd.ents.flatMap (fun p=>p.2.2.map fun q=>l3 q.2)
noncomputable def oj(tr:BT):Frag:=Ug.map fun a=>(a,(tr.get a).getD default)
def Pc(tr:BT):Bool:=Ug.all fun a=>(tr.get a).any fun o=>lives o&&Nat.blt a 1790
def Vo(v:Option Value)(p:Addr→Bool):Bool:=v.any fun v=>(vR v).any p
def Sh(tr:BT):Bool:=Vo (jC ("__builtins__":Str).cps.toList (oP tr 3)) fun bm=>!Nat.beq bm 0&&(!Nat.beq bm 3&&(Nat.blt bm 1790&&(tr.get bm).any fun o=>(vT o.cls).any (ki · "module")&&(o.dict.any (Nat.beq · 0)&&Nat.beq o.data.ctorIdx 0)))
def Sq(tr:BT):Bool:=Vo (jC ("law":Str).cps.toList (oP tr 3)) (Nat.beq · (l3 185))
structure iP(tr trw:BT):Prop where
 fns:A6.map (fun e=>tr.get e.a)=A6.map (fun e=>some {cls:=.type "function",data:=.func (fdOf body e)})
 codes:A6.map (fun e=>Jr tr e.c)=A6.map (fun e=>some (nQ body e))
 fe:A6.all (U2 tr)=true
 tabs:eI.map (fun p=>trw.get p.2)=eI.map (fun Y=>some (tabObj #[]))
 hd:eI.all (UT tr)=true
 lq:t5.map (fun e=>IZ (e.c - 4) default)=t5.map Uv
 yL:(mZ tr 3&&(mZ tr 0&&mZ tr 2))=true
 lim:jC ("sys.recursionlimit":Str).cps.toList (oP tr 2)=none
 mods:(tr.get 1).any lives=true
 glob:EZ.ents.all (O8 tr (oP tr 3) (oP tr 0))=true
 mod:Sh tr=true
 WO:Sq tr=true
 S9:Pc tr=true
 cls:Hd.ents.all (TM (oj tr))=true
structure kG:Prop where
 all:(LK.isSome,iT.Gg.map (·.1),iT.rV,iT.pA.all (fun r=>lEq r.bR (yN r.k)))=(true,iT.Gg.map (fun p=>jV p.2),iT.rV.map (fun Y=>(".0":Str)),true)
 asc:HQ tT 0 0=true
 XG:CD.ents.all (fun p=>Nat.blt p.1 tT)=true
 dot:CD.ents.all (fun p=>!lEq p.2.cps.toList [46,48])=true
 sp:[jV zw.d1,jV zw.d2,jV zw.en,jV zw.zp,jV dj.append,jV dj.extend,jV dj.pop,jV dj.split,jV dj.find,jV dj.join,jV dj.get,jV dj.init]=[("__debug__":Str),"__classdict__","enumerate","zip","append","extend","pop","split","find","join","get","__init__"]
 has:A4.ents.all (fun p=>A6.any fun e=>Nat.beq e.k p.1)=true
 Pd:[EZ.get zw.en,EZ.get zw.zp]=[some (.bi 7),some (.bi 8)]
 pA:ka.ents.all (fun p=>iT.pA.any fun r=>Nat.beq r.k p.1)=true
end
section
def D2(w:World)(ν:Nat→Int)(nf:Nat)(f0:aE AO)(h:Heap)(K:Frag)(U:Nat→Value):Cx:={prog:=prog,w:=w,ν:=ν,U:=U,hb:=h,nm:=jV,mL:=l3,dq:=qI,tabs:=eI,lam:=Ss,bR:=yN,t4:=IZ,nf:=nf,f0:=f0,K:=K,attrs:=zw.attrs}
def NY(nf:Nat)(sm:Nat→List AV→AS→Option (aH (AV×AS)))(smd:Nat):Pg:=⟨A4,ka,Hd,EZ,nf,sm,smd⟩
section
variable{w:World}{ν:Nat→Int}{nf:Nat}{f0:aE AO}{hp:Heap}{K:Frag}{U:Nat→Value}{tr trw:BT}
theorem I2(F:kG):∀x y,jV x=jV y→x=y:=K4 F.asc F.XG
theorem all1{β:Type}{f g:α→β}{l:List α}(e:l.map f=l.map g){a:α}(m:a∈l):f a=g a:=List.map_inj_left.mp e a m
theorem RB(F:kG):eV (D2 w ν nf f0 hp K U) zw:=by
 have s:=F.sp
 simp only[List.cons.injEq,and_true]at s
 refine K2 (s:) fun s1 s2 s3 s4 Y=>?_
 refine⟨s1,s2,s3,s4,fun n m=>ju m,I2 F,fun x e=>?_⟩
 have e:jV x=".0":=e
 have e2:(".0":Str).cps.toList=[46,48]:=by decide+kernel
 cases q:CD.get x with
 |some s=>
  rw [rJ q]at e;have:(!lEq s.cps.toList [46,48])=true:=bT F.dot _ (aE.fD q)
  rw [e,e2,jx]at this;exact Bool.noConfusion this
 |none=>
  rw [CF q]at e;have e:[x+1000]=(".0":Str).cps.toList:=congrArg (fun s:Str=>s.cps.toList) e
  exact nomatch List.tail_eq_of_cons_eq (e.trans e2)
theorem LD(F:kG):aQ (D2 w ν nf f0 hp K U) iT:=by
 have h:=F.all
 refine aw (Prod.mk.inj h:) fun Y h=>?_
 refine aw (Prod.mk.inj h:) fun h1 h=>?_
 refine aw (Prod.mk.inj h:) fun h2 h3=>?_
 refine⟨fun p m=>all1 h1 m,fun r m=>⟨(kz (bT h3 r m)).symm,fun pm cdv ctv qual clos=>⟨r,m,rfl,rfl,rfl,rfl,rfl,rfl,rfl⟩⟩,fun s m=>?_⟩
 have:iT.rV.map id=iT.rV.map (fun Y=>(".0":Str)):=by rw [List.map_id];exact h2
 exact all1 this m
theorem LQ(SO:eV C S){fs:aE Fn}{body:List Stmt}(HF:∀e f,fs.get e.k=some f→e∈A6→HF C body e f):∀(l:List FE)(T T':Tk),(∀e∈l,e∈A6)→Q0 S fs body l T=some T'→aQ C T'→aQ C T∧∀e∈l,∀f,fs.get e.k=some f→vb C e.k f:=by
 intro l
 induction l with
 |nil=>exact fun T T' Y h G=>⟨bg h▸G,fun Y m=>nomatch m⟩
 |cons e r ih=>
  intro T T' hm h G;unfold Q0 at h;refine aC (aY h:) fun T1 h1 h2=>?_
  refine aw (ih T1 T' (fun x m=>hm x (cq _ m)) h2 G:) fun g fr=>?_
  have key:∀f,fs.get e.k=some f→aQ C T∧vb C e.k f:=fun f hf=>Pq SO hf h1 g (HF e f hf (hm e bS))
  refine aC (aM h1:) fun f hf Y=>?_
  refine⟨(key f hf).1,fun x m f' QX=>?_⟩
  rcases cK m with rfl|m
  ·exact(key f' QX).2
  ·exact fr x m f' QX
theorem G1(SO:eV C S){gH:aE (List Nat×List Nat×CE)}{lt:List (Nat×List (List Nat))}:∀(l:List LR)(T T':Tk),Ak S gH lt l T=some T'→aQ C T'→aQ C T∧∀r∈l,∀ps cs e,gH.get r.k=some (ps,cs,e)→
  r.bR=cs∧∀fd:FuncData,fd.body=.expr r.body→fd.params=r.params→fd.scope=r.scope→fd.globals=mainGlobals→fd.builtins=builtinsNs→fd.defaults=.none→∃body kd,oY C r.k ps cs e fd body kd:=by
 intro l
 induction l with
 |nil=>exact fun T T' h G=>⟨bg h▸G,fun Y m=>nomatch m⟩
 |cons e r ih=>
  intro T T' h G;unfold Ak at h;refine aC (aY h:) fun T1 h1 h2=>?_
  refine aw (ih T1 T' h2 G:) fun g fr=>?_
  refine aw (LO SO h1 g:) fun g f1=>?_
  refine⟨g,fun x m=>?_⟩
  rcases cK m with rfl|m
  ·exact f1
  ·exact fr x m
theorem D9(HG:oX tr hp){c:Addr}{q:Str}(h:Jr tr c=some q)(hc:Nat.blt c 1790=true):hp.CodeRec (.ref c) q:=by
 refine aC (aY h:) fun o z h=>?_
 refine aC (aY h:) fun vs d h=>?_
 refine aC (aY h:) fun v e h=>?_
 refine dF (rn h:) fun t h=>?_
 have d:=D0 d
 exact⟨c,o,vs.toArray,t,rfl,HG _ _ z hc (ip d rfl),d,(List.getElem?_toArray ..).trans (h▸e)⟩
theorem SK(HG:oX tr hp)(F:iP tr trw)(e:FE)(f:Fn)(hf:A4.get e.k=some f)(m:e∈A6):HF (D2 w ν nf f0 hp K U) body e f:=by
 have hb:=bT F.fe e m
 unfold U2 at hb;refine aw (ae hb:) fun b1 hb=>?_
 refine aw (ae hb:) fun b2 hb=>?_
 refine aw (ae hb:) fun b3 b4=>?_
 refine⟨aL b1,HG _ _ (all1 F.fns m) b2 rfl,D9 HG (all1 F.codes m) b3,?_,fun hl=>?_⟩
 ·refine aC (bl b4:) fun f' q b4=>?_
  cases hf.symm.trans q
  cases hd:e.df with
  |none=>
   rw [hd]at b4;refine⟨[],Nat.zero_le _,.inl ⟨rfl,rfl⟩,fun J M h ext=>?_⟩
   rw [List.isEmpty_iff.mp b4];exact .nil
  |some T=>
   rw [hd]at b4;refine aw (ae b4:) fun c1 b4=>?_
   refine aC (bl b4:) fun o z b4=>?_
   refine aC (bl b4:) fun vs d b4=>?_
   refine aw (ae b4:) fun c2 c3=>?_
   refine dF (yM d:) fun n d=>?_
   exact⟨vs,bF c2,.inr ⟨T,o,n,rfl,HG _ _ z c1 (ip d rfl),d⟩,fun J M h ext=>xW (xV (C:=D2 w ν nf f0 hp K U) HG rfl rfl 10 ext) _ _ c3⟩
 ·have hm:e∈t5:=List.mem_filter.mpr ⟨m,hl⟩
  exact⟨e.c - 4,List.mem_map.mpr ⟨e,hm,rfl⟩,fun Y=>all1 F.lq hm⟩
theorem C4(x:Str)(v:Value):v.isStr x=Li v x.cps.toList:=by
 cases v with
 |str s t=>
  show(s==x)=lEq s.cps.toList x.cps.toList;rw [Bool.eq_iff_iff,beq_iff_eq];exact⟨fun q=>q▸jx _,fun q=>by rw [←ig s,←ig x,kz q]⟩
 |_=>rfl
theorem lC(HG:oX tr hp){a:Addr}(h:mZ tr a=true)(ha:Nat.blt a 1790=true):hp.Ns a (hp.nsMap a)∧∀x:Str,hp.nsMap a x=jC x.cps.toList (oP tr a):=by
 refine aC (bl h:) fun es q h=>?_
 refine aC (aY q:) fun o z d=>?_
 refine dF (D1 d:) fun n d'=>?_
 have g:=HG _ _ z ha (ip d' rfl)
 obtain⟨c,dd,da,sl⟩:=o
 have d':da=_:=d'
 subst d';have hn:hp.isNs a=true:=by
  unfold Heap.isNs;rw [g];refine(Array.all_eq_true_iff_forall_mem).mpr fun e m=>?_
  refine Gb (ym (bT h e (List.mem_toArray.mp m)):) fun s t e=>?_
  rw [e]
 refine⟨.of_isNs hn,fun x=>?_⟩
 unfold Heap.nsMap jC oP;rw [g,q];show(es.toArray.find? fun e=>e.key.isStr x).map (·.val)=_
 rw [←Array.find?_toList,show(fun e:DictEntry=>e.key.isStr x)=fun e=>Li e.key x.cps.toList from funext fun e=>C4 x e.key]
 rfl
theorem Dx{tr:BT}{es bs:List DictEntry}{v:AV}(h:Dy tr es bs v l=true):∃rv,Cf tr 10 v rv=true∧(jC l es=some rv∨jC l es=none∧jC l bs=some rv):=by
 unfold Dy at h;cases q:jC l es with
 |some rv=>rw [q]at h;exact⟨rv,h,.inl rfl⟩
 |none=>rw [q]at h;exact aC (bl h:) fun rv q' h=>⟨rv,h,.inr ⟨rfl,q'⟩⟩
theorem LF(HG:oX tr hp)(F:iP tr trw)(x:Nat)(v:AV)(h:EZ.get x=some v):so (D2 w ν nf f0 hp K U) x v:=by
 have hd:=F.yL
 refine aw (ae hd:) fun d1 hd=>?_
 refine aw (ae hd:) fun d2 d3=>?_
 refine aw (lC HG d1 (by rfl):) fun N1 E1=>?_
 refine aw (lC HG d2 (by rfl):) fun N2 E2=>?_
 refine aC (Dx (bT F.glob (x,v) (aE.fD h)):) fun rv hg q=>?_
 refine⟨rv,fun J M h ext=>xV (C:=D2 w ν nf f0 hp K U) HG rfl rfl 10 ext v rv hg,_,N1,?_⟩
 exact q.elim (fun q=>.inl ((E1 _).trans q)) fun q=>.inr ⟨(E1 _).trans q.1,_,N2,(E2 _).trans q.2⟩
theorem Di{s:String}(h:Sx r s=true):r=some (some (.builtin s)):=
 aC (bl h:) fun o e h=>aC (bl h:) fun v e1 h=>aC (bl h:) fun t e2 h=>by rw [e,e1,BB e2,show t=s from beq_iff_eq.mp h]
theorem Dh(h:Sw r=true):r=some none:=
 aC (bl h:) fun o e h=>e.trans (congrArg some (Option.isNone_iff_eq_none.mp h))
theorem Df{a:Addr}(h:Sv r a=true):r=some (some (.ref a)):=
 aC (bl h:) fun o e h=>aC (bl h:) fun v e1 h=>by rw [e,e1,yn h]
theorem yr{r:Option Value}(h:Lm r=true):r=some (.type "function"):=
 aC (bl h:) fun v e h=>aC (bl h:) fun s e1 h=>by rw [e,pU e1,show s="function" from beq_iff_eq.mp h]
theorem zS{ms:List (Nat×Nat)}(h:gG ms n=some k):(n,k)∈ms:=by
 induction ms with
 |nil=>exact no h
 |cons p r ih=>
  unfold gG at h;cases q:Nat.beq p.1 n with
  |true=>rw [q]at h;rw [←aL q,←bg h];exact bS
  |false=>rw [q]at h;exact cq _ (ih h)
theorem P0(HK:K=oj tr)(F:iP tr trw)(c f:Nat)(ms:List (Nat×Nat))(h:Hd.get c=some (f,ms)):EN (D2 w ν nf f0 hp K U) c f ms:=by
 subst HK;have hc:P1 (oj tr) (qI c) f ms=true:=bT F.cls _ (aE.fD h)
 refine aw (ae hc:) fun c1 hc=>?_
 refine aw (ae hc:) fun c2 hc=>?_
 refine aw (ae hc:) fun c3 hc=>?_
 refine aw (ae hc:) fun c4 hc=>?_
 refine aw (ae hc:) fun c5 hc=>?_
 refine aw (ae hc:) fun c6 hc=>?_
 refine aw (ae hc:) fun c7 hc=>?_
 refine aw (ae hc:) fun c8 hc=>?_
 refine aw (ae hc:) fun c9 XF=>?_
 refine⟨?_,Di c2,Dh c3,fun n m hn=>?_,fun n k hk=>?_,c6,⟨Df c7,yr c8⟩,c9,Di XF⟩
 ·exact bl c1
 ·have:=bT c4 n m
  rw [hn]at this;exact Dh this
 ·have:=bT c5 _ (zS hk)
  refine aw (ae this:) fun a b=>?_
  exact⟨Df a,yr b⟩
theorem ON(HG:oX tr hp)(F:iP tr trw):(oj tr).In hp:=by
 intro a o h;have hm:∀(l:List Addr),(l.map fun a=>(a,((tr).get a).getD default)).lookup a=some o→a∈l∧o=((tr).get a).getD default:=by
  intro l
  induction l with
  |nil=>intro q;injection q
  |cons b r ih=>
   intro q;rw [List.map_cons,List.lookup_cons]at q;cases z:a==b with
   |true=>
    rw [z]at q;have:=beq_iff_eq.mp z
    subst this;injection q with q;subst q;exact⟨bS,rfl⟩
   |false=>
    rw [z]at q;refine aw (ih q:) fun i1 i2=>?_
    exact⟨cq _ i1,i2⟩
 refine aw (hm Ug h:) fun m e=>?_
 refine aC (bl (bT F.S9 a m):) fun o' q this=>?_
 refine aw (ae this:) fun a1 a2=>?_
 rw [e,q];exact HG _ _ q a2 a1
theorem C3(HG:oX tr hp)(F:iP tr trw):MD (D2 w ν nf f0 hp K U):=by
 have hd:=F.yL
 refine aw (ae hd:) fun d1 hd=>?_
 refine aw (lC HG d1 (by rfl):) fun N1 E1=>?_
 refine⟨?_,fun p m=>?_⟩
 ·refine aC (bl F.mod:) fun v q hm=>?_
  refine aC (bl hm:) fun bm e hm=>?_
  refine aw (ae hm:) fun a1 hm=>?_
  refine aw (ae hm:) fun a2 hm=>?_
  refine aw (ae hm:) fun a3 hm=>?_
  refine aC (bl hm:) fun o z hm=>?_
  refine aw (ae hm:) fun b1 hm=>?_
  refine aw (ae hm:) fun b2 b3=>?_
  refine aC (bl b1:) fun s c1 b1=>?_
  refine aC (bl b2:) fun x c2 b2=>?_
  have dp:=xA b3
  refine⟨_,bm,_,N1,(E1 _).trans (q.trans (congrArg some (pV e))),fun e=>?_,fun e=>?_,HG _ _ z a3 (ip dp rfl),(pU c1).trans (congrArg _ (beq_iff_eq.mp b1)),c2.trans (congrArg some (aL b2)),dp⟩
  ·rw [e]at a1;exact Bool.noConfusion a1
  ·rw [e]at a2;exact Bool.noConfusion a2
 ·refine aw (ae (bT F.hd p m):) fun a3 hh=>?_
  refine aC (bl hh:) fun o z hh=>?_
  refine aw (ae hh:) fun a1 hh=>?_
  refine aC (bl hh:) fun vs d hh=>?_
  refine aw (ae hh:) fun h7 hh=>?_
  refine aw (ae hh:) fun h9 hh=>?_
  refine aw (ae hh:) fun hx hh=>?_
  refine aw (ae hh:) fun hP hh=>?_
  refine aw (ae hh:) fun S2 a4=>?_
  have d:=D0 d
  refine aC (bl a1:) fun s c1 a1=>?_
  refine aC (oF h7:) fun v7 e7 h7=>Gb (yp h7:) fun i7 t7 q7=>?_
  refine aC (oF h9:) fun v9 e9 h9=>dF (GB h9:) fun b9 q9=>?_
  refine aC (oF hx:) fun vx ex hx=>Gb (yp hx:) fun WT V4 qx=>?_
  refine aC (oF hP:) fun vP eP hP=>?_
  refine aC (oF S2:) fun vg es S2=>Gb (ym S2:) fun V7 V3 qs=>?_
  rw [yn hP]at eP;refine⟨o,vs.toArray,V7,V3,i7,t7,b9,WT,V4,HG _ _ z a3 (ip d rfl),(pU c1).trans (congrArg _ (beq_iff_eq.mp a1)),d,eP,gD eP,(gD es).trans qs,(gD e7).trans q7,(gD e9).trans q9,(gD ex).trans qx,fun e=>?_⟩
  rw [e,Nat.beq_refl]at a4;exact Bool.noConfusion a4
theorem Rl(N:kG)(HG:oX tr hp)(HK:K=oj tr)(F:iP tr trw){sm:Nat→List AV→AS→Option (aH (AV×AS))}{smd:Nat}(hs:MB (D2 w ν nf f0 hp K U) (NY nf sm smd)):WF (D2 w ν nf f0 hp K U) (NY nf sm smd) dj:=by
 have SO:=RB (w:=w) (ν:=ν) (nf:=nf) (f0:=f0) (hp:=hp) (K:=K) (U:=U) N
 have hall:=N.all
 refine aw (Prod.mk.inj hall:) fun hsome Y=>?_
 refine dF (Option.isSome_iff_exists.mp hsome:) fun T2 hT=>?_
 have e2:iT=T2:=by unfold iT;rw [hT];rfl
 have G:=LD (w:=w) (ν:=ν) (nf:=nf) (f0:=f0) (hp:=hp) (K:=K) (U:=U) N
 rw [e2]at G;have LB:=hT
 unfold LK at LB;refine aC (aY LB:) fun T1 h1 h2=>?_
 refine aw (G1 SO _ _ _ h2 G:) fun g1 lm=>?_
 refine aw (LQ SO (fun e f hf m=>SK HG F e f hf m) A6 _ _ (fun Y m=>m) h1 g1:) fun Y fo=>?_
 have hd:=F.yL
 refine aw (ae hd:) fun d1 hd=>?_
 refine aw (ae hd:) fun d2 d3=>?_
 refine aw (lC HG d3 (by rfl):) fun N3 E3=>?_
 have hsp:=N.sp
 simp only[List.cons.injEq,and_true]at hsp
 obtain⟨_,_,sen,szp,s5,s6,s7,s8,s9,V9,V8,XO⟩:=hsp
 have same:T2.pA=T1.pA:=qB _ _ _ h2
 exact{
  wd:={
   inj:=I2 N
   glob:=LF HG F
   UK:=by subst HK;exact ON HG F
   cls:=P0 HK F
   nf:=rfl
   mods:=by
    exact aC (bl F.mods:) fun o q h=>⟨o,HG _ _ q (by rfl) h⟩
   cu:=AK}
  lim:=⟨_,N3,(E3 _).trans F.lim⟩
  fns:=fun k f hf=>by
   have:=bT N.has _ (aE.fD hf)
   refine aC (List.any_eq_true.mp this:) fun e m q=>?_
   have q:e.k=k:=aL q
   have hf:A4.get k=some f:=hf
   rw [←q]at hf⊢;exact fo e m f hf
  gH:=fun k ps cs e hl=>by
   have hl:ka.get k=some (ps,cs,e):=hl
   refine⟨by show yN k=cs;unfold yN;rw [hl];rfl,fun fd hfd=>?_⟩
   obtain⟨r,m,rfl,b1,b2,b3,b4,b5,b6⟩:=hfd
   rw [e2,same]at m;exact(lm r m ps cs e hl).2 fd b1 b2 b3 b4 b5 b6
  lw:=C3 HG F
  dj:=⟨s5,s6,s7,s8,s9,V9,V8⟩
  bj:=Ax
  P6:=HA
  bi:=TO HD AL yR
  it:=Gw
  en:=G7
  zp:=JR
  UY:=by
   exact⟨⟨zw.en,sen,(List.cons.inj N.Pd).1⟩,⟨zw.zp,szp,(List.cons.inj (List.cons.inj N.Pd).2).1⟩⟩
  sm:=hs}
end
end
noncomputable def Cx.re(C:Cx)(ν:Nat→Int)(nf:Nat)(f0:aE AO)(U:Nat→Value):Cx:={C with ν:=ν,nf:=nf,f0:=f0,U:=U}
theorem dc.re{ν:Nat→Int}{nf:Nat}{f0:aE AO}{U:Nat→Value}{kd:Kd}{cs:Bool}{c:List CS}{x:List Stmt}(h:dc C kd cs c x):dc (C.re ν nf f0 U) kd cs c x:=h
def Wa(m:Nat)(π:Nat→Nat)(n:Nat)(a b:Nat×AV):Bool:=Nat.beq a.1 b.1&&xZ m π n a.2 b.2
def Uu(m:Nat)(π:Nat→Nat)(n:Nat):List (Nat×AV)→List (Nat×AV)→Bool:=allR (Wa m π n)
def IC(m:Nat)(π:Nat→Nat)(a b:AO):Bool:=match a with
 |.list x=>(match b with|.list y=>xZ.FU m π 20 x y|_=>false)
 |.inst c d=>(match b with|.inst c' d'=>Nat.beq c c'&&(Nat.blt d m&&Nat.beq (π d) d')|_=>false)
 |.ns x=>(match b with|.ns y=>Uu m π 20 x y|_=>false)
 |.cu x=>(match b with|.cu y=>Ls x y|_=>false)
section
variable{ν:Nat→Int}{nf:Nat}{f0:aE AO}{U:Nat→Value}{σ':List Addr}{M':Addr→Prop}{h:Heap}{m:Nat}{π:Nat→Nat}
theorem Em{x y:IE}{g:Int→Int→Bool}(h:both x y g false=true):∃i j,x=.c i∧y=.c j∧g i j=true:=by
 unfold both at h;cases q:gQ x with
 |none=>rw [q]at h;injection h
 |some i=>
  rw [q]at h
  dsimp only at h
  cases q':gQ y with
  |none=>rw [q']at h;injection h
  |some j=>rw [q']at h;exact⟨i,j,dh q,dh q',h⟩
theorem wx{a b:IE}(h:QU a b=true):∃i,a=.c i∧b=.c i:=by
 obtain⟨i,j,rfl,rfl,h⟩:=Em h
 rw [bL.mp h];exact⟨_,rfl,rfl⟩
theorem gj{l:List α}(h:tU l=true):l=[]:=by
 cases l with
 |nil=>rfl
 |cons=>injection h
theorem l6{f:α→α→Bool}{a:α}{x y:List α}(h:allR f (a::x) y=true):∃b r,y=b::r∧f a b=true∧allR f x r=true:=by
 cases y with
 |nil=>injection h
 |cons b r=>exact⟨b,r,rfl,ae h⟩
theorem yy{a:List IE}:∀{b:List IE},Ls a b=true→a=b∧∀e∈a,∃i,e=.c i:=by
 induction a with
 |nil=>intro b h;exact⟨(gj h).symm,fun Y m=>nomatch m⟩
 |cons a x ih=>
  intro b h;obtain⟨b,y,rfl,h1,h2⟩:=l6 h
  obtain⟨i,rfl,rfl⟩:=wx h1
  obtain⟨rfl,k⟩:=ih h2
  refine⟨rfl,fun e m=>?_⟩
  rcases cK m with rfl|m
  ·exact⟨i,rfl⟩
  ·exact k e m
theorem mz{l:List IE}(k:∀e∈l,∃i,e=.c i)(ν fk:Nat→Int):aS ν l=aS fk l∧(bq ν l→bq fk l):=by
 refine⟨?_,fun B e m=>?_⟩
 ·unfold aS
  congr 1
  refine List.map_congr_left fun e m=>?_
  obtain⟨i,rfl⟩:=k e m
  rfl
 ·obtain⟨i,rfl⟩:=k e m
  exact B _ m
theorem Mo{a b:Bool}(h:Qf a b=true):a=b:=by cases a<;>cases b<;>first|rfl|injection h
structure H4(C:Cx)(J σ':List Addr)(M M':Addr→Prop)(m:Nat)(π:Nat→Nat):Prop where
 at_:∀j a,j<m→J[π j]?=some a→σ'[j]?=some a
 less:∀a,M' a→M a
theorem Mp(v:AV):zI [v=.none,v=.bool (wA v).b,v=.int (wA v).i,v=.str (wA v).s,v=.bytes (wA v).y,v=.t (wA v).t,v=.eF (wA v).d,v=.ref (wA v).r,v=.fn (wA v).r,v=.cls (wA v).r,v=.bi (wA v).r,True,True,v=.mG (wA v).r] v.ctorIdx:=by
 cases v<;>first|exact rfl|exact trivial
theorem gY{v:AV}(h:Nat.beq k v.ctorIdx=true):zI [v=.none,v=.bool (wA v).b,v=.int (wA v).i,v=.str (wA v).s,v=.bytes (wA v).y,v=.t (wA v).t,v=.eF (wA v).d,v=.ref (wA v).r,v=.fn (wA v).r,v=.cls (wA v).r,v=.bi (wA v).r,True,True,v=.mG (wA v).r] k:=aL h▸Mp v
theorem dQ{o:Option α}{g:α→Bool}(h:lj o g=true):∃a,o=some a∧g a=true:=by
 cases o with
 |none=>injection h
 |some a=>exact⟨a,rfl,h⟩
theorem yU{f:AV→AV→Bool}(H:∀(a b:AV)(v:Value),f a b=true→ao C J M h b v→ao (C.re ν nf f0 U) σ' M' h a v){x:List AV}:∀{y:List AV}{vs:List Value},allR f x y=true→ay C J M h y vs→ay (C.re ν nf f0 U) σ' M' h x vs:=by
 induction x with
 |nil=>intro y vs q W;cases gj q;exact W.nl▸.nil
 |cons a x ih=>
  intro y vs q W;obtain⟨b,y,rfl,q1,q2⟩:=l6 q
  exact W.oZ fun v Y W1 W2=>.cons (H a b v q1 W1) (ih q2 W2)
theorem nF{a b:AV}(e:a=b)(V:ao C J M h a v):ao C J M h b v:=e▸V
theorem rA(X:H4 C J σ' M M' m π):∀(n:Nat)(a b:AV)(v:Value),xZ m π n a b=true→ao C J M h b v→ao (C.re ν nf f0 U) σ' M' h a v:=by
 intro n
 induction n with
 |zero=>intro a b v e;injection e
 |succ n ih=>
  intro a b v e V;refine aw (ae e:) fun t e=>?_
  have t:=gY t
  cases a with
  |none=>cases (nF (b:=.none) t V).inv;exact .none
  |bool x=>
   have V:=(nF (b:=.bool (wA b).b) t V).inv
   rw [show v=_ from V,←Mo e];exact .bool _
  |int x=>
   obtain⟨i,rfl,q⟩:=wx e
   obtain⟨t,rfl⟩:=(nF (b:=.int (wA b).i) t V).inv
   exact .int _ _ t (by rw [q];rfl)
  |str x=>
   obtain⟨t,rfl⟩:=(nF (b:=.str (wA b).s) t V).inv
   rw [←kz e];exact .str _ _
  |bytes x=>
   refine aw (yy e:) fun q k=>?_
   obtain⟨B,t,rfl⟩:=(nF (b:=.bytes (wA b).y) t V).inv
   rw [←q]at B⊢;refine aw (mz k C.ν ν:) fun k1 k2=>?_
   rw [k1];exact .bytes _ t (k2 B)
  |t x=>
   obtain⟨a,vs,k,rfl,h1,h2,h3⟩:=(nF (b:=.t (wA b).t) t V).inv
   exact .t _ a vs k (fun q=>h1 (X.less _ q)) h2 (yU ih e h3)
  |eF x=>
   obtain⟨a,es,k,rfl,h1,h2,h3,h4⟩:=(nF (b:=.eF (wA b).d) t V).inv
   rw [gj (ae e).2]at h4;rw [gj (ae e).1];rw [h4.nl]at h3;exact .eF _ a _ k (fun q=>h1 (X.less _ q)) h2 h3 .nil
  |ref i=>
   obtain⟨a,rfl,h1⟩:=(nF (b:=.ref (wA b).r) t V).inv
   exact .ref _ a (X.at_ _ _ (bF (ae e).1) (by rw [aL (ae e).2];exact h1))
  |fn i=>exact(ao.inv (aL e▸nF (b:=.fn (wA b).r) t V:ao C J M h (.fn i) v):v=_)▸.fn i
  |cls i=>exact(ao.inv (aL e▸nF (b:=.cls (wA b).r) t V:ao C J M h (.cls i) v):v=_)▸.cls i
  |bi i=>exact(ao.inv (aL e▸nF (b:=.bi (wA b).r) t V:ao C J M h (.bi i) v):v=_)▸.bi i
  |_=>injection e
theorem xY(X:H4 C J σ' M M' m π)(n:Nat)(x y:List AV)(vs:List Value)(q:xZ.FU m π n x y=true)(W:ay C J M h y vs):ay (C.re ν nf f0 U) σ' M' h x vs:=yU (rA X n) q W
theorem Kz(X:H4 C J σ' M M' m π)(n:Nat):∀(x y:List (Nat×AV))(es:List DictEntry),Uu m π n x y=true→cj C J M h y es→cj (C.re ν nf f0 U) σ' M' h x es:=by
 intro x
 induction x with
 |nil=>intro y vs q W;cases gj q;exact W.nl▸.nil
 |cons a x ih=>
  intro y vs q W;obtain⟨b,y,rfl,q1,q2⟩:=l6 q
  exact W.oZ fun v t es W1 W2=>aL (ae q1).1▸.cons (x:=a.1) (a:=a.2) (rA X n _ _ _ (ae q1).2 W1) (ih y _ q2 W2)
theorem vQ(X:H4 C J σ' M M' m π){a b:AO}{x:Addr}(e:IC m π a b=true)(O:cR C J M h b x):cR (C.re ν nf f0 U) σ' M' h a x:=by
 cases a with
 |list _=>cases b with
  |list _=>exact eM O.listI fun vs n h1 h2=>.list _ _ vs n h1 (xY X _ _ _ _ e h2)
  |_=>injection e
 |inst _ _=>cases b with
  |inst _ _=>exact aC O.instI fun dx h1 h2=>aL (ae e).1▸.inst _ _ _ dx h1 (X.at_ _ _ (bF (ae (ae e).2).1) (aL (ae (ae e).2).2▸h2))
  |_=>injection e
 |ns _=>cases b with
  |ns _=>exact eM O.QT fun es n h1 h2=>.ns _ _ es n h1 (Kz X _ _ _ _ e h2)
  |_=>injection e
 |cu _=>cases b with
  |cu _=>
   obtain⟨rfl,k⟩:=yy e
   exact aw (mz k C.ν ν) fun k1 k2=>.cu _ _ (k1▸O.jH.1) (k2 O.jH.2)
  |_=>injection e
noncomputable def bY(J:List Addr)(π:Nat→Nat)(m:Nat):List Addr:=(List.range m).map fun j=>J.getD (π j) 0
theorem k7{j:Nat}(hj:j<m):(bY J π m)[j]?=some (J.getD (π j) 0):=by
 unfold bY;rw [List.getElem?_map,List.getElem?_range hj];rfl
theorem oi{i:Nat}(h:i<J.length):J[i]?=some (J.getD i 0):=by
 rw [List.getD_eq_getElem?_getD,List.getElem?_eq_getElem h];rfl
def si(M:Addr→Prop)(l:List Addr)(nf:Nat)(a:Addr):Prop:=M a∧∀i,i<nf→l[i]?≠some a
def Jv(Z:Addr→Prop)(J l:List Addr)(a:Addr):Prop:=Z a∨(a∈J∧a∉l)
theorem cU{s:AS}(S:aq C J M s h)(dS:∀j,j<m→π j<s.n){i:Nat}{a:Addr}(q:(bY J π m)[i]?=some a):J[π i]?=some a∧i<m:=by
 have hi:i<m:=by
  have:=(List.getElem?_eq_some_iff.mp q).1
  unfold bY at this
  rwa[List.length_map,List.length_range]at this
 exact⟨(oi (S.len▸dS i hi)).trans ((k7 hi).symm.trans q),hi⟩
theorem jm{s:AS}(S:aq C J M s h)(dS:∀j,j<m→π j<s.n){a:Addr}(x:a∈bY J π m):a∈J:=
 (List.getElem?_of_mem x).elim fun Y q=>bO (cU S dS q).1
theorem nO:H4 C J (bY J π m) M (si M (bY J π m) nf) m π:=⟨fun j a hj q=>(k7 hj).trans (congrArg some (by rw [List.getD_eq_getElem?_getD,q];rfl)),fun a x=>x.1⟩
theorem FO{s:AS}(S:aq C J M s h)(dS:∀j,j<m→π j<s.n)(hinj:∀i j,i<m→j<m→π i=π j→i=j):(bY J π m).Nodup:=by
 unfold bY;refine List.pairwise_map.mpr (List.Pairwise.imp_of_mem ?_ List.nodup_range);intro i j hi hj hne e;have hi:=List.mem_range.mp hi
 have hj:=List.mem_range.mp hj
 exact hne (hinj i j hi hj (S.inj (oi (S.len▸dS i hi)) ((oi (S.len▸dS j hj)).trans (congrArg some e.symm))))
theorem aq.eD{s:AS}(S:aq C J M s h){s':AS}(hm:s'.n≤1000000)(hnf:nf≤s'.n)(dS:∀j,j<s'.n→π j<s.n)(hinj:∀i j,i<s'.n→j<s'.n→π i=π j→i=j)
  (hf:∀i,i<nf→s'.hp.get i=f0.get i)(hmut:∀i,nf≤i→i<s'.n→C.nf≤π i)(hlow:∀i o,s'.hp.get i=some o→i<s'.n)
  (hobj:∀i o,s'.hp.get i=some o→(∀(σ':List Addr)(M':Addr→Prop),H4 C J σ' M M' s'.n π→cR (C.re ν nf f0 U) σ' M' h o (J.getD (π i) 0)))(hrg:cg ν s'.rg):
  aq (C.re ν nf f0 U) (bY J π s'.n) (si M (bY J π s'.n) nf) s' h:=by
 have len:(bY J π s'.n).length=s'.n:=by unfold bY;rw [List.length_map,List.length_range]
 have nm:∀p∈C.tabs,∀i:Nat,(bY J π s'.n)[i]?≠some p.2:=fun p hp i e=>(S.tab p hp).2 (bO (cU S dS e).1)
 refine⟨len.symm,hm,⟨hnf,hf⟩,FO S dS hinj,hlow,fun i o a e q=>?_,fun i a q hi=>⟨S.jt (π i) a (cU S dS q).1 (hmut i hi (cU S dS q).2),fun j hj e=>?_⟩,fun i a q hi x=>x.2 i hi q,fun a x=>S.there a (jm S dS x),fun a x=>S.mlt a x.1,fun b o e=>?_,fun p hp=>⟨?_,fun x=>(List.getElem?_of_mem x).elim (nm p hp)⟩,hrg⟩
 ·rw [k7 (cU S dS q).2]at q
  exact bg q▸hobj i o e _ _ nO
 ·have hi:nf≤i:=hi
  have:=hinj i j (cU S dS q).2 (cU S dS e).2 (S.inj (cU S dS q).1 (cU S dS e).1)
  lia
 ·exact⟨fun x=>(S.base b o e).1 x.1,(S.base b o e).2⟩
 ·refine A2 (S.tab p hp).1 fun ps a1 a2 a3 a4=>?_
  refine⟨ps,⟨a1,fun i Y=>nm p hp i⟩,a2,a3,fun pos cv e=>?_⟩
  refine vh (a4 pos cv e:) fun c oc vs t e1 e2 e3 e4=>?_
  exact⟨c,oc,vs,t,e1,fun x=>e2 x.1,e3,e4⟩
theorem cm.eD{Z:Addr→Prop}{s:AS}(S:aq C J M s h)(z:cm C Z J h)(dS:∀j,j<m→π j<s.n):cm (C.re ν nf f0 U) (Jv Z J (bY J π m)) (bY J π m) h:=fun a q=>
 q.elim (fun q=>⟨(z a q).1,fun x=>(z a q).2.1 (jm S dS x),(z a q).2.2⟩) fun q=>⟨S.there a q.1,q.2,fun p hp e=>(S.tab p hp).2 (e▸q.1)⟩
end
end
end Mine.Internal
namespace Mine.Internal
open PySem PySem.W PyProof.Rows PySem.SeqAt
open PySem.Sem (wp)
noncomputable section
variable{M₀ Z₀:Addr→Prop}
noncomputable def mB{α:Type}(p:α→Bool):aH α→Bool
 |.ok a=>p a
 |.fork _ _ _ t f=>match mB p t with|true=>mB p f|false=>false
 |.bad _=>false
set_option tactic.hygienic true in
theorem fi{α:Type}{p:α→Bool}(ν:Nat→Int):∀{r:aH α},mB p r=true→∃a,r.leaf ν=some a∧p a=true
 |.ok a,h=>⟨a,rfl,h⟩
 |.fork k a b t f,h=>by
  unfold mB at h;split at h
  ·rename_i q
   refine aC (fi ν q:) fun x e1 p1=>?_
   refine aC (fi ν h:) fun y e2 p2=>?_
   unfold aH.leaf;cases eG ν k a b with
   |true=>exact⟨x,e1,p1⟩
   |false=>exact⟨y,e2,p2⟩
  ·injection h
 |.bad _,h=>by injection h
theorem kQ{M:Model}{Γ:Ctx}{env:PySem.Env}{ys:List Stmt}{Q:Flow→Pos→Shared→Prop}{E:Value→Pos→Shared→Prop}:∀(xs:List Stmt)(p:Pos)(s:Shared),
  wp M Γ (execs xs env) (fun f p' s'=>match f with|.next=>wp M Γ (execs ys env) Q E p' s'|f=>Q f p' s') E p s→wp M Γ (execs (xs++ys) env) Q E p s
 |[],_,_,h=>h
 |x::xs,p,s,h=>by
  rw [List.cons_append,execs_cons,Sem.wp_bind'];rw [execs_cons,Sem.wp_bind']at h;refine Sem.wp_mono M Γ _ (fun f p' s' h'=>?_) (fun Y Y Y h'=>h') _ _ h
  cases f<;>first|exact kQ xs p' s' h'|exact h'
theorem fN{M:Model}{A:Around}{env:PySem.Env}{xs ys:List Stmt}{Q:Flow→Shared→Prop}{E:Value→Shared→Prop}{s:Shared}
  (h:ab M A (execs xs env) (fun f s'=>match f with|.next=>ab M A (execs ys env) Q E s'|f=>Q f s') E s):ab M A (execs (xs++ys) env) Q E s:=fun Γ p iC hc=>by
 refine kQ xs p s (Sem.wp_mono M Γ _ (fun f p' s' h'=>?_) (fun Y Y Y h'=>h') _ _ (h Γ p iC hc))
 cases f<;>first|exact h' Γ p' iC hc|exact h'
theorem dc.split{C:Cx}{kd:Kd}{cs:Bool}{m l:List CS}:∀{xs:List Stmt},dc C kd cs (l++m) xs→∃ys zs,xs=ys++zs∧dc C kd cs l ys∧dc C kd cs m zs:=by
 induction l with
 |nil=>exact fun{xs} h=>⟨[],xs,rfl,.nil,h⟩
 |cons c l ih=>exact fun h=>j8 (cn.un h) fun x r q a b=>j8 (ih b) fun ys zs e h1 h2=>⟨x::ys,zs,by rw [q,e];rfl,.cons a h1,h2⟩
section
variable{C:Cx}{ν:Nat→Int}{nf:Nat}{f0:aE AO}{U:Nat→Value}{J σ' zf:List Addr}{M M' H6 Z Z' own:Addr→Prop}{h h':Heap}{kd:Kd}{cs:Bool}{env:PySem.Env}{ρ ρ':Env}
theorem dk.eD{s:AS}(S:aq C J M s h)(F:dk C Z J M own kd cs env ρ h)(hm:∀a,M' a→M a)(hM:∀a,own a→M' a)(hz:∀a,Z a→Z' a)(hZ:∀a,Z' a→Z a∨a∈J)(Dl:∀a,a∈σ'→a∈J)
  (hv:∀x v',az ρ' x=some v'→gZ (kd.k (C.nm x))→∃rv,dM (fun a=>Z a∨own a) M env h (C.nm x) rv∧ao (C.re ν nf f0 U) σ' M' h v' rv):dk (C.re ν nf f0 U) Z' σ' M' own kd cs env ρ' h:=by
 refine⟨⟨F.f.glob,F.f.i8,F.f.kind,F.f.kinds,F.f.Ed,F.f.xd,fun c q=>?_,fun x v' e k=>?_⟩,fun a q=>⟨hM a q,fun z=>?_⟩,fun a q=>?_,F.lo,F.ns,F.ce,F.lc,F.ap,F.gh⟩
 ·refine dN (F.f.code c q:) fun a1 a2 a3=>?_
  exact⟨a1,a2,fun x a q z=>a3 x a q (hm a z)⟩
 ·refine aC (hv x v' e k:) fun rv R V=>?_
  refine⟨rv,?_,V⟩
  cases R with
  |loc m a b c d=>exact .loc m a (b.imp (hz _) id) c d
  |cell c o a b e f g=>exact .cell c o a b (e.imp (fun z=>z.imp (hz _) id) fun n z=>n (hm _ z)) f g
 ·rcases hZ a z with z|z
  ·exact(F.eR a q).2 z
  ·exact(F.gB a q).2.1 z
 ·refine dN (F.gB a q:) fun a1 a2 a3=>?_
  exact⟨a1,fun m=>a2 (Dl a m),a3⟩
structure Way(h₀:Heap)(M₀ Z₀:Addr→Prop)(J:List Addr)(M Z:Addr→Prop)(h:Heap):Prop where
 more:∀a,M₀ a→M a
 fresh:∀a,M a→M₀ a∨h₀.get? a=none
 keep:∀a,Z₀ a→Z a
 ext:Ext (fun a=>M₀ a∧¬Z₀ a) h₀ h
 new:∀a,a∈J→h₀.get? a=none
theorem Way.start(h₀:Heap)(M₀ Z₀:Addr→Prop):Way h₀ M₀ Z₀ [] M₀ Z₀ h₀:=⟨fun Y x=>x,fun Y x=>.inl x,fun Y x=>x,Ext.refl _ _,fun Y m=>nomatch m⟩
theorem Way.go{h₀:Heap}(W:Way h₀ M₀ Z₀ J M Z h)(G:aJ Z J M h σ' M' h'):Way h₀ M₀ Z₀ σ' M' Z h':=by
 obtain⟨l,rfl,f⟩:=G.pre
 refine⟨fun a x=>G.more a (W.more a x),fun a x=>?_,W.keep,⟨fun b o e=>?_,fun b o hn e=>?_⟩,fun a m=>?_⟩
 ·rcases G.fresh a x with x|x
  ·exact W.fresh a x
  ·exact .inr (W.ext.dead x)
 ·refine dF (W.ext.live b o e:) fun o' e'=>?_
  exact G.ext.live b o' e'
 ·refine G.ext.keep b o (fun q=>?_) (W.ext.keep b o hn e)
  rcases W.fresh b q.1 with x|x
  ·exact hn ⟨x,fun z=>q.2 (W.keep b z)⟩
  ·exact aO e x
 ·rcases List.mem_append.mp m with m|m
  ·exact W.new a m
  ·exact W.ext.dead (f a m)
theorem Way.eD{h₀:Heap}(W:Way h₀ M₀ Z₀ J M Z h)(hl:∀a,M₀ a→∃o,h₀.get? a=some o)(hm:∀a,M' a→M a)(hM:∀a,M a→M' a∨a∈J)(hz:∀a,Z a→Z' a)(Dl:∀a,a∈σ'→a∈J):Way h₀ M₀ Z₀ σ' M' Z' h:=
 ⟨fun a x=>(hM a (W.more a x)).elim id fun m=>let⟨_,e⟩:=hl a x;(aO e (W.new a m)).elim,fun a x=>W.fresh a (hm a x),fun a x=>hz a (W.keep a x),W.ext,fun a m=>W.new a (Dl a m)⟩
theorem dk.km{s:AS}{π:Nat→Nat}{m:Nat}(S:aq C J M s h)(F:dk C Z J M own kd cs env ρ h)(dS:∀j,j<m→π j<s.n)
  (hv:∀x v',az ρ' x=some v'→gZ (kd.k (C.nm x))→∃rv,dM (fun a=>Z a∨own a) M env h (C.nm x) rv∧ao (C.re ν nf f0 U) (bY J π m) (si M (bY J π m) nf) h v' rv):
  dk (C.re ν nf f0 U) (Jv Z J (bY J π m)) (bY J π m) (si M (bY J π m) nf) own kd cs env ρ' h:=
 dk.eD S F (fun a x=>x.1) (fun a x=>⟨(F.eR a x).1,fun i Y q=>(F.gB a x).2.1 (bO (cU S dS q).1)⟩) (fun a x=>.inl x) (fun a x=>x.imp id fun x=>x.1) (fun a x=>jm S dS x) hv
theorem dk.tell{x:Nat}{v:AV}(F:dk C Z J M own kd cs env ρ h)(g:az ρ x=some v){p:Value→Prop}(hv:∀rv,ao C J M h v rv→p rv)(k:gZ (kd.k (C.nm x))):∃rv,dM (fun a=>Z a∨own a) M env h (C.nm x) rv∧p rv:=
 (F.f.vars x v g k).elim fun rv x=>⟨rv,x.1,hv rv x.2⟩
theorem Way.km{h₀:Heap}{s:AS}{π:Nat→Nat}{m:Nat}(W:Way h₀ M₀ Z₀ J M Z h)(S:aq C J M s h)(dS:∀j,j<m→π j<s.n)(hl:∀a,M₀ a→∃o,h₀.get? a=some o):Way h₀ M₀ Z₀ (bY J π m) (si M (bY J π m) nf) (Jv Z J (bY J π m)) h:=
 Way.eD W hl (fun a x=>x.1) (fun a x=>(Classical.em (a∈bY J π m)).elim (fun q=>.inr (jm S dS q)) fun q=>.inl ⟨x,fun i Y e=>q (bO e)⟩) (fun a x=>.inl x) (fun a x=>jm S dS x)
noncomputable def ma(p:Nat→AV→Prop):Env→Prop
 |[]=>True
 |a::r=>p a.1 a.2∧ma p r
theorem ma.at_{p:Nat→AV→Prop}{ρ:Env}:ma p ρ→∀{x:Nat}{v:AV},az ρ x=some v→p x v:=by
 induction ρ with
 |nil=>exact fun _{x v}(h:none=some v)=>no h
 |cons a r ih=>
  intro H x v h;unfold az at h;cases q:Nat.beq a.1 x with
  |true=>rw [q]at h;exact pz q▸bg h▸H.1
  |false=>rw [q]at h;exact ih H.2 h
theorem rC{t:aE AO}{k i:Nat}{m0 o:AO}(hk:k<2^40 - 1)(q:(aE.put 40 t k m0).get i=some o):(i=k∧o=m0)∨t.get i=some o:=by
 by_cases hi:k=i
 ·subst hi;rw [AS.cp _ _ _ _ hk]at q;exact .inl ⟨rfl,(bg q).symm⟩
 ·rw [AS.bB _ _ _ _ _ hi]at q;exact .inr q
def Nm(e:IE)(v:AV):Bool:=Nat.beq 2 v.ctorIdx&&fU (wA v).i e
def Ka(i:Nat)(v:AV):Bool:=Nat.beq 7 v.ctorIdx&&Nat.beq i (wA v).r
def Nl(i:Nat)(v:AV):Bool:=Nat.beq 13 v.ctorIdx&&Nat.beq i (wA v).r
theorem BP{e:IE}{v:AV}(h:Nm e v=true):∃x,v=.int x∧fU x e=true:=⟨_,gY (ae h).1,(ae h).2⟩
theorem vD{i:Nat}{v:AV}(h:Ka i v=true):v=.ref i:=(gY (k:=7) (ae h).1:v=.ref (wA v).r).trans (congrArg AV.ref (aL (ae h).2).symm)
theorem BO{i:Nat}{v:AV}(h:Nl i v=true):v=.mG i:=(gY (k:=13) (ae h).1:v=.mG (wA v).r).trans (congrArg AV.mG (aL (ae h).2).symm)
noncomputable def nx(q:Env→AS→Bool)(p:Fl×Env×AS):Bool:=match p.1 with|.nx=>q p.2.1 p.2.2|.rt _=>false
theorem Cw{q:Env→AS→Bool}{p:Fl×Env×AS}(h:nx q p=true):p.1=.nx∧q p.2.1 p.2.2=true:=by
 obtain⟨f,ρ,s⟩:=p
 cases f with
 |nx=>exact⟨rfl,h⟩
 |rt v=>exact Bool.noConfusion h
theorem rR{f:Fl}{fl:Flow}(e:f=.nx)(r:vc C J M h f fl):fl=.next:=(e▸r:vc C J M h .nx fl)
theorem k8{C C':Cx}{J σ':List Addr}{M M':Addr→Prop}{h h':Heap}{x x':IE}{v:Value}(q:x'.eval C'.ν=x.eval C.ν)(V:ao C J M h (.int x) v):ao C' σ' M' h' (.int x') v:=
 V.inv.elim fun t e=>e▸.int _ _ t q
theorem aq.back{C':Cx}{s cL gN:AS}(hC:C'.hb=C.hb∧C'.tabs=C.tabs∧C'.t4=C.t4)(S:aq C J M s h)(G:aJ Z' σ' M' h zf H6 h')(u5:aq C' zf H6 gN h')(hm:∀a,M' a→M a)(hM:∀a,M a→M' a)
  (e1:cL.n=s.n)(e2:cL.rg=s.rg)(hf:∀i,i<C.nf→cL.hp.get i=C.f0.get i)(hlow:∀i o,cL.hp.get i=some o→i<cL.n)(hobj:∀i o a,cL.hp.get i=some o→J[i]?=some a→cR C J (fun a=>M a∨(h.get? a=none∧H6 a)) h' o a):
  aq C J (fun a=>M a∨(h.get? a=none∧H6 a)) cL h':=by
 refine⟨e1▸S.len,e1▸S.lim,⟨e1▸S.gP.1,hf⟩,S.nodup,hlow,hobj,fun i a q hi=>.inl (S.jt i a q hi),fun i a q hi x=>?_,fun a m=>?_,fun a x=>?_,fun b o e=>?_,fun p hp=>?_,e2▸S.rg⟩
 ·rcases x with x|x
  ·exact S.yB i a q hi x
  ·refine dF (S.there a (bO q):) fun o e=>?_
   exact aO e x.1
 ·refine dF (S.there a m:) fun o e=>?_
  exact G.ext.live a o e
 ·rcases x with x|x
  ·refine dF (S.mlt a x:) fun o e=>?_
   exact G.ext.live a o e
  ·exact u5.mlt a x.2
 ·refine aw (S.base b o e:) fun n y=>?_
  refine⟨fun x=>x.elim n fun x=>aO y x.1,(u5.base b o (hC.1▸e)).2⟩
 ·obtain⟨⟨ps,a1,a2,a3,a4⟩,a5⟩:=u5.tab p (hC.2.1▸hp)
  obtain⟨⟨XR,b1,b2,_⟩,b5⟩:=S.tab p hp
  refine⟨⟨ps,.inl b1,a2,a3,fun pos cv e=>?_⟩,b5⟩
  refine Od (a4 pos cv e:) fun c oc vs t f1 f2 f3 f4 f5=>?_
  exact⟨c,oc,vs,t,f1,fun x=>x.elim (fun x=>f2 (G.more c (hM c x))) fun x=>f2 x.2,f3,f4,by rw [←hC.2.2];exact f5⟩
theorem aJ.yS(hm:∀a,M' a→M a)(hz:∀a,M' a→Z a→Z' a)(G:aJ Z' σ' M' h zf H6 h'):aJ Z J M h J (fun a=>M a∨(h.get? a=none∧H6 a)) h':=
 ⟨⟨[],by simp,fun Y m=>nomatch m⟩,⟨G.ext.live,fun b o hn e=>G.ext.keep b o (fun q=>hn ⟨hm b q.1,fun z=>q.2 (hz b q.1 z)⟩) e⟩,fun a x=>.inl x,fun a x=>x.elim .inl fun x=>.inr x.1⟩
end
end
end Mine.Internal
namespace Mine.Internal
open PySem PySem.W PyProof.Rows PySem.SeqAt
noncomputable section
variable{C:Cx}{E:Value→Shared→Prop}{M M' M₀ aP Z Z₀:Addr→Prop}{Q:Flow→Shared→Prop}{U:Nat→Value}{W d0 d1:Int}{b:List IE}{h h₁:Heap}{i:Nat}{is:List Int}{la:Addr}{s ag:AS}{st:Shared}{v:AV}{w:World}{ν:Nat→Int}{J σ' aA:List Addr}
noncomputable def K6(d:Option Int)(j:Nat):IE:=match d,Nat.beq j 5 with|some i,true=>.c i|_,_=>.v j
def memD(d:Option Int):List IE:=(List.range 29).map (K6 d)
def sD(f0:aE AO)(m:Nat)(d:Option Int):AS:=⟨aE.put 40 f0 m (.cu (memD d)),m+1,List.replicate 29 (0,255)⟩
noncomputable def mr:List IE→List IE→Bool
 |[],[]=>true
 |a::x,b::y=>match fU a b with|true=>mr x y|false=>false
 |_,_=>false
def MK(P:Pg)(N:pa)(f0:aE AO)(m fuel dep:Nat)(e:SE):Bool:=match(run P N fuel dep).ca (.fn e.k) e.as (sD f0 m e.d)with
 |.ok (v,s)=>xZ (m+1) id 20 e.v v&&(match s.hp.get m with|some (.cu l)=>mr l (memD e.d)|_=>false)
 |_=>false
set_option tactic.hygienic true in
theorem lr(ν:Nat→Int):∀{a b:List IE},mr a b=true→a.map (fun e=>e.eval ν)=b.map (fun e=>e.eval ν)
 |[],[],_=>rfl
 |a::x,b::y,h=>by
  unfold mr at h;split at h
  ·rename_i q;rw [List.map_cons,List.map_cons,eT ν q,lr ν h]
  ·injection h
 |[],_::_,h=>by injection h
 |_::_,[],h=>by injection h
theorem gX{fk:Nat→Int}{a:List IE}(h:a.map (fun e=>e.eval ν)=b.map (fun e=>e.eval fk)):aS ν a=aS fk b∧(bq fk b→bq ν a):=by
 refine⟨?_,fun B e m=>?_⟩
 ·unfold aS cz
  congr 1
  have:=congrArg (List.map fun i:Int=>UInt8.ofNat i.toNat) h
  rw [List.map_map,List.map_map]at this;exact this
 ·have:e.eval ν∈b.map (fun e=>e.eval fk):=h▸List.mem_map.mpr ⟨e,m,rfl⟩
  refine aC (List.mem_map.mp this:) fun x hx q=>?_
  rw [←q];exact B x hx
set_option tactic.hygienic true in
theorem ot{m k:Nat}{as:List AV}:∀{l:List SE},ox m b k as l=some v→∃e∈l,e.k=k∧G9 e.d b=true∧xZ.FU m id 20 e.as as=true∧e.v=v
 |[],h=>by injection h
 |e::r,h=>by
  unfold ox at h;split at h
  ·rename_i q
   obtain⟨q1,q⟩:=Bool.and_eq_true_iff.mp q
   obtain⟨q2,q3⟩:=Bool.and_eq_true_iff.mp q
   injection h with h;subst h;exact⟨e,bS,aL q1,q2,q3,rfl⟩
  ·refine aC (ot h:) fun x hx y=>?_
   exact⟨x,cq _ hx,y⟩
noncomputable def fB(ν:Nat→Int)(b:List IE)(j:Nat):Int:=(b.map fun e=>e.eval ν).getD j 0
set_option tactic.hygienic true in
theorem zQ(hl:b.length=29){d:Option Int}(hd:G9 d b=true):(memD d).map (fun e=>e.eval (fB ν b))=b.map (fun e=>e.eval ν):=by
 apply List.ext_getElem?
 intro j;unfold memD;rw [List.map_map,List.getElem?_map,List.getElem?_map];rcases Nat.lt_or_ge j 29 with hj|hj
 ·rw [List.getElem?_range hj,List.getElem?_eq_getElem (by lia)]
  show some (IE.eval (fB ν b) (K6 d j))=some (b[j].eval ν);have hv:fB ν b j=b[j].eval ν:=by
   unfold fB;rw [List.getD_eq_getElem?_getD,List.getElem?_map,List.getElem?_eq_getElem (by lia)];rfl
  congr 1
  unfold K6;split
  ·rename_i i q
   have Xa:j=5:=aL q
   subst Xa;unfold G9 at hd;simp only at hd;have:b.drop 5=b[5]::b.drop 6:=List.drop_eq_getElem_cons (by lia)
   rw [this]at hd;refine aC (wx hd:) fun i' e1 e2=>?_
   injection e1 with e1;subst e1;rw [e2];rfl
  ·exact hv
 ·rw [List.getElem?_eq_none (by rw [List.length_range];lia),List.getElem?_eq_none (by lia)];rfl
noncomputable def m6(ν:Nat→Int):Nat→Rg→Prop
 |_,[]=>True
 |k,p::r=>(p.1≤ν k∧ν k≤p.2)∧m6 ν (k+1) r
theorem m6.at_{l:Rg}:∀{k:Nat},m6 ν k l→∀{j:Nat}{p:Int×Int},l[j]?=some p→p.1≤ν (k+j)∧ν (k+j)≤p.2:=by
 induction l with
 |nil=>exact fun{k} _{j p}(h:none=some p)=>no h
 |cons a l ih=>
  intro k H j p h;cases j with
  |zero=>exact bg h▸H.1
  |succ j=>exact Nat.add_right_comm k 1 j▸ih H.2 h
theorem m6.ok{l:Rg}(H:m6 ν 0 l):cg ν l:=fun k Y h=>Nat.zero_add k▸H.at_ h
theorem m6.app{l m:Rg}:∀{k:Nat},m6 ν k l→m6 ν (k+l.length) m→m6 ν k (l++m):=by
 induction l with
 |nil=>exact fun Y h=>h
 |cons a l ih=>exact fun{k} H h=>⟨H.1,ih H.2 ((Nat.succ_add_eq_add_succ k l.length).symm▸h:m6 ν (k+1+l.length) m)⟩
theorem m6.rep{p:Int×Int}(n:Nat):∀{k:Nat},(∀j,k≤j→j<k+n→p.1≤ν j∧ν j≤p.2)→m6 ν k (List.replicate n p):=by
 induction n with
 |zero=>exact fun Y=>trivial
 |succ n ih=>exact fun{k} h=>⟨h k (Nat.le_refl k) (Nat.lt_add_of_pos_right (Nat.succ_pos n)),ih fun j a b=>h j (Nat.le_of_succ_le a) (Nat.succ_add_eq_add_succ k n▸b)⟩
theorem m6.map{l:List Int}:∀{k:Nat},(∀j m,l[j]?=some m→0≤ν (k+j)∧ν (k+j)≤m - 1)→m6 ν k (l.map fun m=>(0,m - 1)):=by
 induction l with
 |nil=>exact fun Y=>trivial
 |cons a l ih=>exact fun{k} h=>⟨h 0 a rfl,ih fun j m q=>Nat.add_right_comm k 1 j▸h (j+1) m q⟩
def Nk(l:List IE)(v:AV):Bool:=Nat.beq 4 v.ctorIdx&&mr (wA v).y l
theorem BN{l:List IE}(h:Nk l v=true):∃x,v=.bytes x∧mr x l=true:=⟨_,gY (ae h).1,(ae h).2⟩
theorem xX{C':Cx}{x l:List IE}{a:Addr}(O:cR C J M h (.cu x) a)(e:l.map (fun e=>e.eval C'.ν)=x.map (fun e=>e.eval C.ν)):cR C' σ' M' h (.cu l) a:=by
 exact aw (gX e) fun b1 b2=>.cu _ _ (b1.symm▸O.jH.1) (b2 O.jH.2)
theorem m4{x:List IE}{a:Addr}(O:cR C J M h (.cu x) a):h.get? a=some (de (aS C.ν x))∧bq C.ν x:=O.jH
theorem CN(B:bq ν b)(j:Nat):0≤fB ν b j∧fB ν b j≤255:=by
 unfold fB;rw [List.getD_eq_getElem?_getD,List.getElem?_map];cases q:b[j]? with
 |none=>exact⟨Int.le_refl 0,(by decide:(0:Int)≤255)⟩
 |some x=>
  have:=B x (bO q)
  exact⟨this.1,Int.le_of_lt_add_one this.2⟩
set_option tactic.hygienic true in
theorem FC{tab:List SE}{m k:Nat}{as:List AV}{r:aH (AV×AS)}(h:Nw tab m k as s=some r):∃b v,s.hp.get m=some (.cu b)∧b.length=29∧ox (m+1) b k as tab=some v∧r=.ok (v,s):=by
 unfold Nw at h;split at h
 ·injection h
 split at h
 case h_2=>injection h
 rename_i b hb
 split at h
 case h_2=>injection h
 rename_i hl
 split at h
 case h_2=>injection h
 rename_i v hv
 exact⟨b,v,hb,aL hl,hv,(bg h).symm⟩
set_option tactic.hygienic true in
theorem FL{P:Pg}{N:pa}{f0:aE AO}{m fuel dep:Nat}{e:SE}(h:MK P N f0 m fuel dep e=true):∃v s l,(run P N fuel dep).ca (.fn e.k) e.as (sD f0 m e.d)=.ok (v,s)∧xZ (m+1) id 20 e.v v=true∧s.hp.get m=some (.cu l)∧mr l (memD e.d)=true:=by
 unfold MK at h;split at h
 case h_2=>injection h
 rename_i v s hr
 refine aw (ae h) fun hv h=>?_
 split at h
 case h_2=>injection h
 exact⟨v,s,_,hr,hv,‹_›,h⟩
section
variable{P:Pg}{N:pa}
theorem Nv{m:Nat}(hm:m<1000)(hnf:C.nf=m)(SM:∀i o,C.f0.get i=some o→i<m∧IC (m+1) id o o=true)(S:aq C J M s h)(hb:s.hp.get m=some (.cu b)){d:Option Int}(mD:(memD d).map (fun e=>e.eval (fB C.ν b))=b.map (fun e=>e.eval C.ν))(dS:∀j,j<m+1→id j<s.n):
  aq (C.re (fB C.ν b) C.nf C.f0 C.U) (bY J id (m+1)) (si M (bY J id (m+1)) C.nf) (sD C.f0 m d) h:=by
 have Om:cR C J M h (.cu b) (J.getD m 0):=S.obj m _ _ hb (oi (S.len▸S.low m _ hb))
 have lo:∀i o,(sD C.f0 m d).hp.get i=some o→i<m+1∧∀(σ':List Addr)(M':Addr→Prop),H4 C J σ' M M' (m+1) id→cR (C.re (fB C.ν b) C.nf C.f0 C.U) σ' M' h o (J.getD i 0):=fun i o q=>
  (rC (Nat.lt_trans hm (by decide)) q).elim (fun q=>by rw [q.1,q.2];exact⟨Nat.lt_succ_self m,fun Y Y Y=>xX Om mD⟩) fun q=>have f:=SM i o q;have hi:=Nat.lt_succ_of_lt f.1
   ⟨hi,fun Y Y X=>vQ X f.2 (S.obj i o _ ((S.gP.2 i (hnf▸f.1)).trans q) (oi (S.len▸dS i hi)))⟩
 exact aq.eD (s':=sD C.f0 m d) (π:=id) S (Nat.le_trans hm (by decide)) (hnf▸Nat.le_succ m) dS (fun i j Y Y q=>q) (fun i hi=>AS.bB C.f0 40 m i _ (Nat.ne_of_gt (hnf▸hi))) (fun i hi Y=>hi) (fun i o q=>(lo i o q).1) (fun i o q=>(lo i o q).2) (m6.ok (m6.rep 29 fun j Y Y=>CN (m4 Om).2 j))
theorem RC{m:Nat}(hnf:C.nf=m)(S:aq C J M s st.heap)(hb:s.hp.get m=some (.cu b)){d:Option Int}(mD:(memD d).map (fun e=>e.eval (fB C.ν b))=b.map (fun e=>e.eval C.ν))(dS:∀j,j<m+1→id j<s.n)
  {v v':AV}{gN:AS}{l:List IE}(hv:xZ (m+1) id 20 v v'=true)(hs:gN.hp.get m=some (.cu l))(hmem:mr l (memD d)=true){Q:Value→Shared→Prop}(K:KV C Z J M st v s Q):
  KV (C.re (fB C.ν b) C.nf C.f0 C.U) (Jv Z J (bY J id (m+1))) (bY J id (m+1)) (si M (bY J id (m+1)) C.nf) st v' gN Q:=by
 intro aA aP h₁ tk rv G aD cb;refine aC (G.pre:) fun CW q Dn=>?_
 subst q;have hM:∀a,M a→si M (bY J id (m+1)) C.nf a:=fun a x=>⟨x,fun i hi q=>S.yB i a (cU S dS q).1 hi x⟩
 have Gf:aJ Z J M st.heap J (fun a=>M a∨(st.heap.get? a=none∧aP a)) h₁:=aJ.yS (fun a x=>x.1) (fun a Y x=>.inl x) G
 have len:(bY J id (m+1)).length=m+1:=by unfold bY;rw [List.length_map,List.length_range]
 have Vr:∀{i:Nat},i<m+1→(bY J id (m+1)++CW)[i]?=(bY J id (m+1))[i]?:=fun hi=>List.getElem?_append_left (len.symm▸hi)
 have ham:J[m]?=some (J.getD m 0):=oi (S.len▸S.low m _ hb)
 refine K J _ h₁ tk rv Gf (aq.back (C':=C.re (fB C.ν b) C.nf C.f0 C.U) ⟨rfl,rfl,rfl⟩ S G aD (fun a x=>x.1) hM rfl rfl S.gP.2 S.low fun i o a q1 q2=>(S.obj i o a q1 q2).chg Gf.chg fun x hx=>?_)
  (rA (ν:=C.ν) (nf:=C.nf) (f0:=C.f0) (U:=C.U) (⟨fun j a hj q=>(cU S dS ((Vr hj).symm.trans q)).1,fun a x=>x.elim (fun x=>G.more a (hM a x)) fun x=>x.2⟩:H4 (C.re (fB C.ν b) C.nf C.f0 C.U) (bY J id (m+1)++CW) J aP (fun a=>M a∨(st.heap.get? a=none∧aP a)) (m+1) id) 20 _ _ _ hv cb)
 by_cases hi:i<m+1
 ·by_cases him:i=m
  ·subst him
   have ea:a=J.getD i 0:=bg (q2.symm.trans ham)
   subst ea;have T7:=m4 (aD.obj i _ (J.getD i 0) hs ((Vr (Nat.lt_succ_self i)).trans (k7 (Nat.lt_succ_self i))))
   have O:=m4 (S.obj i _ _ hb ham)
   exact(T7.1.trans (congrArg (fun x=>some (de x)) ((gX (lr (fB C.ν b) hmem)).1.trans (gX mD).1))).trans (O.1.symm.trans hx)
  ·exact G.kept (fun x=>S.yB i a q2 (by lia) x.1) hx
 ·refine G.dB (.inr ⟨bO q2,fun mm=>?_⟩) hx
  refine dF (List.getElem?_of_mem mm:) fun j q3=>?_
  exact hi (S.inj q2 (cU S dS q3).1▸(cU S dS q3).2)
theorem Ko{m fuel dep:Nat}{tab:List SE}(hm:m<1000)(hnf:C.nf=m)(hX:∀fk,WF (C.re fk C.nf C.f0 C.U) P N)(hfu:fuel≤100000)
  (SM:∀i o,C.f0.get i=some o→i<m∧IC (m+1) id o o=true)(jP:∀e∈tab,MK P N C.f0 m fuel dep e=true):
  ∀k as s r v s',Nw tab m k as s=some r→r.leaf C.ν=some (v,s')→∀Z J M A st ras,aq C J M s st.heap→bu A dep→cm C Z J st.heap→ay C J M st.heap as ras→∀Q E,KV C Z J M st v s' Q→ab (Md C) A (call (.ref (C.mL k)) ras []) Q E st:=by
 intro k as s r v s' hsm hr Z J M A st ras S R z V Q E K;refine K0 (FC hsm) fun b v0 hb hl hfind q=>?_
 subst q;have K:=K.ok hr
 refine QS (ot hfind) fun e he q1 hd has q2=>?_
 subst q1 q2;refine o7 (FL (jP e he)) fun v' gN l hrun hv hs hmem=>?_
 have mD:=zQ (ν:=C.ν) hl hd
 have dS:∀j,j<m+1→id j<s.n:=fun j hj=>Nat.lt_of_le_of_lt (Nat.le_of_lt_succ hj) (S.low m _ hb)
 exact((sound (hX (fB C.ν b)) fuel hfu dep).2.2.2 (.fn e.k) e.as (sD C.f0 m e.d) v' gN (hrun▸rfl) _ _ _ A st (.ref (C.mL e.k)) ras (Nv hm hnf SM S hb mD dS) R (cm.eD S z dS) (.fn e.k) (xY (ν:=fB C.ν b) (nf:=C.nf) (f0:=C.f0) (U:=C.U) nO 20 _ _ _ has V)).2 Q E (RC hnf S hb mD dS hv hs hmem K)
end
section
def PH:Pg:=⟨A4,ka,Hd,EZ,1,fun Y Y Y=>none,0⟩
def iU:List CS:=match oz with|[_,.for _ _ _ _ b,_]=>b|_=>[]
noncomputable def R1(w i:Int):Env:=[(168,.ref 0),(138,.int (.c w)),(29,.int (.c i))]
theorem AJ{n d:Nat}{op:Op}{a b:CE}{x y:AV}{ρ:Env}(h1:(run PH dj n d).ev a ρ s=.ok (x,s))(h2:(run PH dj n d).ev b ρ s=.ok (y,s)):(run PH dj (n+1) d).ev (.bin op a b) ρ s=binop op x y s:=by
 show((run PH dj n d).ev a ρ s).bind (fun(x,s)=>((run PH dj n d).ev b ρ s).bind fun(y,s)=>binop op x y s)=_
 rw [h1];show((run PH dj n d).ev b ρ s).bind (fun(y,s)=>binop op x y s)=_
 rw [h2];rfl
theorem Ot(j:Int)(s:AS):binop .mul (.int (.c 2)) (.int (.c j)) s=.ok (.int (.c (2*j)),s):=by
 have h:fm s.rg (.c 2)=true:=by kernel_rfl
 show(match fm s.rg (.c j)||(fm s.rg (.c 2)||(mid s.rg (.c 2)&&mid s.rg (.c j)))with|true=>aH.ok (AV.int (mkMul (.c 2) (.c j)),s)|false=>.bad 12)=_
 rw [h,Bool.true_or,Bool.or_true]
 rfl
noncomputable def eA:CE:=.call (.eZ 3) [.call (.eZ 10) [.n 29]]
noncomputable def eB:CE:=.call (.eZ 10) [.cmp .lt (.n 29) (.val (.int (.c (0))))]
theorem cell{n:Nat}{w i a b:Int}(h1:(run PH dj (n+7) 19).ev eA (R1 w i) s=.ok (.int (.c a),s))(h2:(run PH dj (n+8) 19).ev eB (R1 w i) s=.ok (.int (.c b),s)):
  (run PH dj (n+12) 19).xs iU (R1 w i) s=.ok (.nx,R1 (w*1543+Int.fmod (2*a+b) (10^36)) i,s):=by
 have e1:(run PH dj (n+8) 19).ev (.bin .mul (.val (.int (.c 2))) eA) (R1 w i) s=.ok (.int (.c (2*a)),s):=(AJ (x:=.int (.c 2)) rfl h1).trans (Ot a s)
 have e2:(run PH dj (n+9) 19).ev (.bin .add (.bin .mul (.val (.int (.c 2))) eA) eB) (R1 w i) s=.ok (.int (.c (2*a+b)),s):=(AJ e1 h2).trans rfl
 have e3:(run PH dj (n+9) 19).ev (.bin .pow (.val (.int (.c 10))) (.val (.int (.c 36)))) (R1 w i) s=.ok (.int (.c (10^36)),s):=by kernel_rfl
 have e4:(run PH dj (n+10) 19).ev (.bin .mod (.bin .add (.bin .mul (.val (.int (.c 2))) eA) eB) (.bin .pow (.val (.int (.c 10))) (.val (.int (.c 36))))) (R1 w i) s=.ok (.int (.c (Int.fmod (2*a+b) (10^36))),s):=(AJ e2 e3).trans (by kernel_rfl)
 have e5:(run PH dj (n+10) 19).ev (.bin .mul (.n 138) (.val (.int (.c 1543)))) (R1 w i) s=.ok (.int (.c (w*1543)),s):=by kernel_rfl
 have e6:=(AJ (op:=.add) e5 e4).trans (show binop .add _ _ s=.ok (.int (.c (w*1543+Int.fmod (2*a+b) (10^36))),s)from rfl)
 show(((run PH dj (n+11) 19).ev (.bin .add (.bin .mul (.n 138) (.val (.int (.c 1543)))) (.bin .mod (.bin .add (.bin .mul (.val (.int (.c 2))) eA) eB) (.bin .pow (.val (.int (.c 10))) (.val (.int (.c 36)))))) (R1 w i) s).bind fun(v,s)=>aH.ok (Fl.nx,bV (R1 w i) 138 v,s)).bind _=_
 rw [e6]
 rfl
theorem Ec(n:Nat)(w i:Int)(s:AS):∃r:Int,0≤r∧r<10^36∧(run PH dj (n+12) 19).xs iU (R1 w i) s=.ok (.nx,R1 (w*1543+r) i,s):=by
 have b:∀x:Int,0≤Int.fmod x (10^36)∧Int.fmod x (10^36)<10^36:=fun x=>by
  rw [Int.fmod_eq_emod_of_nonneg _ (by decide)]
  exact⟨Int.emod_nonneg _ (by decide),Int.emod_lt_of_pos _ (by decide)⟩
 cases i with
 |ofNat k=>
  have h1:(run PH dj (n+7) 19).ev eA (R1 w (Int.ofNat k)) s=.ok (.int (.c (Int.ofNat k)),s):=by kernel_rfl
  have h2:(run PH dj (n+8) 19).ev eB (R1 w (Int.ofNat k)) s=.ok (.int (.c 0),s):=by kernel_rfl
  exact⟨_,(b _).1,(b _).2,cell h1 h2⟩
 |negSucc k=>
  have h1:(run PH dj (n+7) 19).ev eA (R1 w (Int.negSucc k)) s=.ok (.int (.c (0+ -Int.negSucc k)),s):=by kernel_rfl
  have h2:(run PH dj (n+8) 19).ev eB (R1 w (Int.negSucc k)) s=.ok (.int (.c 1),s):=by kernel_rfl
  exact⟨_,(b _).1,(b _).2,cell h1 h2⟩
end
section
noncomputable def cI(is:List Int):List AV:=is.map fun i=>.int (.c i)
noncomputable def R0(w:Int):Env:=[(168,.ref 0),(138,.int (.c w))]
def AZ(j:Nat)(w:Int):Prop:=0≤w∧w<2^(120+11*j)
theorem AZ.step{j:Nat}{w r:Int}(h:AZ j w)(h0:0≤r)(h1:r<10^36):AZ (j+1) (w*1543+r):=by
 refine aw (h:) fun a b=>?_
 have e:(2:Int)^(120+11*(j+1))=2^(120+11*j)*2048:=by
  rw [show 120+11*(j+1)=(120+11*j)+11 by lia,Int.pow_add];rfl
 have p:(2:Int)^120≤2^(120+11*j):=by
  rw [Int.pow_add];have:(1:Int)≤2^(11*j):=by
   have:1≤2^(11*j):=Nat.one_le_two_pow
   exact_mod_cast this
  have q:(0:Int)<2^120:=by decide
  have:=Int.mul_le_mul_of_nonneg_left this (Int.le_of_lt q)
  lia
 have t:(10:Int)^36<2^120:=by decide
 unfold AZ;rw [e];constructor<;>lia
theorem KO{β:Type}{l:List AV}{g:List AV→aH β}(h:s.get i=some (.list l)):kH s (.ref i) g=g l:=by
 unfold kH listOf
 dsimp only
 rw [h]
theorem Cp{β:Type}{l:List AV}{g:List AV→aH β}{k:List IE→aH β}(h:s.get i=some (.list l)):A0 s (.ref i) g k=g l:=by
 unfold A0
 dsimp only
 rw [h]
theorem OF{cs:List Int}(hs:s.hp.get 1=some (.list (cI cs))):∀(k j:Nat),j+k=cs.length→∀(m:Nat)(w:Int)(ρ:Env),(ρ=R0 w∨∃x,ρ=R1 w x)→AZ j w→
  ∃w' ρ',AZ cs.length w'∧(ρ'=R0 w'∨∃x,ρ'=R1 w' x)∧(run PH dj (m+14+k) 19).xs [.hH [29] true 0 (.ref 1) j iU] ρ s=.ok (.nx,ρ',s):=by
 intro k;have hsrc:∀j,iQ s 0 (.ref 1) j=.ok (cI cs)[j]?:=fun j=>KO hs
 have hstep:∀(n j:Nat)(ρ:Env),(run PH dj (n+1) 19).xs [.hH [29] true 0 (.ref 1) j iU] ρ s=((iQ s 0 (.ref 1) j).bind fun x=>match x with
   |none=>.ok (.nx,ρ,s)
   |some v=>bQ (iy [29] true v ρ) fun ρ=>((run PH dj n 19).xs iU ρ s).bind fun(f,ρ,s)=>match f with
     |.rt v=>.ok (.rt v,ρ,s)
     |.nx=>(run PH dj n 19).xs [.hH [29] true 0 (.ref 1) (j+1) iU] ρ s:aH (Fl×Env×AS)).bind fun(f,ρ,s)=>match f with
     |.rt v=>.ok (.rt v,ρ,s)
     |.nx=>.ok (.nx,ρ,s):=fun n j ρ=>rfl
 induction k with
 |zero=>
  intro j hj m w ρ SD hw;refine⟨w,ρ,by rw [←hj];exact hw,SD,?_⟩
  rw [show m+14+0=(m+13)+1 by lia,hstep,hsrc]
  have:(cI cs)[j]?=none:=List.getElem?_eq_none (by unfold cI;rw [List.length_map];lia)
  rw [this];rfl
 |succ k ih=>
  intro j hj m w ρ SD hw;have hlt:j<cs.length:=by lia
  refine lM (Ec (m+2+k) w cs[j] s:) fun r r0 r1 hc=>?_
  refine j8 (ih (j+1) (by lia) m (w*1543+r) (R1 (w*1543+r) cs[j]) (.inr ⟨_,rfl⟩) (hw.step r0 r1):) fun w' ρ' a1 a2 a3=>?_
  refine⟨w',ρ',a1,a2,?_⟩
  rw [show m+14+(k+1)=(m+14+k)+1 by lia,hstep,hsrc]
  have:(cI cs)[j]?=some (.int (.c cs[j])):=by unfold cI;rw [List.getElem?_map,List.getElem?_eq_getElem hlt];rfl
  rw [this];have hb:iy [29] true (.int (.c cs[j])) ρ=some (R1 w cs[j]):=by
   rcases SD with rfl|⟨x,rfl⟩<;>rfl
  show((bQ (iy [29] true (.int (.c cs[j])) ρ) fun ρ=>((run PH dj (m+14+k) 19).xs iU ρ s).bind fun(f,ρ,s)=>match f with
     |.rt v=>.ok (.rt v,ρ,s)
     |.nx=>(run PH dj (m+14+k) 19).xs [.hH [29] true 0 (.ref 1) (j+1) iU] ρ s:aH (Fl×Env×AS)).bind _)=_
  rw [hb];show((((run PH dj (m+14+k) 19).xs iU (R1 w cs[j]) s).bind _:aH (Fl×Env×AS)).bind _)=_;rw [show m+14+k=(m+2+k)+12 by lia,hc]
  show(((run PH dj ((m+2+k)+12) 19).xs [.hH [29] true 0 (.ref 1) (j+1) iU] (R1 (w*1543+r) cs[j]) s).bind _)=_;rw [show(m+2+k)+12=m+14+k by lia,a3]
  rfl
def eK(is:List Int):AS:=⟨aE.put 40 .nil 0 (.list (cI is)),1,[]⟩
def dg(is:List Int):AS:=((eK is).new (.list (cI (is.take 24)))).2
def fQ(is:List Int)(w:Int):AS:=((dg is).new (.list [.int (.c w),.int (.c 0),.int (.c (2*w+1))])).2
theorem G3{ih:Ih}{ρ:Env}:qC ih [] ρ s=.ok ([],s):=rfl
theorem wL{ih:Ih}{ρ:Env}{s1 s2:AS}{e:CE}{r:List CE}{vs:List AV}(h1:ih.ev e ρ s=.ok (v,s1))(h2:qC ih r ρ s1=.ok (vs,s2)):qC ih (e::r) ρ s=.ok (v::vs,s2):=by
 show(ih.ev e ρ s).bind (fun(v,s)=>(qC ih r ρ s).bind fun(vs,s)=>aH.ok (v::vs,s))=_
 rw [h1];show(qC ih r ρ s1).bind (fun(vs,s)=>aH.ok (v::vs,s))=_
 rw [h2];rfl
theorem Ac(is:List Int)(h:is.length≤63):∃w:Int,0≤w∧w<2^400∧(run PH dj 100 20).ca (.fn 171) [.ref 0] (eK is)=.ok (.ref 2,fQ is w):=by
 have hl:(is.take 24).length≤24:=by rw [List.length_take];lia
 have g1:(dg is).hp.get 1=some (.list (cI (is.take 24))):=AS.cp (eK is).hp 40 1 (.list (cI (is.take 24))) (by decide)
 refine j8 (OF g1 (is.take 24).length 0 (by lia) (83 - (is.take 24).length) 17 (R0 17) (.inl rfl) ⟨by decide,by decide⟩:) fun w ρ' i1 i2 i3=>?_
 have hw:w<2^400:=by
  have a:=i1.2
  have:(2:Int)^(120+11*(is.take 24).length)≤2^400:=by
   have:(2:Nat)^(120+11*(is.take 24).length)≤2^400:=Nat.pow_le_pow_right (by decide) (by lia)
   exact_mod_cast this
  lia
 refine⟨w,i1.1,hw,?_⟩
 rw [show 83 - (is.take 24).length+14+(is.take 24).length=97 by lia]at i3
 have hsl:slice (.ref 0) none (some (.int (.c 24))) (eK is)=.ok (.ref 1,dg is):=by
  have g0:(eK is).get 0=some (.list (cI is)):=AS.cp .nil 40 0 (.list (cI is)) (by decide)
  have hlen:(cI is).length=is.length:=by unfold cI;simp
  have hc:cut (cI is) 0 (Nat.min 24 (cI is).length)=cI (is.take 24):=by
   unfold cut cI;rw [List.drop_zero,List.length_map,←List.map_take]
   congr 1
   show is.take (min 24 is.length)=_;rw [List.take_eq_take_iff];lia
  have c1:Nat.ble (cI is).length 100000=true:=Nat.ble_eq_true_of_le (by lia)
  have c2:Nat.ble (cI (is.take 24)).length 100000=true:=Nat.ble_eq_true_of_le (by unfold cI;rw [List.length_map];lia)
  show ru (.ref 0) none (some (.int (.c 24))) (eK is)=_;unfold ru;rw [Cp g0];have e1:sliceOf (cI is) none (some (.int (.c 24))) (eK is)=.ok (cI (is.take 24),eK is):=by
   unfold sliceOf jP;simp only[c1];show aH.ok (cut (cI is) 0 (Nat.min 24 (cI is).length),eK is)=_;rw [hc]
  rw [e1];show newList (eK is) (cI (is.take 24))=_;unfold newList jP;simp only[c2]
  rfl
 have e7:(run PH dj 97 19).ev (.iE (.n 168) none (some (.val (.int (.c 24))))) (R0 17) (eK is)=.ok (.ref 1,dg is):=hsl
 have hm:∀(x:Int),(ρ'=R0 w∨∃x,ρ'=R1 w x)→az ρ' 138=some (.int (.c w)):=fun Y q=>by rcases q with rfl|⟨x,rfl⟩<;>rfl
 have hg:=hm 0 i2
 have IS:∀n d s,(run PH dj (n+1) d).ev (.n 138) ρ' s=.ok (.int (.c w),s):=fun n d s=>by
  show(bQ (az ρ' 138) fun v=>aH.ok (v,s))=_
  rw [hg];rfl
 have e8:(run PH dj 94 19).ev (.bin .mul (.val (.int (.c 2))) (.n 138)) ρ' (dg is)=.ok (.int (.c (2*w)),dg is):=(AJ (x:=.int (.c 2)) rfl (IS 92 19 _)).trans (Ot w _)
 have e9:(run PH dj 95 19).ev (.bin .add (.bin .mul (.val (.int (.c 2))) (.n 138)) (.val (.int (.c 1)))) ρ' (dg is)=.ok (.int (.c (2*w+1)),dg is):=(AJ e8 (y:=.int (.c 1)) rfl).trans rfl
 have Xz:=wL e9 (G3 (ih:=run PH dj 95 19) (ρ:=ρ') (s:=dg is))
 have TC:=wL (IS 94 19 (dg is)) (wL (v:=.int (.c 0)) (e:=.val (.int (.c 0))) (s:=dg is) rfl Xz)
 have XD:(run PH dj 96 19).ev (.list [.n 138,.val (.int (.c 0)),.bin .add (.bin .mul (.val (.int (.c 2))) (.n 138)) (.val (.int (.c 1)))]) ρ' (dg is)=.ok (.ref 2,fQ is w):=by
  show(qC (run PH dj 95 19) _ ρ' (dg is)).bind (fun(vs,s)=>newList s vs)=_
  rw [TC]
  rfl
 have XC:(run PH dj 97 19).xs [.ret (.list [.n 138,.val (.int (.c 0)),.bin .add (.bin .mul (.val (.int (.c 2))) (.n 138)) (.val (.int (.c 1)))])] ρ' (dg is)=.ok (.rt (.ref 2),ρ',fQ is w):=by
  show((((run PH dj 96 19).ev _ ρ' (dg is)).bind fun(v,s)=>aH.ok (Fl.rt v,ρ',s)).bind _:aH (Fl×Env×AS))=_
  rw [XD];rfl
 have XB:(run PH dj 98 19).xs (oz.drop 1) (R0 17) (eK is)=.ok (.rt (.ref 2),ρ',fQ is w):=by
  show((((run PH dj 97 19).ev (.iE (.n 168) none (some (.val (.int (.c 24))))) (R0 17) (eK is)).bind fun(v,s)=>(run PH dj 97 19).xs [.hH [29] true 0 v 0 iU] (R0 17) s).bind fun(f,ρ,s)=>match f with
   |.rt v=>aH.ok (.rt v,ρ,s)
   |.nx=>(run PH dj 97 19).xs (oz.drop 2) ρ s)=_
  rw [e7];show((run PH dj 97 19).xs [.hH [29] true 0 (.ref 1) 0 iU] (R0 17) (dg is)).bind (fun(f,ρ,s)=>match f with
   |.rt v=>aH.ok (.rt v,ρ,s)
   |.nx=>(run PH dj 97 19).xs (oz.drop 2) ρ s)=_
  rw [i3];exact XC
 have XA:(run PH dj 99 19).xs oz [(168,.ref 0)] (eK is)=.ok (.rt (.ref 2),ρ',fQ is w):=XB
 show((run PH dj 99 19).xs oz [(168,.ref 0)] (eK is)).bind (fun(f,_,s)=>aH.ok (match f with|.rt v=>v|.nx=>.none,s))=_
 rw [XA]
 rfl
end
def PD:Pg:=⟨A4,ka,Hd,EZ,0,fun Y Y Y=>none,0⟩
noncomputable def jY:Int:=2^4000
def qG(j:Int):AS:=⟨aE.put 40 .nil 0 (.list [.int (.v 0),.int (.c j),.int (.v 1)]),1,[(0,jY),(0,jY)]⟩
noncomputable def pF(j:Int):Int:=1000003^(5+(j+1)).toNat
def ints3(o:AO):Option (IE×IE×IE):=match o with
 |.list l=>kg l fun x r=>kg r fun y r=>kg r fun z r=>ck (tU r&&(Nat.beq 2 x.ctorIdx&&(Nat.beq 2 y.ctorIdx&&Nat.beq 2 z.ctorIdx))) (some ((wA x).i,(wA y).i,(wA z).i))
 |_=>none
theorem uc{o:AO}{p:IE×IE×IE}(h:ints3 o=some p):o=.list [.int p.1,.int p.2.1,.int p.2.2]:=by
 cases o with
 |list l=>
  obtain⟨x,r,rfl,h⟩:=bD h
  obtain⟨y,r,rfl,h⟩:=bD h
  obtain⟨z,r,rfl,h⟩:=bD h
  refine aw (aB h:) fun c h=>?_
  injection h with h;subst h;rw [gj (ae c).1];have hx:x=.int (wA x).i:=gY (ae (ae c).2).1
  have hy:y=.int (wA y).i:=gY (ae (ae (ae c).2).2).1
  have hz:z=.int (wA z).i:=gY (ae (ae (ae c).2).2).2
  exact congrArg AO.list (congr (congrArg List.cons hx) (congr (congrArg List.cons hy) (congrArg (fun z=>[z]) hz)))
 |_=>exact no h
def CX(s:AS)(a b c:IE):Bool:=lj (s.hp.get 0) fun o=>lj (ints3 o) fun p=>fU p.1 a&&(fU p.2.1 b&&fU p.2.2 c)
theorem rL(ν:Nat→Int){p q r:IE}(h:CX s p q r=true):∃x y z,s.hp.get 0=some (.list [.int x,.int y,.int z])∧x.eval ν=p.eval ν∧y.eval ν=q.eval ν∧z.eval ν=r.eval ν:=by
 refine aC (dQ h:) fun o e h=>?_
 refine aC (dQ h:) fun p e' h=>?_
 exact⟨p.1,p.2.1,p.2.2,e.trans (congrArg some (uc e')),eT ν (ae h).1,eT ν (ae (ae h).2).1,eT ν (ae (ae h).2).2⟩
noncomputable def Cq(r:RV)(g:Nat→IE→IE→RV→RV→Bool):Bool:=match r with
 |.fork k a b t f=>g k a b t f
 |_=>false
def Cv(r:RV)(g:IE→AS→Bool):Bool:=match r with
 |.ok p=>Nat.beq 2 p.1.ctorIdx&&g (wA p.1).i p.2
 |_=>false
def Jo(m j:Int):Bool:=Cq ((run PD dj 60 10).ca (.fn 172) [.ref 0,.int (.c m)] (qG j)) fun k x y t f=>(Nat.beq k 0&&(fU x (.v 0)&&fU y (.c 0)))&&
 (Cv t (fun e s=>fU e (.mod (.mul (.v 1) (.c (pF j))) (.c m))&&CX s (.div (.mul (.v 1) (.c (pF j))) (.c m)) (.c (j+1)) (.v 1))&&
  Cv f (fun e s=>fU e (.mod (.v 0) (.c m))&&CX s (.div (.v 0) (.c m)) (.c j) (.v 1)))
theorem zH{r:RV}{g:Nat→IE→IE→RV→RV→Bool}(h:Cq r g=true):∃k a b t f,r=.fork k a b t f∧g k a b t f=true:=by
 cases r with
 |fork k a b t f=>exact⟨k,a,b,t,f,rfl,h⟩
 |_=>injection h
theorem tK{r:RV}{g:IE→AS→Bool}(h:Cv r g=true):∃e s,r=.ok (.int e,s)∧g e s=true:=by
 cases r with
 |ok p=>
  refine aw (ae h:) fun h1 h2=>?_
  have e:p.1=.int (wA p.1).i:=gY h1
  exact⟨_,_,congrArg aH.ok (Prod.ext e rfl),h2⟩
 |_=>injection h
def l5(H:Int)(p:Int×Int):Int×Int:=if p.1=0 then(H*pF p.2,p.2+1)else p
theorem Ao{m j:Int}(h:Jo m j=true)(ν:Nat→Int):∃e s x y z,((run PD dj 60 10).ca (.fn 172) [.ref 0,.int (.c m)] (qG j)).leaf ν=some (.int e,s)∧s.hp.get 0=some (.list [.int x,.int y,.int z])∧
  e.eval ν=Int.fmod (l5 (ν 1) (ν 0,j)).1 m∧x.eval ν=Int.fdiv (l5 (ν 1) (ν 0,j)).1 m∧y.eval ν=(l5 (ν 1) (ν 0,j)).2∧z.eval ν=ν 1:=by
 refine RZ (zH h:) fun k a b t f er h=>?_
 refine aw (ae h:) fun h1 h2=>?_
 refine aw (ae h1:) fun ek h1=>?_
 refine aw (ae h2:) fun ht hf=>?_
 refine eM (tK ht:) fun e1 s1 et ht=>?_
 refine eM (tK hf:) fun e2 s2 ef hf=>?_
 rw [er,et,ef];have ec:eG ν k a b=decide (ν 0=0):=by
  rw [aL ek];show decide (a.eval ν=b.eval ν)=_;rw [eT ν (ae h1).1,eT ν (ae h1).2];rfl
 unfold aH.leaf;rw [ec]
 by_cases hz:ν 0=0
 ·refine o7 (rL ν (ae ht).2:) fun x y z g q1 q2 q3=>?_
  rw [decide_eq_true hz,show l5 (ν 1) (ν 0,j)=(ν 1*pF j,j+1)from if_pos hz]
  exact⟨e1,s1,x,y,z,rfl,g,eT ν (ae ht).1,q1,q2,q3⟩
 ·refine o7 (rL ν (ae hf).2:) fun x y z g q1 q2 q3=>?_
  rw [decide_eq_false hz,show l5 (ν 1) (ν 0,j)=(ν 0,j)from if_neg hz]
  exact⟨e2,s2,x,y,z,rfl,g,eT ν (ae hf).1,q1,q2,q3⟩
noncomputable def wW:List Int:=[2,5,6,4,10,90,8]
def LY:Bool:=wW.all fun m=>(List.range 21).all fun j=>Jo m j
theorem DX:LY=true:=by kernel_rfl
section
noncomputable def n5:List Int:=[2,5,6,6,6,6,6,4,10,10,10,10,90,90,90,90,8,8,8,8]
noncomputable def mK(k:Nat):Int:=n5.getD k 2
noncomputable def stK(W:Int):Nat→Int×Int
 |0=>(W,0)
 |k+1=>(Int.fdiv (l5 (2*W+1) (stK W k)).1 (mK k),(l5 (2*W+1) (stK W k)).2)
def dK(W:Int)(k:Nat):Int:=Int.fmod (l5 (2*W+1) (stK W k)).1 (mK k)
def ν0(W:Int)(j:Nat):Int:=if j<20 then dK W j else if j<41 then(stK W (j - 20)).1 else if j<62 then(stK W (j - 41)).2 else 2*W+1
def RM:Rg:=n5.map (fun m=>(0,m - 1))++(List.replicate 21 (0,jY)++(List.replicate 21 (0,20)++[(0,jY)]))
theorem CU(k:Nat):2≤mK k∧mK k≤90:=by
 unfold mK;rcases Nat.lt_or_ge k 20 with h|h
 ·have:∀k:Fin 20,2≤n5.getD k.1 2∧n5.getD k.1 2≤90:=by decide
  exact this ⟨k,h⟩
 ·rw [List.getD_eq_getElem?_getD,List.getElem?_eq_none (by exact h)]
  decide
theorem yF{a m:Int}(h:0≤a)(hm:2≤m):0≤Int.fdiv a m∧Int.fdiv a m≤a:=by
 rw [Int.fdiv_eq_ediv_of_nonneg _ (by lia)]
 exact⟨Int.ediv_nonneg h (by lia),Int.ediv_le_self m h⟩
set_option exponentiation.threshold 5000 in
theorem GX{j:Int}(h0:0≤j)(h:j≤20):0≤pF j∧pF j≤2^540:=by
 unfold pF;have e:(5+(j+1)).toNat≤26:=by lia
 have a:(1000003:Nat)^(5+(j+1)).toNat≤1000003^26:=Nat.pow_le_pow_right (by decide) e
 have b:(1000003:Nat)^26≤2^540:=by decide
 have c:(1000003:Nat)^(5+(j+1)).toNat≤2^540:=Nat.le_trans a b
 have d:(0:Int)≤1000003^(5+(j+1)).toNat:=Int.pow_nonneg (by decide)
 have c':=Int.ofNat_le.mpr c
 rw [Int.natCast_pow,Int.natCast_pow]at c';exact⟨d,c'⟩
theorem nL(h0:0≤W)(h1:W<2^400):∀k,k≤20→(0≤(stK W k).1∧(stK W k).1≤jY)∧(0≤(stK W k).2∧(stK W k).2≤k)
 |0,_=>⟨⟨h0,by
   have:(2:Int)^400≤jY:=by decide+kernel
   show W≤jY;lia⟩,by show(0:Int)≤0∧(0:Int)≤0;lia⟩
 |k+1,hk=>by
  obtain⟨⟨a1,a2⟩,a3,a4⟩:=nL h0 h1 k (by lia)
  have hm:=CU k
  show(0≤Int.fdiv (l5 (2*W+1) (stK W k)).1 (mK k)∧Int.fdiv (l5 (2*W+1) (stK W k)).1 (mK k)≤jY)∧(0≤(l5 (2*W+1) (stK W k)).2∧(l5 (2*W+1) (stK W k)).2≤((k+1:Nat):Int));unfold l5;split
  ·refine aw (GX (j:=(stK W k).2) a3 (by lia):) fun f1 f2=>?_
   have p0:0≤(2*W+1)*pF (stK W k).2:=Int.mul_nonneg (by lia) f1
   have p4:(2:Int)^401=2*2^400:=by decide+kernel
   have p1:(2*W+1)*pF (stK W k).2≤2^401*2^540:=Int.mul_le_mul (by lia) f2 f1 (by decide+kernel)
   have p2:(2:Int)^401*2^540≤jY:=by decide+kernel
   have q:=yF p0 hm.1
   refine⟨⟨q.1,?_⟩,?_⟩
   ·show Int.fdiv ((2*W+1)*pF (stK W k).2) (mK k)≤jY
    lia
   ·show 0≤(stK W k).2+1∧(stK W k).2+1≤((k+1:Nat):Int)
    lia
  ·have q:=yF a1 hm.1
   refine⟨⟨q.1,by lia⟩,by lia⟩
theorem PY(j:Nat)(hj:j<20):0≤ν0 W j∧ν0 W j≤mK j - 1:=by
 have hm:=CU j
 rw [show ν0 W j=dK W j from if_pos hj]
 unfold dK;rw [Int.fmod_eq_emod_of_nonneg _ (by lia)]
 exact⟨Int.emod_nonneg _ (by lia),Int.le_sub_one_of_lt (Int.emod_lt_of_pos _ (by lia))⟩
theorem vL(h0:0≤W)(h1:W<2^400):cg (ν0 W) RM:=by
 refine m6.ok (m6.app (m6.map fun j m h=>?_) (m6.app (m6.rep 21 fun j a b=>?_) (m6.app (m6.rep 21 fun j a b=>?_) ⟨?_,trivial⟩)))
 ·have hj:j<20:=(List.getElem?_eq_some_iff.mp h).1
  have e:mK j=m:=by unfold mK;rw [List.getD_eq_getElem?_getD,h];rfl
  rw [Nat.zero_add,←e];exact PY j hj
 ·have a:20≤j:=a
  have b:j<41:=b
  rw [show ν0 W j=(stK W (j - 20)).1 from(if_neg (Nat.not_lt.mpr a)).trans (if_pos b)]
  exact(nL h0 h1 (j - 20) (Nat.sub_le_of_le_add (Nat.le_of_lt_succ b))).1
 ·have a:41≤j:=a
  have b:j<62:=b
  rw [show ν0 W j=(stK W (j - 41)).2 from(if_neg (Nat.not_lt.mpr (Nat.le_trans (by decide) a))).trans ((if_neg (Nat.not_lt.mpr a)).trans (if_pos b))]
  have hb:j - 41≤20:=Nat.sub_le_of_le_add (Nat.le_of_lt_succ b)
  have:=(nL h0 h1 (j - 41) hb).2
  exact⟨this.1,Int.le_trans this.2 (Int.ofNat_le.mpr hb)⟩
 ·have:2*W+1≤jY:=by
   have q:(2:Int)*2^400≤jY:=by decide+kernel
   lia
  exact⟨by show 0≤2*W+1;lia,this⟩
def Kp(as:List AV)(s:AS):Option RV:=kg as fun x r=>ck (tU r&&(Nat.beq 13 x.ctorIdx&&(Nat.beq (wA x).r 0&&Nat.blt s.n 1000000))) (some (.ok (.ref s.n,(s.new (.list [.int (.v 20),.int (.v 41),.int (.v 62)])).2)))
def Up(o:AO):Option (Nat×Nat×Nat):=gg (ints3 o) fun p=>gg (ER p.1) fun a=>gg (ER p.2.1) fun b=>gg (ER p.2.2) fun c=>some (a,b,c)
theorem J4{o:AO}{p:Nat×Nat×Nat}(h:Up o=some p):o=.list [.int (.v p.1),.int (.v p.2.1),.int (.v p.2.2)]:=by
 refine aC (aM h:) fun q e h=>?_
 refine aC (aM h:) fun a e1 h=>?_
 refine aC (aM h:) fun b e2 h=>?_
 refine aC (aM h:) fun c e3 h=>?_
 injection h with h;subst h;rw [uc e,kf e1,kf e2,kf e3]
noncomputable def drawn(i a b:Nat)(s:AS):RV:=.ok (.int (.v (a - 20)),s.upd i (.list [.int (.v (a+1)),.int (.v (b+1)),.int (.v 62)]))
def Kq(as:List AV)(s:AS):Option RV:=kg as fun x r=>kg r fun y r=>ck (tU r&&(Nat.beq 7 x.ctorIdx&&Nat.beq 2 y.ctorIdx)) (gg (gQ (wA y).i) fun m=>gg (s.hp.get (wA x).r) fun o=>gg (Up o) fun p=>
 ck (Nat.ble 20 p.1&&(Nat.blt p.1 40&&(Nat.beq p.2.1 (p.1+21)&&(Nat.beq p.2.2 62&&iB m (mK (p.1 - 20)))))) (some (drawn (wA x).r p.1 p.2.1 s)))
def QO(k:Nat)(as:List AV)(s:AS):Option RV:=match Nat.beq k 171 with
 |true=>Kp as s
 |false=>match Nat.beq k 172 with
  |true=>Kq as s
  |false=>none
end
section
section
variable{vs:List Value}{nn:Nat}
theorem GC{C':Cx}{h':Heap}{x y z x' y' z':IE}{vs:List Value}(V:ay C J M h [.int x,.int y,.int z] vs)(hx:x'.eval C'.ν=x.eval C.ν)(hy:y'.eval C'.ν=y.eval C.ν)(hz:z'.eval C'.ν=z.eval C.ν):ay C' σ' M' h' [.int x',.int y',.int z'] vs:=by
 refine j8 V.un fun v r e a V=>?_
 refine j8 V.un fun u r' e' b V=>?_
 refine aC V.one fun w TF c=>?_
 exact e▸.cons (k8 hx a) (e'▸.cons (k8 hy b) (TF▸.cons (k8 hz c) .nil))
theorem mX{C':Cx}{x y z x' y' z':IE}{a:Addr}(O:cR C J M h (.list [.int x,.int y,.int z]) a)(hx:x'.eval C'.ν=x.eval C.ν)(hy:y'.eval C'.ν=y.eval C.ν)(hz:z'.eval C'.ν=z.eval C.ν):cR C' σ' M' h (.list [.int x',.int y',.int z']) a:=by
 exact eM O.listI fun ws n o1 o2=>.list _ _ _ n o1 (GC o2 hx hy hz)
theorem Ck{k:Nat}{ras:List Value}(V:ay C J M h [.mG k] ras):ras=[C.U k]:=
 V.one.elim fun v q=>q.1.trans (congrArg (fun v=>[v]) q.2.inv)
theorem rD{KJ o:AO}(q:(aE.put 40 .nil 0 KJ).get i=some o):i=0∧o=KJ:=by
 by_cases hi:0=i
 ·subst hi
  rw [AS.cp .nil 40 0 KJ (by decide)]at q
  exact⟨rfl,(bg q).symm⟩
 ·rw [AS.bB _ _ _ _ _ hi]at q
  exact no q
theorem GK(S:aq C J M s h)(nm:¬M la)(hh:h.get? la=some (bZ vs nn))(hvs:∀(C:Cx) J M h,ay C J M h (cI is) vs):
  aq (C.re C.ν 1 (aE.put 40 .nil 0 (.list (cI is))) C.U) [la] M (eK is) h:=by
 have Ru:∀p∈C.tabs,M p.2:=fun p hp=>let⟨⟨_,a,_⟩,_⟩:=S.tab p hp;a
 refine⟨rfl,(by show 1≤1000000;decide),⟨Nat.le_refl 1,fun i Y=>rfl⟩,List.pairwise_singleton _ _,fun i o q=>?_,fun i o a q1 q2=>?_,fun i a q hi=>?_,fun i a q Y=>?_,fun a m=>?_,S.mlt,S.base,fun p hp=>⟨(S.tab p hp).1,fun m=>?_⟩,fun k p q=>no q⟩
 ·have:=(rD q).1;show i<1;lia
 ·refine aw (rD q1:) fun x y=>?_
  subst x y;injection q2 with q2;subst q2;exact .list _ _ vs nn hh (hvs _ _ _ _)
 ·rw [List.getElem?_eq_none hi]at q;exact no q
 ·have:a∈[la]:=bO q
  rw [List.mem_singleton.mp this];exact nm
 ·rw [List.mem_singleton.mp m];exact⟨_,hh⟩
 ·have:=Ru p hp
  rw [List.mem_singleton.mp m]at this;exact nm this
theorem GJ{f0:aE AO}(S:aq C J M s h)(hnf:C.nf=0)(nm:¬M la)(z:cm C Z J h):cm (C.re C.ν 1 f0 C.U) (fun a=>(Z a∧a≠la)∨a∈J) [la] h:=fun a q=>by
 have WS:∀a,a∈J→M a:=fun a m=>(List.getElem?_of_mem m).elim fun i q=>S.jt i a q (by lia)
 rcases q with⟨q,hn⟩|q
 ·exact⟨(z a q).1,fun m=>hn (List.mem_singleton.mp m),(z a q).2.2⟩
 ·exact⟨S.there a q,fun m=>nm (List.mem_singleton.mp m▸WS a q),fun p hp e=>(S.tab p hp).2 (e▸q)⟩
theorem Ad:(fQ is W).hp.get 2=some (.list [.int (.c W),.int (.c 0),.int (.c (2*W+1))]):=by
 have e:(fQ is W).hp=aE.put 40 (dg is).hp (dg is).n (.list [.int (.c W),.int (.c 0),.int (.c (2*W+1))]):=rfl
 rw [e,show(dg is).n=2 from rfl]
 exact AS.cp (dg is).hp 40 2 _ (by decide)
theorem Dt(sE:C.ν=ν0 W){f0:aE AO}(hlt:Nat.blt s.n 1000000=true)(nm:¬M la)(S:aq C J M s st.heap){Q:Value→Shared→Prop}
  (K:KV C Z J M st (.ref s.n) (s.new (.list [.int (.v 20),.int (.v 41),.int (.v 62)])).2 Q):
  KV (C.re C.ν 1 f0 C.U) (fun a=>(Z a∧a≠la)∨a∈J) [la] M st (.ref 2) (fQ is W) Q:=by
 intro aA aP h₁ tk rv G aD cb;refine aC (G.pre:) fun CW e Dn=>?_
 subst e;refine aC (cb.inv:) fun a2 e SQ=>?_
 subst e;have W7:a2∈CW:=bO (i:=1) SQ
 have dead:=Dn a2 W7
 have m2:aP a2:=aD.jt 2 a2 SQ (by show 1≤2;decide)
 have Gf:aJ Z J M st.heap J (fun a=>M a∨(st.heap.get? a=none∧aP a)) h₁:=aJ.yS (Z':=fun a=>(Z a∧a≠la)∨a∈J) (fun Y x=>x) (fun a hm hz=>.inl ⟨hz,fun e=>nm (e▸hm)⟩) G
 have Sb:aq C J (fun a=>M a∨(st.heap.get? a=none∧aP a)) s h₁:=aq.back (C':=C.re C.ν 1 f0 C.U) ⟨rfl,rfl,rfl⟩ S G aD (fun Y x=>x) (fun Y x=>x) rfl rfl S.gP.2 S.low fun i o a q1 q2=>
  (S.obj i o a q1 q2).chg Gf.chg fun x hx=>G.dB (.inr (bO q2)) hx
 have On:cR C J (fun a=>M a∨(st.heap.get? a=none∧aP a)) h₁ (.list [.int (.v 20),.int (.v 41),.int (.v 62)]) a2:=
  mX (aD.obj 2 (.list [.int (.c W),.int (.c 0),.int (.c (2*W+1))]) a2 Ad SQ) (sE▸rfl) (sE▸rfl) (sE▸rfl)
 have SA:a2∉J:=fun m=>let⟨_,e⟩:=S.there a2 m;aO e dead
 refine dN (aq.adopt Sb hlt (.inr ⟨dead,m2⟩) SA (fun p hp e=>(S.tab p hp).1.elim fun Y y=>aO (e▸y.2.1) dead) _ On:) fun S3 X3 XH=>?_
 exact K (J++[a2]) _ h₁ tk (.ref a2) ⟨⟨[a2],rfl,fun a m=>by rw [List.mem_singleton.mp m];exact dead⟩,Gf.ext,Gf.more,Gf.fresh⟩ S3 (.ref _ _ XH)
theorem wD(hnf:C.nf=0)(sE:C.ν=ν0 W)(hU:C.U 0=.ref la)(hX:∀fk DQ,WF (C.re fk 1 DQ C.U) PH dj)(hla:C.hb.get? la=some (bZ vs nn))(hvs:∀(C:Cx) J M h,ay C J M h (cI is) vs)
  (hW:(run PH dj 100 20).ca (.fn 171) [.ref 0] (eK is)=.ok (.ref 2,fQ is W))
  {s:AS}{Z:Addr→Prop}{J:List Addr}{M:Addr→Prop}{A:Around}{st:Shared}{ras:List Value}(hlt:Nat.blt s.n 1000000=true)(S:aq C J M s st.heap)(R:bu A 20)(z:cm C Z J st.heap)(V:ay C J M st.heap [.mG 0] ras){Q E:Value→Shared→Prop}
  (K:KV C Z J M st (.ref s.n) (s.new (.list [.int (.v 20),.int (.v 41),.int (.v 62)])).2 Q):ab (Md C) A (call (.ref (C.mL 171)) ras []) Q E st:=by
 have e0:ras=[.ref la]:=hU▸Ck V
 subst e0;refine aw (S.base la _ hla:) fun nm hh=>?_
 exact((sound (hX C.ν (aE.put 40 .nil 0 (.list (cI is)))) 100 (by decide) 20).2.2.2 (.fn 171) [.ref 0] (eK is) (.ref 2) (fQ is W) (hW▸rfl) _ _ _ A st (.ref (C.mL 171)) [.ref la] (GK S nm hh hvs) R (GJ S hnf nm z) (.fn 171) (.cons (.ref 0 la rfl) .nil)).2 Q E (Dt sE hlt nm S K)
def νD(W:Int)(k:Nat):Nat→Int:=fun j=>if j=0 then(stK W k).1 else 2*W+1
section
variable{a:Nat}(Dw:20≤a)(GN:a<40)
include Dw GN
theorem JQ:ν0 W a=(stK W (a - 20)).1:=(if_neg (by lia)).trans (if_pos (by lia))
theorem JO:ν0 W (a+21)=(stK W (a - 20)).2:=(if_neg (by lia)).trans ((if_neg (by lia)).trans ((if_pos (by lia)).trans (by rw [Nat.add_sub_add_right a 21 20])))
theorem JP:ν0 W (a+1)=(stK W (a - 20+1)).1:=(if_neg (by lia)).trans ((if_pos (by lia)).trans (by rw [Nat.sub_add_comm Dw]))
theorem JN:ν0 W (a+1+21)=(stK W (a - 20+1)).2:=(if_neg (by lia)).trans ((if_neg (by lia)).trans ((if_pos (by lia)).trans (by rw [show a+1+21 - 41=a - 20+1 from(Nat.add_sub_add_right (a+1) 21 20).trans (Nat.sub_add_comm Dw)])))
theorem MZ:ν0 W (a - 20)=dK W (a - 20):=if_pos (by lia)
end
theorem G8(h0:0≤W)(h1:W<2^400){k:Nat}(hk:k≤20):cg (νD W k) [(0,jY),(0,jY)]:=by
 have hb:(2:Int)^401≤jY:=by decide+kernel
 have he:(2:Int)^401=2*2^400:=by decide+kernel
 intro j p q
 match j,q with
 |0,q=>(injection q with q;subst q);exact(nL h0 h1 k hk).1
 |1,q=>(injection q with q;subst q);show 0≤2*W+1∧2*W+1≤jY;lia
 |j+2,q=>exact no q
theorem DY(h0:0≤W)(h1:W<2^400){k:Nat}(hk:k<20):∃e s x y z,((run PD dj 60 10).ca (.fn 172) [.ref 0,.int (.c (mK k))] (qG (stK W k).2)).leaf (νD W k)=some (.int e,s)∧s.hp.get 0=some (.list [.int x,.int y,.int z])∧
  e.eval (νD W k)=dK W k∧x.eval (νD W k)=(stK W (k+1)).1∧y.eval (νD W k)=(stK W (k+1)).2∧z.eval (νD W k)=2*W+1:=by
 refine dN (nL h0 h1 k (Nat.le_of_lt hk):) fun Y b3 b4=>?_
 have hm:mK k∈wW:=(show∀k:Fin 20,n5.getD k.1 2∈wW by decide) ⟨k,hk⟩
 have hB:=bT (bT DX _ hm) (stK W k).2.toNat (List.mem_range.mpr (by lia))
 rw [show(((stK W k).2.toNat:Nat):Int)=(stK W k).2 by lia]at hB
 exact Ao hB (νD W k)
theorem qF{j:Int}{k:Nat}{o:AO}(q:(qG j).hp.get k=some o):k=0∧o=.list [.int (.v 0),.int (.c j),.int (.v 1)]:=by
 by_cases hk:0=k
 ·subst hk
  have q:(aE.put 40 .nil 0 (.list [.int (.v 0),.int (.c j),.int (.v 1)])).get 0=some o:=q
  rw [AS.cp _ _ _ _ (by decide)]at q
  exact⟨rfl,(bg q).symm⟩
 ·have q:(aE.put 40 .nil 0 _).get k=some o:=q
  rw [AS.bB _ _ _ _ _ hk]at q;exact no q
theorem tn{ai:Addr}(hai:J[i]?=some ai):bY J (fun Y=>i) 1=[ai]:=by
 unfold bY;show [J.getD i 0]=_;rw [List.getD_eq_getElem?_getD,hai];rfl
theorem LZ(hnf:C.nf=0)(sE:C.ν=ν0 W)(h0:0≤W)(h1:W<2^400){a:Nat}(Dw:20≤a)(GN:a<40)(hs:s.hp.get i=some (.list [.int (.v a),.int (.v (a+21)),.int (.v 62)]))(S:aq C J M s h){ai:Addr}(hai:J[i]?=some ai):
  aq (C.re (νD W (a - 20)) 0 .nil C.U) (bY J (fun Y=>i) 1) (si M (bY J (fun Y=>i) 1) 0) (qG (stK W (a - 20)).2) h:=by
 have hin:i<s.n:=S.low i _ hs
 refine aq.eD (s':=qG _) (π:=fun Y=>i) S (by show 1≤_;decide) (Nat.zero_le _) (fun Y Y=>hin) (fun x y hx hy Y=>(Nat.lt_one_iff.mp hx).trans (Nat.lt_one_iff.mp hy).symm) (fun k hk=>absurd hk (Nat.not_lt_zero k)) (fun k Y Y=>by lia) (fun k o q=>by rw [(qF q).1];exact Nat.one_pos) (fun k o q σ' M' X=>?_) (G8 h0 h1 (by lia))
 rw [(qF q).2,show J.getD i 0=ai by rw [List.getD_eq_getElem?_getD,hai];rfl]
 exact mX (S.obj i _ ai hs hai) (by rw [sE];exact(JQ Dw GN).symm) (by rw [sE];exact(JO Dw GN).symm) (by rw [sE];rfl)
theorem Ap(hnf:C.nf=0){gN:AS}{o o':AO}(S:aq C J M s h)(hs:s.hp.get i=some o){ai:Addr}(hai:J[i]?=some ai){fk:Nat→Int}
  (G:aJ (Jv Z J (bY J (fun Y=>i) 1)) (bY J (fun Y=>i) 1) (si M (bY J (fun Y=>i) 1) 0) h aA aP h₁)(aD:aq (C.re fk 0 .nil C.U) aA aP gN h₁)(On:cR C J (fun a=>M a∨(h.get? a=none∧aP a)) h₁ o' ai):
  aq C J (fun a=>M a∨(h.get? a=none∧aP a)) (s.upd i o') h₁:=by
 have hin:i<s.n:=S.low i _ hs
 have Gf:aJ Z J M h J (fun a=>M a∨(h.get? a=none∧aP a)) h₁:=aJ.yS (fun a x=>x.1) (fun a Y x=>.inl x) G
 refine aq.back (C':=C.re fk 0 .nil C.U) ⟨rfl,rfl,rfl⟩ S G aD (fun a x=>x.1) (fun a x=>⟨x,fun k hk=>absurd hk (Nat.not_lt_zero k)⟩) rfl rfl (fun k hk=>by lia) (fun k o q=>?_) fun k o b q1 q2=>?_
 ·by_cases hk:i=k
  ·exact hk▸hin
  ·have q:(aE.put 40 s.hp i _).get k=some o:=q
   rw [AS.bB _ _ _ _ _ hk]at q;exact S.low k o q
 ·by_cases hk:i=k
  ·subst hk
   have q1:(aE.put 40 s.hp i _).get i=some o:=q1
   rw [AS.cp _ _ _ _ (Nat.lt_of_lt_of_le hin (Nat.le_trans S.lim (by decide)))]at q1
   injection q1 with q1;subst q1;rw [hai]at q2;injection q2 with q2;subst q2;exact On
  ·have q1:(aE.put 40 s.hp i _).get k=some o:=q1
   rw [AS.bB _ _ _ _ _ hk]at q1;refine(S.obj k o b q1 q2).chg Gf.chg fun x hx=>G.dB (.inr ⟨bO q2,fun m=>?_⟩) hx
   rw [tn hai]at m;rw [List.mem_singleton.mp m]at q2;exact hk (S.inj hai q2)
theorem wV(hnf:C.nf=0)(sE:C.ν=ν0 W)(h0:0≤W)(h1:W<2^400)(hX:∀fk DQ,WF (C.re fk 0 DQ C.U) PD dj)
  {s:AS}{i a:Nat}(Dw:20≤a)(GN:a<40)(hs:s.hp.get i=some (.list [.int (.v a),.int (.v (a+21)),.int (.v 62)]))
  {Z:Addr→Prop}{J:List Addr}{M:Addr→Prop}{A:Around}{st:Shared}{ras:List Value}(S:aq C J M s st.heap)(R:bu A 10)(z:cm C Z J st.heap)(V:ay C J M st.heap [.ref i,.int (.c (mK (a - 20)))] ras){Q E:Value→Shared→Prop}
  (K:KV C Z J M st (.int (.v (a - 20))) (s.upd i (.list [.int (.v (a+1)),.int (.v (a+1+21)),.int (.v 62)])) Q):ab (Md C) A (call (.ref (C.mL 172)) ras []) Q E st:=by
 obtain⟨ai,hai⟩:∃x,J[i]?=some x:=⟨_,oi (by rw [←S.len];exact S.low i _ hs)⟩
 refine Uw (DY h0 h1 (k:=a - 20) (by lia):) fun e gN x y z' hleaf hget k1 k2 k3 k4=>?_
 have Un:=tn hai
 obtain⟨ra,rm,rfl,Va,Vm⟩:=V.two
 obtain⟨x1,rfl,hx⟩:=Va.inv
 obtain⟨t,rfl⟩:=Vm.inv
 cases hai.symm.trans hx
 refine((sound (hX (νD W (a - 20)) .nil) 60 (by decide) 10).2.2.2 (.fn 172) [.ref 0,.int (.c (mK (a - 20)))] _ (.int e) gN hleaf _ _ _ A st (.ref (C.mL 172)) _ (LZ hnf sE h0 h1 Dw GN hs S hai) R (cm.eD (ν:=νD W (a - 20)) (nf:=0) (f0:=.nil) (U:=C.U) (π:=fun Y=>i) (m:=1) S z (fun Y Y=>S.low i _ hs)) (.fn 172) (.cons (.ref 0 _ (by rw [Un];rfl)) (.cons (.int _ _ t rfl) .nil))).2 Q E ?_
 intro aA aP h₁ tk rv G aD cb;obtain⟨CW,rfl,Dn⟩:=G.pre
 have On:=mX (C':=C) (σ':=J) (M':=fun a=>M a∨(st.heap.get? a=none∧aP a)) (x':=.v (a+1)) (y':=.v (a+1+21)) (z':=.v 62) (aD.obj 0 _ ai hget (by rw [Un];rfl)) (by rw [sE];exact(JP Dw GN).trans k2.symm) (by rw [sE];exact(JN Dw GN).trans k3.symm) (by rw [sE];exact k4.symm)
 obtain⟨u,rfl⟩:=cb.inv
 exact K J _ h₁ tk _ (aJ.yS (fun a x=>x.1) (fun a Y x=>.inl x) G) (Ap hnf S hs hai G aD On) (.int _ _ u (by rw [sE];exact(MZ Dw GN).trans k1.symm))
theorem Kr(hnf:C.nf=0)(sE:C.ν=ν0 W)(hU:C.U 0=.ref la)(h0:0≤W)(h1:W<2^400)(Xh:∀fk DQ,WF (C.re fk 1 DQ C.U) PH dj)(hX:∀fk DQ,WF (C.re fk 0 DQ C.U) PD dj)(hla:C.hb.get? la=some (bZ vs nn))(hvs:∀(C:Cx) J M h,ay C J M h (cI is) vs)
  (hW:(run PH dj 100 20).ca (.fn 171) [.ref 0] (eK is)=.ok (.ref 2,fQ is W))(k:Nat)(as:List AV)(s:AS)(r:aH (AV×AS))(v:AV)(s':AS)(hk:QO k as s=some r)(hr:r.leaf C.ν=some (v,s'))
  (Z:Addr→Prop)(J:List Addr)(M:Addr→Prop)(A:Around)(st:Shared)(ras:List Value)(S:aq C J M s st.heap)(R:bu A 20)(z:cm C Z J st.heap)(V:ay C J M st.heap as ras)(Q E:Value→Shared→Prop)(K:KV C Z J M st v s' Q):ab (Md C) A (call (.ref (C.mL k)) ras []) Q E st:=by
 unfold QO at hk;cases e1:Nat.beq k 171 with
 |true=>
  rw [e1]at hk;obtain⟨x,r,rfl,hk⟩:=bD hk
  refine aw (aB hk:) fun c hk=>?_
  injection hk with hk;subst hk;injection hr with hr;injection hr with hr aN;subst hr aN;have hx:x=.mG (wA x).r:=gY (ae (ae c).2).1
  rw [gj (ae c).1,hx,aL (ae (ae (ae c).2).2).1]at V;rw [aL e1];exact wD hnf sE hU Xh hla hvs hW (ae (ae (ae c).2).2).2 S R z V K
 |false=>
  rw [e1]at hk
  dsimp only at hk
  cases e2:Nat.beq k 172 with
  |false=>rw [e2]at hk;injection hk
  |true=>
   rw [e2]at hk;refine eM (bD hk:) fun x t ex hk=>?_
   refine eM (bD hk:) fun y u ey hk=>?_
   refine aw (aB hk:) fun c hk=>?_
   refine aC (aM hk:) fun m em hk=>?_
   refine aC (aM hk:) fun o hs hk=>?_
   refine aC (aM hk:) fun p eo hk=>?_
   refine aw (aB hk:) fun d hk=>?_
   injection hk with hk;subst hk;injection hr with hr;injection hr with hr aN;subst hr aN;have hx:x=.ref (wA x).r:=gY (ae (ae c).2).1
   have hy:y=.int (wA y).i:=gY (ae (ae c).2).2
   refine aw (ae d:) fun c1 d=>?_
   refine aw (ae d:) fun c2 d=>?_
   refine aw (ae d:) fun c3 d=>?_
   have c1:=bF c1
   have c3:=aL c3
   rw [J4 eo,c3,aL (ae d).1]at hs;rw [ex,ey,gj (ae c).1,hx,hy,dh em,bL.mp (ae d).2]at V;rw [c3]at K;rw [aL e2];exact wV hnf sE h0 h1 hX c1 (bF c2) hs S (R.mono (by decide)) z V (by rw [show p.1+1+21=p.1+21+1 by lia];exact K)
end
end
noncomputable def gK:aE AO:=(.node (some (.inst 14 1)) (.node (some (.ns [(201,.ref 2),(122,.none),(65,.ref 75),(286,.ref 76),(160,.ref 78),(187,.eF []),(101,.eF []),(186,.eF []),(310,.ref 77),(235,.bytes []),(124,.eF [])])) (.node (some (.ns [(56,.str [80]),(31,.ref 4),(94,.eF []),(315,.none),(299,.bool false)])) (.node (some (.inst 12 8)) (.node (some (.inst 10 16)) (.node (some (.list [])) (.node (some (.ns [(13,.int (.c (4))),(42,.int (.c (4))),(266,.none),(46,.t []),(187,.t [])])) .nil .nil) .nil) (.node (some (.ns [(73,.str [57]),(209,.ref 48),(220,.str [110,117,109,101,114,105,99]),(151,.int (.c (1))),(120,.int (.c (0))),(272,.bool false),(69,.int (.c (1)))])) .nil .nil)) (.node (some (.list [])) (.node (some (.ns [(100,.int (.c (2))),(56,.str [67]),(375,.str [57]),(136,.str []),(68,.str []),(342,.bool false),(162,.ref 40),(278,.str []),(137,.none),(369,.bool false),(391,.bool false),(294,.ref 42),(47,.ref 43),(165,.ref 7),(203,.none),(28,.str []),(164,.int (.c (9))),(69,.int (.c (1))),(121,.ref 44)])) (.node (some (.inst 10 72)) .nil .nil) .nil) (.node (some (.inst 10 56)) .nil .nil))) (.node (some (.inst 12 12)) (.node (some (.list [.t [.str [88],.int (.c (5))]])) (.node (some (.inst 6 36)) (.node (some (.ns [(220,.str [110,117,109,101,114,105,99]),(69,.int (.c (2))),(197,.ref 68),(136,.str [100,105,115,112,108,97,121]),(68,.str [116,114,97,105,108,105,110,103]),(342,.bool false),(369,.bool false),(391,.bool false),(151,.int (.c (2))),(120,.int (.c (0))),(272,.bool true)])) .nil .nil) .nil) (.node (some (.inst 11 52)) .nil .nil)) (.node (some (.ns [(73,.str [57]),(209,.ref 28),(220,.str [110,117,109,101,114,105,99]),(151,.int (.c (1))),(120,.int (.c (0))),(272,.bool false),(69,.int (.c (1)))])) (.node (some (.list [])) (.node (some (.list [])) .nil .nil) .nil) (.node (some (.list [.t [.str [57],.int (.c (2))]])) .nil .nil)))) (.node (some (.ns [(213,.ref 6),(192,.ref 73),(94,.eF []),(124,.ref 74),(69,.int (.c (29))),(187,.eF [])])) (.node (some (.list [])) (.node (some (.inst 6 18)) (.node (some (.inst 10 34)) (.node (some (.list [])) .nil .nil) .nil) (.node (some (.inst 12 50)) .nil .nil)) (.node (some (.ns [(220,.str [110,117,109,101,114,105,99]),(69,.int (.c (1))),(197,.ref 26),(136,.str [100,105,115,112,108,97,121]),(68,.str [116,114,97,105,108,105,110,103]),(342,.bool false),(369,.bool false),(391,.bool false),(151,.int (.c (1))),(120,.int (.c (0))),(272,.bool false)])) (.node (some (.ns [(13,.int (.c (4))),(42,.int (.c (4))),(266,.none),(46,.t []),(187,.t [])])) (.node (some (.list [])) .nil .nil) .nil) (.node (some (.inst 6 58)) .nil .nil))) (.node (some (.list [])) (.node (some (.ns [(100,.int (.c (2))),(56,.str [73]),(375,.str [57]),(136,.str []),(68,.str []),(342,.bool false),(162,.none),(278,.str []),(137,.none),(369,.bool false),(391,.bool false),(294,.ref 22),(47,.ref 23),(165,.ref 7),(203,.none),(28,.str []),(164,.int (.c (5))),(69,.int (.c (1))),(121,.ref 24)])) (.node (some (.list [.t [.str [88],.int (.c (3))]])) (.node (some (.ns [(73,.str [83,57,57]),(209,.ref 70),(220,.str [110,117,109,101,114,105,99]),(151,.int (.c (2))),(120,.int (.c (0))),(272,.bool true),(69,.int (.c (2)))])) .nil .nil) .nil) (.node (some (.list [])) .nil .nil)) (.node (some (.inst 12 30)) (.node (some (.ns [(220,.str [110,117,109,101,114,105,99]),(69,.int (.c (1))),(197,.ref 46),(136,.str [100,105,115,112,108,97,121]),(68,.str [116,114,97,105,108,105,110,103]),(342,.bool false),(369,.bool false),(391,.bool false),(151,.int (.c (1))),(120,.int (.c (0))),(272,.bool false)])) (.node (some (.list [])) .nil .nil) .nil) (.node (some (.ns [(100,.int (.c (2))),(56,.str [80]),(375,.str [83,57,57]),(136,.str []),(68,.str []),(342,.bool false),(162,.ref 62),(278,.str []),(137,.none),(369,.bool false),(391,.bool false),(294,.ref 64),(47,.ref 65),(165,.ref 7),(203,.none),(28,.str []),(164,.int (.c (21))),(69,.int (.c (2))),(121,.ref 66)])) .nil .nil))))) (.node (some (.inst 16 3)) (.node (some (.inst 13 5)) (.node (some (.ns [(100,.int (.c (1))),(56,.str [82,69,67]),(375,.none),(136,.str []),(68,.str []),(342,.bool false),(162,.none),(278,.str []),(137,.none),(369,.bool false),(391,.bool false),(294,.ref 9),(47,.ref 10),(165,.none),(203,.none),(28,.str []),(164,.int (.c (0))),(69,.int (.c (29))),(121,.ref 71)])) (.node (some (.ns [(220,.str [97,108,112,104,97,110,117,109,101,114,105,99]),(69,.int (.c (5))),(197,.ref 17),(136,.str [100,105,115,112,108,97,121]),(68,.str [116,114,97,105,108,105,110,103]),(342,.bool false),(369,.bool false),(391,.bool false),(151,.int (.c (0))),(120,.int (.c (0))),(272,.bool false)])) (.node (some (.list [])) (.node (some (.list [])) .nil .nil) .nil) (.node (some (.list [.t [.str [57],.int (.c (1))]])) .nil .nil)) (.node (some (.inst 10 25)) (.node (some (.inst 11 41)) (.node (some (.ns [(220,.str [103,114,111,117,112]),(69,.int (.c (29))),(197,.none),(136,.str [100,105,115,112,108,97,121]),(68,.str [116,114,97,105,108,105,110,103]),(342,.bool false),(369,.bool false),(391,.bool false),(151,.int (.c (0))),(120,.int (.c (0))),(272,.bool false)])) .nil .nil) .nil) (.node (some (.ns [(220,.str [110,117,109,101,114,105,99]),(69,.int (.c (2))),(197,.ref 57),(136,.str [100,105,115,112,108,97,121]),(68,.str [116,114,97,105,108,105,110,103]),(342,.bool false),(369,.bool false),(391,.bool false),(151,.int (.c (2))),(120,.int (.c (0))),(272,.bool false)])) .nil .nil))) (.node (some (.ns [(100,.int (.c (2))),(56,.str [83]),(375,.str [88,40,53,41]),(136,.str []),(68,.str []),(342,.bool false),(162,.none),(278,.str []),(137,.none),(369,.bool false),(391,.bool false),(294,.ref 13),(47,.ref 14),(165,.ref 7),(203,.none),(28,.str []),(164,.int (.c (0))),(69,.int (.c (5))),(121,.ref 15)])) (.node (some (.inst 12 21)) (.node (some (.ns [(73,.str [88,40,51,41]),(209,.ref 37),(220,.str [97,108,112,104,97,110,117,109,101,114,105,99]),(151,.int (.c (0))),(120,.int (.c (0))),(272,.bool false),(69,.int (.c (3)))])) (.node (some (.inst 6 69)) .nil .nil) .nil) (.node (some (.ns [(13,.int (.c (4))),(42,.int (.c (4))),(266,.none),(46,.t []),(187,.t [])])) .nil .nil)) (.node (some (.list [.t [.str [57],.int (.c (1))]])) (.node (some (.inst 10 45)) (.node (some (.list [])) .nil .nil) .nil) (.node (some (.inst 12 61)) .nil .nil)))) (.node (some (.list [.ref 7])) (.node (some (.list [.ref 11,.ref 20,.ref 29,.ref 38,.ref 49,.ref 60])) (.node (some (.ns [(73,.str [88,40,53,41]),(209,.ref 19),(220,.str [97,108,112,104,97,110,117,109,101,114,105,99]),(151,.int (.c (0))),(120,.int (.c (0))),(272,.bool false),(69,.int (.c (5)))])) (.node (some (.ns [(220,.str [97,108,112,104,97,110,117,109,101,114,105,99]),(69,.int (.c (3))),(197,.ref 35),(136,.str [100,105,115,112,108,97,121]),(68,.str [116,114,97,105,108,105,110,103]),(342,.bool false),(369,.bool false),(391,.bool false),(151,.int (.c (0))),(120,.int (.c (0))),(272,.bool false)])) (.node (some (.inst 10 67)) .nil .nil) .nil) (.node (some (.ns [(100,.int (.c (2))),(56,.str [78]),(375,.str [57,57]),(136,.str []),(68,.str []),(342,.bool false),(162,.ref 51),(278,.str []),(137,.none),(369,.bool false),(391,.bool false),(294,.ref 53),(47,.ref 54),(165,.ref 7),(203,.none),(28,.str []),(164,.int (.c (13))),(69,.int (.c (2))),(121,.ref 55)])) .nil .nil)) (.node (some (.inst 6 27)) (.node (some (.list [])) (.node (some (.list [])) .nil .nil) .nil) (.node (some (.ns [(73,.str [57,57]),(209,.ref 59),(220,.str [110,117,109,101,114,105,99]),(151,.int (.c (2))),(120,.int (.c (0))),(272,.bool false),(69,.int (.c (2)))])) .nil .nil))) (.node (some (.list [])) (.node (some (.list [])) (.node (some (.inst 12 39)) (.node (some (.list [.t [.str [83],.int (.c (1))],.t [.str [57],.int (.c (2))]])) .nil .nil) .nil) (.node (some (.list [])) .nil .nil)) (.node (some (.ns [(100,.int (.c (2))),(56,.str [71]),(375,.str [88,40,51,41]),(136,.str []),(68,.str []),(342,.bool false),(162,.none),(278,.str []),(137,.none),(369,.bool false),(391,.bool false),(294,.ref 31),(47,.ref 32),(165,.ref 7),(203,.none),(28,.str []),(164,.int (.c (6))),(69,.int (.c (3))),(121,.ref 33)])) (.node (some (.inst 6 47)) .nil .nil) (.node (some (.inst 11 63)) .nil .nil))))))
noncomputable def K8:AO:=.cu [.c (32),.c (32),.c (32),.c (32),.c (32),.c (48),.c (32),.c (32),.c (32),.c (48),.c (48),.c (48),.c (48),.c (48),.c (48),.c (48),.c (48),.c (48),.c (48),.c (48),.c (48),.c (48),.c (123),.c (48),.c (123),.c (48),.c (123),.c (48),.c (123)]
section
def PA:Pg:=⟨A4,ka,Hd,EZ,0,QO,19⟩
noncomputable def NX:List Nat:=[341,340,338,337,15,14,53,20,19,21,22,24,23,25,26,86,85,83,82,74,28,27,29,30,113,112,110,109,100,32,31,33,34,141,140,138,137,129,36,35,40,39,37,38,168,167,165,164,155,42,41,46,45,43,44,198,197,195,194,184,48,47,52,51,49,50,237,236,231,230,216,239,238,17,18,342,343,376,374]
noncomputable def πA(j:Nat):Nat:=NX.getD j 0
noncomputable def Kl:List CS:=iu.take 2
noncomputable def FA:List CS:=(iu.drop 2).take 1
def vJ:AS:=⟨.nil,0,RM⟩
noncomputable def WI:List AV:=[.int (.v 22),.int (.v 43),.int (.v 62)]
def ML:AS:=⟨aE.put 40 .nil 0 (.list WI),1,RM⟩
noncomputable def tj:Env:=[(168,.mG 0)]
noncomputable def B9:Env:=[(40,.ref 0),(36,.int (.v 0)),(184,.mG 1)]
noncomputable def K7:List IE:=([2,3,4,5,6].map fun k=>IE.tab [50,44,51,49,52,44] (.v k))++([.add (.v 7) (.c 49),.c 103,.c 104,.c 105]++(([8,9,10,11].map fun k=>IE.add (.v k) (.c 48))++
 (([12,13,14,15].flatMap fun k=>[IE.add (.div (.v k) (.c 10)) (.c 48),.add (.mod (.v k) (.c 10)) (.c 48)])++([16,17,18,19].flatMap fun k=>[IE.add (.div (.v k) (.c 10)) (.c 48),.add (.v k) (.c 48)]))))
def wt(e:IE):Bool:=lj (gQ e) fun i=>jO 48 i&&jO i 57
def Tc:List IE→Bool
 |[]=>false
 |a::r=>wt a&&(match r with|[]=>true|b::r=>wt b&&tU r)
def DK(v:AV):Bool:=Nat.beq 4 v.ctorIdx&&Tc (wA v).y
def Wl:Fl×Env×AS→Bool:=nx fun ρ s=>lj (az ρ 40) (Ka 0)&&(lj (az ρ 36) (Nm (.v 0))&&(lj (az ρ 184) DK&&(Nat.beq s.n 1&&CX s (.v 22) (.v 43) (.v 62))))
def Ng(π:Nat→Nat)(s:AS):Bool:=gK.ents.all (fun p=>Nat.blt p.1 78&&lj (s.hp.get (π p.1)) (IC 79 π p.2))&&lj (s.hp.get (π 78)) (IC 79 π K8)
def Wk:Fl×Env×AS→Bool:=nx fun ρ s=>lj (az ρ 36) (Nm (.v 0))&&(lj (az ρ 184) (Nl 1)&&(lj (az ρ 160) (Nk K7)&&(lj (az ρ 139) (Ka (πA 0))&&(Ng πA s&&NX.all (fun i=>Nat.blt i s.n)))))
theorem Tp:mB Wl ((run PA dj 3000 60).xs Kl tj vJ)=true:=by kernel_rfl
theorem To:mB Wk ((run PA dj 3000 60).xs FA B9 ML)=true:=by kernel_rfl
theorem KG:gC NX=true:=by kernel_rfl
theorem x7:NX.length=79:=by kernel_rfl
theorem Jm:gK.ents.all (fun p=>Nat.blt p.1 78&&IC 79 id p.2 p.2)=true:=by kernel_rfl
end
noncomputable def bP:AV:=.t []
noncomputable def iW(k:Int):AV:=.int (.c k)
def sN(k:Int):AV:=.t [.t [.str [110,117,109,98,101,114],.t [iW k,iW 0]]]
noncomputable def rf(c:Nat)(x:AV):AV:=.t [.str [114,101,102],.str [c],.t [],x,.none]
def us(a b c:AV):AV:=.t [.str [117,110,115,116,114,105,110,103],(rf 83 bP),.t [.t [.t [.str [116,101,120,116],.bytes [.c (44)]],.bool false]],.t [.t [(rf 73 bP),.none,a],.t [(rf 71 bP),.none,.none]],b,c]
def MU:List SE:=[⟨136,none,[.ref 0,(rf 83 bP)],.t [.ref 78,(iW 0),.ref 15]⟩,
 ⟨136,none,[.ref 0,(rf 73 bP)],.t [.ref 78,(iW 5),.ref 24]⟩,
 ⟨136,none,[.ref 0,(rf 71 bP)],.t [.ref 78,(iW 6),.ref 33]⟩,
 ⟨136,none,[.ref 0,(rf 67 (sN 1))],.t [.ref 78,(iW 9),.ref 44]⟩,
 ⟨136,none,[.ref 0,(rf 67 (sN 2))],.t [.ref 78,(iW 10),.ref 44]⟩,
 ⟨136,none,[.ref 0,(rf 67 (sN 3))],.t [.ref 78,(iW 11),.ref 44]⟩,
 ⟨136,none,[.ref 0,(rf 67 (sN 4))],.t [.ref 78,(iW 12),.ref 44]⟩,
 ⟨136,none,[.ref 0,(rf 78 (sN 1))],.t [.ref 78,(iW 13),.ref 55]⟩,
 ⟨136,none,[.ref 0,(rf 78 (sN 2))],.t [.ref 78,(iW 15),.ref 55]⟩,
 ⟨136,none,[.ref 0,(rf 78 (sN 3))],.t [.ref 78,(iW 17),.ref 55]⟩,
 ⟨136,none,[.ref 0,(rf 78 (sN 4))],.t [.ref 78,(iW 19),.ref 55]⟩,
 ⟨136,none,[.ref 0,(rf 80 (sN 1))],.t [.ref 78,(iW 21),.ref 66]⟩,
 ⟨136,none,[.ref 0,(rf 80 (sN 2))],.t [.ref 78,(iW 23),.ref 66]⟩,
 ⟨136,none,[.ref 0,(rf 80 (sN 3))],.t [.ref 78,(iW 25),.ref 66]⟩,
 ⟨136,none,[.ref 0,(rf 80 (sN 4))],.t [.ref 78,(iW 27),.ref 66]⟩,
 ⟨167,some 49,[.ref 0,(rf 80 (.t [(rf 73 bP)]))],(rf 80 (sN 1))⟩,
 ⟨168,some 49,[.ref 0,(us (rf 67 (.t [(rf 73 bP)])) (rf 80 (.t [(rf 73 bP)])) (rf 78 (.t [(rf 73 bP)])))],(us (rf 67 (sN 1)) (rf 80 (sN 1)) (rf 78 (sN 1)))⟩,
 ⟨167,some 50,[.ref 0,(rf 80 (.t [(rf 73 bP)]))],(rf 80 (sN 2))⟩,
 ⟨168,some 50,[.ref 0,(us (rf 67 (.t [(rf 73 bP)])) (rf 80 (.t [(rf 73 bP)])) (rf 78 (.t [(rf 73 bP)])))],(us (rf 67 (sN 2)) (rf 80 (sN 2)) (rf 78 (sN 2)))⟩,
 ⟨167,some 51,[.ref 0,(rf 80 (.t [(rf 73 bP)]))],(rf 80 (sN 3))⟩,
 ⟨168,some 51,[.ref 0,(us (rf 67 (.t [(rf 73 bP)])) (rf 80 (.t [(rf 73 bP)])) (rf 78 (.t [(rf 73 bP)])))],(us (rf 67 (sN 3)) (rf 80 (sN 3)) (rf 78 (sN 3)))⟩,
 ⟨167,some 52,[.ref 0,(rf 80 (.t [(rf 73 bP)]))],(rf 80 (sN 4))⟩,
 ⟨168,some 52,[.ref 0,(us (rf 67 (.t [(rf 73 bP)])) (rf 80 (.t [(rf 73 bP)])) (rf 78 (.t [(rf 73 bP)])))],(us (rf 67 (sN 4)) (rf 80 (sN 4)) (rf 78 (sN 4)))⟩,
 ⟨167,some 49,[.ref 0,(rf 80 (.t [.t [.str [45],.t [.str [43],(rf 73 bP),(rf 73 bP)],(rf 73 bP)]]))],(rf 80 (sN 1))⟩,
 ⟨168,some 49,[.ref 0,(us (rf 67 (.t [.t [.str [45],.t [.str [43],(rf 73 bP),(rf 73 bP)],(rf 73 bP)]])) (rf 80 (.t [.t [.str [45],.t [.str [43],(rf 73 bP),(rf 73 bP)],(rf 73 bP)]])) (rf 78 (.t [.t [.str [45],.t [.str [43],(rf 73 bP),(rf 73 bP)],(rf 73 bP)]])))],(us (rf 67 (sN 1)) (rf 80 (sN 1)) (rf 78 (sN 1)))⟩,
 ⟨167,some 50,[.ref 0,(rf 80 (.t [.t [.str [45],.t [.str [43],(rf 73 bP),(rf 73 bP)],(rf 73 bP)]]))],(rf 80 (sN 2))⟩,
 ⟨168,some 50,[.ref 0,(us (rf 67 (.t [.t [.str [45],.t [.str [43],(rf 73 bP),(rf 73 bP)],(rf 73 bP)]])) (rf 80 (.t [.t [.str [45],.t [.str [43],(rf 73 bP),(rf 73 bP)],(rf 73 bP)]])) (rf 78 (.t [.t [.str [45],.t [.str [43],(rf 73 bP),(rf 73 bP)],(rf 73 bP)]])))],(us (rf 67 (sN 2)) (rf 80 (sN 2)) (rf 78 (sN 2)))⟩,
 ⟨167,some 51,[.ref 0,(rf 80 (.t [.t [.str [45],.t [.str [43],(rf 73 bP),(rf 73 bP)],(rf 73 bP)]]))],(rf 80 (sN 3))⟩,
 ⟨168,some 51,[.ref 0,(us (rf 67 (.t [.t [.str [45],.t [.str [43],(rf 73 bP),(rf 73 bP)],(rf 73 bP)]])) (rf 80 (.t [.t [.str [45],.t [.str [43],(rf 73 bP),(rf 73 bP)],(rf 73 bP)]])) (rf 78 (.t [.t [.str [45],.t [.str [43],(rf 73 bP),(rf 73 bP)],(rf 73 bP)]])))],(us (rf 67 (sN 3)) (rf 80 (sN 3)) (rf 78 (sN 3)))⟩,
 ⟨167,some 52,[.ref 0,(rf 80 (.t [.t [.str [45],.t [.str [43],(rf 73 bP),(rf 73 bP)],(rf 73 bP)]]))],(rf 80 (sN 4))⟩,
 ⟨168,some 52,[.ref 0,(us (rf 67 (.t [.t [.str [45],.t [.str [43],(rf 73 bP),(rf 73 bP)],(rf 73 bP)]])) (rf 80 (.t [.t [.str [45],.t [.str [43],(rf 73 bP),(rf 73 bP)],(rf 73 bP)]])) (rf 78 (.t [.t [.str [45],.t [.str [43],(rf 73 bP),(rf 73 bP)],(rf 73 bP)]])))],(us (rf 67 (sN 4)) (rf 80 (sN 4)) (rf 78 (sN 4)))⟩]
section
def PS:Pg:=⟨A4,ka,Hd,EZ,78,Nw MU 78,39⟩
def Q4:Pg:=⟨A4,ka,Hd,EZ,78,fun Y Y Y=>none,0⟩
noncomputable def sT(k:Nat):IE:=.tab [44,50,51,49,52] (.v k)
noncomputable def dig(k:Nat):IE:=.add (.v k) (.c 48)
def wc(a:Int):List IE:=[sT 0,sT 1,sT 2,sT 3,sT 4,.c (49+a),.c 103,.c 104,.c 105,dig 5,dig 6,dig 7,dig 8,dig 9,dig 13,dig 10,dig 14,dig 11,dig 15,dig 12,dig 16,.c 48,dig 17,.c 48,dig 18,.c 48,dig 19,.c 48,dig 20]
noncomputable def MM:Rg:=[(0,4),(0,4),(0,4),(0,4),(0,4),(0,9),(0,9),(0,9),(0,9),(0,8),(0,8),(0,8),(0,8),(0,9),(0,9),(0,9),(0,9),(0,7),(0,7),(0,7),(0,7),(0,9),(0,9)]
noncomputable def Gi:List IE:=(List.range 29).map fun j=>.v (23+j)
def RL:Rg:=MM++List.replicate 29 (0,255)
def sB:AS:=⟨aE.put 40 gK 78 K8,79,MM⟩
def sS:AS:=⟨aE.put 40 gK 78 (.cu Gi),79,RL⟩
noncomputable def Nt:List CS:=(iu.drop 3).take 4
noncomputable def MJ:List CS:=iu.drop 7
noncomputable def F6:AV:=.t [.str [114,101,102],.str [73],.t [],.t [],.none]
def KC(f:Int):AV:=.t [.str [114,101,102],.str [80],.t [],.t [match iB f 0 with|true=>F6|false=>.t [.str [45],.t [.str [43],F6,F6],F6]],.none]
def NR(f a:Int):Env:=[(36,.int (.c f)),(184,.mG 1),(160,.bytes (wc a)),(139,.ref 0)]
def Pf:Bool→AV
 |true=>.bytes [dig 21]
 |false=>.bytes [dig 21,dig 22]
def NQ(f a:Int)(l:Bool):Env:=[(184,Pf l),(160,.bytes (wc a)),(139,.ref 0),(199,KC f)]
def pB(f a:Int):Fl×Env×AS→Bool:=nx fun ρ s=>lj (az ρ 160) (Nk (wc a))&&(lj (az ρ 139) (Ka 0)&&(lj (az ρ 184) (Nl 1)&&(lj (az ρ 199) (xZ 79 id 20 (KC f))&&lj (r9 s (.ref 78)) fun b=>Nat.beq b.length 29)))
def pS(p:Fl×Env×AS):Bool:=match p.1 with|.rt v=>Nat.beq 1 v.ctorIdx&&(wA v).b|.nx=>false
def G5(f a:Int):Bool:=mB (pB f a) ((run PS dj 3000 60).xs Nt (NR f a) sB)
def uH(f a:Int)(l:Bool):Bool:=mB pS ((run PS dj 3000 60).xs MJ (NQ f a l) sS)
structure mC:Prop where
 b:∀f a:Nat,f<2→a<4→G5 f a=true
 s:∀(f a:Nat)(l:Bool),f<2→a<4→uH f a l=true
 t:MU.all (MK Q4 dj gK 78 3000 40)=true
end
section
noncomputable def kb:List (Addr×Addr)→Heap→Heap
 |[],h=>h
 |p::r,h=>kb r (h.update p.2 fun Y=>gJ)
theorem zl(h:Heap)(a:Addr):(h.update a fun Y=>gJ).get? a=none:=by
 show(match(h.objs.modify a fun Y=>gJ)[a]? with|some ⟨_,_,.freed,_⟩=>none|o=>o)=none
 rw [Array.getElem?_modify,if_pos rfl];cases h.objs[a]?<;>rfl
theorem oe(l:List (Addr×Addr))(h:Heap)(b:Addr)(o:Obj)(e:(kb l h).get? b=some o):h.get? b=some o∧∀p∈l,b≠p.2:=by
 induction l generalizing h with
 |nil=>exact⟨e,fun Y m=>nomatch m⟩
 |cons p r ih=>
  refine aw (ih _ e:) fun a1 a2=>?_
  by_cases q:b=p.2
  ·subst q;rw [zl]at a1;injection a1
  ·rw [Heap.get?_update_ne _ _ _ _ q]at a1
   exact⟨a1,fun x m=>by
    rcases cK m with rfl|m
    ·exact q
    ·exact a2 x m⟩
theorem l0:∀(l:List (Addr×Addr))(h:Heap)(b:Addr),(∀p∈l,b≠p.2)→(kb l h).get? b=h.get? b
 |[],h,b,_=>rfl
 |p::r,h,b,q=>by
  show(kb r (h.update p.2 fun Y=>gJ)).get? b=_
  rw [l0 r _ b fun x m=>q x (cq _ m),Heap.get?_update_ne _ _ _ _ (q p bS)]
theorem pW{P:Params}(F:iP (ES P) (BR P))(hk:∀b o,(kI P).get? b=some o→h.get? b=some o):oX (ES P) (kb eI h):=by
 intro a o e h1 h2
 by_cases q:∃p∈eI,a=p.2
 ·exfalso
  obtain⟨p,m,rfl⟩:=q
  have hs:((BR P).get p.2).isSome=true:=by rw [all1 F.tabs m];rfl
  have:=Ab eI (BR P) p.2 hs (.inl ⟨p,m,rfl⟩)
  rw [show(ES P).get p.2=some gJ from this]at e
  injection e with e;subst e;injection h2
 ·have q:∀p∈eI,a≠p.2:=fun p m e=>q ⟨p,m,e⟩
  rw [l0 eI h a q];refine hk a o ?_;have e':(BR P).get a=some o:=(Ds eI (BR P) a q).symm.trans e
  unfold kI;rw [abs_get (t:=Aj P (gc P 259)) (bF h1) e']
  obtain⟨c,d,dt,sl⟩:=o
  cases dt<;>first|rfl|injection h2
structure Base(w:World)(h:Heap)(la:Addr)(is:List Int)(W:Int)where
 vs:List Value
 nn:Nat
 N:kG
 F:iP (ES w.params) (BR w.params)
 keep:∀b o,(kI w.params).get? b=some o→h.get? b=some o
 list:h.get? la=some (bZ vs nn)
 WQ:∀(C:Cx) J M h,ay C J M h (cI is) vs
 Og:∀p∈eI,la≠p.2
 W0:0≤W
 W1:W<2^400
 hW:(run PH dj 100 20).ca (.fn 171) [.ref 0] (eK is)=.ok (.ref 2,fQ is W)
section
variable(B:Base w h la is W)
def Cb(w:World)(h:Heap)(ν:Nat→Int)(nf:Nat)(f0:aE AO)(U:Nat→Value):Cx:=D2 w ν nf f0 (kb eI h) (oj (ES w.params)) U
include B
theorem J2(ν:Nat→Int)(nf:Nat)(f0:aE AO)(U:Nat→Value){sm:Nat→List AV→AS→Option (aH (AV×AS))}{smd:Nat}(hs:MB (Cb w h ν nf f0 U) (NY nf sm smd)):WF (Cb w h ν nf f0 U) (NY nf sm smd) dj:=
 Rl B.N (pW B.F B.keep) rfl B.F hs
theorem rk(ν:Nat→Int)(nf:Nat)(f0:aE AO)(U:Nat→Value):WF (Cb w h ν nf f0 U) (NY nf (fun Y Y Y=>none) 0) dj:=J2 B ν nf f0 U fun Y Y Y Y Y Y e=>by injection e
theorem J3(U:Nat→Value)(hU:U 0=.ref la):WF (Cb w h (ν0 W) 0 .nil U) PA dj:=
 J2 B (ν0 W) 0 .nil U (sm:=QO) (smd:=19) fun k as s r v s' e1 e2 Z J M A st ras S R z V Q E K=>
  Kr (C:=Cb w h (ν0 W) 0 .nil U) (W:=W) (la:=la) (is:=is) (vs:=B.vs) (nn:=B.nn) rfl rfl hU B.W0 B.W1 (fun fk DQ=>rk B fk 1 DQ U) (fun fk DQ=>rk B fk 0 DQ U)
   (by show(kb eI h).get? la=_;rw [l0 eI h la B.Og];exact B.list) B.WQ B.hW k as s r v s' e1 e2 Z J M A st ras S R z V Q E K
theorem Nh(T:MU.all (MK Q4 dj gK 78 3000 40)=true)(ν:Nat→Int)(U:Nat→Value):WF (Cb w h ν 78 gK U) PS dj:=
 J2 B ν 78 gK U (sm:=Nw MU 78) (smd:=39) (Ko (C:=Cb w h ν 78 gK U) (P:=Q4) (N:=dj) (m:=78) (fuel:=3000) (dep:=40) (tab:=MU) (by decide) rfl (fun fk=>rk B fk 78 gK U) (by decide)
  (fun i o e=>by
   have:=bT Jm _ (aE.fD e)
   refine aw (ae this:) fun a b=>?_
   exact⟨bF a,b⟩) (fun e m=>bT T e m))
end
end
section
theorem bp{α:Type}{a b:α}{l m:List α}(h:a=b)(g:l=m):a::l=b::m:=by rw [h,g]
noncomputable def FZ(d:Int):Int:=([1,0,2,3,4,0]:List Int).getD d.toNat 0
def ν1(W d0 d1:Int)(j:Nat):Int:=if j<5 then FZ (ν0 W (2+j))else if j<9 then ν0 W (j+3)else if j<13 then Int.fdiv (ν0 W (j+3)) 10 else if j<17 then Int.fmod (ν0 W (j - 1)) 10 else if j<21 then ν0 W (j - 1)else if j=21 then d0 else if j=22 then d1 else 0
section
theorem ml(j:Nat)(m:Int)(h:mK j=m)(hj:j<20):0≤ν0 W j∧ν0 W j≤m - 1:=h▸PY j hj
theorem tE(j:Nat)(hj:j<5):IE.eval (ν1 W d0 d1) (sT j)=IE.eval (ν0 W) (.tab [50,44,51,49,52,44] (.v (2+j))):=by
 have hm:mK (2+j)=6:=by
  have:∀j:Fin 5,mK (2+j.1)=6:=by decide
  exact this ⟨j,hj⟩
 have b:=ml (W:=W) (2+j) 6 hm (Nat.lt_of_lt_of_le (Nat.add_lt_add_left hj 2) (by decide))
 show([44,50,51,49,52]:List Int).getD (ν1 W d0 d1 j).toNat 0=([50,44,51,49,52,44]:List Int).getD (ν0 W (2+j)).toNat 0;have e:ν1 W d0 d1 j=FZ (ν0 W (2+j)):=by unfold ν1;rw [if_pos hj]
 rw [e]
 generalize ν0 W (2+j)=x at b
 have:x=0∨x=1∨x=2∨x=3∨x=4∨x=5:=by lia
 rcases this with rfl|rfl|rfl|rfl|rfl|rfl<;>rfl
theorem cE(j:Nat)(h1:5≤j)(h2:j<9):IE.eval (ν1 W d0 d1) (dig j)=IE.eval (ν0 W) (.add (.v (j+3)) (.c 48)):=by
 show ν1 W d0 d1 j+48=ν0 W (j+3)+48;unfold ν1;rw [if_neg (by lia),if_pos h2]
theorem dE(j:Nat)(h1:9≤j)(h2:j<13):IE.eval (ν1 W d0 d1) (dig j)=IE.eval (ν0 W) (.add (.div (.v (j+3)) (.c 10)) (.c 48)):=by
 show ν1 W d0 d1 j+48=Int.fdiv (ν0 W (j+3)) 10+48;unfold ν1;rw [if_neg (by lia),if_neg (by lia),if_pos h2]
theorem uE(j:Nat)(h1:13≤j)(h2:j<17):IE.eval (ν1 W d0 d1) (dig j)=IE.eval (ν0 W) (.add (.mod (.v (j - 1)) (.c 10)) (.c 48)):=by
 show ν1 W d0 d1 j+48=Int.fmod (ν0 W (j - 1)) 10+48;unfold ν1;rw [if_neg (by lia),if_neg (by lia),if_neg (by lia),if_pos h2]
theorem pE(j:Nat)(h1:17≤j)(h2:j<21):IE.eval (ν1 W d0 d1) (dig j)=IE.eval (ν0 W) (.add (.v (j - 1)) (.c 48)):=by
 show ν1 W d0 d1 j+48=ν0 W (j - 1)+48;unfold ν1;rw [if_neg (by lia),if_neg (by lia),if_neg (by lia),if_neg (by lia),if_pos h2]
theorem zE(k:Nat)(h1:16≤k)(h2:k<20)(ν:Nat→Int):IE.eval ν (.c 48)=IE.eval (ν0 W) (.add (.div (.v k) (.c 10)) (.c 48)):=by
 have hm:mK k=8:=by
  have:∀j:Fin 4,mK (16+j.1)=8:=by decide
  have:=this ⟨k - 16,Nat.sub_lt_left_of_lt_add h1 h2⟩
  rwa[Nat.add_sub_cancel' h1]at this
 have b:=ml (W:=W) k 8 hm h2
 show(48:Int)=Int.fdiv (ν0 W k) 10+48;rw [Int.fdiv_eq_ediv_of_nonneg _ (by decide),Int.ediv_eq_zero_of_lt b.1 (by lia)];rfl
theorem CO{a:Nat}(ha:ν0 W 7=a):(wc a).map (fun e=>e.eval (ν1 W d0 d1))=K7.map (fun e=>e.eval (ν0 W)):=by
 have hi:IE.eval (ν1 W d0 d1) (.c (49+a))=IE.eval (ν0 W) (.add (.v 7) (.c 49)):=by show(49+(a:Int))=ν0 W 7+49;lia
 refine bp (tE 0 (by decide))<|bp (tE 1 (by decide))<|bp (tE 2 (by decide))<|bp (tE 3 (by decide))<|bp (tE 4 (by decide))<|bp hi<|bp rfl<|bp rfl<|bp rfl<|
  bp (cE 5 (by decide) (by decide))<|bp (cE 6 (by decide) (by decide))<|bp (cE 7 (by decide) (by decide))<|bp (cE 8 (by decide) (by decide))<|
  bp (dE 9 (by decide) (by decide))<|bp (uE 13 (by decide) (by decide))<|bp (dE 10 (by decide) (by decide))<|bp (uE 14 (by decide) (by decide))<|
  bp (dE 11 (by decide) (by decide))<|bp (uE 15 (by decide) (by decide))<|bp (dE 12 (by decide) (by decide))<|bp (uE 16 (by decide) (by decide))<|
  bp (zE 16 (by decide) (by decide) _)<|bp (pE 17 (by decide) (by decide))<|bp (zE 17 (by decide) (by decide) _)<|bp (pE 18 (by decide) (by decide))<|
  bp (zE 18 (by decide) (by decide) _)<|bp (pE 19 (by decide) (by decide))<|bp (zE 19 (by decide) (by decide) _)<|bp (pE 20 (by decide) (by decide)) rfl
theorem N4(j:Nat)(h:mK j=6)(hj:j<20):0≤FZ (ν0 W j)∧FZ (ν0 W j)≤4:=by
 have b:=ml (W:=W) j 6 h hj
 generalize ν0 W j=x at b
 have:x=0∨x=1∨x=2∨x=3∨x=4∨x=5:=by lia
 rcases this with rfl|rfl|rfl|rfl|rfl|rfl<;>decide
theorem KI(j:Nat)(h:mK j=10)(hj:j<20):0≤ν0 W j∧ν0 W j≤9:=ml j 10 h hj
theorem N5(j:Nat)(h:mK j=8)(hj:j<20):0≤ν0 W j∧ν0 W j≤7:=ml j 8 h hj
theorem NV(j:Nat)(h:mK j=90)(hj:j<20):0≤Int.fdiv (ν0 W j) 10∧Int.fdiv (ν0 W j) 10≤8:=by
 have b:=ml (W:=W) j 90 h hj
 rw [Int.fdiv_eq_ediv_of_nonneg _ (by decide)]
 lia
theorem x5(x:Int):0≤Int.fmod x 10∧Int.fmod x 10≤9:=by
 rw [Int.fmod_eq_emod_of_nonneg _ (by decide)]
 lia
theorem Ca(h0:0≤d0∧d0≤9)(h1:0≤d1∧d1≤9):cg (ν1 W d0 d1) MM:=by
 refine m6.ok (ν:=ν1 W d0 d1) (l:=MM) ?_
 have T:=fun j a b=>N4 (W:=W) j a b
 have U:=fun j a b=>KI (W:=W) j a b
 have V:=fun j a b=>NV (W:=W) j a b
 have X:=fun j a b=>N5 (W:=W) j a b
 exact⟨T 2 rfl (by decide),T 3 rfl (by decide),T 4 rfl (by decide),T 5 rfl (by decide),T 6 rfl (by decide),
  U 8 rfl (by decide),U 9 rfl (by decide),U 10 rfl (by decide),U 11 rfl (by decide),
  V 12 rfl (by decide),V 13 rfl (by decide),V 14 rfl (by decide),V 15 rfl (by decide),
  x5 _,x5 _,x5 _,x5 _,X 16 rfl (by decide),X 17 rfl (by decide),X 18 rfl (by decide),X 19 rfl (by decide),h0,h1,trivial⟩
noncomputable def ν2(ν:Nat→Int)(b:List IE)(j:Nat):Int:=if j<23 then ν j else(b.map fun e=>e.eval ν).getD (j - 23) 0
theorem CP{fk:Nat→Int}(h:∀j,j<23→fk j=ν j)(a:Int):(wc a).map (fun e=>e.eval fk)=(wc a).map (fun e=>e.eval ν):=by
 have t:∀j,j<23→IE.eval fk (sT j)=IE.eval ν (sT j):=fun j hj=>by show List.getD _ (fk j).toNat 0=List.getD _ (ν j).toNat 0;rw [h j hj]
 have d:∀j,j<23→IE.eval fk (dig j)=IE.eval ν (dig j):=fun j hj=>by show fk j+48=ν j+48;rw [h j hj]
 refine bp (t 0 (by decide))<|bp (t 1 (by decide))<|bp (t 2 (by decide))<|bp (t 3 (by decide))<|bp (t 4 (by decide))<|bp rfl<|bp rfl<|bp rfl<|bp rfl<|
  bp (d 5 (by decide))<|bp (d 6 (by decide))<|bp (d 7 (by decide))<|bp (d 8 (by decide))<|
  bp (d 9 (by decide))<|bp (d 13 (by decide))<|bp (d 10 (by decide))<|bp (d 14 (by decide))<|
  bp (d 11 (by decide))<|bp (d 15 (by decide))<|bp (d 12 (by decide))<|bp (d 16 (by decide))<|
  bp rfl<|bp (d 17 (by decide))<|bp rfl<|bp (d 18 (by decide))<|
  bp rfl<|bp (d 19 (by decide))<|bp rfl<|bp (d 20 (by decide)) rfl
theorem zP(hl:b.length=29):Gi.map (fun e=>e.eval (ν2 ν b))=b.map (fun e=>e.eval ν):=by
 apply List.ext_getElem?
 intro j;unfold Gi;rw [List.map_map,List.getElem?_map,List.getElem?_map];rcases Nat.lt_or_ge j 29 with hj|hj
 ·rw [List.getElem?_range hj,List.getElem?_eq_getElem (by lia)]
  show some (ν2 ν b (23+j))=some (b[j].eval ν);unfold ν2;rw [if_neg (by lia),show 23+j - 23=j by lia,List.getD_eq_getElem?_getD,List.getElem?_map,List.getElem?_eq_getElem (by lia)];rfl
 ·rw [List.getElem?_eq_none (by rw [List.length_range];lia),List.getElem?_eq_none (by lia)];rfl
set_option tactic.hygienic true in
theorem Kx(h:cg ν MM)(hl:b.length=29)(hb:bq ν b):cg (ν2 ν b) RL:=by
 intro k p q;unfold RL at q;rcases Nat.lt_or_ge k 23 with hk|hk
 ·rw [List.getElem?_append_left (by exact hk)]at q
  unfold ν2;rw [if_pos hk];exact h k p q
 ·rw [List.getElem?_append_right (by exact hk),List.getElem?_replicate]at q
  have MO:k - MM.length=k - 23:=rfl
  rw [MO]at q;split at q
  ·rename_i hj
   injection q with q;subst q;unfold ν2;rw [if_neg (by lia),List.getD_eq_getElem?_getD,List.getElem?_map,List.getElem?_eq_getElem (by lia)]
   have:=hb b[k - 23] (List.getElem_mem _)
   show 0≤b[k - 23].eval ν∧b[k - 23].eval ν≤255
   lia
  ·injection q
end
end
section
section
def KF(w:World)(h:Heap)(kd:Kd)(cs:Bool)(env:PySem.Env)(own:Addr→Prop)(h₀:Heap)(M₀ Z₀:Addr→Prop)(st:Shared)(Q:Flow→Shared→Prop):Prop:=
 ∀ν nf f0 U σ' M' Z' h' s' ρ' tk,Way h₀ M₀ Z₀ σ' M' Z' h'→aq (Cb w h ν nf f0 U) σ' M' s' h'→dk (Cb w h ν nf f0 U) Z' σ' M' own kd cs env ρ' h'→Q (.ret (.bool true)) {st with heap:=h',toks:=tk}
variable{kd:Kd}{cs:Bool}{xs:List Stmt}{own:Addr→Prop}{h₀:Heap}{env:PySem.Env}{A:Around}
theorem F3{x:Fl×Env×AS}{fl:Flow}(p:pS x=true)(r:vc C J M h x.1 fl):fl=.ret (.bool true):=by
 obtain⟨f,ρ,s⟩:=x
 cases f with
 |nx=>exact Bool.noConfusion p
 |rt v=>
  refine aw (ae (p:(Nat.beq 1 v.ctorIdx&&(wA v).b)=true)) fun t b=>?_
  have t:v=.bool (wA v).b:=gY t
  rw [b]at t;exact aC (r:) fun rv q V=>q.trans (congrArg Flow.ret ((t▸V:ao C J M h (.bool true) rv).inv))
theorem GS(B:Base w h la is W)(EV:mC){f a:Nat}{l:Bool}(hf:f<2)(ha:a<4)(hfit:dc (Cb w h ν 78 gK U) kd cs MJ xs)(F:dk (Cb w h ν 78 gK U) Z J M own kd cs env (NQ f a l) st.heap)
  (S:aq (Cb w h ν 78 gK U) J M sS st.heap)(R:bu A 60)(z:cm (Cb w h ν 78 gK U) Z J st.heap)(Wy:Way h₀ M₀ Z₀ J M Z st.heap)(K:KF w h kd cs env own h₀ M₀ Z₀ st Q):ab (Md (Cb w h ν 78 gK U)) A (execs xs env) Q E st:=by
 refine aC (fi ν (EV.s f a l hf ha)) fun x e p=>?_
 refine(sound (Nh B EV.t ν U) 3000 (by decide) 60).2.2.1 MJ (NQ f a l) sS x.1 x.2.1 x.2.2 e kd cs xs hfit Z J M own env A st F S R z Q E ?_
 intro σ' M' h' tk Pe G S' F' r;exact F3 p r▸K ν 78 gK U σ' M' Z h' x.2.2 x.2.1 tk (Wy.go G) S' F'
theorem Cj{rv:Value}(V:ao C J M h v rv)(e:v=.mG i):rv=C.U i:=(e▸V:ao C J M h (.mG i) rv).inv
theorem vO{rv:Value}(V:ao C J M h v rv)(e:v=.ref i):∃a,rv=.ref a∧J[i]?=some a:=(e▸V:ao C J M h (.ref i) rv).inv
theorem nP{π:Nat→Nat}{m j:Nat}{a:Addr}(hj:j<m)(q:J[π j]?=some a):(bY J π m)[j]?=some a:=(k7 hj).trans (congrArg some (by rw [List.getD_eq_getElem?_getD,q];rfl))
theorem k9{C':Cx}{h':Heap}{x l:List IE}{rv:Value}(V:ao C J M h (.bytes x) rv)(e:l.map (fun e=>e.eval C'.ν)=x.map (fun e=>e.eval C.ν)):ao C' σ' M' h' (.bytes l) rv:=
 aw V.inv fun B q=>q.elim fun t q=>aw (gX e) fun b1 b2=>q▸b1▸.bytes _ t (b2 B)
def y5(ν:Nat→Int)(l:Bool)(v:Value):Prop:=∀(C:Cx) J M h,C.ν=ν→ao C J M h (Pf l) v
theorem Pt{o:AO}(e:gK.get i=some o):i<78∧IC 79 id o o=true:=
 (ae (bT Jm _ (aE.fD e))).imp bF id
theorem JK(aD:aq (Cb w h (ν1 W d0 d1) 78 gK U) aA aP ag h₁)(hb:ag.get 78=some (.cu b)):cR (Cb w h (ν1 W d0 d1) 78 gK U) aA aP h₁ (.cu b) (aA.getD 78 0):=
 aD.obj 78 _ _ hb (oi (aD.len▸aD.low 78 _ hb))
theorem XK(EY:0≤d0∧d0≤9)(wF:0≤d1∧d1≤9)(aD:aq (Cb w h (ν1 W d0 d1) 78 gK U) aA aP ag h₁)(hb:ag.get 78=some (.cu b))(hbl:b.length=29)(dS:∀j,j<79→id j<ag.n):
  aq ((Cb w h (ν1 W d0 d1) 78 gK U).re (ν2 (ν1 W d0 d1) b) 78 gK U) (bY aA id 79) (si aP (bY aA id 79) 78) sS h₁:=by
 have lo:∀i o,sS.hp.get i=some o→i<79∧∀(σ':List Addr)(M':Addr→Prop),H4 (Cb w h (ν1 W d0 d1) 78 gK U) aA σ' aP M' 79 id→cR ((Cb w h (ν1 W d0 d1) 78 gK U).re (ν2 (ν1 W d0 d1) b) 78 gK U) σ' M' h₁ o (aA.getD i 0):=fun i o q=>
  (rC (t:=gK) (k:=78) (m0:=.cu Gi) (by decide) q).elim (fun q=>by rw [q.1,q.2];exact⟨by decide,fun Y Y Y=>xX (JK aD hb) (zP hbl)⟩) fun q=>have f:=Pt q;have hi:=Nat.lt_succ_of_lt f.1
   ⟨hi,fun Y Y X=>vQ X f.2 (aD.obj i o _ ((aD.gP.2 i f.1).trans q) (oi (aD.len▸dS i hi)))⟩
 exact aq.eD (s':=sS) (π:=id) aD (by show 79≤1000000;decide) (by show 78≤79;decide) dS (fun i j Y Y q=>q) (fun i hi=>AS.bB gK 40 78 i _ (Nat.ne_of_gt hi)) (fun i hi Y=>hi) (fun i o q=>(lo i o q).1) (fun i o q=>(lo i o q).2) (Kx (Ca EY wF) hbl (m4 (JK aD hb)).2)
theorem XM{f a:Nat}{l:Bool}(hfig:∀fk,fk 21=d0→fk 22=d1→y5 fk l (U 1)){b7:Env}(aD:aq (Cb w h (ν1 W d0 d1) 78 gK U) aA aP ag h₁)(cS:dk (Cb w h (ν1 W d0 d1) 78 gK U) Z aA aP own kd cs env b7 h₁)(dS:∀j,j<79→id j<ag.n)
  (p1:lj (az b7 160) (Nk (wc a))=true)(p2:lj (az b7 139) (Ka 0)=true)(p3:lj (az b7 184) (Nl 1)=true)(p4:lj (az b7 199) (xZ 79 id 20 (KC f))=true):
  dk ((Cb w h (ν1 W d0 d1) 78 gK U).re (ν2 (ν1 W d0 d1) b) 78 gK U) (Jv Z aA (bY aA id 79)) (bY aA id 79) (si aP (bY aA id 79) 78) own kd cs env (NQ f a l) h₁:=by
 have low:∀j,j<23→ν2 (ν1 W d0 d1) b j=ν1 W d0 d1 j:=fun j hj=>if_pos hj
 refine aC (dQ p1) fun x1 g1 e1=>?_
 refine aC (dQ p2) fun x2 g2 e2=>?_
 refine aC (dQ p3) fun x3 g3 e3=>?_
 refine aC (dQ p4) fun x4 g4 e4=>?_
 refine cS.km aD dS fun y v' e=>ma.at_ (ρ:=NQ f a l) (p:=fun y v'=>gZ (kd.k ((Cb w h (ν1 W d0 d1) 78 gK U).nm y))→∃rv,dM (fun a=>Z a∨own a) aP env h₁ ((Cb w h (ν1 W d0 d1) 78 gK U).nm y) rv∧ao ((Cb w h (ν1 W d0 d1) 78 gK U).re (ν2 (ν1 W d0 d1) b) 78 gK U) (bY aA id 79) (si aP (bY aA id 79) 78) h₁ v' rv) ⟨?_,?_,?_,?_,trivial⟩ e
 ·exact cS.tell g3 fun rv V=>(Cj V (BO e3)).symm▸hfig (ν2 (ν1 W d0 d1) b) (low 21 (by decide)) (low 22 (by decide)) _ _ _ _ rfl
 ·exact cS.tell g1 fun rv V=>aC (BN e1) fun x q e=>k9 (q▸V) ((CP low a).trans (lr (ν1 W d0 d1) e).symm)
 ·exact cS.tell g2 fun rv V=>aC (vO V (vD e2)) fun x q hx=>q▸.ref 0 x (nP (by decide) hx)
 ·exact cS.tell g4 fun rv V=>rA nO 20 _ _ _ e4 V
theorem KH(B:Base w h la is W)(EV:mC)(EY:0≤d0∧d0≤9)(wF:0≤d1∧d1≤9){f a:Nat}{l:Bool}(hf:f<2)(ha:a<4)(hfig:∀fk,fk 21=d0→fk 22=d1→y5 fk l (U 1))
  {xs ys:List Stmt}(hfit:dc (Cb w h (ν1 W d0 d1) 78 gK U) kd cs Nt xs)(OZ:dc (Cb w h (ν1 W d0 d1) 78 gK U) kd cs MJ ys)(F:dk (Cb w h (ν1 W d0 d1) 78 gK U) Z J M own kd cs env (NR f a) st.heap)
  (S:aq (Cb w h (ν1 W d0 d1) 78 gK U) J M sB st.heap)(R:bu A 60)(z:cm (Cb w h (ν1 W d0 d1) 78 gK U) Z J st.heap)(oa:∀a,M₀ a→∃o,h₀.get? a=some o)(Wy:Way h₀ M₀ Z₀ J M Z st.heap)(K:KF w h kd cs env own h₀ M₀ Z₀ st Q):
  ab (Md (Cb w h (ν1 W d0 d1) 78 gK U)) A (execs (xs++ys) env) Q E st:=by
 refine aC (fi (ν1 W d0 d1) (EV.b f a hf ha)) fun x e p=>?_
 refine fN ((sound (Nh B EV.t (ν1 W d0 d1) U) 3000 (by decide) 60).2.2.1 Nt (NR f a) sB x.1 x.2.1 x.2.2 e kd cs xs hfit Z J M own env A st F S R z _ E ?_)
 intro aA aP h₁ tk Pe G aD cS r;refine aw (Cw p) fun q p=>?_
 cases rR q r
 refine aw (ae p) fun p1 p=>?_
 refine aw (ae p) fun p2 p=>?_
 refine aw (ae p) fun p3 p=>?_
 refine aw (ae p) fun p4 p5=>?_
 refine aC (dQ p5) fun b hb hbl=>?_
 have hb:=qL hb
 have dS:∀j,j<79→id j<x.2.2.n:=fun j hj=>Nat.lt_of_le_of_lt (Nat.le_of_lt_succ hj) (aD.low 78 _ hb)
 exact GS (ν:=ν2 (ν1 W d0 d1) b) (U:=U) (st:={st with heap:=h₁,toks:=tk}) B EV hf ha OZ.re (XM hfig aD cS dS p1 p2 p3 p4) (XK EY wF aD hb (aL hbl) dS) R (cm.eD aD (z.bJ G) dS) ((Wy.go G).km aD dS oa) K
end
end
section
theorem vw{j:Nat}(hj:j<79):NX[j]?=some (πA j):=by
 unfold πA;rw [List.getD_eq_getElem?_getD,List.getElem?_eq_getElem (by rw [x7];exact hj)];rfl
theorem E7{j:Nat}(hi:i<79)(hj:j<79)(e:πA i=πA j):i=j:=by
 have nd:=il KG
 have a:=vw hi
 have b:=vw hj
 rw [←e]at b;exact(List.getElem?_inj (by rw [x7];exact hi) nd).mp (a.trans b.symm)
section
variable{kd:Kd}{cs:Bool}{own:Addr→Prop}{h₀:Heap}{env:PySem.Env}{A:Around}
theorem CJ{x m:Int}(b:0≤x∧x≤m - 1):∃a:Nat,x=a∧(x:Int)<m:=⟨x.toNat,(Int.toNat_of_nonneg b.1).symm,Int.lt_of_le_sub_one b.2⟩
theorem Uj(EY:0≤d0∧d0≤9)(wF:0≤d1∧d1≤9)(aD:aq (Cb w h (ν0 W) 0 .nil U) aA aP ag h₁)(dS:∀j,j<79→πA j<ag.n)(p5:Ng πA ag=true):
  aq ((Cb w h (ν0 W) 0 .nil U).re (ν1 W d0 d1) 78 gK U) (bY aA πA 79) (si aP (bY aA πA 79) 78) sB h₁:=by
 have lo:∀i o,sB.hp.get i=some o→i<79∧lj (ag.hp.get (πA i)) (IC 79 πA o)=true:=fun i o q=>
  (rC (t:=gK) (k:=78) (m0:=K8) (by decide) q).elim (fun q=>by rw [q.1,q.2];exact⟨by decide,(ae p5).2⟩) fun q=>(ae (bT (ae p5).1 _ (aE.fD q))).imp (fun q=>Nat.lt_succ_of_lt (bF q)) id
 exact aq.eD (s':=sB) (π:=πA) aD (by show 79≤1000000;decide) (by show 78≤79;decide) dS (fun i j hi hj q=>E7 hi hj q) (fun i hi=>AS.bB gK 40 78 i _ (Nat.ne_of_gt hi)) (fun i Y Y=>Nat.zero_le _) (fun i o q=>(lo i o q).1)
  (fun i o q σ' M' X=>aC (dQ (lo i o q).2) fun o' g e=>vQ X e (aD.obj (πA i) o' _ g (oi (aD.len▸dS i (lo i o q).1)))) (Ca EY wF)
theorem Uk{f a:Nat}{b7:Env}(aD:aq (Cb w h (ν0 W) 0 .nil U) aA aP ag h₁)(cS:dk (Cb w h (ν0 W) 0 .nil U) Z aA aP own kd cs env b7 h₁)(dS:∀j,j<79→πA j<ag.n)(ha:ν0 W 7=a)(hf:ν0 W 0=f)
  (p1:lj (az b7 36) (Nm (.v 0))=true)(p2:lj (az b7 184) (Nl 1)=true)(p3:lj (az b7 160) (Nk K7)=true)(p4:lj (az b7 139) (Ka (πA 0))=true):
  dk ((Cb w h (ν0 W) 0 .nil U).re (ν1 W d0 d1) 78 gK U) (Jv Z aA (bY aA πA 79)) (bY aA πA 79) (si aP (bY aA πA 79) 78) own kd cs env (NR f a) h₁:=by
 refine aC (dQ p1) fun x1 g1 e1=>?_
 refine aC (dQ p2) fun x2 g2 e2=>?_
 refine aC (dQ p3) fun x3 g3 e3=>?_
 refine aC (dQ p4) fun x4 g4 e4=>?_
 refine cS.km aD dS fun y v' e=>ma.at_ (ρ:=NR f a) (p:=fun y v'=>gZ (kd.k ((Cb w h (ν0 W) 0 .nil U).nm y))→∃rv,dM (fun a=>Z a∨own a) aP env h₁ ((Cb w h (ν0 W) 0 .nil U).nm y) rv∧ao ((Cb w h (ν0 W) 0 .nil U).re (ν1 W d0 d1) 78 gK U) (bY aA πA 79) (si aP (bY aA πA 79) 78) h₁ v' rv) ⟨?_,?_,?_,?_,trivial⟩ e
 ·exact cS.tell g1 fun rv V=>aC (BP e1) fun x q e=>k8 (C:=(Cb w h (ν0 W) 0 .nil U)) (x:=x) (hf.symm.trans (eT (ν0 W) e).symm) (q▸V)
 ·exact cS.tell g2 fun rv V=>(Cj V (BO e2)).symm▸.mG 1
 ·exact cS.tell g3 fun rv V=>aC (BN e3) fun x q e=>k9 (q▸V) ((Mine.Internal.CO ha).trans (lr (ν0 W) e).symm)
 ·exact cS.tell g4 fun rv V=>aC (vO V (vD e4)) fun x q hx=>q▸.ref 0 x (nP (by decide) hx)
theorem F2(B:Base w h la is W)(EV:mC)(EY:0≤d0∧d0≤9)(wF:0≤d1∧d1≤9)(hU:U 0=.ref la){l:Bool}(hfig:∀fk,fk 21=d0→fk 22=d1→y5 fk l (U 1))
  {xs ys zs:List Stmt}(hfit:dc (Cb w h (ν0 W) 0 .nil U) kd cs FA xs)(Xd:dc (Cb w h (ν0 W) 0 .nil U) kd cs Nt ys)(Xc:dc (Cb w h (ν0 W) 0 .nil U) kd cs MJ zs)(F:dk (Cb w h (ν0 W) 0 .nil U) Z J M own kd cs env B9 st.heap)
  (S:aq (Cb w h (ν0 W) 0 .nil U) J M ML st.heap)(R:bu A 60)(z:cm (Cb w h (ν0 W) 0 .nil U) Z J st.heap)(oa:∀a,M₀ a→∃o,h₀.get? a=some o)(Wy:Way h₀ M₀ Z₀ J M Z st.heap)(K:KF w h kd cs env own h₀ M₀ Z₀ st Q):
  ab (Md (Cb w h (ν0 W) 0 .nil U)) A (execs (xs++(ys++zs)) env) Q E st:=by
 refine aC (fi (ν0 W) To) fun x e p=>?_
 refine fN ((sound (J3 B U hU) 3000 (by decide) 60).2.2.1 FA B9 ML x.1 x.2.1 x.2.2 e kd cs xs hfit Z J M own env A st F S R z _ E ?_)
 intro aA aP h₁ tk Pe G aD cS r;refine aw (Cw p) fun q p=>?_
 cases rR q r
 refine aw (ae p) fun p1 p=>?_
 refine aw (ae p) fun p2 p=>?_
 refine aw (ae p) fun p3 p=>?_
 refine aw (ae p) fun p4 p=>?_
 refine aw (ae p) fun p5 p6=>?_
 have dS:∀j,j<79→πA j<x.2.2.n:=fun j hj=>bF (bT p6 _ (bO (vw hj)))
 refine dF (CJ (ml (W:=W) 7 4 rfl (by decide))) fun a ha=>?_
 refine dF (CJ (ml (W:=W) 0 2 rfl (by decide))) fun f hf=>?_
 exact KH (d0:=d0) (d1:=d1) (U:=U) (st:={st with heap:=h₁,toks:=tk}) B EV EY wF (Int.ofNat_lt.mp (hf.1▸hf.2)) (Int.ofNat_lt.mp (ha.1▸ha.2)) hfig Xd.re Xc.re (Uk aD cS dS ha.1 hf.1 p1 p2 p3 p4) (Uj EY wF aD dS p5) R (cm.eD aD (z.bJ G) dS) oa ((Wy.go G).km aD dS oa) K
theorem yK{e:IE}(h:wt e=true):∃i:Int,e=.c (48+i)∧0≤i∧i≤9:=by
 refine aC (dQ h) fun i q h=>?_
 have a:=bI.mp (ae h).1
 have b:=bI.mp (ae h).2
 exact⟨i - 48,(dh q).trans (congrArg IE.c (by lia)),by lia,by lia⟩
theorem qy(h:DK v=true):∃i:Int,(0≤i∧i≤9)∧(v=.bytes [.c (48+i)]∨∃j:Int,(0≤j∧j≤9)∧v=.bytes [.c (48+i),.c (48+j)]):=by
 refine aw (ae h) fun t h=>?_
 have t:v=.bytes (wA v).y:=gY t
 generalize (wA v).y=y at t h
 cases y with
 |nil=>exact Bool.noConfusion h
 |cons a r=>
  refine aw (ae h) fun h1 h=>?_
  refine lM (yK h1) fun i e b1 b2=>?_
  cases r with
  |nil=>exact⟨i,⟨b1,b2⟩,.inl (e▸t)⟩
  |cons b r=>
   refine aw (ae h) fun h2 h=>?_
   refine lM (yK h2) fun j e' c1 c2=>?_
   exact⟨i,⟨b1,b2⟩,.inr ⟨j,⟨c1,c2⟩,e▸e'▸gj h▸t⟩⟩
theorem LJ{rv:Value}(hv:DK v=true)(V:ao C J M h v rv):∃(l:Bool)(d0 d1:Int),(0≤d0∧d0≤9)∧(0≤d1∧d1≤9)∧∀fk:Nat→Int,fk 21=d0→fk 22=d1→y5 fk l rv:=by
 refine aC (qy hv) fun i bi h=>?_
 rcases h with q|⟨j,bj,q⟩
 ·refine⟨true,i,0,bi,⟨by decide,by decide⟩,fun fk e0 Y C' σ' M' h' Ti=>k9 (q▸V) ?_⟩
  rw [Ti];show [fk 21+48]=[48+i];rw [e0,Int.add_comm]
 ·refine⟨false,i,j,bi,bj,fun fk e0 e1 C' σ' M' h' Ti=>k9 (q▸V) ?_⟩
  rw [Ti];show [fk 21+48,fk 22+48]=[48+i,48+j];rw [e0,e1,Int.add_comm 48 i,Int.add_comm 48 j]
end
end
section
section
variable{kd:Kd}{cs:Bool}{own:Addr→Prop}{h₀:Heap}{env:PySem.Env}{A:Around}
theorem xn:iu=Kl++(FA++(Nt++MJ)):=rfl
theorem GW(hv:DK v=true):∃rv,ao C J M h v rv:=by
 have ok:∀{i:Int},0≤i∧i≤9→0≤(IE.c (48+i)).eval C.ν∧(IE.c (48+i)).eval C.ν<256:=fun{i} q=>by
  show 0≤48+i∧48+i<256
  lia
 refine aC (qy hv) fun i bi h=>?_
 rcases h with q|⟨j,bj,q⟩
 ·rw [q];exact⟨_,.bytes _ 0 fun e m=>List.mem_singleton.mp m▸ok bi⟩
 ·rw [q];exact⟨_,.bytes _ 0 fun e m=>(cK m).elim (fun q=>q▸ok bi) fun m=>List.mem_singleton.mp m▸ok bj⟩
noncomputable def U0(la:Addr):Nat→Value:=fun Y=>.ref la
noncomputable def U1(la:Addr)(v:Value):Nat→Value:=fun i=>match i with|0=>.ref la|_=>v
theorem DJ{ρ:Env}{x:Nat}(F:dk C Z J M own kd cs env ρ h)(g:az ρ x=some v)(p:DK v=true):∃rv,ao C J M h v rv∧(gZ (kd.k (C.nm x))→dM (fun a=>Z a∨own a) M env h (C.nm x) rv):=
 (Classical.em (gZ (kd.k (C.nm x)))).elim (fun k=>(F.f.vars x v g k).elim fun rv y=>⟨rv,y.2,fun Y=>y.1⟩) fun k=>(GW p).elim fun rv V=>⟨rv,V,fun q=>(k q).elim⟩
theorem Ul(h0:0≤W)(h1:W<2^400)(aD:aq (Cb w h (ν0 W) 0 .nil (U0 la)) aA aP ag h₁)(dS:∀j,j<1→id j<ag.n)(p5:CX ag (.v 22) (.v 43) (.v 62)=true):
  aq ((Cb w h (ν0 W) 0 .nil (U0 la)).re (ν0 W) 0 .nil U) (bY aA id 1) (si aP (bY aA id 1) 0) ML h₁:=by
 refine o7 (rL (ν0 W) p5) fun y1 y2 y3 hl q1 q2 q3=>?_
 have lo:∀i o,ML.hp.get i=some o→i<1∧∀(σ':List Addr)(M':Addr→Prop),cR ((Cb w h (ν0 W) 0 .nil (U0 la)).re (ν0 W) 0 .nil U) σ' M' h₁ o (aA.getD i 0):=fun i o q=>by
  refine aw (rD q) fun x y=>?_
  rw [x,y];exact⟨Nat.one_pos,fun Y Y=>mX (aD.obj 0 _ (aA.getD 0 0) hl (oi (aD.len▸dS 0 Nat.one_pos))) q1.symm q2.symm q3.symm⟩
 exact aq.eD (s':=ML) (π:=id) aD (by show 1≤1000000;decide) (Nat.zero_le _) dS (fun i j Y Y q=>q) (fun i hi=>absurd hi (Nat.not_lt_zero i)) (fun i Y Y=>Nat.zero_le _) (fun i o q=>(lo i o q).1) (fun i o q σ' M' Y=>(lo i o q).2 σ' M') (vL h0 h1)
theorem Um{rv:Value}{b7:Env}(aD:aq (Cb w h (ν0 W) 0 .nil (U0 la)) aA aP ag h₁)(cS:dk (Cb w h (ν0 W) 0 .nil (U0 la)) Z aA aP own kd cs env b7 h₁)(dS:∀j,j<1→id j<ag.n)
  (p1:lj (az b7 40) (Ka 0)=true)(p2:lj (az b7 36) (Nm (.v 0))=true)(SW:gZ (kd.k ((Cb w h (ν0 W) 0 .nil (U0 la)).nm 184))→dM (fun a=>Z a∨own a) aP env h₁ ((Cb w h (ν0 W) 0 .nil (U0 la)).nm 184) rv):
  dk ((Cb w h (ν0 W) 0 .nil (U0 la)).re (ν0 W) 0 .nil (U1 la rv)) (Jv Z aA (bY aA id 1)) (bY aA id 1) (si aP (bY aA id 1) 0) own kd cs env B9 h₁:=by
 refine aC (dQ p1) fun x1 g1 e1=>?_
 refine aC (dQ p2) fun x2 g2 e2=>?_
 refine cS.km aD dS fun y v' e=>ma.at_ (ρ:=B9) (p:=fun y v'=>gZ (kd.k ((Cb w h (ν0 W) 0 .nil (U0 la)).nm y))→∃Ut,dM (fun a=>Z a∨own a) aP env h₁ ((Cb w h (ν0 W) 0 .nil (U0 la)).nm y) Ut∧ao ((Cb w h (ν0 W) 0 .nil (U0 la)).re (ν0 W) 0 .nil (U1 la rv)) (bY aA id 1) (si aP (bY aA id 1) 0) h₁ v' Ut) ⟨?_,?_,?_,trivial⟩ e
 ·exact cS.tell g1 fun rv V=>aC (vO V (vD e1)) fun x q hx=>q▸.ref 0 x (nP (by decide) hx)
 ·exact cS.tell g2 fun rv V=>aC (BP e2) fun x q e=>k8 (C:=(Cb w h (ν0 W) 0 .nil (U0 la))) (x:=x) (eT (ν0 W) e).symm (q▸V)
 ·exact fun k=>⟨rv,SW k,.mG 1⟩
theorem Hp(B:Base w h la is W)(EV:mC){xs:List Stmt}(hfit:dc (Cb w h (ν0 W) 0 .nil (U0 la)) kd cs iu xs)(F:dk (Cb w h (ν0 W) 0 .nil (U0 la)) Z J M own kd cs env tj st.heap)
  (S:aq (Cb w h (ν0 W) 0 .nil (U0 la)) J M vJ st.heap)(R:bu A 60)(z:cm (Cb w h (ν0 W) 0 .nil (U0 la)) Z J st.heap)(oa:∀a,M₀ a→∃o,h₀.get? a=some o)(Wy:Way h₀ M₀ Z₀ J M Z st.heap)(K:KF w h kd cs env own h₀ M₀ Z₀ st Q):
  ab (Md (Cb w h (ν0 W) 0 .nil (U0 la))) A (execs xs env) Q E st:=by
 rw [xn]at hfit;obtain⟨x1,xr,rfl,SY,hfit⟩:=hfit.split
 obtain⟨x2,xr,rfl,SX,hfit⟩:=hfit.split
 obtain⟨x3,x4,rfl,hB,hS⟩:=hfit.split
 refine aC (fi (ν0 W) Tp) fun x e p=>?_
 refine fN ((sound (J3 B (U0 la) rfl) 3000 (by decide) 60).2.2.1 Kl tj vJ x.1 x.2.1 x.2.2 e kd cs x1 SY Z J M own env A st F S R z _ E ?_)
 intro aA aP h₁ tk Pe G aD cS r;refine aw (Cw p) fun q p=>?_
 cases rR q r
 refine aw (ae p) fun p1 p=>?_
 refine aw (ae p) fun p2 p=>?_
 refine aw (ae p) fun p3 p=>?_
 refine aw (ae p) fun p4 p5=>?_
 have hn:x.2.2.n=1:=aL p4
 have dS:∀j,j<1→id j<x.2.2.n:=fun j hj=>hn.symm▸hj
 refine aC (dQ p3) fun fv g3 p3=>?_
 refine aC (DJ cS g3 p3) fun rv V SW=>?_
 refine Ga (LJ p3 V) fun l d0 d1 EY wF hfig=>?_
 exact F2 (U:=U1 la rv) (st:={st with heap:=h₁,toks:=tk}) B EV EY wF rfl hfig SX.re hB.re hS.re (Um aD cS dS p1 p2 SW) (Ul B.W0 B.W1 aD dS p5) R (cm.eD aD (z.bJ G) dS) oa ((Wy.go G).km aD dS oa) K
end
end
section
def ue:Ih:=⟨fun Y Y Y=>.bad 0,fun Y Y Y=>.bad 0,fun cl ρ s=>@ite _ (cl=iu∧ρ=tj∧s=vJ) (Classical.propDecidable _) (.ok (.rt (.bool true),[],vJ)) (.bad 0),fun Y Y Y=>.bad 0⟩
section
theorem Fu(B:Base w h la is W)(EV:mC):vk (Cb w h (ν0 W) 0 .nil (U0 la)) ue 60:=by
 intro cl ρ s f ρ' s' e kd cs xs hf Z J M own env A st F S R z Q E K;have e:(@ite _ (cl=iu∧ρ=tj∧s=vJ) (Classical.propDecidable _) (aH.ok (Fl.rt (.bool true),([]:Env),vJ)) (.bad 0)).leaf (ν0 W)=some (f,ρ',s'):=e
 by_cases q:cl=iu∧ρ=tj∧s=vJ
 ·rw [if_pos q]at e
  injection e with e;injection e with e aN;subst e;injection aN with aN nu;subst aN nu;obtain⟨rfl,rfl,rfl⟩:=q
  have Dl:J=[]:=by
   have:0=J.length:=S.len
   exact List.length_eq_zero_iff.mp this.symm
  subst Dl;refine Hp (M₀:=M) (Z₀:=Z) (h₀:=st.heap) B EV hf F S R z S.mlt (Way.start _ _ _) ?_
  intro ν nf f0 U σ' M' Z' h' s' ρ' tk Wy S' F';refine K [] M' h' tk _ ⟨⟨[],rfl,fun Y m=>nomatch m⟩,Wy.ext,Wy.more,Wy.fresh⟩ ?_ ?_ ⟨_,rfl,.bool true⟩
  ·exact⟨rfl,by decide,⟨Nat.le_refl 0,fun i hi=>absurd hi (Nat.not_lt_zero i)⟩,.nil,(fun i o e=>by injection e),(fun i o a e Y=>by injection e),(fun i a e Y=>by injection e),(fun i a e Y=>by injection e),(fun a m=>nomatch m),S'.mlt,S'.base,fun p hp=>⟨(S'.tab p hp).1,fun m=>nomatch m⟩,vL B.W0 B.W1⟩
  ·refine⟨⟨F'.f.glob,F'.f.i8,F'.f.kind,F'.f.kinds,F'.f.Ed,F'.f.xd,F'.f.code,fun x v e=>by injection e⟩,fun a x=>⟨(F'.eR a x).1,fun zz=>(F'.eR a x).2 (Wy.keep a zz)⟩,fun a x=>?_,F'.lo,F'.ns,F'.ce,F'.lc,F'.ap,F'.gh⟩
   refine dN (F'.gB a x:) fun a1 a2 a3=>?_
   exact⟨a1,(fun m=>nomatch m),a3⟩
 ·rw [if_neg q]at e
  injection e
theorem DF:A4.get 185=some ⟨[168],[],iu⟩:=by kernel_rfl
theorem O1{tr:BT}{p:Addr×Addr}(e2:UT tr p=true):p.1<1790:=by
 exact bF (ae e2).1
theorem xQ(F:iP (ES w.params) (BR w.params)):∀p∈eI,(kI w.params).get? p.2=some (tabObj #[]):=fun p m=>by
 have e1:=all1 F.tabs m
 have e2:=bT F.hd p m
 have hlt:p.2<1790:=by
  obtain⟨e,he,rfl⟩:=List.mem_map.mp m
  exact Nat.lt_of_le_of_lt (Nat.sub_le e.c 4) (O1 e2)
 unfold kI;rw [abs_get (t:=Aj w.params (gc w.params 259)) hlt e1]
 rfl
theorem C2(B:Base w h la is W)(EV:mC){A:Around}(SY:A.handled=none)(SX:A.depth+125<recursionLimit)(Xm:A.units+763<cLine)(hst:st.heap=h){Q:Value→Shared→Prop}
  (K:∀h' tk,(∀b o,h.get? b=some o→(∀p∈eI,b≠p.2)→h'.get? b=some o)→(∀p∈eI,∃ps,h'.get? p.2=some (tabObj ps))→Q (.bool true) {st with heap:=h',toks:=tk}):ab (model prog w) A (call (.ref (l3 185)) [.ref la] []) Q E st:=by
 have X:=J3 B (U0 la) rfl
 have tb:∀p∈eI,h.get? p.2=some (tabObj #[]):=fun p m=>B.keep _ _ (xQ B.F p m)
 have hide:∀b o,(kb eI h).get? b=some o→h.get? b=some o∧∀p∈eI,b≠p.2:=oe eI h
 have S:aq (Cb w h (ν0 W) 0 .nil (U0 la)) [] (fun a=>∃p∈eI,a=p.2) vJ st.heap:=by
  rw [hst];refine⟨rfl,by decide,⟨Nat.le_refl 0,fun i hi=>absurd hi (Nat.not_lt_zero i)⟩,.nil,(fun i o e=>by injection e),(fun i o a e Y=>by injection e),(fun i a e Y=>by injection e),(fun i a e Y=>by injection e),(fun a m=>nomatch m),?_,?_,?_,vL B.W0 B.W1⟩
  ·rintro a ⟨p,m,rfl⟩;exact⟨_,tb p m⟩
  ·intro b o e
   obtain⟨a1,a2⟩:=hide b o e
   exact⟨fun⟨p,m,q⟩=>a2 p m q,a1⟩
  ·intro p m
   exact⟨⟨#[],⟨p,m,rfl⟩,tb p m,trivial,fun pos cv e=>by injection e⟩,fun x=>nomatch x⟩
 have hleaf:(nN PA ue 185 [.mG 0] vJ).leaf (ν0 W)=some (.bool true,vJ):=by
  have e:ue.xs iu tj vJ=.ok (.rt (.bool true),[],vJ):=if_pos ⟨rfl,rfl,rfl⟩
  have:nN PA ue 185 [.mG 0] vJ=((ue.xs iu tj vJ).bind fun(f,_,s)=>.ok (match f with|.rt v=>v|.nx=>.none,s)):=by
   unfold nN;rw [show PA.fs.get 185=_ from DF]
   rfl
  rw [this,e];rfl
 refine yE (C:=Cb w h (ν0 W) 0 .nil (U0 la)) (P:=PA) (k:=185) (d:=60) (Z:=fun Y=>False) X.lim (Fu B EV) DF (X.fns 185 _ DF) hleaf S ⟨SY,SX,Xm⟩ (fun a x=>x.elim) (.cons (.mG 0) .nil) ?_
 intro σ' M' h' tk rv G S' V;subst V;refine K h' tk (fun b o e hn=>?_) fun p m=>let⟨⟨ps,_,a2,_⟩,_⟩:=S'.tab p m;⟨ps,a2⟩
 rw [hst]at G;exact G.ext.keep b o (fun q=>let⟨p,m,e⟩:=q.1;hn p m e) e
end
end
end
end Mine.Internal
namespace Mine.Internal
open PySem PySem.W PySem.Spec PySem.Calls PyProof.Rows
noncomputable section
theorem Ef:Cl ⟨.builtin "claim.caller" {},none,none,[],none⟩:=⟨by decide+kernel,fun Y m=>nomatch m⟩
theorem An{prog:Program}{w:World}{t:Sem Fin}{s:Shared}{R:Result→Shared→Prop}(hreg:s.asleep)
  (h:ab (model prog w) callerA t (fun fin s'=>∃f,fin=.done f∧(R (.ok f) s'∧leftWithCleanup s'.gens=false)) (fun e s'=>R (.error e) s'∧leftWithCleanup s'.gens=false) s):
  ∃n r s' gN,runN (denote table) prog w n s ⟨t,.builtin "claim.caller" {},default,[]⟩=.halted (outcomeOf r) s'∧
   schedN (denote table) prog w n (.single s ⟨t,.builtin "claim.caller" {},default,[]⟩)=.halted (outcomeOf r) s'∧s'.forget=gN.forget∧R r gN:=by
 have h1:Sem.wp (model prog w) ⟨.builtin "claim.caller" {},none,none,[],none⟩ t (Sem.finPost (model prog w) ⟨.builtin "claim.caller" {},none,none,[],none⟩ fun r s'=>R r s'∧leftWithCleanup s'.gens=false)
   (fun e Y s'=>R (.error e) s'∧leftWithCleanup s'.gens=false) default s:=by
  refine Sem.wp_mono _ _ t (fun fin p' s' h'=>?_) (fun Y Y Y h'=>h') default s (h _ default caller_in Ef)
  obtain⟨f,rfl,hf⟩:=h'
  exact hf
 refine vh (wp_halts_full (M:=model prog w) (R:=R) hreg h1:) fun n r ag aK hs hn hfo hR=>?_
 exact⟨n,r,aK,ag,hn,hs,hfo,hR⟩
theorem pL{c:ClaimW}{tree:List Value→Sem Fin}{w:World}{s:Shared}{free:Addr→Prop}{gens:Prop}{kept:Heap→Prop}(hz:s.asleep)(hgens:s.gens=#[])
  (hspec:∀args,c.pre args=true→WData.layableAll args=true→
   ∀ord:List DictEntry→List DictEntry,(∀l,(ord l).Perm l)→
   ∃vs ag,layAllW c.records (classAt s.heap) w.params ord args s=some (vs,ag)∧
    ab (model c.prog w) callerA (tree vs) (fun fin s'=>∃f,fin=.done f∧(c.Ends s args vs ag (.ok f) s'∧s'.os=s.os∧AllBare s'.gens∧kept s'.heap))
     (fun e s'=>c.Ends s args vs ag (.error e) s'∧s'.os=s.os∧AllBare s'.gens∧kept s'.heap) ag):
  c.CallFrom (fun vs=>⟨tree vs,.builtin "claim.caller" {},default,[]⟩) w free gens kept s:=by
 intro args hpre hlay ord hord;refine eM (hspec args hpre hlay ord hord:) fun vs ag hlaid lx=>?_
 have hal:=layAllW_rest _ _ _ hlaid
 refine vh (An (prog:=c.prog) (w:=w) (t:=tree vs) (s:=ag) (R:=fun r s'=>c.Ends s args vs ag r s'∧s'.os=s.os∧kept s'.heap) (Shared.asleep_of_life hal.2.2.2 hz)
  (aG lx (fun fin s' h=>h.elim fun f h=>⟨f,h.1,⟨h.2.1,h.2.2.1,h.2.2.2.2⟩,leftWithCleanup_false_of_bare h.2.2.2.1⟩) fun e s' h=>⟨⟨h.1,h.2.1,h.2.2.2⟩,leftWithCleanup_false_of_bare h.2.2.1⟩)) fun k r s' gN hrun hsched hfo hR=>?_
 refine K2 (Shared.forget_eq hfo:) fun eh Y Y eo Y=>?_
 have hlife:s'.heap.life=s.heap.life:=(runN_life _ _ _ hrun).trans hal.2.2.2
 refine⟨vs,ag,hlaid,k,_,s',hsched,?_,(fun Y i x hx=>by rw [hgens]at hx;simp at hx),eh▸hR.2.2,by rw [hlife],Shared.rest_eq (eo.trans hR.2.1)⟩
 exact Or.imp (fun h=>h.elim fun v h=>⟨v,congrArg outcomeOf h.1,h.2.1,h.2.2.1,h.2.2.2.1,fun b o y Y=>h.2.2.2.2.1 b o y,h.2.2.2.2.2⟩)
  (fun h=>h.elim fun e h=>h.elim fun ob h=>h.elim fun cls h=>⟨e,ob,cls,congrArg outcomeOf h.1,h.2.1,h.2.2.1,h.2.2.2.1,h.2.2.2.2.1,fun b o y Y=>h.2.2.2.2.2 b o y⟩) (hR.1.congr eh)
abbrev Jw(q:Program)(loose:List Str){α:Type}(Yf:Shared→α)(Ya:World→α)(r:RowW)(d:DefRec):Prop:=
 ∀(w:World)(cL ag:Shared),Yf cL=Ya w→ag.gens=#[]→
  ∀(args:List WData)(vals:List Value)(as:List Addr)(mg mb:Str→Option Value),Ground q loose r.records (fun Y Y=>True) w cL mg mb ag.heap→Laid r.records w cL ag args vals as→r.claim.pre args=true→WData.layableAll args=true→ReadsAllW r.records (classAt cL.heap) ag.heap vals args as→WellAll w.params ag.heap vals args→
   ∀f,mg d.name=some f→
   ab (model r.prog w) callerA (PySem.call f vals) (fun v s'=>GoodWG r.claim (classAt cL.heap) (ExcName.means cL.heap) args ag (.ok (.ret v)) s')
    (fun e s'=>GoodWG r.claim (classAt cL.heap) (ExcName.means cL.heap) args ag (.error e) s') ag
theorem LH{q:Program}{loose:List Str}{R:WRecords}{XP:(Str→Option Value)→Heap→Prop}{w:World}{s:Shared}{mg mb:Str→Option Value}{h:Heap}(G:Ground q loose R XP w s mg mb h){n:Str}{d:DefRec}{kwd:List (Str×Expr)}(pC:defOf q n=some (d,kwd)):∃a,mg n=some (.ref a):=by
 obtain⟨a,_,_,_,_,_,_,h1,_⟩:=G.fn pC
 exact⟨a,h1⟩
theorem wC{r:OpenRow}{q:Program}{loose:List Str}{α:Type}{Yf:Shared→α}{Ya:World→α}{d:DefRec}{kwd:List (Str×Expr)}{N:Nat}
  (left:LeftO r.prog q loose (fun Y=>true) Yf Ya N)
  (pC:defOf q r.name=some (d,kwd))(hp:r.prog.theDef r.name=some (d.params,d.body,d.scope))(hk:kwWritten? d.params.kwonlyargs d.params.kw_defaults=some kwd)(Xk:∀s,RecFacts r.toRowW.records (s:Shared).heap)(QV:(!r.writes||r.records.isEmpty)=true)
  (k1:r.wellSaid=true)(ok:(chainsOk q&&opensWell r.prog&&(frees r.toRowW&&r.within.isEmpty))=true)(hb:r.prog.bare)(hw:r.toRowW.promised)
  (call:Jw q loose Yf Ya r.toRowW d):r.Holds:=by
 refine⟨k1,hw,?_⟩
 refine aw (Bool.and_eq_true_iff.mp ok:) fun ok k5=>?_
 refine aw (Bool.and_eq_true_iff.mp ok:) fun hch o1=>?_
 refine aw (Bool.and_eq_true_iff.mp k5:) fun k5 k6=>?_
 refine K2 (frees_parts k5:) fun hsame hu ha hap hm=>?_
 refine⟨⟨hb,o1,by show r.toRowW.makers.map _=[];rw [hm];rfl⟩,hw.witness,fun w=>⟨(left.behind (XP:=fun Y Y=>True) (fun Y Y=>trivial) hch w).1,fun s' qn=>?_⟩⟩
 refine lM ((left.behind (XP:=fun Y Y=>True) (fun Y Y=>trivial) hch w).2 s' qn:) fun cL hf Xb h=>Uz h fun s hT hz hgens hg G0 y=>?_
 have RF:=Xk s
 have LB:=hT
 refine⟨cL,hf,Xb,s,hT,?_,RF.1,RF.2.1,?_⟩
 ·intro n hn
  have e:n=r.name:=by
   cases q:r.pinned with
   |true=>rw [q]at hn;exact List.mem_singleton.mp hn
   |false=>rw [q]at hn;exact absurd hn List.not_mem_nil
  exact e▸pinned_of_view hg G0 pC hp hk
 have hgens:s.gens=#[]:=Array.eq_empty_of_size_eq_zero (beq_iff_eq.mp hgens)
 have G:Ground q loose r.toRowW.records (fun Y Y=>True) w s _ _ s.heap:=RF.ground G0
 refine pL (c:=r.toRowW.claim) hz hgens fun args hpre hlay ord hord=>?_
 obtain⟨⟨vs,ag⟩,hlaid⟩:=Option.isSome_iff_exists.mp (layAllW_isSome (P:=w.params) (ord:=ord) G.has args r.toRowW.args s (pre_splitW hpre).1)
 have keeps:=layAllW_keeps _ _ _ hlaid
 have hal:=layAllW_rest _ _ _ hlaid
 refine lM (reads_layAllW hord _ _ _ hlaid hlay ag.heap (fun Y Y e=>e):) fun as hrd hin hold=>?_
 have L:Laid r.toRowW.records w s ag args vs as:=⟨⟨ord,hord,hlaid⟩,hrd,hin,hold,keeps,hal.1.trans hgens,hal.2.2.1⟩
 have aF:=G.keeps (fun Y Y Y x Y=>x) keeps
 refine dF (LH aF pC) fun a h1=>?_
 have h:=call w s ag y L.gens args vs as _ _ aF L hpre hlay L.reads L.well _ (defOf_name pC▸h1)
 have hi:=ident_freeW hu ha hap
 have hwi:r.toRowW.claim.within=[]:=List.isEmpty_iff.mp k6
 refine⟨vs,ag,hlaid,?_⟩
 refine aa (lf (PySem.wpAny_nsGet aF.T.g ?_))
 rw [h1];exact aa (aG h (fun v s' g=>af ⟨_,rfl,have z:=g.laid (c:=r.toRowW.claim) hsame hwi hi L;⟨z.1,z.2.1,z.2.2,fun q=>⟨namesKept_of LB hg _ keeps g.2.1.old,noTable QV q⟩⟩⟩) fun e s' g=>have z:=g.laid (c:=r.toRowW.claim) hsame hwi hi L;⟨z.1,z.2.1,z.2.2,fun q=>⟨namesKept_of LB hg _ keeps g.2.1.old,noTable QV q⟩⟩)
end
end Mine.Internal
namespace Mine.Internal
open PySem PySem.W PyProof.Rows PySem.SeqAt
noncomputable section
section
noncomputable abbrev row:=(PySem.Challenge.rw_pq0659_01).row
theorem uh{R:WRecords}:∀{xs:List WData},WShape.hasItems R xs .int=true→∃is:List Int,xs=is.map .int
 |[],_=>⟨[],rfl⟩
 |d::r,h=>by
  unfold WShape.hasItems at h;refine aw (ae h:) fun h1 h2=>?_
  obtain⟨i,rfl⟩:=hasW_int h1
  obtain⟨is,rfl⟩:=uh h2
  exact⟨i::is,rfl⟩
theorem ub{P:Params}{h:Heap}:∀{is:List Int}{vs:List Value},WellAll P h vs (is.map .int)→∀(C:Cx) J M h',ay C J M h' (cI is) vs
 |[],_,.nil,_,_,_,_=>.nil
 |i::is,_,.cons a r,C,J,M,h'=>by
  cases a;exact .cons (.int _ _ _ rfl) (ub r C J M h')
theorem EC{args:List WData}(hp:row.toRowW.claim.pre args=true):∃is:List Int,args=[.list (is.map .int)]∧is.length≤63:=by
 refine aw (pre_splitW hp:) fun h1 h2=>?_
 obtain⟨d,r,rfl,h3,h4⟩:=hasAllW_cons h1
 have:=hasAllW_nil h4
 subst this;obtain⟨xs,rfl,h5⟩:=hasW_list h3
 obtain⟨is,rfl⟩:=uh h5
 refine⟨is,rfl,?_⟩
 rcases Nat.lt_or_ge 63 is.length with q|q
 ·exfalso
  have e:WTm.holds row.toRowW.records row.toRowW.pre {args:=[.list (is.map .int)]}=false:=by
   show WTm.holds [] (.and (.not (.lt (.lit (.int 63)) (.len (.arg 0)))) (.lit (.bool true))) {args:=[.list (is.map .int)]}=false
   have hl:(List.map WData.int is).length=is.length:=List.length_map ..
   have d:decide ((63:Int)<((List.map WData.int is).length:Int))=true:=decide_eq_true (by rw [hl];lia)
   exact congrArg (fun b=>WTm.holds [] (.and (.not (.lit (.bool b))) (.lit (.bool true))) {args:=[.list (is.map .int)]}) d
  rw [e]at h2;injection h2
 ·exact q
structure Known:Prop where
 N:kG
 F:∀w:World,iP (ES w.params) (BR w.params)
 E:mC
def dd:DefRec:=match defOf qv row.name with|some (d,_)=>d|none=>⟨row.name,default,[],default,default⟩
theorem pC:defOf qv row.name=some (dd,[]):=by kernel_rfl
theorem zk{P:Params}{h:Heap}{vals:List Value}{is:List Int}(WA:WellAll P h vals [.list (is.map .int)]):∃la vs,∃_:Unit,vals=[.ref la]∧h.get? la=some {cls:=.type "list",data:=.seq (vs:List Value).toArray}∧WellAll P h vs (is.map .int)∧True:=by
 cases WA with
 |cons wl wn=>
 cases wn;cases wl with
 |@list la vs _ hl wa=>exact⟨la,vs,(),rfl,hl,wa,trivial⟩
theorem BA(Kn:Known):Jw qv loose (fun s=>s.heap) (fun w=>kI w.params) row.toRowW dd:=by
 intro w cL ag hY hg args vals as mg mb G L hpre hlay RA WA f hf;have hY:cL.heap=kI w.params:=hY
 clear RA hlay;refine aC (EC hpre:) fun is Xg hlen=>?_
 clear hpre;subst Xg;refine lM (Ac is hlen:) fun W W0 W1 hW=>?_
 refine o7 (zk WA:) fun la vs Y WW hl wa Y=>?_
 subst WW;have hk:∀b o,(kI w.params).get? b=some o→ag.heap.get? b=some o:=fun b o e=>L.keeps b o (hY▸e)
 have tb:∀p∈eI,(kI w.params).get? p.2=some (tabObj #[]):=xQ (Kn.F w)
 have nt:∀p∈eI,la≠p.2:=fun p m e=>by
  have:=hk _ _ (tb p m)
  rw [←e,hl]at this;cases this
 have B:Base w ag.heap la is W:=⟨vs,0,Kn.N,Kn.F w,hk,hl,ub wa,nt,W0,W1,hW⟩
 have HG:=pW (Kn.F w) hk
 have hd:=(Kn.F w).yL
 refine aw (ae hd:) fun d1 Y=>?_
 refine aw (lC HG d1 (by rfl):) fun N1 E1=>?_
 have N2:ag.heap.Ns mainGlobals ((kb eI ag.heap).nsMap 3):=N1.keeps fun b o e=>(oe eI _ b o e).1
 refine aC (bl (Kn.F w).WO:) fun v hfind hlaw=>?_
 refine aC (bl hlaw:) fun a hv ha=>?_
 have ha:=aL ha
 have hmg:mg=(kb eI ag.heap).nsMap 3:=G.T.g.eq_nsMap.trans N2.eq_nsMap.symm
 have hname:dd.name=("law":Str):=defOf_name pC
 have hfv:f=.ref (l3 185):=by
  rw [hmg,hname,E1,hfind]at hf;rw [←bg hf,pV hv,ha]
 subst hfv;refine C2 B Kn.E rfl (by decide) (by decide) rfl fun h' tk keep tabs=>?_
 refine⟨.inl ⟨.bool true,.bool true,[],rfl,fun Y=>rfl,.bool true,by kernel_rfl,fun Y=>⟨.nil,fun Y m=>nomatch m⟩⟩,⟨fun b o e=>?_,fun b o e=>?_⟩,rfl,?_⟩
 ·by_cases q:∃p∈eI,b=p.2
  ·obtain⟨p,m,rfl⟩:=q
   right;left
   have e0:=hk _ _ (tb p m)
   rw [e]at e0;have e0:=bg e0
   refine(tabs p m).elim fun ps e3=>⟨?_,e0▸rfl,#[],ps,e0▸rfl,?_⟩
   ·clear e e0 tabs keep e3
    obtain⟨o,vg,file,tf,flags,tg,XS,text,tt,c1,c2,c3,c4,_⟩:=(C3 (w:=w) (ν:=ν0 W) (nf:=0) (f0:=.nil) (K:=oj (ES w.params)) (U:=U0 la) HG (Kn.F w)).hd p m
    exact⟨p.1,o,vg,(oe eI _ _ _ c1).1,c2,c3,c4⟩
   ·rw [e3,e0];simp
  ·exact .inl (keep b o e fun p m z=>q ⟨p,m,z⟩)
 ·by_cases q:∃p∈eI,b=p.2
  ·obtain⟨p,m,rfl⟩:=q
   obtain⟨ps,e3⟩:=tabs p m
   exact⟨_,e3⟩
  ·exact⟨o,keep b o e fun p m z=>q ⟨p,m,z⟩⟩
 ·show AllBare ag.gens
  rw [hg];exact AllBare.empty
end
section
theorem W3:row.prog.theDef row.name=some (dd.params,dd.body,dd.scope):=by kernel_rfl
theorem QW:kwWritten? dd.params.kwonlyargs dd.params.kw_defaults=some []:=by kernel_rfl
theorem RQ:row.toRowW.records=[]:=by kernel_rfl
theorem SH:(chainsOk qv&&opensWell row.prog&&(frees row.toRowW&&row.within.isEmpty))=true:=by kernel_rfl
theorem QV:(!row.writes||row.records.isEmpty)=true:=by kernel_rfl
theorem zB(left:LeftO prog qv loose (fun Y=>true) (fun s=>s.heap) (fun w=>kI w.params) 30000)(k1:row.wellSaid=true)(hb:row.prog.bare)(hw:row.toRowW.promised)(Kn:Known):row.Holds:=
 wC (r:=row) (q:=qv) (loose:=loose) (Yf:=fun s=>s.heap) (Ya:=fun w=>kI w.params) (N:=30000) left pC W3 QW (fun Y=>recFacts_nil RQ) QV k1 SH hb hw (BA Kn)
end
section
theorem LL:kG:=⟨by kernel_rfl,by kernel_rfl,by kernel_rfl,by kernel_rfl,by kernel_rfl,by kernel_rfl,by kernel_rfl,by kernel_rfl⟩
theorem LM:∀(w:World)(_:OsState),iP (ES w.params) (BR w.params):=fV (fun w Y=>iP (ES w.params) (BR w.params)) ⟨by kernel_rfl,by kernel_rfl,by kernel_rfl,by kernel_rfl,by kernel_rfl,by kernel_rfl,by kernel_rfl,by kernel_rfl,by kernel_rfl,by kernel_rfl,by kernel_rfl,by kernel_rfl,by kernel_rfl,by kernel_rfl⟩
end
section
theorem nK(P:Params):∀(l m:List Stmt)(s:TS),kj P (l++m) s=kj P m (kj P l s)
 |[],_,_=>rfl
 |x::l,m,s=>nK P l m (IA P s x)
theorem zo(P:Params){a b:Nat}(h:a≤b):gc P b=kj P (part a b) (gc P a):=by
 unfold gc part;rw [←nK]
 congr 1
 have:b=a+(b - a):=(Nat.add_sub_cancel' h).symm
 conv=>lhs;rw [this]
 exact List.take_add
theorem jq{a b c:Nat}(h:a≤b)(h':b≤c):part a c=part a b++part b c:=by
 unfold part;have:c - a=(b - a)+(c - b):=((Nat.add_comm _ _).trans (Nat.sub_add_sub_cancel h' h)).symm
 rw [this,List.take_add,List.drop_drop];rw [Nat.add_sub_cancel' h]
theorem FY(w:World)(os:OsState):topGo treeTable prog w 11 (some (.ref 6)) 12 ⟨boot_heap w.params,#[],boot_drawn,boot_toks,os⟩ (topStub prog)=some ((FG w os (QM w.params)).abs,⟨denote treeTable codeB,codeB,fR,[topFrame fR]⟩):=by kernel_rfl
theorem AD(w:World)(os:OsState):segRunT treeTable prog w 11 (some (.ref 6)) 1 1 (FG w os (QM w.params)) (blockOf body LV codeB fR [topFrame fR])=some (.next,FG w os (QM w.params),codeB,fR):=by kernel_rfl
theorem En:part 0 259=body:=by kernel_rfl
theorem F5:opening prog=plainProg prog.main.scope.names:=by kernel_rfl
theorem DL(s:Shared):fenceModules? prog s=some s:=by kernel_rfl
theorem GU(w:World)(os:OsState)(s:TS):topRun treeTable prog w 11 (some (.ref 6)) 2 (FG w os s).abs ⟨doneF .next,codeB,posAt 259,[topFrame fR]⟩=some (FG w os s).abs:=by kernel_rfl
theorem Fp(w:World)(os:OsState)(p1:fc 0 50 4000)(p2:fc 50 100 4000)(p3:fc 100 145 4000)(p4:fc 145 190 4000)(p5:fc 190 225 4000)(p6:fc 225 259 4000):
  topRun treeTable prog w 11 (some (.ref 6)) (12+(1+(4000+(4000+(4000+(4000+(4000+(4000+2)))))))) ⟨boot_heap w.params,#[],boot_drawn,boot_toks,os⟩ (topStub prog)=some (FG w os (gc w.params 259)).abs:=by
 have q1:=segRun_of (p1 w os)
 have q2:=segRun_of (p2 w os)
 have q3:=segRun_of (p3 w os)
 have q4:=segRun_of (p4 w os)
 have q5:=segRun_of (p5 w os)
 have q6:=segRun_of (p6 w os)
 rw [←zo w.params (by decide)]at q1 q2 q3 q4 q5 q6
 have hb:body=part 0 50++(part 50 100++(part 100 145++(part 145 190++(part 190 225++(part 225 259++([])))))):=by
  rw [List.append_nil,←jq (by decide) (by decide),←jq (by decide) (by decide),←jq (by decide) (by decide),←jq (by decide) (by decide),←jq (by decide) (by decide),En]
 refine go_top (FY w os) ?_
 refine piece_block (segRun_of (AD w os)) ?_
 rw [hb];exact piece_app q1 (piece_app q2 (piece_app q3 (piece_app q4 (piece_app q5 (piece_app q6 (piece_nil (GU w os _)))))))
end
section
theorem So:∀(w:World)(_:OsState),staticsOk mods (boot_heap w.params) (kI w.params)=true:=fV (fun w Y=>staticsOk mods (boot_heap w.params) (kI w.params)=true) (by kernel_rfl)
theorem Sn:∀(w:World)(_:OsState),laidKept (boot_heap w.params) (kI w.params)=true:=fV (fun w Y=>laidKept (boot_heap w.params) (kI w.params)=true) (by kernel_rfl)
noncomputable def oy(k:Nat):List Str→Option Str
 |[]=>none
 |s::r=>match Nat.beq (jX s) k with
  |true=>some s
  |false=>oy k r
def qA(bn:List Str)(n:Str):Bool:=(oy (jX n) bn).any fun s=>s==n||bn.contains n
theorem Ai{k:Nat}{s:Str}{l:List Str}(h:oy k l=some s):s∈l:=by
 induction l with
 |nil=>exact no h
 |cons a r ih=>
  unfold oy at h;cases q:Nat.beq (jX a) k with
  |true=>rw [q]at h;exact bg h▸bS
  |false=>rw [q]at h;exact cq _ (ih h)
theorem wG{n:Str}{l:List Str}(h:oy (jX n) l=none):n∉l:=by
 induction l with
 |nil=>exact List.not_mem_nil
 |cons a r ih=>
  unfold oy at h;cases q:Nat.beq (jX a) (jX n)with
  |true=>rw [q]at h;injection h
  |false=>
   rw [q]at h;intro hm;rcases cK hm with rfl|hm
   ·rw [Nat.beq_refl]at q;injection q
   ·exact ih h hm
theorem DM(bn:List Str)(n:Str):qA bn n=bn.contains n:=by
 unfold qA;cases e:oy (jX n) bn with
 |none=>exact(Bool.eq_false_iff.mpr fun h=>wG e (List.contains_iff_mem.mp h)).symm
 |some s=>
  show(s==n||bn.contains n)=bn.contains n;cases q:s==n with
  |true=>rw [←beq_iff_eq.mp q];exact(List.contains_iff_mem.mpr (Ai e)).symm
  |false=>rfl
theorem Oo{p:Program}{h:Heap}(e:(h.isNs mainGlobals&&(h.nsKeys mainGlobals).all fun k=>startupNames.contains k||qA p.boundNames k)=true):namesBound p h=true:=by
 unfold namesBound;rw [show(fun k=>startupNames.contains k||p.boundNames.contains k)=fun k=>startupNames.contains k||qA p.boundNames k from funext fun k=>by rw [DM]]
 exact e
theorem Sl:∀(w:World)(_:OsState),((kI w.params).isNs mainGlobals&&((kI w.params).nsKeys mainGlobals).all fun k=>startupNames.contains k||qA prog.boundNames k)=true:=fV (fun w Y=>((kI w.params).isNs mainGlobals&&((kI w.params).nsKeys mainGlobals).all fun k=>startupNames.contains k||qA prog.boundNames k)=true) (by kernel_rfl)
theorem Sm(w:World)(_:OsState):namesBound prog (kI w.params)=true:=Oo (Sl w {})
def Sf(w:World)(os:OsState):Shared:=⟨kI w.params,#[],boot_drawn,(gc w.params 259).t,os⟩
theorem sk:∀(w:World)(os:OsState),openSeen qv loose mods (fun Y=>true) true (Sf w os)=openGood qv loose:=fV (fun w os=>openSeen qv loose mods (fun Y=>true) true (Sf w os)=openGood qv loose) (by kernel_rfl)
theorem WL(w:World):staticsOk mods (boot_heap w.params) (kI w.params)=true:=So w {}
theorem WK(w:World):laidKept (boot_heap w.params) (kI w.params)=true:=Sn w {}
theorem WJ(w:World):namesBound prog (kI w.params)=true:=Sm w {}
end
section
theorem ET:∀(w:World)(_:OsState),((gc w.params 259).n,(gc w.params 259).t)=(1790,2755):=fV (fun w Y=>((gc w.params 259).n,(gc w.params 259).t)=(1790,2755)) (by kernel_rfl)
theorem tk(w:World):((gc w.params 259).n,(gc w.params 259).t)=(1790,2755):=ET w {}
theorem sz(w:World):((boot_heap w.params).isNs mainGlobals&&(Array.mk []:Array GenState).size==0,(boot_heap w.params).objs.size,(boot_heap w.params).nsMap mainGlobals "__annotations__")=(true,11,some (.ref 6)):=by kernel_rfl
theorem Gp(p1:fc 0 50 4000)(p2:fc 50 100 4000)(p3:fc 100 145 4000)(p4:fc 145 190 4000)(p5:fc 190 225 4000)(p6:fc 225 259 4000):LeftO prog qv loose (fun Y=>true) (fun s=>s.heap) (fun w=>kI w.params) 30000:=by
 have e:∀(w:World)(os:OsState),(FG w os (gc w.params 259)).abs=⟨kI w.params,#[],boot_drawn,2755,os⟩:=fun w os=>by
  have t:=tk w
  have t1:(gc w.params 259).n=1790:=congrArg Prod.fst t
  have t2:(gc w.params 259).t=2755:=congrArg Prod.snd t
  show(⟨absHeap (Aj w.params (gc w.params 259)) (gc w.params 259).n (boot_heap w.params).life,#[],boot_drawn,(gc w.params 259).t,os⟩:Shared)=_;rw [t1,t2]
  rfl
 refine LeftO.of_pieces (H₀:=boot_heap) (H₁:=kI) (gs₀:=Array.mk []) (gs₁:=#[]) (d₀:=boot_drawn) (d₁:=boot_drawn) (k₀:=boot_toks) (k₁:=2755) (m₀:=11) (ann:=some (.ref 6)) (M:=12+(1+(4000+(4000+(4000+(4000+(4000+(4000+2))))))))
  (boot_open F5 (by decide) DL) sz (fun w os=>(Fp w os p1 p2 p3 p4 p5 p6).trans (congrArg some (e w os))) (by decide) fun w=>funext fun os=>?_
 have k:=sk w os
 have t2:(gc w.params 259).t=2755:=congrArg Prod.snd (tk w)
 unfold Sf at k;rw [t2]at k;refine Prod.ext ?_ (Prod.ext k rfl);show(staticsOk mods (boot_heap w.params) (kI w.params)&&namesBound prog (kI w.params)&&true&&laidKept (boot_heap w.params) (kI w.params))=true;rw [WL,WK,WJ];rfl
end
section
theorem TB:G5 0 0=true:=by kernel_rfl
theorem TA:G5 0 1=true:=by kernel_rfl
theorem Tz:G5 0 2=true:=by kernel_rfl
theorem Tw:G5 0 3=true:=by kernel_rfl
theorem Tv:G5 1 0=true:=by kernel_rfl
theorem Tu:G5 1 1=true:=by kernel_rfl
theorem Tt:G5 1 2=true:=by kernel_rfl
theorem Ts:G5 1 3=true:=by kernel_rfl
theorem PN:uH 0 0 true=true:=by kernel_rfl
theorem PO:uH 0 0 false=true:=by kernel_rfl
theorem PL:uH 0 1 true=true:=by kernel_rfl
theorem PM:uH 0 1 false=true:=by kernel_rfl
theorem PJ:uH 0 2 true=true:=by kernel_rfl
theorem PK:uH 0 2 false=true:=by kernel_rfl
theorem PG:uH 0 3 true=true:=by kernel_rfl
theorem PI:uH 0 3 false=true:=by kernel_rfl
theorem PE:uH 1 0 true=true:=by kernel_rfl
theorem PF:uH 1 0 false=true:=by kernel_rfl
theorem PB:uH 1 1 true=true:=by kernel_rfl
theorem PC:uH 1 1 false=true:=by kernel_rfl
theorem Py:uH 1 2 true=true:=by kernel_rfl
theorem Pz:uH 1 2 false=true:=by kernel_rfl
theorem Pw:uH 1 3 true=true:=by kernel_rfl
theorem Px:uH 1 3 false=true:=by kernel_rfl
theorem et:MU.all (MK Q4 dj gK 78 3000 40)=true:=by kernel_rfl
theorem Pu:mC:=by
 refine⟨fun f a hf ha=>?_,fun f a l hf ha=>?_,et⟩
 ·have hf:f=0∨f=1:=by lia
  have ha:a=0∨a=1∨a=2∨a=3:=by lia
  rcases hf with rfl|rfl
  ·rcases ha with rfl|rfl|rfl|rfl
   ·exact TB
   ·exact TA
   ·exact Tz
   ·exact Tw
  ·rcases ha with rfl|rfl|rfl|rfl
   ·exact Tv
   ·exact Tu
   ·exact Tt
   ·exact Ts
 ·have hf:f=0∨f=1:=by lia
  have ha:a=0∨a=1∨a=2∨a=3:=by lia
  cases l
  ·rcases hf with rfl|rfl
   ·rcases ha with rfl|rfl|rfl|rfl
    ·exact PO
    ·exact PM
    ·exact PK
    ·exact PI
   ·rcases ha with rfl|rfl|rfl|rfl
    ·exact PF
    ·exact PC
    ·exact Pz
    ·exact Px
  ·rcases hf with rfl|rfl
   ·rcases ha with rfl|rfl|rfl|rfl
    ·exact PN
    ·exact PL
    ·exact PJ
    ·exact PG
   ·rcases ha with rfl|rfl|rfl|rfl
    ·exact PE
    ·exact PB
    ·exact Py
    ·exact Pw
end
end
end Mine.Internal
namespace Mine.Internal
open PySem PySem.W PyProof.Rows
open TablesWhole
noncomputable section
theorem pk(top:Scope)(cx:TablesWhole.Ctx)(sc:Scope)(a b:List Stmt):wSs holds top cx sc (a++b)=(wSs holds top cx sc a&&wSs holds top cx sc b):=by
 induction a with
 |nil=>rfl
 |cons s r ih=>
  show(wS holds top cx sc s&&wSs holds top cx sc (r++b))=((wS holds top cx sc s&&wSs holds top cx sc r)&&wSs holds top cx sc b);rw [ih,Bool.and_assoc]
theorem nE(top:Scope)(cx:TablesWhole.Ctx)(sc:Scope)(a b:List Stmt):wSs gather top cx sc (a++b)=(wSs gather top cx sc a++wSs gather top cx sc b):=by
 induction a with
 |nil=>rfl
 |cons s r ih=>
  show(wS gather top cx sc s++wSs gather top cx sc (r++b))=((wS gather top cx sc s++wSs gather top cx sc r)++wSs gather top cx sc b);rw [ih,List.append_assoc]
theorem Ki(top:Scope)(cx:TablesWhole.Ctx)(sc:Scope)(l:List Stmt)(i k:Nat)(h:wSs holds top cx sc ((l.drop i).take k)=true)(r:wSs holds top cx sc (l.drop (i+k))=true):wSs holds top cx sc (l.drop i)=true:=by
 rw [←List.take_append_drop k (l.drop i),pk,h,List.drop_drop,r];rfl
theorem Kj(top:Scope)(cx:TablesWhole.Ctx)(sc:Scope)(l:List Stmt)(i k:Nat)(h:(wSs gather top cx sc ((l.drop i).take k)).isEmpty=true)(r:(wSs gather top cx sc (l.drop (i+k))).isEmpty=true):(wSs gather top cx sc (l.drop i)).isEmpty=true:=by
 rw [←List.take_append_drop k (l.drop i),nE,List.isEmpty_iff.mp h,List.drop_drop,List.isEmpty_iff.mp r];rfl
theorem Bz(m:Module)(hg:(wSs gather m.scope ⟨m.scope,[],[],[],none⟩ m.scope (m.body.drop 0)).isEmpty=true)(hn:noTwice m.scope=true)
  (hh:wSs holds m.scope ⟨m.scope,[],[],[],none⟩ m.scope (m.body.drop 0)=true):wModule holds m=true:=by
 rw [List.drop_zero]at hg hh;unfold wModule;simp only[List.isEmpty_iff.mp hg];show(true&&(noTwice m.scope&&(wSs holds m.scope ⟨m.scope,[],[],[],none⟩ m.scope m.body&&true)))=true;rw [hn,hh];rfl
theorem FW(p:Program)(h:wModule holds p.main=true)(h1:p.modules=[])(h2:p.parses=[])(h3:p.harvested=[]):p.tablesWhole=true:=by
 show(wModule holds p.main&&(Alg.all holds (p.modules.map _)&&(Alg.all holds (p.parses.map _)&&(Alg.all holds (p.harvested.map _)&&true))))=true;rw [h,h1,h2,h3];rfl
noncomputable abbrev pw:=PySem.Challenge.pw_pq0659_01
noncomputable def nR:Scope:=pw.main.scope
def EU:TablesWhole.Ctx:=⟨nR,[],[],[],none⟩
noncomputable def jo:List Stmt:=pw.main.body
abbrev H2(i:Nat):Prop:=(wSs holds nR EU nR ((jo.drop i).take 33)&&(wSs gather nR EU nR ((jo.drop i).take 33)).isEmpty)=true
theorem gV(i:Nat)(h:H2 i)(r:wSs holds nR EU nR (jo.drop (i+33))=true∧(wSs gather nR EU nR (jo.drop (i+33))).isEmpty=true):wSs holds nR EU nR (jo.drop i)=true∧(wSs gather nR EU nR (jo.drop i)).isEmpty=true:=
 ⟨Ki nR EU nR jo i 33 (Bool.and_eq_true_iff.mp h).1 r.1,Kj nR EU nR jo i 33 (Bool.and_eq_true_iff.mp h).2 r.2⟩
theorem V0:H2 0:=by kernel_rfl
theorem VZ:H2 33:=by kernel_rfl
theorem VY:H2 66:=by kernel_rfl
theorem VX:H2 99:=by kernel_rfl
theorem VW:H2 132:=by kernel_rfl
theorem VT:H2 165:=by kernel_rfl
theorem VS:H2 198:=by kernel_rfl
theorem VR:H2 231:=by kernel_rfl
theorem J8:jo.drop 264=[]:=by kernel_rfl
theorem BL:wSs holds nR EU nR (jo.drop 0)=true∧(wSs gather nR EU nR (jo.drop 0)).isEmpty=true:=gV 0 V0 (gV 33 VZ (gV 66 VY (gV 99 VX (gV 132 VW (gV 165 VT (gV 198 VS (gV 231 VR (J8▸⟨rfl,rfl⟩))))))))
theorem wH{l:List (Str×NameKind)}(nd:(l.map fun p=>jX p.1).Nodup)(p:Str×NameKind)(hp:p∈l):l.filter (·.1==p.1)=[p]:=by
 induction l with
 |nil=>exact absurd hp List.not_mem_nil
 |cons q r ih=>
  rw [List.map_cons,List.nodup_cons]at nd;rcases cK hp with rfl|hp
  ·rw [List.filter_cons_of_pos (p:=fun x:Str×NameKind=>x.1==p.1) (beq_self_eq_true _),List.filter_eq_nil_iff.mpr fun x hx h=>nd.1 (List.mem_map.mpr ⟨x,hx,congrArg jX (beq_iff_eq.mp h)⟩)]
  ·have:¬(q.1==p.1)=true:=fun h=>nd.1 (List.mem_map.mpr ⟨p,hp,congrArg jX (beq_iff_eq.mp h).symm⟩)
   rw [List.filter_cons_of_neg (p:=fun x:Str×NameKind=>x.1==p.1) this];exact ih nd.2 hp
theorem F7(sc:Scope)(h:gC (sc.names.map fun p=>jX p.1)=true):noTwice sc=true:=by
 unfold noTwice;rw [List.all_eq_true];intro⟨n,k⟩ hp;have e:sc.names.filter (·.1==n)=[(n,k)]:=wH (il h) (n,k) hp
 dsimp only
 rw [e]
theorem once:noTwice nR=true:=F7 nR (by kernel_rfl)
theorem tw:PySem.Challenge.pw_pq0659_01.tablesWhole=true:=FW _ (Bz _ BL.2 once BL.1) rfl rfl rfl
theorem HH:(PySem.Challenge.rw_pq0659_01).row.prog.bare:=⟨rfl,rfl,rfl,rfl,rfl,tw⟩
theorem FV:(PySem.Challenge.rw_pq0659_01).row.toRowW.promised:=⟨[.list []],by kernel_rfl,by kernel_rfl⟩
end
end Mine.Internal
namespace Mine.Internal
open PySem PySem.W PyProof.Rows PySem.SeqAt
noncomputable section
noncomputable abbrev ll:OpenLaw:=PySem.Challenge.rw_pq0659_01
theorem tP(lk:Look)(l:List Stmt)(k:Nat)(h1:noRoadLSs lk (l.take k)=true)(h2:noRoadLSs lk (l.drop k)=true):noRoadLSs lk l=true:=by
 induction l generalizing k with
 |nil=>rfl
 |cons x r ih=>
  cases k with
  |zero=>exact h2
  |succ k=>exact look_both (ae h1).1 (ih k (ae h1).2 h2)
noncomputable def tX:Look:={strict:=!(importedModules ll.row.prog.main.body).all cThrough.contains,foot:=none,bare:=(["vars","dir","locals"]:List Str).filter (readsOut ll.row.prog ll.row.prog.main.body)}
theorem VO:namesResolve ll.row.prog=true:=by kernel_rfl
theorem VN:noRoadLSs tX (ll.row.prog.main.body.take 90)=true:=by kernel_rfl
theorem VM:noRoadLSs tX ((ll.row.prog.main.body.drop 90).take 90)=true:=by kernel_rfl
theorem VK:noRoadLSs tX ((ll.row.prog.main.body.drop 90).drop 90)=true:=by kernel_rfl
theorem VJ:(namesMeet ll.row.prog ll.row.prog.main.body fun Y n=>attrL n)=true:=by kernel_rfl
theorem VI:(sreFenced ll.row.prog.main&&((moduleNames ll.row.prog.main.body).isEmpty||lookedIntoSs (moduleNames ll.row.prog.main.body) ll.row.prog.main.body))=true:=by kernel_rfl
theorem VH:ll.row.prog.boundNames.all (fun n=>!worldNames.contains n)=true:=by kernel_rfl
theorem VG:looksOpen ll.row.prog=true:=look_both (look_both (look_both (look_both VI VO) VH) (tP tX _ 90 VN (tP tX _ 90 VM VK))) VJ
theorem VF:ll.row.wellSaid=true:=by
 unfold OpenRow.wellSaid OpenRow.partSaid
 iterate 15 refine look_both ?_ (by kernel_rfl)
 exact VG
theorem Rk:(namesMeet ll.prog ll.above fun Y n=>!ll.own.contains n)=true:=by kernel_rfl
theorem Rj:(ll.prog.main.body.flatMap importedNames).all (fun n=>!ll.reads n||(drawsOf n ll.prog.main.body).all fun mn=>mn.2 !=("attrgetter":Str)&&mn.2 !=("methodcaller":Str))=true:=by kernel_rfl
theorem Ri:ll.wellSaid=true:=by
 unfold OpenLaw.wellSaid;refine look_both ?_ (by kernel_rfl)
 refine look_both ?_ Rk
 iterate 4 refine look_both ?_ (by kernel_rfl)
 refine look_both ?_ Rj
 iterate 11 refine look_both ?_ (by kernel_rfl)
 exact VF
end
end Mine.Internal
open PySem PySem.W PyProof.Rows
theorem PySem.Challenge.cw_pq0659_01_holds : PySem.Challenge.rw_pq0659_01.Holds := by
 refine holds_law Mine.Internal.Ri fun said=>?_
 exact Mine.Internal.zB (Mine.Internal.Gp Mine.Internal.Wj Mine.Internal.Wh Mine.Internal.Wg Mine.Internal.Wf Mine.Internal.We Mine.Internal.Wc) said Mine.Internal.HH Mine.Internal.FV ⟨Mine.Internal.LL,fun w=>Mine.Internal.LM w {},Mine.Internal.Pu⟩
