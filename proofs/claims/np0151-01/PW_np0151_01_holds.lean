import PyProof.Rows.All
import Wide.All
import OpenK.AllK
import Wide.FinOn
import Lean
import PySem.Challenge.RW_np0151_01
set_option Elab.async false
set_option linter.all false
set_option bootstrap.genMatcherCode false
section
namespace Mine
theorem ff {p:Prop}(h:false=true):p:=nomatch h
theorem tf {p:Prop}(h:true=false):p:=nomatch h
theorem nS {α:Type}{a:α}{p:Prop}(h:none=some a):p:=nomatch h
theorem sN {α:Type}{a:α}{p:Prop}(h:some a=none):p:=nomatch h
theorem gg {G:Prop}(h:∀ T:Prop,(G→T)→T):G:=h G id
theorem sj {α:Type}{a b:α}(h:some a=some b):a=b:=Option.some.inj h
theorem ar {p q G:Prop}(h:p∧q) (k:p→q→G):G:=k h.1 h.2
theorem bW {p q r G:Prop}(h:p∧q∧r) (k:p→q→r→G):G:=k h.1 h.2.1 h.2.2
theorem uO {p q r s G:Prop}(h:p∧q∧r∧s) (k:p→q→r→s→G):G:=k h.1 h.2.1 h.2.2.1 h.2.2.2
theorem O9 {p q r s t G:Prop}(h:p∧q∧r∧s∧t) (k:p→q→r→s→t→G):G:=k h.1 h.2.1 h.2.2.1 h.2.2.2.1 h.2.2.2.2
theorem QR {p q r s t u G:Prop}(h:p∧q∧r∧s∧t∧u) (k:p→q→r→s→t→u→G):G:=k h.1 h.2.1 h.2.2.1 h.2.2.2.1 h.2.2.2.2.1 h.2.2.2.2.2
theorem KJ {p q r s t u v G:Prop}(h:p∧q∧r∧s∧t∧u∧v) (k:p→q→r→s→t→u→v→G):G:=k h.1 h.2.1 h.2.2.1 h.2.2.2.1 h.2.2.2.2.1 h.2.2.2.2.2.1 h.2.2.2.2.2.2
theorem aj {α:Type}{p:α→Prop}{G:Prop}(h:∃ a,p a) (k:∀ a,p a→G):G:=h.elim fun a h=>k a h
theorem ae {α:Type}{p q:α→Prop}{G:Prop}(h:∃ a,p a∧q a) (k:∀ a,p a→q a→G):G:=h.elim fun a h=>k a h.1 h.2
theorem dA {α:Type}{p q r:α→Prop}{G:Prop}(h:∃ a,p a∧q a∧r a) (k:∀ a,p a→q a→r a→G):G:=h.elim fun a h=>k a h.1 h.2.1 h.2.2
theorem A7 {α:Type}{p q r s:α→Prop}{G:Prop}(h:∃ a,p a∧q a∧r a∧s a) (k:∀ a,p a→q a→r a→s a→G):G:=h.elim fun a h=>k a h.1 h.2.1 h.2.2.1 h.2.2.2
theorem E1 {α:Type}{p q r s t:α→Prop}{G:Prop}(h:∃ a,p a∧q a∧r a∧s a∧t a) (k:∀ a,p a→q a→r a→s a→t a→G):G:=h.elim fun a h=>k a h.1 h.2.1 h.2.2.1 h.2.2.2.1 h.2.2.2.2
theorem QS {α:Type}{p q r s t u:α→Prop}{G:Prop}(h:∃ a,p a∧q a∧r a∧s a∧t a∧u a) (k:∀ a,p a→q a→r a→s a→t a→u a→G):G:=h.elim fun a h=>k a h.1 h.2.1 h.2.2.1 h.2.2.2.1 h.2.2.2.2.1 h.2.2.2.2.2
theorem QT {α:Type}{p q r s t u v:α→Prop}{G:Prop}(h:∃ a,p a∧q a∧r a∧s a∧t a∧u a∧v a) (k:∀ a,p a→q a→r a→s a→t a→u a→v a→G):G:=h.elim fun a h=>k a h.1 h.2.1 h.2.2.1 h.2.2.2.1 h.2.2.2.2.1 h.2.2.2.2.2.1 h.2.2.2.2.2.2
theorem sf {α β:Type}{p:α→β→Prop}{G:Prop}(h:∃ a b,p a b) (k:∀ a b,p a b→G):G:=h.elim fun a h=>h.elim fun b h=>k a b h
theorem cN {α β:Type}{p q:α→β→Prop}{G:Prop}(h:∃ a b,p a b∧q a b) (k:∀ a b,p a b→q a b→G):G:=h.elim fun a h=>h.elim fun b h=>k a b h.1 h.2
theorem cz {α β:Type}{p q r:α→β→Prop}{G:Prop}(h:∃ a b,p a b∧q a b∧r a b) (k:∀ a b,p a b→q a b→r a b→G):G:=h.elim fun a h=>h.elim fun b h=>k a b h.1 h.2.1 h.2.2
theorem cP {α β:Type}{p q r s:α→β→Prop}{G:Prop}(h:∃ a b,p a b∧q a b∧r a b∧s a b) (k:∀ a b,p a b→q a b→r a b→s a b→G):G:=h.elim fun a h=>h.elim fun b h=>k a b h.1 h.2.1 h.2.2.1 h.2.2.2
theorem mQ {α β:Type}{p q r s t:α→β→Prop}{G:Prop}(h:∃ a b,p a b∧q a b∧r a b∧s a b∧t a b) (k:∀ a b,p a b→q a b→r a b→s a b→t a b→G):G:=h.elim fun a h=>h.elim fun b h=>k a b h.1 h.2.1 h.2.2.1 h.2.2.2.1 h.2.2.2.2
theorem MY {α β:Type}{p q r s t u:α→β→Prop}{G:Prop}(h:∃ a b,p a b∧q a b∧r a b∧s a b∧t a b∧u a b) (k:∀ a b,p a b→q a b→r a b→s a b→t a b→u a b→G):G:=h.elim fun a h=>h.elim fun b h=>k a b h.1 h.2.1 h.2.2.1 h.2.2.2.1 h.2.2.2.2.1 h.2.2.2.2.2
theorem QU {α β:Type}{p q r s t u v:α→β→Prop}{G:Prop}(h:∃ a b,p a b∧q a b∧r a b∧s a b∧t a b∧u a b∧v a b) (k:∀ a b,p a b→q a b→r a b→s a b→t a b→u a b→v a b→G):G:=h.elim fun a h=>h.elim fun b h=>k a b h.1 h.2.1 h.2.2.1 h.2.2.2.1 h.2.2.2.2.1 h.2.2.2.2.2.1 h.2.2.2.2.2.2
theorem Pa {α β γ:Type}{p:α→β→γ→Prop}{G:Prop}(h:∃ a b c,p a b c) (k:∀ a b c,p a b c→G):G:=h.elim fun a h=>h.elim fun b h=>h.elim fun c h=>k a b c h
theorem Dz {α β γ:Type}{p q:α→β→γ→Prop}{G:Prop}(h:∃ a b c,p a b c∧q a b c) (k:∀ a b c,p a b c→q a b c→G):G:=h.elim fun a h=>h.elim fun b h=>h.elim fun c h=>k a b c h.1 h.2
theorem lX {α β γ:Type}{p q r:α→β→γ→Prop}{G:Prop}(h:∃ a b c,p a b c∧q a b c∧r a b c) (k:∀ a b c,p a b c→q a b c→r a b c→G):G:=h.elim fun a h=>h.elim fun b h=>h.elim fun c h=>k a b c h.1 h.2.1 h.2.2
theorem Pb {α β γ:Type}{p q r s:α→β→γ→Prop}{G:Prop}(h:∃ a b c,p a b c∧q a b c∧r a b c∧s a b c) (k:∀ a b c,p a b c→q a b c→r a b c→s a b c→G):G:=h.elim fun a h=>h.elim fun b h=>h.elim fun c h=>k a b c h.1 h.2.1 h.2.2.1 h.2.2.2
theorem Ib {α β γ:Type}{p q r s t:α→β→γ→Prop}{G:Prop}(h:∃ a b c,p a b c∧q a b c∧r a b c∧s a b c∧t a b c) (k:∀ a b c,p a b c→q a b c→r a b c→s a b c→t a b c→G):G:=h.elim fun a h=>h.elim fun b h=>h.elim fun c h=>k a b c h.1 h.2.1 h.2.2.1 h.2.2.2.1 h.2.2.2.2
theorem DA {α β γ:Type}{p q r s t u:α→β→γ→Prop}{G:Prop}(h:∃ a b c,p a b c∧q a b c∧r a b c∧s a b c∧t a b c∧u a b c) (k:∀ a b c,p a b c→q a b c→r a b c→s a b c→t a b c→u a b c→G):G:=h.elim fun a h=>h.elim fun b h=>h.elim fun c h=>k a b c h.1 h.2.1 h.2.2.1 h.2.2.2.1 h.2.2.2.2.1 h.2.2.2.2.2
theorem QW {α β γ:Type}{p q r s t u v:α→β→γ→Prop}{G:Prop}(h:∃ a b c,p a b c∧q a b c∧r a b c∧s a b c∧t a b c∧u a b c∧v a b c) (k:∀ a b c,p a b c→q a b c→r a b c→s a b c→t a b c→u a b c→v a b c→G):G:=h.elim fun a h=>h.elim fun b h=>h.elim fun c h=>k a b c h.1 h.2.1 h.2.2.1 h.2.2.2.1 h.2.2.2.2.1 h.2.2.2.2.2.1 h.2.2.2.2.2.2
theorem KK {α β γ δ:Type}{p:α→β→γ→δ→Prop}{G:Prop}(h:∃ a b c d,p a b c d) (k:∀ a b c d,p a b c d→G):G:=h.elim fun a h=>h.elim fun b h=>h.elim fun c h=>h.elim fun d h=>k a b c d h
theorem za {α β γ δ:Type}{p q:α→β→γ→δ→Prop}{G:Prop}(h:∃ a b c d,p a b c d∧q a b c d) (k:∀ a b c d,p a b c d→q a b c d→G):G:=h.elim fun a h=>h.elim fun b h=>h.elim fun c h=>h.elim fun d h=>k a b c d h.1 h.2
theorem E2 {α β γ δ:Type}{p q r:α→β→γ→δ→Prop}{G:Prop}(h:∃ a b c d,p a b c d∧q a b c d∧r a b c d) (k:∀ a b c d,p a b c d→q a b c d→r a b c d→G):G:=h.elim fun a h=>h.elim fun b h=>h.elim fun c h=>h.elim fun d h=>k a b c d h.1 h.2.1 h.2.2
theorem MZ {α β γ δ:Type}{p q r s:α→β→γ→δ→Prop}{G:Prop}(h:∃ a b c d,p a b c d∧q a b c d∧r a b c d∧s a b c d) (k:∀ a b c d,p a b c d→q a b c d→r a b c d→s a b c d→G):G:=h.elim fun a h=>h.elim fun b h=>h.elim fun c h=>h.elim fun d h=>k a b c d h.1 h.2.1 h.2.2.1 h.2.2.2
theorem DB {α β γ δ:Type}{p q r s t:α→β→γ→δ→Prop}{G:Prop}(h:∃ a b c d,p a b c d∧q a b c d∧r a b c d∧s a b c d∧t a b c d) (k:∀ a b c d,p a b c d→q a b c d→r a b c d→s a b c d→t a b c d→G):G:=h.elim fun a h=>h.elim fun b h=>h.elim fun c h=>h.elim fun d h=>k a b c d h.1 h.2.1 h.2.2.1 h.2.2.2.1 h.2.2.2.2
theorem QY {α β γ δ:Type}{p q r s t u:α→β→γ→δ→Prop}{G:Prop}(h:∃ a b c d,p a b c d∧q a b c d∧r a b c d∧s a b c d∧t a b c d∧u a b c d) (k:∀ a b c d,p a b c d→q a b c d→r a b c d→s a b c d→t a b c d→u a b c d→G):G:=h.elim fun a h=>h.elim fun b h=>h.elim fun c h=>h.elim fun d h=>k a b c d h.1 h.2.1 h.2.2.1 h.2.2.2.1 h.2.2.2.2.1 h.2.2.2.2.2
theorem M0 {α β γ δ:Type}{p q r s t u v:α→β→γ→δ→Prop}{G:Prop}(h:∃ a b c d,p a b c d∧q a b c d∧r a b c d∧s a b c d∧t a b c d∧u a b c d∧v a b c d) (k:∀ a b c d,p a b c d→q a b c d→r a b c d→s a b c d→t a b c d→u a b c d→v a b c d→G):G:=h.elim fun a h=>h.elim fun b h=>h.elim fun c h=>h.elim fun d h=>k a b c d h.1 h.2.1 h.2.2.1 h.2.2.2.1 h.2.2.2.2.1 h.2.2.2.2.2.1 h.2.2.2.2.2.2
noncomputable def M1 (P:Nat→Prop) (a:Nat):Nat→Prop
 | 0=>True
 | k+1=>P a∧M1 P (a+1) k
theorem wQ {P:Nat→Prop}{w:Nat}:∀ {k a:Nat},M1 P a k→a≤w→w<a+k→P w
 | 0,_,_,h1,h2=>absurd h2 (Nat.not_lt.mpr h1)
 | k+1,a,h,h1,h2=>(Nat.lt_or_eq_of_le h1).elim (fun q=>wQ h.2 q (Nat.add_right_comm a 1 k ▸ h2)) fun q=>q ▸ h.1
end Mine
end
section
open PySem PySem.W PyProof.Rows
set_option maxRecDepth 100000
namespace Mine
noncomputable def Pd {b:Program}(_:({ p:Program // b=p }→True)→Nat):Program:=b
theorem ofS (s:String):Str.ofString s=⟨⟨s.toList.map Char.toNat⟩⟩:=Str.ofString_eq_toList s
noncomputable abbrev Ps (a b d:Nat):Pos:=⟨a,b,a,d⟩
theorem psE (a b d:Nat):Pos.mk a b a d=Ps a b d:=rfl
set_option maxHeartbeats 0 in
noncomputable def pwL:Program:=by
 have e:{ p:Program // PySem.Challenge.pw_np0151_01=p }→True:=fun _=>trivial
 delta PySem.Challenge.pw_np0151_01 at e
 simp only [ofS,psE,String.reduceToList,List.map_cons,List.map_nil,Char.reduceToNat] at e
 exact Pd fun _:type_of% e=>0
theorem pwE:PySem.Challenge.pw_np0151_01=pwL:=by kernel_rfl
noncomputable def pwS:{ p:Program // PySem.Challenge.pw_np0151_01=p }:=⟨pwL,pwE⟩
noncomputable def E3 (den:Code→Sem Fin) (p:Program) (w:World) (n₀:Nat) (ann:Option Value):Nat→SharedT→Thread→Option SharedT
 | 0,_,_=>none
 | n+1,s,t=>match through t with
  | true=>some s
  | false=>match stepOk n₀ ann t with
   | false=>none
   | true=>match stepT den p w s t with
    | some (s',t')=>E3 den p w n₀ ann n s' t'
    | none=>none
theorem vk {tb:String→Option Builtin}{p:Program}{w:World}{n₀:Nat}{ann:Option Value}:∀ {n:Nat}{s s':SharedT}{t:Thread},E3 (denote tb) p w n₀ ann n s t=some s'→topRun tb p w n₀ ann n s.abs t=some s'.abs
 | 0,_,_,_,h=>by exact nS h
 | n+1,s,s',t,h=>by
  unfold E3 at h
  unfold topRun
  cases he:through t with
  | true=>rw [he] at h; replace h:=sj h; subst h; rfl
  | false =>
   rw [he] at h
   cases hk:stepOk n₀ ann t with
   | false=>rw [hk] at h; exact nS h
   | true =>
    rw [hk] at h
    cases hs:stepT (denote tb) p w s t with
    | none=>rw [hs] at h; exact nS h
    | some r=>obtain ⟨s₂,t₂⟩:=r; rw [hs] at h; dsimp only; rw [stepT_spec hs]; exact vk h
noncomputable abbrev KL:Code→Sem Fin:=Fast.tw11892475500146522536 Fast.tw14364793385576792824
noncomputable def Ic (p:Program) (w:World) (n₀:Nat) (ann:Option Value):Nat→SharedT→Thread→Option SharedT
 | 0,_,_=>none
 | n+1,s,t=>match through t with
  | true=>some s
  | false=>match Fast.tw6613529449190102663 n₀ ann t with
   | false=>none
   | true=>match Fast.tw10156331382660048174 KL p w s t with
    | some (s',t')=>Ic p w n₀ ann n s' t'
    | none=>none
termination_by structural n=>n
theorem Cp (p:Program) (w:World) (n₀:Nat) (ann:Option Value):∀ (n:Nat) (s:SharedT) (t:Thread),Ic p w n₀ ann n s t=E3 (denote treeTable) p w n₀ ann n s t
 | 0,_,_=>rfl
 | n+1,s,t=>by
  unfold Ic E3
  rw [← Fast.te6613529449190102663,show KL=denote treeTable by unfold KL; rw [← Fast.te11892475500146522536,← Fast.te14364793385576792824],← Fast.te10156331382660048174]
  simp only [Cp p w n₀ ann n]
noncomputable def KM (l:List Obj):BT:=(l.foldl (fun (a:BT × Nat) o=>(a.1.ins a.2 o,a.2+1)) (.nil,0)).1
noncomputable def Kf (P:Params) (os:OsState):SharedT:=⟨KM [boot_o_0 P,boot_o_1 P,boot_o_2 P,boot_o_3 P,boot_o_4 P,boot_o_5 P,boot_o_6 P,boot_o_7 P,boot_o_8 P,boot_o_9 P,boot_o_10 P],11,{},#[],boot_drawn,boot_toks,os⟩
theorem DC (P:Params) (os:OsState):(Kf P os).abs=⟨boot_heap P,#[],boot_drawn,boot_toks,os⟩:=by kernel_rfl
end Mine
end
section
open PySem PySem.W PyProof.Rows
set_option maxRecDepth 1000000
namespace Mine
noncomputable def sg:List Str:=[⟨⟨[82,97,105,115,101,100]⟩⟩,⟨⟨[101,114,114,111,114]⟩⟩,⟨⟨[119,114,111,110,103,95,97,114,103,115]⟩⟩,⟨⟨[108,105,115,116,105,110,103]⟩⟩,⟨⟨[112,105,99,107]⟩⟩,⟨⟨[99,117,116]⟩⟩,⟨⟨[110,111,116,101]⟩⟩,⟨⟨[110,111,116,101,95,114,111,119]⟩⟩,⟨⟨[105,110,95,115,101,116]⟩⟩,⟨⟨[98,101,104,105,110,100,95,111,110,101]⟩⟩,⟨⟨[112,117,116,95,112,108,97,99,101,115]⟩⟩,⟨⟨[102,111,108,100,101,100]⟩⟩,⟨⟨[102,105,116,115]⟩⟩,⟨⟨[105,115,95,98,108,97,110,107]⟩⟩,⟨⟨[100,105,103,105,116]⟩⟩,⟨⟨[100,105,103,105,116,115,95,118,97,108,117,101]⟩⟩,⟨⟨[98,97,115,101,95,111,102]⟩⟩,⟨⟨[119,104,111,108,101,95,111,102]⟩⟩,⟨⟨[110,101,101,100,95,119,104,111,108,101]⟩⟩,⟨⟨[109,111,118,101,100]⟩⟩,⟨⟨[105,110,100,101,120,95,111,102]⟩⟩,⟨⟨[104,101,120,95,115,105,103,110]⟩⟩,⟨⟨[111,99,116,97,108,95,115,105,103,110]⟩⟩,⟨⟨[98,97,99,107,115,108,97,115,104]⟩⟩,⟨⟨[99,104,101,99,107,95,98,101,104,105,110,100]⟩⟩,⟨⟨[98,114,97,99,101,100,95,101,108,101,109,101,110,116]⟩⟩,⟨⟨[113,117,111,116,101,100,95,101,108,101,109,101,110,116]⟩⟩,⟨⟨[98,97,114,101,95,101,108,101,109,101,110,116]⟩⟩,⟨⟨[102,105,110,100,95,101,108,101,109,101,110,116]⟩⟩,⟨⟨[115,112,108,105,116,95,108,105,115,116]⟩⟩,⟨⟨[109,111,100,101,95,111,102]⟩⟩,⟨⟨[101,115,99,97,112,101,100]⟩⟩,⟨⟨[113,117,111,116,101]⟩⟩,⟨⟨[106,111,105,110,95,108,105,115,116]⟩⟩,⟨⟨[99,111,109,112,97,114,101]⟩⟩,⟨⟨[116,104,114,101,101,95,119,97,121]⟩⟩,⟨⟨[100,105,103,105,116,115,95,98,101,104,105,110,100]⟩⟩,⟨⟨[110,111,117,103,104,116,115,95,98,101,104,105,110,100]⟩⟩,⟨⟨[99,97,115,101,95,111,114,100,101,114]⟩⟩,⟨⟨[100,105,99,116,105,111,110,97,114,121]⟩⟩,⟨⟨[107,101,121,95,98,121]⟩⟩,⟨⟨[99,111,109,112,97,114,101,95,107,101,121,115]⟩⟩,⟨⟨[99,104,101,99,107,95,105,110,100,101,120]⟩⟩,⟨⟨[112,97,116,104,95,111,102]⟩⟩,⟨⟨[112,97,114,116,95,97,116]⟩⟩,⟨⟨[115,116,114,105,100,101,95,111,102]⟩⟩,⟨⟨[79,112,116,105,111,110,115]⟩⟩,⟨⟨[112,117,116,95,102,108,97,103]⟩⟩,⟨⟨[112,117,116,95,118,97,108,117,101]⟩⟩,⟨⟨[114,101,97,100,95,111,112,116,105,111,110,115]⟩⟩,⟨⟨[99,97,108,108,101,100,95,111,114,100,101,114]⟩⟩,⟨⟨[111,114,100,101,114,95,111,102]⟩⟩,⟨⟨[109,101,114,103,101,100]⟩⟩,⟨⟨[115,111,114,116,95,112,108,97,99,101,115]⟩⟩,⟨⟨[109,101,114,103,101,95,115,111,114,116]⟩⟩,⟨⟨[115,101,97,114,99,104,95,111,112,116,105,111,110,115]⟩⟩,⟨⟨[105,115,95,104,105,116]⟩⟩,⟨⟨[115,101,97,114,99,104,95,108,105,110,101,97,114]⟩⟩,⟨⟨[115,101,97,114,99,104,95,115,111,114,116,101,100]⟩⟩,⟨⟨[108,115,101,97,114,99,104,95,97,99,116,105,111,110]⟩⟩,⟨⟨[95,108,97,119,95,115,112,101,108,108,105,110,103,115]⟩⟩,⟨⟨[95,108,97,119,95,112,105,101,99,101,115]⟩⟩,⟨⟨[95,108,97,119,95,116,111,108,100]⟩⟩,⟨⟨[95,108,97,119,95,114,101,102,117,115,97,108,115]⟩⟩,⟨⟨[95,108,97,119,95,100,114,97,119]⟩⟩,⟨⟨[95,108,97,119,95,112,101,110]⟩⟩,⟨⟨[95,108,97,119,95,119,111,114,100]⟩⟩,⟨⟨[95,108,97,119,95,108,105,115,116,101,100]⟩⟩,⟨⟨[95,108,97,119,95,100,105,99,116,105,111,110,97,114,121]⟩⟩,⟨⟨[95,108,97,119,95,107,101,121]⟩⟩,⟨⟨[95,108,97,119,95,111,114,100,101,114]⟩⟩,⟨⟨[95,108,97,119,95,102,105,116,115]⟩⟩,⟨⟨[95,108,97,119,95,115,116,97,114,116]⟩⟩,⟨⟨[95,108,97,119,95,111,112,116,105,111,110,115]⟩⟩,⟨⟨[95,108,97,119,95,110,111,95,110,117,109,98,101,114]⟩⟩,⟨⟨[95,108,97,119,95,108,105,110,101,97,114]⟩⟩,⟨⟨[95,108,97,119,95,115,111,114,116,101,100]⟩⟩,⟨⟨[95,108,97,119,95,100,117,101]⟩⟩,⟨⟨[95,108,97,119,95,104,101,97,114,100]⟩⟩,⟨⟨[95,108,97,119,95,105,116,101,109]⟩⟩,⟨⟨[95,108,97,119,95,105,110,95,111,114,100,101,114]⟩⟩,⟨⟨[95,108,97,119,95,114,111,119,95,114,105,103,104,116]⟩⟩]
noncomputable def qN:Program:=view pwS.1 [90]
noncomputable def Kg (P:Params) (S:SharedT):=((staticsOk (importedModules pwS.1.main.body) (boot_heap P) S.abs.heap&&namesBound pwS.1 S.abs.heap&&gensDone S.abs&&laidKept (boot_heap P) S.abs.heap),Fast.tw4187177175401517315 qN sg (importedModules pwS.1.main.body) (fun _=>true) true S.abs)
end Mine
end
section
open PySem PySem.W PyProof.Rows
set_option maxRecDepth 20000
set_option backward.match.sparseCases false
set_option genSizeOf false
set_option genInjectivity false
namespace Mine
section
noncomputable def wh {α:Type} (c:Bool) (f:c=true→Option α):Option α:=match c,f with
 | true,f=>f rfl
 | false,_=>none
theorem fu {α:Type}{c:Bool}{f:c=true→Option α} (h:c=true):wh c f=f h:=by subst h; rfl
theorem zb {α:Type}{c:Bool}{f:c=true→Option α}{x:α}{P:Prop}(h:wh c f=some x) (k:∀ e:c=true,f e=some x→P):P:=by
 cases c with
 | true=>exact k rfl h
 | false=>exact nS h
noncomputable def opt {α β:Type} (o:Option α) (f:∀ a,o=some a→Option β):Option β:=match o,f with
 | some a,f=>f a rfl
 | none,_=>none
theorem cB {α β:Type}{o:Option α}{a:α}{f:∀ a,o=some a→Option β} (h:o=some a):opt o f=f a h:=by subst h; rfl
section
variable {α:Type}{P:α→Prop}
noncomputable abbrev Cv (P:α→Prop):Type:=Option {r:α // P r}
noncomputable def Cv.v (o:Cv P):Option α:=match o with
 | some r=>some r.1
 | none=>none
noncomputable abbrev yes (r:α) (h:P r):Cv P:=some ⟨r,h⟩
theorem lJ {o:Cv P}{r:α}(h:o.v=some r):P r:=by
 cases o with
 | none=>exact nS h
 | some r'=>exact sj h ▸ r'.2
end
theorem cvT {P:Prop}{o:Cv (fun _:Unit=>P)} (h:o.isSome=true):P:=by
 cases o with
 | none=>exact ff h
 | some r=>exact r.2
noncomputable abbrev Ck (P:Prop):Type:=Cv (fun _:Unit=>P)
noncomputable def bd {P Q:Prop}(c:Ck P) (f:P→Ck Q):Ck Q:=match c with
 | some u=>f u.2
 | none=>none
noncomputable abbrev ys {P:Prop}(h:P):Ck P:=yes () h
theorem an {a b:Bool}(h:(a&&b)=true):a=true∧b=true:=Bool.and_eq_true_iff.mp h
inductive V where
 | none
 | bool (b:Bool)
 | int (i:Int)
 | str (s:Str)
 | tup (vs:List V)
 | lst (vs:List V)
 | dS (ks:List Str) (vs:List V)
 | dI (ks:List Int)
 | inst (C:Addr) (ks:List Str) (vs:List V)
 | rng (a b:Int)
 | ref (i:Nat)
noncomputable abbrev big:Nat:=1000000
noncomputable def iw (h:Heap) (a:Addr) (xs:Array Value):Prop:=xs.size≤big∧∃ n,h.get? a=some { cls:=.type "list",dict:=none,data:=.seq xs n,slots:=#[] }
noncomputable def Cq (h:Heap) (a:Addr) (xs:Array Value):Prop:=xs.size≤big∧h.get? a=some { cls:=.type "tuple",dict:=none,data:=.seq xs,slots:=#[] }
theorem iw.isList {h:Heap}{a:Addr}{xs:Array Value}(x:iw h a xs):h.IsList a xs:=let ⟨_,n,e⟩:=x; ⟨_,e,rfl,n,rfl⟩
theorem Cq.isTup {h:Heap}{a:Addr}{xs:Array Value}(x:Cq h a xs):IsTup h a xs:=⟨_,x.2,rfl,0,rfl⟩
section rep
variable (prog:Program) (w:World) (h:Heap) (ok:Addr→Prop) (al:List Addr)
mutual
noncomputable def Rep:V→Value→Prop
 | .none,v=>v=.none
 | .bool b,v=>v=.bool b
 | .int i,v=>∃ t,v=.int i t
 | .str s,v=>∃ t,v=.str s t∧s.length≤big
 | .tup vs,v=>∃ a xs,v=.ref a∧ok a∧Cq h a xs∧RepL vs xs.toList
 | .lst vs,v=>∃ a xs,v=.ref a∧ok a∧iw h a xs∧RepL vs xs.toList
 | .dS ks vs,v=>∃ a xs ep,v=.ref a∧ok a∧(a==sysModules)=false∧h.DictAt (strKind prog w) a (ks.zip xs) ep∧ks.length=xs.length∧RepL vs xs
 | .dI ks,v=>∃ a ep,v=.ref a∧ok a∧(a==sysModules)=false∧h.DictAt (intKind prog w) a (ks.map fun k=>(k,Value.bool true)) ep∧ks.length≤big
 | .inst C ks vs,v=>∃ a d xs ep,v=.ref a∧ok a∧ok d∧h.get? a=some (instObj C d)∧h.DictAt (strKind prog w) d (ks.zip xs) ep∧ks.length=xs.length∧RepL vs xs
 | .rng a b,v=>∃ r t u x,v=.ref r∧ok r∧IsRange h r a b 1 t u x
 | .ref i,v=>∃ a,al[i]? = some a∧v=.ref a
noncomputable def RepL:List V→List Value→Prop
 | [],xs=>xs=[]
 | v::vs,xs=>∃ x ys,xs=x::ys∧Rep v x∧RepL vs ys
end
end rep
theorem qk {h h':Heap}{a:Addr}{xs:Array Value}(k:∀ o,h.get? a=some o→h'.get? a=some o) (x:IsTup h a xs):IsTup h' a xs :=
 let ⟨o,ho,r⟩:=x; ⟨o,k o ho,r⟩
theorem iw.keeps {h h':Heap}{a:Addr}{xs:Array Value}(k:∀ o,h.get? a=some o→h'.get? a=some o) (x:iw h a xs):iw h' a xs :=
 let ⟨b,n,e⟩:=x; ⟨b,n,k _ e⟩
theorem bE {prog:Program}{w:World}{K:Type} [DecidableEq K] {knd:KeyKind prog w K}{h h':Heap}{a:Addr}{kvs:List (K × Value)}{ep:Nat}
  (k:∀ o,h.get? a=some o→h'.get? a=some o) (x:h.DictAt knd a kvs ep):h'.DictAt knd a kvs ep:=cN x fun o es ho r=>⟨o,es,k o ho,r⟩
section mono
variable {prog:Program}{w:World}{h h':Heap}{ok ok':Addr→Prop}{al al':List Addr}
mutual
noncomputable def V.pu:V→Bool
 | .ref _=>false
 | .tup vs=>V.puL vs
 | .lst vs=>V.puL vs
 | .dS _ vs=>V.puL vs
 | .inst _ _ vs=>V.puL vs
 | _=>true
noncomputable def V.puL:List V→Bool
 | []=>true
 | v::vs=>v.pu&&V.puL vs
end
noncomputable abbrev Kp (h h':Heap) (ok ok':Addr→Prop):Prop:=∀ b o,h.get? b=some o→ok b→h'.get? b=some o∧ok' b
theorem Kp.dict {K:Type} [DecidableEq K] {knd:KeyKind prog w K}{a:Addr}{kvs:List (K × Value)}{ep:Nat}(k:Kp h h' ok ok') (h1:ok a) (x:h.DictAt knd a kvs ep):ok' a∧h'.DictAt knd a kvs ep :=
 cN x fun o es ho r=>⟨(k a o ho h1).2,o,es,(k a o ho h1).1,r⟩
theorem Rep.mono0 (k:Kp h h' ok ok') (v:V):∀ x,(v.pu=true∨∀ (i:Nat) (a:Addr),al[i]? = some a→al'[i]? = some a)→Rep prog w h ok al v x→Rep prog w h' ok' al' v x :=
 V.rec (motive_1:=fun v=>∀ x,(v.pu=true∨∀ (i:Nat) (a:Addr),al[i]? = some a→al'[i]? = some a)→Rep prog w h ok al v x→Rep prog w h' ok' al' v x)
  (motive_2:=fun vs=>∀ xs,(V.puL vs=true∨∀ (i:Nat) (a:Addr),al[i]? = some a→al'[i]? = some a)→RepL prog w h ok al vs xs→RepL prog w h' ok' al' vs xs)
  (fun _ _ r=>r) (fun _ _ _ r=>r) (fun _ _ _ r=>r) (fun _ _ _ r=>r)
  (fun vs i x c r=>cP r fun a xs e h1 h2 h3=>⟨a,xs,e,(k a _ h2.2 h1).2,⟨h2.1,(k a _ h2.2 h1).1⟩,i _ c h3⟩)
  (fun vs i x c r=>cP r fun a xs e h1 h2 h3=>h2.2.elim fun n h2'=>⟨a,xs,e,(k a _ h2' h1).2,⟨h2.1,n,(k a _ h2' h1).1⟩,i _ c h3⟩)
  (fun ks vs i x c r=>DA r fun a xs ep e h1 hz h2 h3 h4=>⟨a,xs,ep,e,(k.dict h1 h2).1,hz,(k.dict h1 h2).2,h3,i _ c h4⟩)
  (fun ks x c r=>mQ r fun a ep e h1 hz h2 h3=>⟨a,ep,e,(k.dict h1 h2).1,hz,(k.dict h1 h2).2,h3⟩)
  (fun C ks vs i x c r=>M0 r fun a d xs ep e h1 h1' ha h2 h3 h4=>⟨a,d,xs,ep,e,(k a _ ha h1).2,(k.dict h1' h2).1,(k a _ ha h1).1,(k.dict h1' h2).2,h3,i _ c h4⟩)
  (fun a b x c r=>E2 r fun r t u y e h1 h2=>⟨r,t,u,y,e,(k r _ h2 h1).2,(k r _ h2 h1).1⟩)
  (fun i x c r=>ae r fun a h1 h2=>⟨a,c.elim ff fun c=>c _ _ h1,h2⟩)
  (fun _ _ r=>r)
  (fun v vs i j xs c r=>cz r fun x ys e r1 r2=>⟨x,ys,e,i _ (c.imp (fun c=>(Bool.and_eq_true_iff.mp c).1) id) r1,j _ (c.imp (fun c=>(Bool.and_eq_true_iff.mp c).2) id) r2⟩) v
theorem RepL.mono0 (k:Kp h h' ok ok'):∀ {vs:List V}{xs:List Value},(V.puL vs=true∨∀ (i:Nat) (a:Addr),al[i]? = some a→al'[i]? = some a)→RepL prog w h ok al vs xs→RepL prog w h' ok' al' vs xs
 | [],_,_,r=>r
 | v::vs,xs,c,r=>cz r fun x ys e r1 r2=>⟨x,ys,e,Rep.mono0 k v x (c.imp (fun c=>(Bool.and_eq_true_iff.mp c).1) id) r1,RepL.mono0 k (c.imp (fun c=>(Bool.and_eq_true_iff.mp c).2) id) r2⟩
theorem Rep.mono {v:V}{x:Value}(pre:∀ (i:Nat) (a:Addr),al[i]? = some a→al'[i]? = some a) (k:Kp h h' ok ok'):Rep prog w h ok al v x→Rep prog w h' ok' al' v x:=Rep.mono0 k v x (.inr pre)
theorem RepL.mono {vs:List V}{xs:List Value}(pre:∀ (i:Nat) (a:Addr),al[i]? = some a→al'[i]? = some a) (k:Kp h h' ok ok'):RepL prog w h ok al vs xs→RepL prog w h' ok' al' vs xs:=RepL.mono0 k (.inr pre)
theorem RepL.nil:RepL prog w h ok al [] []:=rfl
theorem RepL.cons {v:V}{x:Value}{vs:List V}{xs:List Value}(r:Rep prog w h ok al v x) (q:RepL prog w h ok al vs xs):RepL prog w h ok al (v::vs) (x::xs):=⟨x,xs,rfl,r,q⟩
theorem RepL.ind {P:List V→List Value→Prop}(n:P [] []) (c:∀ v x vs xs,Rep prog w h ok al v x→RepL prog w h ok al vs xs→P vs xs→P (v::vs) (x::xs)):∀ {vs:List V}{xs:List Value},RepL prog w h ok al vs xs→P vs xs
 | [],_,r=>(show _=[] from r) ▸ n
 | v::vs,_,r=>let ⟨x,ys,e,r1,r2⟩:=r; e ▸ c v x vs ys r1 r2 (RepL.ind n c r2)
theorem RepL.length {vs:List V}{xs:List Value}(r:RepL prog w h ok al vs xs):vs.length=xs.length:=r.ind (P:=fun vs xs=>vs.length=xs.length) rfl fun _ _ _ _ _ _ i=>congrArg (·+1) i
theorem RepL.get {vs:List V}{xs:List Value}(r:RepL prog w h ok al vs xs):∀ {i:Nat}{v:V},vs[i]? = some v→∃ x,xs[i]? = some x∧Rep prog w h ok al v x :=
 r.ind (P:=fun vs xs=>∀ {i:Nat}{v:V},vs[i]? = some v→∃ x,xs[i]? = some x∧Rep prog w h ok al v x) (fun e=>nS e) fun u x vs xs r1 _ ih {i v} e=>match i with
  | 0=>⟨x,rfl,sj e ▸ r1⟩
  | i+1=>ih (i:=i) e
theorem RepL.append {vs us:List V}{xs ys:List Value}(r:RepL prog w h ok al vs xs) (q:RepL prog w h ok al us ys):RepL prog w h ok al (vs++us) (xs++ys) :=
 r.ind (P:=fun vs xs=>RepL prog w h ok al (vs++us) (xs++ys)) q fun _ _ _ _ r1 _ i=>.cons r1 i
theorem RepL.drop {vs:List V}{xs:List Value}(r:RepL prog w h ok al vs xs):∀ n:Nat,RepL prog w h ok al (vs.drop n) (xs.drop n) :=
 r.ind (P:=fun vs xs=>∀ n:Nat,RepL prog w h ok al (vs.drop n) (xs.drop n)) (fun n=>by simp only [List.drop_nil]; exact .nil) fun _ _ _ _ r1 r2 i n=>match n with
  | 0=>.cons r1 r2
  | n+1=>i n
theorem RepL.take {vs:List V}{xs:List Value}(r:RepL prog w h ok al vs xs):∀ n:Nat,RepL prog w h ok al (vs.take n) (xs.take n) :=
 r.ind (P:=fun vs xs=>∀ n:Nat,RepL prog w h ok al (vs.take n) (xs.take n)) (fun n=>by simp only [List.take_nil]; exact .nil) fun _ _ _ _ r1 r2 i n=>match n with
  | 0=>.nil
  | n+1=>.cons r1 (i n)
end mono
end
end Mine
end
section
open PySem PySem.W PyProof.Rows
set_option maxRecDepth 20000
set_option genSizeOf false
namespace Mine
structure Fn where
 addr:Addr
 name:Str
 qual:Str
 params:Arguments
 body:List Stmt
 scope:Scope
 dfl:List V
noncomputable abbrev st (i:Nat):Stmt:=(pwL.main.body[i]?).getD (.Pass ⟨0,0,0,0⟩)
noncomputable abbrev Kh (s:Stmt) (k:Nat):Stmt:=match s with
 | .ClassDef _ _ _ body _ _ _ _ _ _ _=>(body[k]?).getD (.Pass ⟨0,0,0,0⟩)
 | _=>.Pass ⟨0,0,0,0⟩
noncomputable def E4:Arguments:=⟨[],[],none,[],[],none,[]⟩
noncomputable def Cr:Scope:={ kind:=.function,names:=[],isGenerator:=false,isCoroutine:=false,more:=[] }
noncomputable abbrev aD (s:Stmt) (a:Addr) (dfl:List V):Fn:=match s with
 | .FunctionDef name args body _ _ _ scope _ _ _=>⟨a,name,name,args,body,scope,dfl⟩
 | _=>⟨a, "", "",E4,[],Cr,dfl⟩
noncomputable def av:Fn:={ aD (Kh (st 1) 0) 30 [.tup [.str "NONE"],.int 0,.int 0] with qual:="Raised.__init__" }
noncomputable def Ct:Fn:=aD (st 2) 45 [.tup [.str "NONE"]]
noncomputable def mR:Fn:=aD (st 3) 52 []
noncomputable def vm:Fn:=aD (st 4) 59 []
noncomputable def E5:Fn:=aD (st 5) 66 []
noncomputable def M2:Fn:=aD (st 6) 73 []
noncomputable def KN:Fn:=aD (st 7) 80 []
noncomputable def A8:Fn:=aD (st 8) 87 []
noncomputable def zd:Fn:=aD (st 10) 94 []
noncomputable def mS:Fn:=aD (st 11) 101 []
noncomputable def mT:Fn:=aD (st 12) 108 []
noncomputable def ze:Fn:=aD (st 13) 115 []
noncomputable def E6:Fn:=aD (st 14) 123 [.bool false]
noncomputable def sk:Fn:=aD (st 16) 130 []
noncomputable def Cu:Fn:=aD (st 17) 137 []
noncomputable def kg:Fn:=aD (st 18) 144 []
noncomputable def vn:Fn:=aD (st 19) 151 []
noncomputable def sq:Fn:=aD (st 20) 158 []
noncomputable def mU:Fn:=aD (st 21) 165 []
noncomputable def Cw:Fn:=aD (st 22) 172 []
noncomputable def su:Fn:=aD (st 23) 179 []
noncomputable def A9:Fn:=aD (st 25) 186 []
noncomputable def wS:Fn:=aD (st 26) 193 []
noncomputable def zf:Fn:=aD (st 27) 200 []
noncomputable def kh:Fn:=aD (st 29) 207 []
noncomputable def iV:Fn:=aD (st 30) 214 []
noncomputable def oI:Fn:=aD (st 31) 221 []
noncomputable def ki:Fn:=aD (st 32) 228 []
noncomputable def kj:Fn:=aD (st 33) 235 []
noncomputable def mV:Fn:=aD (st 34) 242 []
noncomputable def vo:Fn:=aD (st 35) 249 []
noncomputable def DD:Fn:=aD (st 36) 256 []
noncomputable def Cy:Fn:=aD (st 37) 264 [.bool false]
noncomputable def qm:Fn:=aD (st 38) 271 []
noncomputable def vp:Fn:=aD (st 40) 278 []
noncomputable def qo:Fn:=aD (st 42) 285 []
noncomputable def jV:Fn:=aD (st 43) 292 []
noncomputable def iW:Fn:=aD (st 44) 299 []
noncomputable def mW:Fn:=aD (st 45) 306 []
noncomputable def mX:Fn:=aD (st 46) 313 []
noncomputable def zg:Fn:=aD (st 47) 320 []
noncomputable def kl:Fn:=aD (st 48) 327 []
noncomputable def lL:Fn:=aD (st 49) 334 []
noncomputable def vq:Fn:=aD (st 50) 341 []
noncomputable def vr:Fn:=aD (st 51) 348 []
noncomputable def zh:Fn:=aD (st 52) 355 []
noncomputable def au:Fn:={ aD (Kh (st 53) 0) 369 [] with qual:="Options.__init__" }
noncomputable def sx:Fn:=aD (st 54) 383 []
noncomputable def qp:Fn:=aD (st 55) 390 []
noncomputable def km:Fn:=aD (st 56) 397 []
noncomputable def sy:Fn:=aD (st 57) 404 []
noncomputable def sA:Fn:=aD (st 58) 411 []
noncomputable def zi:Fn:=aD (st 59) 418 []
noncomputable def lN:Fn:=aD (st 60) 425 []
noncomputable def mY:Fn:=aD (st 61) 433 [.bool false]
noncomputable def iX:Fn:=aD (st 62) 440 []
noncomputable def zj:Fn:=aD (st 63) 447 []
noncomputable def jW:Fn:=aD (st 64) 454 []
noncomputable def jX:Fn:=aD (st 65) 461 []
noncomputable def iY:Fn:=aD (st 66) 468 []
noncomputable def jY:Fn:=aD (st 68) 475 []
noncomputable def mZ:Fn:=aD (st 69) 482 []
noncomputable def sB:Fn:=aD (st 70) 489 []
noncomputable def kq:Fn:=aD (st 71) 496 []
noncomputable def sC:Fn:=aD (st 72) 503 []
noncomputable def vt:Fn:=aD (st 73) 510 []
noncomputable def sD:Fn:=aD (st 74) 517 []
noncomputable def m5:Fn:=aD (st 75) 522 []
noncomputable def iZ:Fn:=aD (st 76) 529 []
noncomputable def vv:Fn:=aD (st 77) 534 []
noncomputable def qr:Fn:=aD (st 78) 541 []
noncomputable def sF:Fn:=aD (st 79) 548 []
noncomputable def qs:Fn:=aD (st 80) 555 []
noncomputable def lO:Fn:=aD (st 81) 560 []
noncomputable def jZ:Fn:=aD (st 82) 567 []
noncomputable def m6:Fn:=aD (st 83) 574 []
noncomputable def m8:Fn:=aD (st 84) 581 []
noncomputable def vz:Fn:=aD (st 85) 586 []
noncomputable def qt:Fn:=aD (st 86) 593 []
noncomputable def sG:Fn:=aD (st 87) 598 []
noncomputable def kr:Fn:=aD (st 88) 603 []
noncomputable def j0:Fn:=aD (st 89) 608 []
noncomputable def zk:Fn:=aD (st 90) 615 []
noncomputable def ai:Addr:=33
noncomputable def ak:Addr:=372
noncomputable def TAB:List Fn:=[Ct,mR,vm,E5,M2,KN,A8,zd,mS,mT,ze,E6,sk,Cu,kg,vn,sq,mU,Cw,su,A9,wS,zf,kh,iV,oI,ki,kj,mV,vo,DD,Cy,qm,vp,qo,jV,iW,mW,mX,zg,kl,lL,vq,vr,zh,sx,qp,km,sy,sA,zi,lN,mY,iX,zj,jW,jX,iY,jY,mZ,sB,kq,sC,vt,sD,m5,iZ,vv,qr,sF,qs,lO,jZ,m6,m8,vz,qt,sG,kr,j0,zk]
inductive MO where
 | list (vs:List V)
 | dS (ks:List Str) (vs:List V)
 | dI (ks:List Int)
 | inst (C d:Addr) (ks:List Str) (vs:List V)
 | exc (d:Addr) (tb:Option (Addr × Value)) (ks:List Str) (vs:List V)
 | made (d:Option Addr) (ks:List Str) (vs:List V)
 | dead
noncomputable abbrev MH:=List (Addr × MO)
noncomputable def MO.addrs (a:Addr):MO→List Addr
 | .inst _ d _ _=>[a,d]
 | .exc d (some T) _ _=>[a,d,T.1]
 | .exc d none _ _=>[a,d]
 | .made d _ _=>a::d.toList
 | .dead=>[]
 | _=>[a]
noncomputable def MO.isFly:MO→Bool
 | .exc ..=>true
 | _=>false
noncomputable def bC (H:MH):List Addr:=(H.filter fun p=>!p.2.isFly).map (·.1)
noncomputable def aW (H:MH):List Addr:=H.flatMap fun p=>p.2.addrs p.1
noncomputable def fZ:List Str:=["len", "ord", "str", "range", "min", "max", "sum", "sorted", "isinstance", "Exception"]
noncomputable def Ki (prog:Program) (w:World) (base:Heap) (dV:Value) (dfl:List V):Prop :=
 (dfl=[]∧dV=.none)∨∃ t xs,dV=.ref t∧IsTup base t xs∧RepL prog w base (fun _=>True) [] dfl xs.toList
noncomputable abbrev Fn.data (F:Fn) (dV pm cd:Value):FuncData:=fnOf F.name F.qual F.params F.body F.scope dV .none .none pm none cd .none
noncomputable def Ba (prog:Program) (w:World) (base:Heap) (F:Fn):Prop :=
 ∃ o pm cd dV,base.get? F.addr=some o∧o.data=.func (F.data dV pm cd)∧base.CodeRec cd F.qual∧Ki prog w base dV F.dfl
noncomputable def aU:List Str:=["mode", "how", "is_decreasing", "command", "path", "stride", "start", "flags", "code", "value", "errorcode", "level", "ret", "info", "is_noted", "line", "extra"]
noncomputable def lY (K:Frag) (C:Addr) (ga:String):Bool :=
 findIn K (.ref C) "__getattribute__"==some (some (.builtin ga))&&(clsIn K C).any (·.hasDict)&&aU.all fun n=>findIn K (.ref C) n==some none
noncomputable def Bb (K:Frag):Bool :=
 findIn K (.ref ai) "__getattr__"==some none&&mroIn K ai (.type "BaseException")==some true &&
 findIn K (.ref ai) "__setattr__"==some (some (.builtin "object.__setattr__"))&&findIn K (.ref ak) "__setattr__"==some (some (.builtin "object.__setattr__")) &&
 (clsIn K ak).any (fun cd=>onlyObject cd.mro)&&(clsIn K ai).any (fun cd=>cd.mro==[.ref ai,.type "Exception",.type "BaseException",.type "object"])
noncomputable abbrev oJ:List Value:=[.type "Exception",.type "BaseException",.type "object"]
structure de (h:Heap):Prop where
 obj:∃ nm q N bs hdct sn sub ab col dd k0 k1 k2 k3 k5,h.get? ai=some (excClassObj nm q ai N bs oJ hdct sn sub ab col dd k0 k1 k2 k3 k5 "Exception.__new__")
theorem de.el {h:Heap}{G:Prop}(Y:de h) (f:∀ nm q N bs hdct sn sub ab col dd k0 k1 k2 k3 k5,h.get? ai=some (excClassObj nm q ai N bs oJ hdct sn sub ab col dd k0 k1 k2 k3 k5 "Exception.__new__")→G):G:=by
 obtain ⟨nm,q,N,bs,hdct,sn,sub,ab,col,dd,k0,k1,k2,k3,k5,hC⟩:=Y
 exact f _ _ _ _ _ _ _ _ _ _ _ _ _ _ _ hC
theorem oK {α:Type}{l:List α}{n:Nat}{G:Prop}(h:l.length=n+1) (k:∀ a t,l=a::t→t.length=n→G):G:=sf (List.exists_cons_of_length_eq_add_one h) fun a t e=>k a t e (Nat.succ.inj ((congrArg List.length e).symm.trans h))
theorem six {α:Type}{l:List α}(h:l.length=6):∃ a b c d e f,l=[a,b,c,d,e,f] :=
 oK h fun a l e h=>oK h fun b l e1 h=>oK h fun c l e2 h=>oK h fun d l e3 h=>oK h fun x l e4 h=>oK h fun y l e5 h=>⟨a,b,c,d,x,y,by rw [e,e1,e2,e3,e4,e5,List.eq_nil_of_length_eq_zero h]⟩
theorem DE {h:Heap}{o:Obj}{cd:ClassData}(e:h.get? ai=some o) (h1:(o.cls==.type "type")=true) (h0:o.data=.cls cd) (h2:(cd.mro==.ref ai::oJ&&!cd.hasDel)=true) (h3:(o.slots.size==6&&o.slots[4]?==some (some (.builtin "Exception.__new__")))=true):de h:=by
 have h2:=Bool.and_eq_true_iff.mp h2
 have h3:=Bool.and_eq_true_iff.mp h3
 obtain ⟨c,dd,d,⟨sl⟩⟩:=o
 obtain ⟨k0,k1,k2,k3,k4,k5,hl⟩:=six (eq_of_beq h3.1)
 have h4:=eq_of_beq h3.2
 have h1:=eq_of_beq h1
 have h5:=eq_of_beq h2.1
 obtain ⟨nm,bs,mro,ns,qn,hd,sn,sub,ab,col,del⟩:=cd
 dsimp only at h1 h0 h4 h5 hl
 have h6:del=false:=by cases del <;> first | rfl | exact ff h2.2
 subst h1 h0 h5 h6 hl
 rw [show k4=_ from sj h4] at e
 exact ⟨nm,qn,ns,bs,hd,sn,sub,ab,col,dd,k0,k1,k2,k3,k5,e⟩
noncomputable def Pe (K:Frag):Cv (fun _:Unit=>∀ h:Heap,K.In h→de h):=match e:K.lookup ai with
 | some o=>match h0:o.data with
  | .cls cd=>wh (o.cls==.type "type") fun h1=>wh (cd.mro==.ref ai::oJ&&!cd.hasDel) fun h2=>wh (o.slots.size==6&&o.slots[4]?==some (some (.builtin "Exception.__new__"))) fun h3=>yes () fun h X=>DE (X _ _ e) h1 h0 h2 h3
  | _=>none
 | none=>none
noncomputable def E7 (K:Frag):Bool:=(Pe K).isSome
noncomputable def zl (K:Frag):Bool :=
 E7 K&&keepIn K (.ref ai)&&findIn K (.ref ai) "__init__"==some (some (.ref av.addr))&&typeIn K (.ref av.addr)==some (.type "function") &&
 makesIn K ak&&keepIn K (.ref ak)&&findIn K (.ref ak) "__init__"==some (some (.ref au.addr))&&typeIn K (.ref au.addr)==some (.type "function")
noncomputable def sH (K:Frag):Bool:=lY K ak "object.__getattribute__"&&lY K ai "BaseException.__getattribute__"&&Bb K&&zl K
theorem Bc {α:Type}{o:Option α}{p:α→Bool}(h:o.any p=true):∃ a,o=some a∧p a=true:=by
 cases o with
 | none=>exact ff h
 | some a=>exact ⟨a,rfl,h⟩
structure E8 (K:Frag) (C:Addr) (ga:String):Prop where
 ga:findIn K (.ref C) "__getattribute__"=some (some (.builtin ga))
 cls:∃ cd,clsIn K C=some cd∧cd.hasDict=true
 at_:∀ n∈aU,findIn K (.ref C) n=some none
theorem M3 {K:Frag}{C:Addr}{ga:String}(h:lY K C ga=true):E8 K C ga :=
 have h:=Bool.and_eq_true_iff.mp h; have h1:=Bool.and_eq_true_iff.mp h.1
 ⟨eq_of_beq h1.1,Bc h1.2,fun n hn=>eq_of_beq (List.all_eq_true.mp h.2 n hn)⟩
structure wT (K:Frag):Prop where
 o:E8 K ak "object.__getattribute__"
 r:E8 K ai "BaseException.__getattribute__"
 ga:findIn K (.ref ai) "__getattr__"=some none
 mro:mroIn K ai (.type "BaseException")=some true
 sr:findIn K (.ref ai) "__setattr__"=some (some (.builtin "object.__setattr__"))
 so:findIn K (.ref ak) "__setattr__"=some (some (.builtin "object.__setattr__"))
 co:∃ cd,clsIn K ak=some cd∧onlyObject cd.mro=true
 cr:∃ cd,clsIn K ai=some cd∧(cd.mro==[.ref ai,.type "Exception",.type "BaseException",.type "object"])=true
 r1:∀ h:Heap,K.In h→de h
 r2:keepIn K (.ref ai)=true
 r3:findIn K (.ref ai) "__init__"=some (some (.ref av.addr))
 r4:typeIn K (.ref av.addr)=some (.type "function")
 o1:makesIn K ak=true
 o2:keepIn K (.ref ak)=true
 o3:findIn K (.ref ak) "__init__"=some (some (.ref au.addr))
 o4:typeIn K (.ref au.addr)=some (.type "function")
theorem KO {K:Frag}(h:sH K=true):wT K :=
 have a {x y:Bool}(h:(x&&y)=true):=Bool.and_eq_true_iff.mp h
 have c:=a h; have b:=a c.1; have d:=a b.1
 have e6:=a b.2; have e5:=a e6.1; have e4:=a e5.1; have e3:=a e4.1; have e2:=a e3.1
 have f8:=a c.2; have f7:=a f8.1; have f6:=a f7.1; have f5:=a f6.1; have f4:=a f5.1; have f3:=a f4.1; have f2:=a f3.1
 ⟨M3 d.1,M3 d.2,eq_of_beq e2.1,eq_of_beq e2.2,eq_of_beq e3.2,eq_of_beq e4.2,Bc e5.2,Bc e6.2,
  cvT f2.1,f2.2,eq_of_beq f3.2,eq_of_beq f4.2,f5.2,f6.2,eq_of_beq f7.2,eq_of_beq f8.2⟩
structure Wd (prog:Program) (w:World) (base:Heap):Prop where
 nolimit:base.NoLimit
 sysm:∃ o,base.get? sysModules=some o
 glob:∃ mg,base.Ns mainGlobals mg∧(∀ F∈TAB,mg F.name=some (.ref F.addr))∧mg "Raised"=some (.ref ai)∧mg "Options"=some (.ref ak)∧∀ x∈fZ,mg x=none
 blt:∃ mb,base.Ns builtinsNs mb∧∀ x∈fZ,mb x=bootBuiltins x
 cls:∃ K:Frag,K.In base∧wT K
 fns:∀ F∈av::au::TAB,Ba prog w base F
structure Fm where
 prog:Program
 w:World
 base:Heap
 A:Around
 env:Env
 fenvs:List Env
 names:List Str
 own:List Addr
 outs:List Addr
 int:List Addr
 gens:Array GenState
 os:OsState
 drawn:Drawn
 fr:Addr
noncomputable abbrev Fm.M (fm:Fm):Model:=model fm.prog fm.w
noncomputable def Fm.X (fm:Fm) (H:MH):List Addr:=fm.own++fm.outs++aW H
noncomputable def Fm.ok (fm:Fm) (H:MH) (a:Addr):Prop:=a ∉ fm.X H∧a ∉ fm.int
noncomputable abbrev Fm.R (fm:Fm) (H:MH) (h:Heap):V→Value→Prop:=Rep fm.prog fm.w h (fm.ok H) (bC H)
noncomputable abbrev Fm.RL (fm:Fm) (H:MH) (h:Heap):List V→List Value→Prop:=RepL fm.prog fm.w h (fm.ok H) (bC H)
noncomputable def KP (h:Heap) (fs:Array Value):Option (Addr × Value)→Prop
 | none=>fs[1]? = some .none
 | some (T,fl)=>fs[1]? = some (.ref T)∧∃ oT ts,h.get? T=some oT∧oT.data=.fields ts∧ts[3]? = some fl
noncomputable def kt (prog:Program) (w:World) (P:List V→List Value→Prop) (h:Heap) (a:Addr):MO→Prop
 | .list vs=>∃ xs,iw h a xs∧P vs xs.toList
 | .dS ks vs=>∃ xs ep,h.DictAt (strKind prog w) a (ks.zip xs) ep∧ks.length=xs.length∧P vs xs
 | .dI ks=>∃ ep,h.DictAt (intKind prog w) a (ks.map fun k=>(k,Value.bool true)) ep∧ks.length≤big
 | .inst C d ks vs=>h.get? a=some (instObj C d)∧∃ xs ep,h.DictAt (strKind prog w) d (ks.zip xs) ep∧ks.length=xs.length∧P vs xs
 | .exc d tb ks vs=>(∃ fs sl,h.get? a=some ⟨Value.ref ai,some d,.fields fs,sl⟩∧KP h fs tb)∧∃ xs ep,h.DictAt (strKind prog w) d (ks.zip xs) ep∧ks.length=xs.length∧P vs xs
 | .made d ks vs=>(∃ fs sl,h.get? a=some ⟨Value.ref ai,d,.fields fs,sl⟩∧fs[1]? = some .none) ∧
  match d with
  | none=>ks=[]∧vs=[]
  | some d=>∃ xs ep,h.DictAt (strKind prog w) d (ks.zip xs) ep∧ks.length=xs.length∧P vs xs
 | .dead=>True
noncomputable abbrev dC (fm:Fm) (H:MH) (h:Heap) (a:Addr) (mo:MO):Prop:=kt fm.prog fm.w (fm.RL H h) h a mo
theorem kt.conv {prog:Program}{w:World}{P P':List V→List Value→Prop}{h h':Heap}{a:Addr}{mo:MO}(c:∀ {vs:List V}{xs:List Value},P vs xs→P' vs xs) (ka:∀ b∈mo.addrs a,∀ o,h.get? b=some o→h'.get? b=some o) (r:kt prog w P h a mo):kt prog w P' h' a mo:=by
 cases mo with
 | list vs=>exact ae r fun xs h1 h2=>⟨xs,iw.keeps (ka a (.head _)) h1,c h2⟩
 | dS ks vs=>exact cz r fun xs ep h1 hl h2=>⟨xs,ep,bE (ka a (.head _)) h1,hl,c h2⟩
 | dI ks=>exact ae r fun ep h1 h2=>⟨ep,bE (ka a (.head _)) h1,h2⟩
 | inst C d ks vs=>exact ar r fun h0 r=>cz r fun xs ep h1 hl h2=>⟨ka a (.head _) _ h0,xs,ep,bE (ka d (.tail _ (.head _))) h1,hl,c h2⟩
 | exc d tb ks vs =>
  refine ar r fun r0 r=>cN r0 fun fs sl h0 h0'=>cz r fun xs ep h1 hl h2=>?_
  cases tb with
  | none=>exact ⟨⟨fs,sl,ka a (.head _) _ h0,h0'⟩,xs,ep,bE (ka d (.tail _ (.head _))) h1,hl,c h2⟩
  | some T=>exact ⟨⟨fs,sl,ka a (.head _) _ h0,ar h0' fun q1 q=>cN q fun oT ts q2 q3=>⟨q1,oT,ts,ka T.1 (.tail _ (.tail _ (.head _))) _ q2,q3⟩⟩,xs,ep,bE (ka d (.tail _ (.head _))) h1,hl,c h2⟩
 | made d ks vs =>
  refine ar r fun r0 r=>cN r0 fun fs sl h0 h0'=>⟨⟨fs,sl,ka a (.head _) _ h0,h0'⟩,?_⟩
  cases d with
  | none=>exact r
  | some d=>exact cz r fun xs ep h1 hl h2=>⟨xs,ep,bE (ka d (.tail _ (.head _))) h1,hl,c h2⟩
 | dead=>exact trivial
theorem dC.conv {fm fm':Fm}{H H':MH}{h h':Heap}{a:Addr}{mo:MO}(hp:fm'.prog=fm.prog) (hw:fm'.w=fm.w) (c:∀ {vs:List V}{xs:List Value},fm.RL H h vs xs→fm'.RL H' h' vs xs)
  (ka:∀ b∈mo.addrs a,∀ o,h.get? b=some o→h'.get? b=some o) (r:dC fm H h a mo):dC fm' H' h' a mo:=by
 unfold dC
 rw [hp,hw]
 exact kt.conv c ka r
noncomputable def d6 (h:Heap) (env:Env) (x:Str) (val:Value):Prop:=match env.kindOf x with
 | some .local=>∃ m,h.Ns env.locals m∧m x=some val
 | some .cell=>∃ c,env.cells.lookup x=some c∧h.IsCell c (some val)
 | _=>False
noncomputable abbrev Loc:=Nat→Option V
structure Sat (fm:Fm) (m:Loc) (H:MH) (s:Shared):Prop where
 base:∀ b o,fm.base.get? b=some o→s.heap.get? b=some o
 funs:s.heap.FunFrames fm.base fm.fenvs
 ns:∃ mm,s.heap.Ns fm.env.locals mm
 cells:∀ x c,fm.env.kindOf x=some .cell→fm.env.cells.lookup x=some c→∃ v,s.heap.IsCell c v
 vars:∀ i x v,fm.names[i]? = some x→(fm.env.kindOf x=some .local∨fm.env.kindOf x=some .cell)→m i=some v→∃ val,d6 s.heap fm.env x val∧fm.R H s.heap v val
 objs:∀ p∈H,dC fm H s.heap p.1 p.2
 nodup:(aW H).Nodup
 apart:∀ a∈aW H,a ∉ fm.own∧a ∉ fm.outs∧a ∉ fm.int∧fm.base.get? a=none
 alive:∀ a,a∈fm.own∨a∈fm.outs∨a∈fm.int→∃ o,s.heap.get? a=some o
 gens:s.gens=fm.gens
 os:s.os=fm.os
 drawn:s.drawn=fm.drawn
structure ay (fm:Fm):Prop where
 frames:fm.A.frames=some fm.fenvs
 kind:fm.env.scope.kind=.function
 glob:fm.env.globals=mainGlobals
 blt:fm.env.builtins=builtinsNs
 locals:fm.env.locals∈fm.own
 cellsOwn:∀ x c,fm.env.kindOf x=some .cell→fm.env.cells.lookup x=some c→(c∈fm.own∨c∈fm.outs)∧c≠fm.env.locals
 cellsInj:∀ x y c,fm.env.kindOf x=some .cell→fm.env.kindOf y=some .cell→fm.env.cells.lookup x=some c→fm.env.cells.lookup y=some c→x=y
 names:fm.names.Nodup
 ownBase:∀ a,a∈fm.own∨a∈fm.outs∨a∈fm.int→fm.base.get? a=none
 ownFm:∀ a∈fm.own,a ∉ fm.int
 outsFm:∀ a∈fm.outs,a ∉ fm.int
 ownOuts:∀ a∈fm.own,a ∉ fm.outs
 frIn:fm.fr∈fm.own∨fm.fr∈fm.outs
 frEnv:fm.env.frame=some fm.fr
 wd:Wd fm.prog fm.w fm.base
 fenvsIn:∀ e∈fm.fenvs,∀ L,e.frame=some L→L=fm.fr∨L∈fm.outs
structure af (fm:Fm) (H:MH) (h:Heap) (H':MH) (h':Heap):Prop where
 keep:∀ b o,h.get? b=some o→b ∉ fm.X H→h'.get? b=some o∧b ∉ fm.X H'
 outs:∀ L∈fm.outs,∀ o,h.get? L=some o→∃ sl,h'.get? L=some { o with slots:=sl }
 pre:∀ (i:Nat) (a:Addr),(bC H)[i]? = some a→(bC H')[i]? = some a
theorem af.refl (fm:Fm) (H:MH) (h:Heap):af fm H h H h :=
 ⟨fun _ _ e n=>⟨e,n⟩,fun _ _ o e=>⟨o.slots,e⟩,fun _ _ e=>e⟩
theorem af.trans {fm:Fm}{H₁ H₂ H₃:MH}{h₁ h₂ h₃:Heap}(x:af fm H₁ h₁ H₂ h₂) (y:af fm H₂ h₂ H₃ h₃):af fm H₁ h₁ H₃ h₃ :=
 ⟨fun b o e n=>let ⟨e',n'⟩:=x.keep b o e n; y.keep b o e' n',
  fun L hL o e=>let ⟨_,e'⟩:=x.outs L hL o e; let ⟨sl,e''⟩:=y.outs L hL _ e'; ⟨sl,e''⟩,
  fun i a e=>y.pre i a (x.pre i a e)⟩
theorem af.rep {fm:Fm}{H H':MH}{h h':Heap}(T:af fm H h H' h') {v:V}{x:Value}(r:fm.R H h v x):fm.R H' h' v x :=
 Rep.mono T.pre (fun b o e q=>let ⟨e',n'⟩:=T.keep b o e q.1; ⟨e',n',q.2⟩) r
theorem af.repL {fm:Fm}{H H':MH}{h h':Heap}(T:af fm H h H' h') {v:List V}{x:List Value}(r:fm.RL H h v x):fm.RL H' h' v x :=
 RepL.mono T.pre (fun b o e q=>let ⟨e',n'⟩:=T.keep b o e q.1; ⟨e',n',q.2⟩) r
theorem af.of_keeps {fm:Fm}{H:MH}{h h':Heap}(k:∀ b o,h.get? b=some o→h'.get? b=some o):af fm H h H h' :=
 ⟨fun b o e n=>⟨k b o e,n⟩,fun _ _ o e=>⟨o.slots,k _ _ e⟩,fun _ _ e=>e⟩
theorem d6.keeps {h h':Heap}{env:Env}{x:Str}{val:Value}(k:∀ b o,h.get? b=some o→h'.get? b=some o) (v:d6 h env x val):d6 h' env x val:=by
 unfold d6 at v ⊢
 split
 ·rename_i e
  rw [e] at v
  refine ae v fun m n q=>?_
  exact ⟨m,n.keeps k,q⟩
 ·rename_i e
  rw [e] at v
  obtain ⟨c,hc,o,ho,hd⟩:=v
  exact ⟨c,hc,o,k _ _ ho,hd⟩
 ·rename_i h1 h2
  split at v
  ·rename_i e; exact absurd e h1
  ·rename_i e; exact absurd e h2
  ·exact v
theorem dC.mono {fm:Fm}{H H':MH}{h h':Heap}{a:Addr}{mo:MO}(pre:∀ (i:Nat) (a:Addr),(bC H)[i]? = some a→(bC H')[i]? = some a) (k:∀ b o,h.get? b=some o→fm.ok H b→h'.get? b=some o∧fm.ok H' b)
  (ka:∀ b∈mo.addrs a,∀ o,h.get? b=some o→h'.get? b=some o) (r:dC fm H h a mo):dC fm H' h' a mo:=kt.conv (RepL.mono pre k) ka r
theorem bm {H:MH}{p:Addr × MO}(hp:p∈H) {b:Addr}(hb:b∈p.2.addrs p.1):b∈aW H:=List.mem_flatMap.mpr ⟨p,hp,hb⟩
theorem Sat.keeps {fm:Fm}{m:Loc}{H:MH}{s s':Shared}(S:Sat fm m H s) (k:∀ b o,s.heap.get? b=some o→s'.heap.get? b=some o)
  (hg:s'.gens=s.gens) (ho:s'.os=s.os) (hd:s'.drawn=s.drawn):Sat fm m H s' where
 base:=fun b o e=>k b o (S.base b o e)
 funs:=S.funs.of_keeps fun b o e _=>⟨o,k b o e,rfl⟩
 ns:=let ⟨mm,n⟩:=S.ns; ⟨mm,n.keeps k⟩
 cells:=fun x c h1 h2=>let ⟨v,o,h3,h4⟩:=S.cells x c h1 h2; ⟨v,o,k _ _ h3,h4⟩
 vars:=fun i x v h1 h2 h3=>let ⟨val,h4,h5⟩:=S.vars i x v h1 h2 h3; ⟨val,h4.keeps k,(af.of_keeps k).rep h5⟩
 objs:=fun p hp=>dC.mono (fun _ _ e=>e) (fun b o e q=>⟨k b o e,q⟩) (fun b _ o e=>k b o e) (S.objs p hp)
 nodup:=S.nodup
 apart:=S.apart
 alive:=fun a ha=>let ⟨o,h⟩:=S.alive a ha; ⟨o,k a o h⟩
 gens:=hg.trans S.gens
 os:=ho.trans S.os
 drawn:=hd.trans S.drawn
theorem Sat.toks {fm:Fm}{m:Loc}{H:MH}{s:Shared}(S:Sat fm m H s) (tk:Nat):Sat fm m H { s with toks:=tk } :=
 S.keeps (fun _ _ e=>e) rfl rfl rfl
theorem Sat.push {fm:Fm}{m:Loc}{H:MH}{s:Shared}(S:Sat fm m H s) (o:Obj):Sat fm m H { s with heap:=s.heap.push o } :=
 S.keeps (fun _ _ e=>Heap.get?_push_of_some o e) rfl rfl rfl
theorem Bd {fm:Fm}{m:Loc}{H:MH}{s:Shared}(O:ay fm) (S:Sat fm m H s) {b:Addr}(hb:b∈fm.X H):fm.base.get? b=none:=by
 unfold Fm.X at hb
 rcases List.mem_append.mp hb with h | h
 ·rcases List.mem_append.mp h with h | h
  ·exact O.ownBase b (.inl h)
  ·exact O.ownBase b (.inr (.inl h))
 ·exact (S.apart b h).2.2.2
end Mine
end
section
open PySem PySem.W PyProof.Rows
set_option maxRecDepth 1000000
set_option backward.match.sparseCases false
namespace Mine.Z
section
noncomputable def uP (S:SharedT) (a:Addr):Option Obj:=wh (Nat.blt a S.n) fun _=>(S.tree.get a).bind alive
theorem gQ {S:SharedT}{a:Addr}{o:Obj}(h:uP S a=some o):S.abs.heap.get? a=some o :=
 zb h fun e h=>ae (Option.bind_eq_some_iff.mp h) fun o' h1 h2=>(abs_get (Nat.le_of_ble_eq_true e) h1).trans h2
noncomputable def E9 (o:Option Obj):Option FuncData:=match o with
 | some o=>match o with
  | ⟨_,_,d,_⟩=>match d with
   | .func f=>some { f with defaults:=.none,code:=.none,pyModule:=.none }
   | _=>none
 | none=>none
section
variable (prog:Program) (w:World) (S:SharedT)
noncomputable def M4 (v:Value) (q:Str):Ck (S.abs.heap.CodeRec v q):=match v with
 | .ref c=>opt (uP S c) fun o e=>match o,e with
  | ⟨_,_,d,_⟩,e=>match d,e with
   | .fields vs,e=>opt (vs[1]?:Option Value) fun x ex=>match x,ex with
    | .str y t,ex=>wh (y==q) fun h=>ys ⟨c,_,vs,t,rfl,gQ e,rfl,eq_of_beq h ▸ ex⟩
    | _,_=>none
   | _,_=>none
 | _=>none
noncomputable def atC (v:V) (x:Value):Ck (Rep prog w S.abs.heap (fun _=>True) [] v x):=match v with
 | .none=>match x with
  | .none=>ys rfl
  | _=>none
 | .bool b=>match x with
  | .bool c=>wh (b==c) fun h=>ys (eq_of_beq h ▸ rfl)
  | _=>none
 | .int i=>match x with
  | .int j t=>wh (i==j) fun h=>ys ⟨t,eq_of_beq h ▸ rfl⟩
  | _=>none
 | .str s=>match x with
  | .str y t=>wh (s==y) fun h=>wh (Nat.ble s.length big) fun h1=>ys ⟨t,eq_of_beq h ▸ rfl,Nat.le_of_ble_eq_true h1⟩
  | _=>none
 | _=>none
theorem KR {vs:List V}{a:Addr}{t:String}{d:Option Addr}{xs:Array Value}{n:Nat}{sl:Array (Option Value)}(e:uP S a=some ⟨.type t,d,.seq xs n,sl⟩) (h:(t=="tuple"&&n==0&&d.isNone&&sl.isEmpty&&Nat.ble xs.size big)=true) (r:RepL prog w S.abs.heap (fun _=>True) [] vs xs.toList):Rep prog w S.abs.heap (fun _=>True) [] (.tup vs) (.ref a):=by
 refine ar (an h) fun h h5=>ar (an h) fun h h4=>ar (an h) fun h h3=>ar (an h) fun h1 h2=>?_
 obtain rfl:=eq_of_beq h1
 obtain rfl:=eq_of_beq h2
 obtain rfl:=Option.isNone_iff_eq_none.mp h3
 obtain rfl:=Array.isEmpty_iff.mp h4
 exact ⟨a,xs,rfl,trivial,⟨Nat.le_of_ble_eq_true h5,gQ e⟩,r⟩
noncomputable def Fa {R:V→Value→Prop}(c:∀ v x,Ck (R v x)) {P:List V→List Value→Prop}(p0:P [] []) (p1:∀ {v x vs xs},R v x→P vs xs→P (v::vs) (x::xs)):∀ (vs:List V) (xs:List Value),Ck (P vs xs)
 | [],xs=>match xs with
  | []=>ys p0
  | _::_=>none
 | v::vs,xs=>match xs with
  | []=>none
  | x::xs=>bd (c v x) fun h1=>bd (Fa c p0 p1 vs xs) fun h2=>ys (p1 h1 h2)
noncomputable def Pf (v:V) (x:Value):Ck (Rep prog w S.abs.heap (fun _=>True) [] v x):=match v with
 | .tup vs=>match x with
  | .ref a=>opt (uP S a) fun o e=>match o,e with
   | ⟨c,d,dt,sl⟩,e=>match dt,e with
    | .seq xs n,e=>match c,e with
     | .type t,e=>wh (t=="tuple"&&n==0&&d.isNone&&sl.isEmpty&&Nat.ble xs.size big) fun h=>bd (Fa (atC prog w S) RepL.nil RepL.cons vs xs.toList) fun r=>ys (KR prog w S e h r)
     | _,_=>none
    | _,_=>none
  | _=>none
 | v=>atC prog w S v x
noncomputable def Pg (x:Value) (l:List V):Ck (Ki prog w S.abs.heap x l):=match x with
 | .none=>match l with
  | []=>ys (.inl ⟨rfl,rfl⟩)
  | _::_=>none
 | .ref t=>opt (uP S t) fun o e=>match o,e with
  | ⟨c,d,dt,sl⟩,e=>match dt,e with
   | .seq xs n,e=>match c,e with
    | .type t,e=>wh (t=="tuple") fun h=>bd (Fa (Pf prog w S) RepL.nil RepL.cons l xs.toList) fun r=>ys (.inr ⟨_,xs,rfl,⟨_,gQ e,congrArg Value.type (eq_of_beq h),n,rfl⟩,r⟩)
    | _,_=>none
   | _,_=>none
 | _=>none
noncomputable def fnC (F:Fn):Ck (E9 (uP S F.addr)=some (F.data .none .none .none)→Ba prog w S.abs.heap F):=opt (uP S F.addr) fun o e=>match o,e with
 | ⟨_,_,d,_⟩,e=>match d,e with
  | .func f,e=>bd (M4 S f.code F.qual) fun h1=>bd (Pg prog w S f.defaults F.dfl) fun h2=>ys fun h =>
   have h:_=some _:=(congrArg E9 e).symm.trans h
   ⟨_,f.pyModule,f.code,f.defaults,gQ e,congrArg (fun g:FuncData=>Data.func { g with defaults:=f.defaults,code:=f.code,pyModule:=f.pyModule }) (sj h),h1,h2⟩
  | _,_=>none
end
end
end Mine.Z
end
section
open PySem PySem.W PyProof.Rows
set_option maxRecDepth 1000000
namespace Mine.Z
noncomputable def Fb:List Fn:=av::au::TAB
noncomputable def Cz (S:SharedT):Frag:=(List.range 40++(List.range 40).map (·+355)).filterMap fun a=>(uP S a).map (a,·)
noncomputable def nsM (S:SharedT) (x:Str):Option Value:=Fast.tw8920871248978507458 S.abs.heap mainGlobals x
noncomputable def Fc (prog:Program) (w:World) (S:SharedT):=(Fb.map (fun F=>E9 (uP S F.addr)),Fb.all (fun F=>(fnC prog w S F).isSome),TAB.map (fun F=>nsM S F.name),(nsM S "Raised",nsM S "Options"),fZ.map (nsM S),sH (Cz S),(uP S sysModules).isSome)
noncomputable def Fe:=(Fb.map (fun F=>some (F.data .none .none .none)),true,TAB.map (fun F=>some (Value.ref F.addr)),(some (Value.ref ai),some (Value.ref ak)),fZ.map (fun _=>(none:Option Value)),true,true)
theorem big (prog:Program) (w' w:World) (os:OsState):(Ic pwS.1 w 11 (some (.ref 6)) 4000 (Kf w.params os) (topStub pwS.1)).map (fun S=>(Kg w.params S,Fc prog w' S))=some ((true,openGood qN sg),Fe):=by kernel_rfl
noncomputable def sI (mg:Str→Option Value) (h:Heap):Prop :=
 (∀ F∈TAB,mg F.name=some (.ref F.addr))∧mg "Raised"=some (.ref ai)∧mg "Options"=some (.ref ak)∧(∀ x∈fZ,mg x=none) ∧
 (∃ o,h.get? sysModules=some o)∧(∃ K:Frag,K.In h∧sH K=true)∧∀ prog w,∀ F∈Fb,Ba prog w h F
theorem Ba.keeps {prog:Program}{w:World}{h h':Heap}{F:Fn}(k:∀ b o,h.get? b=some o→h'.get? b=some o) (x:Ba prog w h F):Ba prog w h' F:=by
 refine MZ x fun o pm cd dV h1 h2 h3 h4=>?_
 refine ⟨o,pm,cd,dV,k _ _ h1,h2,h3.keeps k,?_⟩
 rcases h4 with q | ⟨t,xs,q1,q2,q3⟩
 ·exact .inl q
 ·exact .inr ⟨t,xs,q1,qk (fun o=>k _ o) q2,RepL.mono (fun _ _ e=>e) (fun b o e q=>⟨k b o e,q⟩) q3⟩
theorem sI.keeps (mg:Str→Option Value) (h h':Heap) (x:sI mg h) (k:∀ b o,h.get? b=some o→h'.get? b=some o):sI mg h':=by
 refine KJ x fun a b c d z8=>?_; obtain ⟨o,e⟩:=z8; intro z8; obtain ⟨K,f,g⟩:=z8; intro i
 exact ⟨a,b,c,d,⟨o,k _ _ e⟩,⟨K,f.keeps k,g⟩,fun prog w F hF=>Ba.keeps k (i prog w F hF)⟩
noncomputable def XtN (s:Shared):Bool:=@decide (sI (s.heap.nsMap mainGlobals) s.heap) (Classical.propDecidable _)
theorem Ff (s:Shared) (h:XtN s=true):sI (s.heap.nsMap mainGlobals) s.heap:=by unfold XtN at h; exact @of_decide_eq_true _ (Classical.propDecidable _) h
theorem sJ {K W:Type} [BEq K] [LawfulBEq K] {a:K}{b:W}:∀ {l:List (K × W)},l.lookup a=some b→(a,b)∈l
 | [],h=>by exact nS h
 | (k,v)::l,h=>by
  rw [List.lookup_cons] at h
  cases e:a==k with
  | true=>rw [e] at h; replace h:=sj h; subst h; obtain rfl:=beq_iff_eq.mp e; exact .head _
  | false=>rw [e] at h; exact .tail _ (sJ h)
theorem Fg (S:SharedT):(Cz S).In S.abs.heap:=by
 intro a o h
 unfold Cz at h
 have:=sJ h
 refine ae (List.mem_filterMap.mp this) fun b _ hb=>?_
 refine ae (Option.map_eq_some_iff.mp hb) fun o' h1 h2=>?_
 cases h2
 exact gQ h1
theorem wU {α β:Type}{f g:α→β}:∀ {l:List α},l.map f=l.map g→∀ x∈l,f x=g x
 | [],_,x,hx=>by cases hx
 | a::l,h,x,hx=>by
  simp only [List.map_cons,List.cons.injEq] at h
  rcases List.mem_cons.mp hx with rfl | hx
  ·exact h.1
  ·exact wU h.2 x hx
theorem Be {S:SharedT}(w:World) (h:∀ prog w,Fc prog w S=Fe):sI (S.abs.heap.nsMap mainGlobals) S.abs.heap:=by
 refine KJ (by simpa only [Fc,Fe,Prod.mk.injEq] using h pwS.1 w) fun h1 h2 h3 z8=>?_; obtain ⟨h4,h5⟩:=z8; intro h6 h7 h8
 have e:nsM S=S.abs.heap.nsMap mainGlobals:=by
  funext x; unfold nsM; rw [← Fast.te8920871248978507458]
 rw [e] at h3 h4 h5 h6
 have k (prog w):∀ F∈Fb,(fnC prog w S F).isSome=true:=List.all_eq_true.mp (congrArg (·.2.1) (h prog w))
 exact ⟨wU h3,h4,h5,wU h6,Option.isSome_iff_exists.mp h8 |>.imp fun _=>gQ,⟨Cz S,Fg S,h7⟩,fun prog w F hF=>(cvT (k prog w F hF):_→_) (wU h1 F hF)⟩
theorem ope:opening pwS.1=plainProg pwS.1.main.scope.names:=by kernel_rfl
theorem fen (s:Shared):fenceModules? pwS.1 s=some s:=by kernel_rfl
theorem sz (P:Params):((boot_heap P).isNs mainGlobals&&(#[]:Array GenState).size==0,(boot_heap P).objs.size,(boot_heap P).nsMap mainGlobals "__annotations__")=(true,11,some (.ref 6)):=by kernel_rfl
theorem Ph:LeftO pwS.1 qN sg XtN (fun _=>()) (fun _=>()) 4000:=fun w=>by
 obtain ⟨⟨h,gs,d,k,os⟩,e,e'⟩:=Option.map_eq_some_iff.mp (boot_open (N:=4000) ope (by decide) fen w)
 obtain ⟨rfl,rfl,rfl,rfl⟩:h=boot_heap w.params∧gs=#[]∧d=boot_drawn∧k=boot_toks:=by simpa using e'
 obtain ⟨z1,z2,z3⟩:_∧_∧_:=by simpa only [Prod.mk.injEq] using sz w.params
 obtain ⟨S,hS,hl⟩:=Option.map_eq_some_iff.mp (big pwS.1 w w os)
 simp only [Prod.mk.injEq] at hl
 obtain ⟨l0,l1⟩:=hl
 have hS0:=hS
 rw [Cp] at hS
 have r:=vk hS
 rw [DC] at r
 unfold Kg at l0
 rw [Prod.mk.injEq,← Fast.te4187177175401517315] at l0
 obtain ⟨la,lb⟩:=l0
 have hx:XtN S.abs=true:=by unfold XtN; exact @decide_eq_true _ (Classical.propDecidable _) (Be w fun prog w'=>by simpa only [hS0,Option.map_some,Option.some.injEq,Prod.mk.injEq] using congrArg (Option.map (·.2)) (big prog w' w os))
 have t:topFrom treeTable pwS.1 w 4000 ⟨boot_heap w.params,#[],boot_drawn,boot_toks,os⟩=some S.abs:=by
  unfold topFrom
  dsimp only
  rw [z1,z2,z3,r]
  show (match staticsOk (importedModules pwS.1.main.body) (boot_heap w.params) S.abs.heap&&namesBound pwS.1 S.abs.heap&&gensDone S.abs&&laidKept (boot_heap w.params) S.abs.heap with | true=>_ | false=>_)=_
  rw [la]
 unfold openEnds
 rw [e,Option.bind_some,t,Option.map_some]
 have hs:openSeen qN sg (importedModules pwS.1.main.body) XtN true S.abs=openGood qN sg:=by
  rw [← lb]
  unfold openSeen
  rw [hx]
 exact congrArg some (Prod.ext hs rfl)
noncomputable def rwN:OpenLaw:={ PySem.Challenge.rw_np0151_01 with prog:=pwS.1 }
theorem M5:PySem.Challenge.rw_np0151_01=rwN:=(congrArg (fun p=>{ PySem.Challenge.rw_np0151_01 with prog:=p }) pwS.2:{ PySem.Challenge.rw_np0151_01 with prog:=PySem.Challenge.pw_np0151_01 }=_)
noncomputable def dN:DefRec:=match defOf qN rwN.row.name with
 | some (d,_)=>d
 | none=>⟨"",E4,[],Cr,⟨0,0,0,0⟩⟩
theorem M6:defOf qN rwN.row.name=some (dN,[]):=by kernel_rfl
theorem hpN:rwN.row.prog.theDef rwN.row.name=some (dN.params,dN.body,dN.scope):=by kernel_rfl
theorem hkN:kwWritten? dN.params.kwonlyargs dN.params.kw_defaults=some []:=by kernel_rfl
theorem M7:dN.name=zk.name:=by kernel_rfl
theorem okN:(chainsOk qN&&opensWell rwN.row.prog&&(frees rwN.row.toRowW&&rwN.row.within.isEmpty))=true:=by kernel_rfl
theorem M8:rwN.row.prog.bare:=⟨rfl,rfl,rfl,rfl,rfl,by decide +kernel⟩
theorem M9:rwN.row.toRowW.promised:=⟨[.list []],by decide +kernel,by decide +kernel⟩
set_option maxHeartbeats 0 in
theorem Na:rwN.wellSaid=true:=by
 rw [PySem.W.Fast.te9446332074065402090]
 delta PySem.W.Fast.tw9446332074065402090
 repeat' with_reducible apply look_both
 delta PySem.W.Fast.tw17960256430627541270 PySem.W.Fast.tw2436336058641802641 PySem.W.Fast.tw12908688711261696721
 repeat' with_reducible apply look_both
 all_goals as_aux_lemma=>kernel_rfl
end Mine.Z
end
section
open PySem PySem.W PyProof.Rows
set_option maxRecDepth 20000
set_option genSizeOf false
namespace Mine
section
section
variable {M:Model}{Ar:Around}{E:Value→Shared→Prop}{s:Shared}{α:Type}{Q:α→Shared→Prop}{c:Prop} [Decidable c] {a b:Sem α}
theorem sK (h:¬ c) (k:wpAny M Ar b Q E s):wpAny M Ar (ite c a b) Q E s:=wpAny_ite_false (decide_eq_false h) k
theorem Bf (h:c) (k:wpAny M Ar a Q E s):wpAny M Ar (ite c a b) Q E s:=wpAny_ite_true (decide_eq_true h) k
end
noncomputable abbrev QV:=V→MH→Prop
noncomputable abbrev QX:=List Str→List V→MH→Prop
noncomputable def wV (fm:Fm):Option (Addr × Value)→Prop
 | none=>True
 | some (_,fl)=>fl=.none∨∃ L,fm.env.frame=some L∧fl=rawInt L
inductive PX (fm:Fm) (m:Loc) (H:MH) (h:Heap) (QE:QX) (x:Value) (s':Shared):Prop
 | mk (e:Addr) (d:Addr) (tb:Option (Addr × Value)) (ks:List Str) (vs:List V) (H':MH) (m':Loc) (a:x=.ref e) (b:af fm H h ((e,.exc d tb ks vs)::H') s'.heap) (c:Sat fm m' ((e,.exc d tb ks vs)::H') s') (f:wV fm tb) (g:QE ks vs H')
inductive PV (fm:Fm) (m:Loc) (H:MH) (h:Heap) (Q:QV) (x:Value) (s':Shared):Prop
 | mk (v:V) (H':MH) (a:af fm H h H' s'.heap) (b:Sat fm m H' s') (c:fm.R H' s'.heap v x) (d:Q v H')
inductive PL (fm:Fm) (m:Loc) (H:MH) (h:Heap) (Q:List V→MH→Prop) (xs:List Value) (s':Shared):Prop
 | mk (vs:List V) (H':MH) (a:af fm H h H' s'.heap) (b:Sat fm m H' s') (c:fm.RL H' s'.heap vs xs) (d:Q vs H')
inductive PB (fm:Fm) (m:Loc) (H:MH) (h:Heap) (Q:Bool→MH→Prop) (b:Bool) (s':Shared):Prop
 | mk (H':MH) (a:af fm H h H' s'.heap) (c:Sat fm m H' s') (d:Q b H')
theorem PX.back {fm:Fm}{m:Loc}{H H₁:MH}{h h₁:Heap}{QE:QX}{x:Value}{s':Shared}(T:af fm H h H₁ h₁) (p:PX fm m H₁ h₁ QE x s'):PX fm m H h QE x s' :=
 let ⟨e,d,tb,ks,vs,H',m',a,b,c,f,g⟩:=p; ⟨e,d,tb,ks,vs,H',m',a,T.trans b,c,f,g⟩
theorem PV.back {fm:Fm}{m:Loc}{H H₁:MH}{h h₁:Heap}{Q:QV}{x:Value}{s':Shared}(T:af fm H h H₁ h₁) (p:PV fm m H₁ h₁ Q x s'):PV fm m H h Q x s' :=
 let ⟨v,H',b,c,d,e⟩:=p; ⟨v,H',T.trans b,c,d,e⟩
theorem PB.back {fm:Fm}{m:Loc}{H H₁:MH}{h h₁:Heap}{Q:Bool→MH→Prop}{x:Bool}{s':Shared}(T:af fm H h H₁ h₁) (p:PB fm m H₁ h₁ Q x s'):PB fm m H h Q x s' :=
 let ⟨H',b,c,d⟩:=p; ⟨H',T.trans b,c,d⟩
theorem PL.back {fm:Fm}{m:Loc}{H H₁:MH}{h h₁:Heap}{Q:List V→MH→Prop}{x:List Value}{s':Shared}(T:af fm H h H₁ h₁) (p:PL fm m H₁ h₁ Q x s'):PL fm m H h Q x s' :=
 let ⟨v,H',b,c,d,e⟩:=p; ⟨v,H',T.trans b,c,d,e⟩
noncomputable def EW (fm:Fm) (e:Expr) (m:Loc) (H:MH) (Q:QV) (QE:QX):Prop :=
 ∀ s,Sat fm m H s→wpAny fm.M fm.A (eval e fm.env) (PV fm m H s.heap Q) (PX fm m H s.heap QE) s
noncomputable def TW (fm:Fm) (e:Expr) (m:Loc) (H:MH) (Q:Bool→MH→Prop) (QE:QX):Prop :=
 ∀ s,Sat fm m H s→wpAny fm.M fm.A (isTrue e fm.env (eval e fm.env)) (PB fm m H s.heap Q) (PX fm m H s.heap QE) s
noncomputable def LW (fm:Fm) (pos:Pos) (es:List Expr) (m:Loc) (H:MH) (Q:List V→MH→Prop) (QE:QX):Prop :=
 ∀ s,Sat fm m H s→wpAny fm.M fm.A (spliced (backTo pos (starEach es fm.env))) (PL fm m H s.heap Q) (PX fm m H s.heap QE) s
noncomputable def OW (fm:Fm) (t:Sem Value) (m:Loc) (H:MH) (Q:QV) (QE:QX) (s:Shared):Prop:=wpAny fm.M fm.A t (PV fm m H s.heap Q) (PX fm m H s.heap QE) s
section
variable {fm:Fm}{m:Loc}{H:MH}{Q:QV}{QE:QX}
theorem dD {s s':Shared}{v:V}{x:Value}(S:Sat fm m H s) (k:∀ b o,s.heap.get? b=some o→s'.heap.get? b=some o) (hg:s'.gens=s.gens) (ho:s'.os=s.os) (hd:s'.drawn=s.drawn)
  (r:fm.R H s'.heap v x) (q:Q v H):PV fm m H s.heap Q x s' :=
 ⟨v,H,af.of_keeps k,S.keeps k hg ho hd,r,q⟩
theorem aK {s:Shared}{tk:Nat}{v:V}{x:Value}(S:Sat fm m H s) (r:fm.R H s.heap v x) (q:Q v H):PV fm m H s.heap Q x { s with toks:=tk } :=
 dD S (fun _ _ e=>e) rfl rfl rfl r q
theorem f0 {s:Shared}{v:V}{x:Value}(S:Sat fm m H s) (r:fm.R H s.heap v x) (q:Q v H):PV fm m H s.heap Q x s:=⟨v,H,af.refl ..,S,r,q⟩
theorem wW {h:Heap}:fm.R H h .none .none:=rfl
theorem gZ {h:Heap}{b:Bool}:fm.R H h (.bool b) (.bool b):=rfl
theorem d7 {h:Heap}{i:Int}{t:Tok}:fm.R H h (.int i) (.int i t):=⟨t,rfl⟩
theorem iy {h:Heap}{x:Str}{t:Tok}(hl:x.length≤big):fm.R H h (.str x) (.str x t):=⟨t,rfl,hl⟩
theorem Nb {h:Heap}{i:Nat}{a:Addr}(e:(bC H)[i]? = some a):fm.R H h (.ref i) (.ref a):=⟨a,e,rfl⟩
theorem PV.el {s':Shared}{h:Heap}{x:Value}{P:Prop}(p:PV fm m H h Q x s') (k:∀ v H',af fm H h H' s'.heap→Sat fm m H' s'→fm.R H' s'.heap v x→Q v H'→P):P:=let ⟨v,H',a,b,c,d⟩:=p; k v H' a b c d
theorem PL.el {s':Shared}{h:Heap}{QL:List V→MH→Prop}{x:List Value}{P:Prop}(p:PL fm m H h QL x s') (k:∀ v H',af fm H h H' s'.heap→Sat fm m H' s'→fm.RL H' s'.heap v x→QL v H'→P):P:=let ⟨v,H',a,b,c,d⟩:=p; k v H' a b c d
theorem PX.el {s':Shared}{h:Heap}{x:Value}{P:Prop}(p:PX fm m H h QE x s') (k:∀ e d tb ks vs H' m',x=.ref e→af fm H h ((e,.exc d tb ks vs)::H') s'.heap→Sat fm m' ((e,.exc d tb ks vs)::H') s'→wV fm tb→QE ks vs H'→P):P:=let ⟨e,d,tb,ks,vs,H',m',a,b,c,f,g⟩:=p; k e d tb ks vs H' m' a b c f g
theorem PX.mono {m':Loc}{h:Heap}{QE':QX}{x:Value}{s':Shared}(p:PX fm m H h QE x s') (k:∀ ks vs H',QE ks vs H'→QE' ks vs H'):PX fm m' H h QE' x s':=p.el fun e d tb ks vs H' m' a b c f g=>⟨e,d,tb,ks,vs,H',m',a,b,c,f,k _ _ _ g⟩
theorem EW.run {e:Expr}{s:Shared}{R:Value→Shared→Prop}{E:Value→Shared→Prop}(h:EW fm e m H Q QE) (S:Sat fm m H s) (k:∀ y s1 v H1,af fm H s.heap H1 s1.heap→Sat fm m H1 s1→fm.R H1 s1.heap v y→Q v H1→R y s1) (x:∀ y s1,PX fm m H s.heap QE y s1→E y s1):wpAny fm.M fm.A (eval e fm.env) R E s :=
 wpAny_mono (h s S) (fun y s1 p=>p.el (k y s1)) x
theorem LW.run {pos:Pos}{es:List Expr}{QL:List V→MH→Prop}{s:Shared}{R:List Value→Shared→Prop}{E:Value→Shared→Prop}(h:LW fm pos es m H QL QE) (S:Sat fm m H s) (k:∀ y s1 v H1,af fm H s.heap H1 s1.heap→Sat fm m H1 s1→fm.RL H1 s1.heap v y→QL v H1→R y s1) (x:∀ y s1,PX fm m H s.heap QE y s1→E y s1) :
  wpAny fm.M fm.A (spliced (backTo pos (starEach es fm.env))) R E s:=wpAny_mono (h s S) (fun y s1 p=>p.el (k y s1)) x
theorem EW.mono {e:Expr}{Q':QV}{QE':QX}(x:EW fm e m H Q QE) (h1:∀ v H',Q v H'→Q' v H') (h2:∀ ks vs H',QE ks vs H'→QE' ks vs H'):EW fm e m H Q' QE' :=
 fun s S=>wpAny_mono (x s S) (fun _ _ ⟨v,H',a,b,c,d⟩=>⟨v,H',a,b,c,h1 _ _ d⟩) fun _ _ ⟨e,d,tb,ks,vs,H',m',a,b,c,f,g⟩=>⟨e,d,tb,ks,vs,H',m',a,b,c,f,h2 _ _ _ g⟩
theorem Id {k pos} (q:Q .none H):EW fm (.Constant .none k pos) m H Q QE:=fun s S=>wpAny_Constant_none (f0 S wW q)
theorem Ie {b k pos} (q:Q (.bool b) H):EW fm (.Constant (.bool b) k pos) m H Q QE:=fun s S=>wpAny_Constant_bool (f0 S gZ q)
theorem KS {i k pos} (q:Q (.int i) H):EW fm (.Constant (.int i) k pos) m H Q QE:=fun s S=>wpAny_Constant_int (aK S d7 q)
theorem KT {x k pos} (hl:x.length≤big) (q:Q (.str x) H):EW fm (.Constant (.str x) k pos) m H Q QE:=fun s S=>wpAny_Constant_str (aK S (iy hl) q)
theorem KU {x:Str}{pos:Pos}{i:Nat}{v:V}(O:ay fm) (hi:fm.names[i]? = some x) (hk:fm.env.kindOf x=some .local∨fm.env.kindOf x=some .cell) (hd:(x==("__debug__":Str))=false)
  (hm:m i=some v) (q:Q v H):EW fm (.Name x pos) m H Q QE:=fun s S=>by
 refine ae (S.vars i x v hi hk hm) fun val hv r=>?_
 refine wpAny_Name ?_ hd
 unfold d6 at hv
 rcases hk with hk | hk
 ·rw [hk] at hv
  refine ae hv fun mm hn he=>?_
  exact wpAny_loadName_local O.kind hk hn he (f0 S r q)
 ·rw [hk] at hv
  refine ae hv fun c hc hx=>?_
  exact wpAny_loadName_cell O.kind hk hc hx (f0 S r q)
theorem KV {l r:Expr}{op:Operator}{pos:Pos}
  (h:EW fm l m H (fun va H1=>EW fm r m H1 (fun vb H2=>∀ s xa xb,Sat fm m H2 s→fm.R H2 s.heap va xa→fm.R H2 s.heap vb xb→OW fm (binaryOp op xa xb) m H2 Q QE s) QE) QE) :
  EW fm (.BinOp l op r pos) m H Q QE:=fun s S=>by
 refine wpAny_BinOp (wpAny_mono (h s S) (fun xa s1 p=>?_) fun _ _ p=>p)
 obtain ⟨va,H1,T1,S1,r1,q1⟩:=p
 refine wpAny_mono (q1 s1 S1) (fun xb s2 p=>?_) fun _ _ p=>p.back T1
 obtain ⟨vb,H2,T2,S2,r2,q2⟩:=p
 exact wpAny_mono (q2 s2 xa xb S2 (T2.rep r1) r2) (fun _ _ p=>p.back (T1.trans T2)) fun _ _ p=>p.back (T1.trans T2)
theorem Nc {x:Expr}{op:UnaryOp}{pos:Pos}
  (h:EW fm x m H (fun va H1=>∀ s xa,Sat fm m H1 s→fm.R H1 s.heap va xa→OW fm (unaryOp op xa) m H1 Q QE s) QE) :
  EW fm (.UnaryOp op x pos) m H Q QE:=fun s S=>by
 refine wpAny_UnaryOp (wpAny_mono (h s S) (fun xa s1 p=>?_) fun _ _ p=>p)
 obtain ⟨va,H1,T1,S1,r1,q1⟩:=p
 exact wpAny_mono (q1 s1 xa S1 r1) (fun _ _ p=>p.back T1) fun _ _ p=>p.back T1
noncomputable def zm (fm:Fm) (v:V) (H:MH):Bool→Prop:=fun b=>∀ (m:Loc) (s:Shared) (x:Value) (Q:Bool→Shared→Prop) (E:Value→Shared→Prop),Sat fm m H s→fm.R H s.heap v x→(∀ tk,Q b { s with toks:=tk }) →
 wpAny fm.M fm.A (truthy x) Q E s
theorem KW {e₁ e₂:Expr}{rest:List Expr}{pos:Pos}
  (h:EW fm e₁ m H (fun v H1=>∃ b,zm fm v H1 b∧if b then EW fm (.BoolOp .And (e₂::rest) pos) m H1 Q QE else Q v H1) QE) :
  EW fm (.BoolOp .And (e₁::e₂::rest) pos) m H Q QE:=fun s S=>by
 refine BoolOp_and (wpAny_mono (h s S) (fun xa s1 p=>?_) fun _ _ p=>p)
 obtain ⟨va,H1,T1,S1,r1,b,tr,q1⟩:=p
 refine tr m s1 xa _ _ S1 r1 fun tk=>?_
 cases b with
 | true=>exact wpAny_mono (q1 _ (S1.toks tk)) (fun _ _ p=>p.back T1) fun _ _ p=>p.back T1
 | false=>exact (aK S1 r1 q1).back T1
theorem Nd {e₁ e₂:Expr}{rest:List Expr}{pos:Pos}
  (h:EW fm e₁ m H (fun v H1=>∃ b,zm fm v H1 b∧if b then Q v H1 else EW fm (.BoolOp .Or (e₂::rest) pos) m H1 Q QE) QE) :
  EW fm (.BoolOp .Or (e₁::e₂::rest) pos) m H Q QE:=fun s S=>by
 refine BoolOp_or (wpAny_mono (h s S) (fun xa s1 p=>?_) fun _ _ p=>p)
 obtain ⟨va,H1,T1,S1,r1,b,tr,q1⟩:=p
 refine tr m s1 xa _ _ S1 r1 fun tk=>?_
 cases b with
 | false=>exact wpAny_mono (q1 _ (S1.toks tk)) (fun _ _ p=>p.back T1) fun _ _ p=>p.back T1
 | true=>exact (aK S1 r1 q1).back T1
theorem KY {t b o:Expr}{pos:Pos}(h:TW fm t m H (fun c H1=>if c then EW fm b m H1 Q QE else EW fm o m H1 Q QE) QE):EW fm (.IfExp t b o pos) m H Q QE:=fun s S=>by
 refine wpAny_IfExp (wpAny_mono (h s S) (fun c s1 p=>?_) fun _ _ p=>p)
 obtain ⟨H1,T1,S1,q1⟩:=p
 cases c with
 | true=>exact wpAny_mono (q1 s1 S1) (fun _ _ p=>p.back T1) fun _ _ p=>p.back T1
 | false=>exact wpAny_mono (q1 s1 S1) (fun _ _ p=>p.back T1) fun _ _ p=>p.back T1
variable {QB:Bool→MH→Prop}
theorem KZ {x:Expr}{pos:Pos}(h:TW fm x m H (fun b H1=>QB (!b) H1) QE):TW fm (.UnaryOp .Not x pos) m H QB QE:=fun s S =>
 wpAny_isTrue_Not (wpAny_mono (h s S) (fun _ _ ⟨H1,a,b,c⟩=>⟨H1,a,b,c⟩) fun _ _ p=>p)
theorem K3 {t b o:Expr}{pos:Pos}(h:TW fm t m H (fun c H1=>if c then TW fm b m H1 QB QE else TW fm o m H1 QB QE) QE):TW fm (.IfExp t b o pos) m H QB QE:=fun s S=>by
 refine isTrue_IfExp (wpAny_mono (h s S) (fun c s1 p=>?_) fun _ _ p=>p)
 obtain ⟨H1,T1,S1,q1⟩:=p
 cases c with
 | true=>exact wpAny_mono (q1 s1 S1) (fun _ _ p=>p.back T1) fun _ _ p=>p.back T1
 | false=>exact wpAny_mono (q1 s1 S1) (fun _ _ p=>p.back T1) fun _ _ p=>p.back T1
noncomputable def wX (fm:Fm) (op:BoolOp) (es:List Expr) (m:Loc) (H:MH) (Q:Bool→MH→Prop) (QE:QX):Prop :=
 ∀ s,Sat fm m H s→wpAny fm.M fm.A (allTrue op es fm.env) (PB fm m H s.heap Q) (PX fm m H s.heap QE) s
theorem Fh {op:BoolOp}{es:List Expr}{pos:Pos}(h:wX fm op es m H QB QE):TW fm (.BoolOp op es pos) m H QB QE:=fun s S=>wpAny_isTrue_BoolOp (h s S)
theorem wY (h:QB true H):wX fm .And [] m H QB QE:=fun s S=>wpAny_allTrue_And_nil ⟨H,af.refl ..,S,h⟩
theorem zn (h:QB false H):wX fm .Or [] m H QB QE:=fun s S=>wpAny_allTrue_Or_nil ⟨H,af.refl ..,S,h⟩
theorem zo {x:Expr}{rest:List Expr}(h:TW fm x m H (fun b H1=>if b then wX fm .And rest m H1 QB QE else QB false H1) QE):wX fm .And (x::rest) m H QB QE:=fun s S=>by
 refine wpAny_allTrue_And_cons (wpAny_mono (h s S) (fun b s1 p=>?_) fun _ _ p=>p)
 obtain ⟨H1,T1,S1,q1⟩:=p
 cases b with
 | true=>exact wpAny_mono (q1 s1 S1) (fun _ _ p=>p.back T1) fun _ _ p=>p.back T1
 | false=>exact ⟨H1,T1,S1,q1⟩
theorem CA {x:Expr}{rest:List Expr}(h:TW fm x m H (fun b H1=>if b then QB true H1 else wX fm .Or rest m H1 QB QE) QE):wX fm .Or (x::rest) m H QB QE:=fun s S=>by
 refine wpAny_allTrue_Or_cons (wpAny_mono (h s S) (fun b s1 p=>?_) fun _ _ p=>p)
 obtain ⟨H1,T1,S1,q1⟩:=p
 cases b with
 | false=>exact wpAny_mono (q1 s1 S1) (fun _ _ p=>p.back T1) fun _ _ p=>p.back T1
 | true=>exact ⟨H1,T1,S1,q1⟩
theorem K4 {e:Expr}(he:isTrue e fm.env (eval e fm.env)=(do let v ← eval e fm.env; standAt e.pos; holding [v] (truthy v))) (h:EW fm e m H (fun v H1=>∃ b,zm fm v H1 b∧QB b H1) QE):TW fm e m H QB QE:=fun s S=>by
 refine wpAny_isTrue_value (wpAny_mono (h s S) (fun xa s1 p=>?_) fun _ _ p=>p) he
 obtain ⟨va,H1,T1,S1,r1,b,tr,q1⟩:=p
 exact tr m s1 xa _ _ S1 r1 fun tk=>⟨H1,T1,S1.toks tk,q1⟩
theorem Bg {pos:Pos}{QL:List V→MH→Prop}(q:QL [] H):LW fm pos [] m H QL QE:=fun s S=>wpAny_items_nil ⟨[],H,af.refl ..,S,RepL.nil,q⟩
theorem rO {pos:Pos}{e:Expr}{rest:List Expr}{QL:List V→MH→Prop}(he:starEach (e::rest) fm.env=(false,eval e fm.env)::starEach rest fm.env)
  (h:EW fm e m H (fun v H1=>LW fm pos rest m H1 (fun vs H2=>QL (v::vs) H2) QE) QE):LW fm pos (e::rest) m H QL QE:=fun s S=>by
 refine wpAny_items_cons (wpAny_mono (h s S) (fun xa s1 p=>?_) fun _ _ p=>p) he
 obtain ⟨va,H1,T1,S1,r1,q1⟩:=p
 refine wpAny_mono (q1 s1 S1) (fun xs s2 p=>?_) fun _ _ p=>p.back T1
 obtain ⟨vs,H2,T2,S2,r2,q2⟩:=p
 exact ⟨va::vs,H2,T1.trans T2,S2,RepL.cons (T2.rep r1) r2,q2⟩
end
end
theorem d6.slots {h h':Heap}{env:Env}{x:Str}{val:Value}(k:∀ b o,(b=env.locals∨∃ c,env.cells.lookup x=some c∧env.kindOf x=some .cell∧b=c)→h.get? b=some o→∃ sl,h'.get? b=some { o with slots:=sl })
  (v:d6 h env x val):d6 h' env x val:=by
 unfold d6 at v ⊢
 split
 ·rename_i e
  rw [e] at v
  refine ae v fun m z8=>?_; obtain ⟨o,es,ep,ho,hd,r⟩:=z8; intro q
  refine aj (k _ o (.inl rfl) ho) fun sl hs=>?_
  exact ⟨m,⟨_,es,ep,hs,hd,r⟩,q⟩
 ·rename_i e
  rw [e] at v
  obtain ⟨c,hc,o,ho,hd⟩:=v
  refine aj (k c o (.inr ⟨c,hc,e,rfl⟩) ho) fun sl hs=>?_
  exact ⟨c,hc,_,hs,hd⟩
 ·rename_i h1 h2
  split at v
  ·rename_i e; exact absurd e h1
  ·rename_i e; exact absurd e h2
  ·exact v
theorem Sat.upd {fm:Fm}{m:Loc}{H H':MH}{s s':Shared}(O:ay fm) (S:Sat fm m H s)
  (kX:∀ b o,s.heap.get? b=some o→b ∉ fm.X H→s'.heap.get? b=some o∧b ∉ fm.X H')
  (kF:∀ L,L∈fm.own∨L∈fm.outs→∀ o,s.heap.get? L=some o→∃ sl,s'.heap.get? L=some { o with slots:=sl })
  (objs:∀ p∈H',dC fm H' s'.heap p.1 p.2) (nodup:(aW H').Nodup)
  (apart:∀ a∈aW H',a ∉ fm.own∧a ∉ fm.outs∧a ∉ fm.int∧fm.base.get? a=none)
  (hg:s'.gens=s.gens) (ho:s'.os=s.os) (hd:s'.drawn=s.drawn) (pre:∀ (i:Nat) (a:Addr),(bC H)[i]? = some a→(bC H')[i]? = some a):Sat fm m H' s'∧af fm H s.heap H' s'.heap:=by
 have T:af fm H s.heap H' s'.heap:=⟨kX,fun L hL o e=>kF L (.inr hL) o e,pre⟩
 refine ⟨⟨fun b o e=>?_,?_,?_,?_,?_,objs,nodup,apart,?_,hg.trans S.gens,ho.trans S.os,hd.trans S.drawn⟩,T⟩
 ·exact (kX b o (S.base b o e) fun q=>by rw [Bd O S q] at e; exact nS e).1
 ·have hin:=O.fenvsIn
  have hf:=S.funs
  generalize fm.fenvs=l at hin hf
  induction l with
  | nil=>trivial
  | cons e r ih =>
   refine bW hf fun a z8=>?_; obtain ⟨L,o,h1,h2,h3,h4⟩:=z8; intro h5
   refine aj (kF L ((hin e (.head _) L h1).elim (fun (q:L=fm.fr)=>q ▸ O.frIn) .inr) o h3) fun sl hs=>?_
   exact ⟨a,⟨L,_,h1,h2,hs,h4⟩,ih (fun e he=>hin e (.tail _ he)) h5⟩
 ·refine za S.ns fun mm o es ep h1 h2=>?_
  refine aj (kF _ (.inl O.locals) o h1) fun sl hs=>?_
  exact ⟨mm,_,es,ep,hs,h2⟩
 ·intro x c h1 h2
  refine cN (S.cells x c h1 h2) fun v o h3 h4=>?_
  refine aj (kF c (O.cellsOwn x c h1 h2).1 o h3) fun sl hs=>?_
  exact ⟨v,_,hs,h4⟩
 ·intro i x v h1 h2 h3
  refine ae (S.vars i x v h1 h2 h3) fun val h4 h5=>?_
  refine ⟨val,h4.slots fun b o hb e=>?_,T.rep h5⟩
  rcases hb with rfl | ⟨c,hc,hk,rfl⟩
  ·exact kF _ (.inl O.locals) o e
  ·exact kF _ (O.cellsOwn x _ hk hc).1 o e
 ·intro a ha
  refine aj (S.alive a ha) fun o h=>?_
  rcases ha with h1 | h1 | h1
  ·refine aj (kF a (.inl h1) o h) fun sl q=>?_; exact ⟨_,q⟩
  ·refine aj (kF a (.inr h1) o h) fun sl q=>?_; exact ⟨_,q⟩
  ·refine ⟨o,(kX a o h fun q=>?_).1⟩
   rcases List.mem_append.mp q with q | q
   ·rcases List.mem_append.mp q with q | q
    ·exact O.ownFm a q h1
    ·exact O.outsFm a q h1
   ·exact (S.apart a q).2.2.1 h1
theorem jm (p:Addr × MO) (H:MH):aW (p::H)=p.2.addrs p.1++aW H:=by simp [aW]
theorem ax {fm:Fm}{H:MH}{b:Addr}:b∈fm.X H↔b∈fm.own∨b∈fm.outs∨b∈aW H:=by simp [Fm.X,or_assoc]
theorem Fi {a:Addr}{P:Addr→Prop}(ha:P a):∀ c∈[a],P c:=fun c hc=>List.mem_singleton.mp hc ▸ ha
theorem Fj {a b:Addr}{P:Addr→Prop}(ha:P a) (hb:P b):∀ c∈[a,b],P c:=fun c hc=>(List.mem_cons.mp hc).elim (fun e=>e ▸ ha) (Fi hb c)
theorem Pi {a b d:Addr}{P:Addr→Prop}(ha:P a) (hb:P b) (hd:P d):∀ c∈[a,b,d],P c:=fun c hc=>(List.mem_cons.mp hc).elim (fun e=>e ▸ ha) (Fj hb hd c)
theorem gS {prog:Program}{w:World}{K:Type} [DecidableEq K] {knd:KeyKind prog w K}{h:Heap}{a:Addr}{kvs:List (K × Value)}{ep:Nat}(x:h.DictAt knd a kvs ep):∃ o,h.get? a=some o:=cN x fun o es ho _=>⟨o,ho⟩
theorem kt.alive {prog:Program}{w:World}{P:List V→List Value→Prop}{h:Heap}{a:Addr}{mo:MO}(r:kt prog w P h a mo):∀ b∈mo.addrs a,∃ o,h.get? b=some o:=by
 cases mo with
 | list vs=>exact ae r fun xs h1 h2=>Fi (h1.2.elim fun n e=>⟨_,e⟩)
 | dS ks vs=>exact cz r fun xs ep h1 hl h2=>Fi (gS h1)
 | dI ks=>exact ae r fun ep h1 h2=>Fi (gS h1)
 | inst C d ks vs=>exact ar r fun h0 r=>cz r fun xs ep h1 hl h2=>Fj ⟨_,h0⟩ (gS h1)
 | exc d tb ks vs =>
  refine ar r fun r0 r=>cN r0 fun fs sl h0 h0'=>cz r fun xs ep h1 hl h2=>?_
  cases tb with
  | none=>exact Fj ⟨_,h0⟩ (gS h1)
  | some T=>exact Pi ⟨_,h0⟩ (gS h1) (ar h0' fun q1 q=>cN q fun oT ts q2 q3=>⟨_,q2⟩)
 | made d ks vs =>
  refine ar r fun r0 r=>cN r0 fun fs sl h0 h0'=>?_
  cases d with
  | none=>exact Fi ⟨_,h0⟩
  | some d=>exact Fj ⟨_,h0⟩ (cz r fun xs ep h1 hl h2=>gS h1)
 | dead=>exact fun _ hb=>absurd hb List.not_mem_nil
theorem Sat.fresh_owned {fm:Fm}{m:Loc}{H:MH}{s:Shared}(S:Sat fm m H s) {a:Addr}(h:s.heap.get? a=none):a ∉ aW H:=fun q =>
 ae (List.mem_flatMap.mp q) fun p hp hb=>aj ((S.objs p hp).alive a hb) fun o e=>nS (h.symm.trans e)
theorem Sat.fresh_apart {fm:Fm}{m:Loc}{H:MH}{s:Shared}(S:Sat fm m H s) {a:Addr}(h:s.heap.get? a=none):a ∉ fm.own∧a ∉ fm.outs∧a ∉ fm.int∧fm.base.get? a=none:=by
 have z:∀ {P:Prop},(∃ o,s.heap.get? a=some o)→P:=fun ⟨o,q⟩=>by rw [h] at q; exact nS q
 refine ⟨fun q=>z (S.alive a (.inl q)),fun q=>z (S.alive a (.inr (.inl q))),fun q=>z (S.alive a (.inr (.inr q))),?_⟩
 cases hb:fm.base.get? a with
 | none=>rfl
 | some o=>exact z ⟨o,S.base a o hb⟩
theorem Sat.fresh_X {fm:Fm}{m:Loc}{H:MH}{s:Shared}(S:Sat fm m H s) {a:Addr}(h:s.heap.get? a=none):a ∉ fm.X H:=fun q=>by
 have f:=S.fresh_apart h
 rcases ax.mp q with q | q | q
 ·exact f.1 q
 ·exact f.2.1 q
 ·exact S.fresh_owned h q
theorem Sat.fresh_ok {fm:Fm}{m:Loc}{H:MH}{s:Shared}(S:Sat fm m H s) {a:Addr}(h:s.heap.get? a=none):fm.ok H a:=⟨S.fresh_X h,(S.fresh_apart h).2.2.1⟩
theorem aV (h:Heap):h.get? h.objs.size=none:=by
 unfold Heap.get?
 simp
theorem vA {d:Addr}{tb:Option (Addr × Value)}{ks:List Str}{vs:List V}{e:Addr}:(MO.exc d tb ks vs).addrs e=[e,d]++(tb.map (·.1)).toList:=by
 cases tb <;> rfl
theorem Sat.exc_obj {fm:Fm}{m:Loc}{H:MH}{s:Shared}{e d:Addr}{tb:Option (Addr × Value)}{ks:List Str}{vs:List V}(S:Sat fm m ((e,.exc d tb ks vs)::H) s) :
  ∃ fs sl,s.heap.get? e=some ⟨Value.ref ai,some d,.fields fs,sl⟩∧KP s.heap fs tb:=(S.objs _ (.head _)).1
theorem dH {d:Addr}{tb:Option (Addr × Value)}{ks:List Str}{vs:List V}{e b:Addr}{H:MH}:b∈aW ((e,.exc d tb ks vs)::H)↔b=e∨b=d∨tb.map (·.1)=some b∨b∈aW H:=by
 rw [jm,List.mem_append]
 show b∈(MO.exc d tb ks vs).addrs e∨_↔_
 rw [vA,List.mem_append,List.mem_cons,List.mem_singleton,Option.mem_toList,or_assoc,or_assoc]
theorem Bh {d:Addr}{tb:Option (Addr × Value)}{ks:List Str}{vs:List V}{e:Addr}{H:MH}:(aW ((e,.exc d tb ks vs)::H)).Nodup↔(e≠d∧∀ T,tb.map (·.1)=some T→T≠e∧T≠d∧T ∉ aW H)∧(e ∉ aW H∧d ∉ aW H)∧(aW H).Nodup:=by
 rw [jm]
 show ((MO.exc d tb ks vs).addrs e++aW H).Nodup↔_
 rw [vA]
 generalize tb.map (·.1)=t
 generalize aW H=O
 cases t with
 | none =>
  show (e::d::O).Nodup↔_
  rw [List.nodup_cons,List.nodup_cons,List.mem_cons,not_or]
  exact ⟨fun h=>⟨⟨h.1.1,nofun⟩,⟨h.1.2,h.2.1⟩,h.2.2⟩,fun h=>⟨⟨h.1.1,h.2.1.1⟩,h.2.1.2,h.2.2⟩⟩
 | some T =>
  show (e::d::T::O).Nodup↔_
  rw [List.nodup_cons,List.nodup_cons,List.nodup_cons,List.mem_cons,List.mem_cons,List.mem_cons,not_or,not_or,not_or]
  exact ⟨fun h=>⟨⟨h.1.1,fun T' q=>sj q ▸ ⟨fun z=>h.1.2.1 z.symm,fun z=>h.2.1.1 z.symm,h.2.2.1⟩⟩,⟨h.1.2.2,h.2.1.2⟩,h.2.2.2⟩,
   fun h=>have t:=h.1.2 T rfl; ⟨⟨h.1.1,fun z=>t.1 z.symm,h.2.1.1⟩,⟨fun z=>t.2.1 z.symm,h.2.1.2⟩,t.2.2,h.2.2⟩⟩
theorem Sat.exc_upd {fm:Fm}{m:Loc}{H:MH}{s s':Shared}{e d:Addr}{tb tb':Option (Addr × Value)}{ks:List Str}{vs:List V}(O:ay fm) (S:Sat fm m ((e,.exc d tb ks vs)::H) s)
  (k:∀ b o,s.heap.get? b=some o→b≠e→(∀ T,tb.map (·.1)=some T→b≠T)→b ∉ fm.own→b ∉ fm.outs→s'.heap.get? b=some o)
  (kF:∀ L,L∈fm.own∨L∈fm.outs→∀ o,s.heap.get? L=some o→∃ sl,s'.heap.get? L=some { o with slots:=sl })
  (he:∃ fs sl,s'.heap.get? e=some ⟨Value.ref ai,some d,.fields fs,sl⟩∧KP s'.heap fs tb')
  (ht:∀ T,tb'.map (·.1)=some T→tb.map (·.1)=some T∨s.heap.get? T=none)
  (hg:s'.gens=s.gens) (ho:s'.os=s.os) (hd:s'.drawn=s.drawn) :
  Sat fm m ((e,.exc d tb' ks vs)::H) s'∧af fm ((e,.exc d tb ks vs)::H) s.heap ((e,.exc d tb' ks vs)::H) s'.heap:=by
 have nd:=Bh.mp S.nodup
 have mo:∀ {b},b∈aW ((e,.exc d tb' ks vs)::H)→b∈aW ((e,.exc d tb ks vs)::H)∨s.heap.get? b=none:=fun h =>
  (dH.mp h).elim (fun q=>.inl (dH.mpr (.inl q))) fun h=>h.elim (fun q=>.inl (dH.mpr (.inr (.inl q)))) fun h=>h.elim (fun q=>(ht _ q).imp (fun q=>dH.mpr (.inr (.inr (.inl q)))) id) fun q=>.inl (dH.mpr (.inr (.inr (.inr q))))
 have inX:∀ {b},b∈fm.X ((e,.exc d tb' ks vs)::H)→b∈fm.X ((e,.exc d tb ks vs)::H)∨s.heap.get? b=none:=fun hb =>
  (ax.mp hb).elim (fun q=>.inl (ax.mpr (.inl q))) fun q=>q.elim (fun q=>.inl (ax.mpr (.inr (.inl q)))) fun q=>(mo q).imp (fun q=>ax.mpr (.inr (.inr q))) id
 have eX:e∈aW ((e,.exc d tb ks vs)::H):=dH.mpr (.inl rfl)
 have dX:d∈aW ((e,.exc d tb ks vs)::H):=dH.mpr (.inr (.inl rfl))
 have kX:∀ b o,s.heap.get? b=some o→b ∉ fm.X ((e,.exc d tb ks vs)::H)→s'.heap.get? b=some o∧b ∉ fm.X ((e,.exc d tb' ks vs)::H):=fun b o hb hn =>
  ⟨k b o hb (fun q=>hn (ax.mpr (.inr (.inr (q ▸ eX))))) (fun T hT q=>hn (ax.mpr (.inr (.inr (dH.mpr (.inr (.inr (.inl (q ▸ hT)))))))) ) (fun q=>hn (ax.mpr (.inl q))) fun q=>hn (ax.mpr (.inr (.inl q))),fun q=>(inX q).elim hn fun q=>nS (q.symm.trans hb)⟩
 have okk:∀ b o,s.heap.get? b=some o→fm.ok ((e,.exc d tb ks vs)::H) b→s'.heap.get? b=some o∧fm.ok ((e,.exc d tb' ks vs)::H) b:=fun b o hb q=>have z:=kX b o hb q.1; ⟨z.1,z.2,q.2⟩
 refine Sat.upd O S kX kF (fun p hp=>(List.mem_cons.mp hp).elim (fun q=>?_) fun hp=>?_) (Bh.mpr ⟨⟨nd.1.1,fun T hT=>(ht T hT).elim (nd.1.2 T) fun q=>?_⟩,nd.2⟩) (fun a ha=>(mo ha).elim (S.apart a) S.fresh_apart) hg ho hd (fun _ _ e=>e)
 ·subst q
  have ap:=S.apart d dX
  exact cz (S.objs _ (.head _)).2 fun xs ep h1 hl h2=>⟨he,xs,ep,bE (fun o ho=>k d o ho (fun q=>nd.1.1 q.symm) (fun T hT q=>(nd.1.2 T hT).2.1 q.symm) ap.1 ap.2.1) h1,hl,RepL.mono (fun _ _ e=>e) okk h2⟩
 ·refine dC.mono (H:=(e,.exc d tb ks vs)::H) (fun _ _ e=>e) okk (fun b hb o ho=>?_) (S.objs p (.tail _ hp))
  have hb:=bm hp hb
  have ap:=S.apart b (dH.mpr (.inr (.inr (.inr hb))))
  exact k b o ho (fun q=>nd.2.1.1 (q ▸ hb)) (fun T hT q=>(nd.1.2 T hT).2.2 (q ▸ hb)) ap.1 ap.2.1
 ·have hf:=S.fresh_owned q
  exact ⟨fun z=>hf (z ▸ eX),fun z=>hf (z ▸ dX),fun z=>hf (dH.mpr (.inr (.inr (.inr z))))⟩
section
section
variable {fm:Fm}{m:Loc}{H:MH}{s:Shared}{e d:Addr}{ks:List Str}{vs:List V}{Q:Unit→Shared→Prop}{E:Value→Shared→Prop}{A:Around}{M:Model}
theorem DF (O:ay fm) {a:Addr}(h:a∈fm.fenvs.filterMap (·.frame)):a∈fm.own∨a∈fm.outs:=by
 refine ae (List.mem_filterMap.mp h) fun env he hf=>?_
 exact (O.fenvsIn env he a hf).elim (fun (q:a=fm.fr)=>q ▸ O.frIn) .inr
theorem CB (O:ay fm) {outer:List Env}{L:Addr}(hfe:fm.fenvs=fm.env::outer) (hf:fm.env.frame=some L) {tb:Option (Addr × Value)}(S:Sat fm m ((e,.exc d tb ks vs)::H) s)
  {head:Value}{hadNext:Bool}(hQ:∀ T s',Sat fm m ((e,.exc d (some (T,rawInt L)) ks vs)::H) s'→af fm ((e,.exc d tb ks vs)::H) s.heap ((e,.exc d (some (T,rawInt L)) ks vs)::H) s'.heap→Q () s') :
  wpAny M fm.A (do let a ← frameOf fm.env; let pl ← entryPlaceOf L hadNext; let b ← EntryCells.newEntry head a .none (rawInt L) .none pl; setField (.ref e) 1 b) Q E s:=by
 have hfr:fm.A.frames=some (fm.env::outer):=by rw [O.frames,hfe]
 have hl:s.heap.FunFrames fm.base (fm.env::outer):=by rw [← hfe]; exact S.funs
 have hS:∀ a,a∈(fm.env::outer).filterMap (·.frame)→a∈fm.own∨a∈fm.outs:=fun a ha=>DF O (by rw [hfe]; exact ha)
 refine wpAny_bind (wpAny_frameOf_fun hfr hl hf fun h₁ hs₁=>?_)
 refine wpAny_bind (wpAny_entryPlaceOf fun pl hpl=>?_)
 unfold EntryCells.newEntry newFields
 refine wpAny_bind (wpAny_newObj_type ?_ (hpl.sizeOk5 _ _ _ _ _))
 obtain ⟨fs,sl,he,htb⟩:=S.exc_obj
 have eO:e∈aW ((e,MO.exc d tb ks vs)::H):=dH.mpr (.inl rfl)
 have eN:e ∉ (fm.env::outer).filterMap (·.frame):=fun q=>(hS e q).elim (S.apart e eO).1 (S.apart e eO).2.1
 have he₁:h₁.get? e=some ⟨Value.ref ai,some d,.fields fs,sl⟩:=(hs₁.2.1 e eN).trans he
 have sz:1<fs.size:=by
  cases tb with
  | none=>exact (Array.getElem?_eq_some_iff.mp htb).1
  | some T=>exact (Array.getElem?_eq_some_iff.mp htb.1).1
 have he₂:=Heap.get?_push_of_some (h:=h₁) { cls:=.type "traceback",dict:=none,data:=.fields ([head,.ref L,.none,rawInt L,.none]++(if pl.isEmpty then List.replicate 6 Value.none else pl)).toArray } he₁
 refine wpAny_setField he₂ rfl sz ?_
 have hTe:h₁.objs.size≠e:=Nat.ne_of_gt (Heap.lt_size he₁)
 have hTn:s.heap.get? h₁.objs.size=none:=by rw [hs₁.1]; exact aV _
 have up:=Heap.get?_update_self (Obj.mapFields (·.setIfInBounds 1 (Value.ref h₁.objs.size))) he₂ rfl
 have other:∀ b,b≠e→((h₁.push { cls:=.type "traceback",dict:=none,data:=.fields ([head,.ref L,.none,rawInt L,.none]++(if pl.isEmpty then List.replicate 6 Value.none else pl)).toArray }).update e (Obj.mapFields (·.setIfInBounds 1 (Value.ref h₁.objs.size)))).get? b =
   (h₁.push { cls:=.type "traceback",dict:=none,data:=.fields ([head,.ref L,.none,rawInt L,.none]++(if pl.isEmpty then List.replicate 6 Value.none else pl)).toArray }).get? b:=fun b hb=>Heap.get?_update_ne _ _ _ _ hb
 obtain ⟨S',T'⟩:=Sat.exc_upd (tb':=some (h₁.objs.size,rawInt L)) (s':={ s with heap:=(h₁.push { cls:=.type "traceback",dict:=none,data:=.fields ([head,.ref L,.none,rawInt L,.none]++(if pl.isEmpty then List.replicate 6 Value.none else pl)).toArray }).update e (Obj.mapFields (·.setIfInBounds 1 (Value.ref h₁.objs.size))) }) O S
  (fun b o hb h1 h2 h3 h4=>(other b h1).trans (Heap.get?_push_of_some _ ((hs₁.2.1 b fun q=>(hS b q).elim h3 h4).trans hb)))
  (fun b hb o ho=>by
   obtain ⟨sl',hsl⟩:=hs₁.2.2 b o ho
   have ap:=S.apart e eO
   exact ⟨sl',(other b fun q=>(q ▸ hb:e∈fm.own∨e∈fm.outs).elim ap.1 ap.2.1).trans (Heap.get?_push_of_some _ hsl)⟩)
  ⟨_,sl,up,by simp [sz],_,_,(other _ hTe).trans (Heap.get?_push_size _ rfl),rfl,by first | (simp; done) | (rcases hpl with rfl | ⟨_,_,_,_,_,_,_,rfl⟩ <;> simp)⟩
  (fun T hT=>.inr (sj hT ▸ hTn)) rfl rfl rfl
 exact hQ _ _ S' T'
theorem Sat.fl_upd (O:ay fm) {T:Addr}{fl:Value}(S:Sat fm m ((e,.exc d (some (T,fl)) ks vs)::H) s) (fl':Value) {fs ts:Array Value}{sl:Array (Option Value)}{oT:Obj}
  (he:s.heap.get? e=some ⟨Value.ref ai,some d,.fields fs,sl⟩) (h1:fs[1]? = some (.ref T)) (hT:s.heap.get? T=some oT) (hdT:oT.data=.fields ts) (h3:ts[3]? = some fl) :
  Sat fm m ((e,.exc d (some (T,fl')) ks vs)::H) { s with heap:=s.heap.update T (Obj.mapFields (·.setIfInBounds 3 fl')) }∧af fm ((e,.exc d (some (T,fl)) ks vs)::H) s.heap ((e,.exc d (some (T,fl')) ks vs)::H) (s.heap.update T (Obj.mapFields (·.setIfInBounds 3 fl'))):=by
 have sz3:3<ts.size:=(Array.getElem?_eq_some_iff.mp h3).1
 have eT:T≠e:=((Bh.mp S.nodup).1.2 T rfl).1
 have ap:=S.apart T (dH.mpr (.inr (.inr (.inl rfl))))
 exact Sat.exc_upd (s':={ s with heap:=s.heap.update T (Obj.mapFields (·.setIfInBounds 3 fl')) }) O S
  (fun b o hb h1 h2 h3 h4=>(Heap.get?_update_ne _ _ _ _ (h2 T rfl)).trans hb)
  (fun b hb o ho=>⟨o.slots,(Heap.get?_update_ne _ _ _ _ fun (q:b=T)=>(q ▸ hb:T∈fm.own∨T∈fm.outs).elim ap.1 ap.2.1).trans ho⟩)
  ⟨fs,sl,(Heap.get?_update_ne _ _ _ _ fun q=>eT q.symm).trans he,h1,_,_,Heap.get?_update_self _ hT (Obj.isFreed_of_fields (Obj.data_mapFields hdT _)),Obj.data_mapFields hdT _,Array.getElem?_setIfInBounds_self_of_lt sz3⟩
  (fun T hT=>.inl hT) rfl rfl rfl
theorem Fk {T:Addr}:(Value.ref T != Value.none)=true:=by simp
theorem iz (O:ay fm) {T:Addr}{fl:Value}(S:Sat fm m ((e,.exc d (some (T,fl)) ks vs)::H) s) {fr:Option Addr}
  (hQ:∀ s',Sat fm m ((e,.exc d (some (T,fr.elim .none fun f=>rawInt f)) ks vs)::H) s'→af fm ((e,.exc d (some (T,fl)) ks vs)::H) s.heap ((e,.exc d (some (T,fr.elim .none fun f=>rawInt f)) ks vs)::H) s'.heap→Q () s') :
  wpAny M A (setFlight (.ref e) fr) Q E s:=cN S.exc_obj fun fs sl he htb=>cz htb.2 fun oT ts hT hdT h3=>by
 unfold setFlight
 refine wpAny_bind (wpAny_field he rfl htb.1 (Bf Fk (wpAny_setField hT hdT (Array.getElem?_eq_some_iff.mp h3).1 ?_)))
 exact ar (S.fl_upd O (fr.elim .none fun f=>rawInt f) he htb.1 hT hdT h3) (hQ _)
theorem ku (O:ay fm) {outer:List Env}{L:Addr}(hfe:fm.fenvs=fm.env::outer) (hf:fm.env.frame=some L) {tb:Option (Addr × Value)}(ht:wV fm tb) (S:Sat fm m ((e,.exc d tb ks vs)::H) s)
  (hQ:∀ T s',Sat fm m ((e,.exc d (some (T,rawInt L)) ks vs)::H) s'→af fm ((e,.exc d tb ks vs)::H) s.heap ((e,.exc d (some (T,rawInt L)) ks vs)::H) s'.heap→Q () s') :
  wpAny M fm.A (noteFrame (.ref e) fm.env) Q E s:=by
 refine cN S.exc_obj fun fs sl he htb=>?_
 unfold noteFrame
 rw [hf]
 cases tb with
 | none=>exact wpAny_bind (wpAny_field he rfl htb (sK (by decide) (CB O hfe hf S hQ)))
 | some p=>exact cz htb.2 fun oT ts hT hdT h3=>wpAny_bind (wpAny_field he rfl htb.1 (Bf Fk (wpAny_bind (wpAny_field hT hdT h3 (ht.elim
   (fun z=>by
    rw [z]
    refine sK (show ¬ ((Value.none==rawInt L)=true) from by simp [rawInt]) (wpAny_bind (wpAny_setField hT hdT (Array.getElem?_eq_some_iff.mp h3).1 ?_))
    exact ar (S.fl_upd O .none he htb.1 hT hdT h3) fun S' T'=>CB O hfe hf S' fun T s' x y=>hQ T s' x (T'.trans y))
   fun z=>ae z fun L' hL' z=>by
    obtain ⟨T,fl⟩:=p
    obtain rfl:fl=_:=z
    obtain rfl:L=L':=Option.some.inj (hf.symm.trans hL')
    exact Bf (show (rawInt L==rawInt L)=true from by simp) (wpAny_pure (hQ T s S (af.refl ..))))))))
theorem DG (O:ay fm) {outer:List Env}{L:Addr}(hfe:fm.fenvs=fm.env::outer) (hf:fm.env.frame=some L) {tb:Option (Addr × Value)}(ht:wV fm tb) (S:Sat fm m ((e,.exc d tb ks vs)::H) s)
  (hQ:∀ T s',Sat fm m ((e,.exc d (some (T,.none)) ks vs)::H) s'→af fm ((e,.exc d tb ks vs)::H) s.heap ((e,.exc d (some (T,.none)) ks vs)::H) s'.heap→Q () s') :
  wpAny M fm.A (leaving fm.env (.ref e)) Q E s:=by
 unfold leaving
 refine wpAny_bind (ku O hfe hf ht S fun T s' S' T'=>?_)
 exact iz O S' (fr:=none) fun s'' S'' T''=>hQ T s'' S'' (T'.trans T'')
end
end
section
noncomputable def uQ (n:Nat) (A:Around):Prop:=A.depth+4*n<900∧A.units+16*n<8000
noncomputable def qu (n:Nat) (A:Around):Prop:=A.depth+4*n+2<900∧A.units+16*n+8<8000
theorem uQ.deeper {n:Nat}{A:Around}{env:Env}(R:uQ (n+1) A):qu n (A.deeper env):=by
 have h:∀ a e b k m,a+(k*n+k)<m→e+b≤k→a+e+k*n+b<m:=fun a e b k m q h=>by
  rw [Nat.add_right_comm a,Nat.add_assoc (a+k*n)]
  rw [← Nat.add_assoc a] at q
  exact Nat.lt_of_le_of_lt (Nat.add_le_add_left h _) q
 exact ⟨h _ 1 2 4 _ R.1 (by decide),by rw [Around.deeper_units]; exact h A.units 3 8 16 _ R.2 (by decide)⟩
theorem qu.room {n:Nat}{A:Around}(R:qu n A):uQ n A:=⟨Nat.lt_of_le_of_lt (Nat.le_add_right _ 2) R.1,Nat.lt_of_le_of_lt (Nat.le_add_right _ 8) R.2⟩
theorem uQ.less {n k:Nat}{A:Around}(R:uQ n A) (h:k≤n):uQ k A:=⟨Nat.lt_of_le_of_lt (Nat.add_le_add_left (Nat.mul_le_mul_left 4 h) _) R.1,Nat.lt_of_le_of_lt (Nat.add_le_add_left (Nat.mul_le_mul_left 16 h) _) R.2⟩
noncomputable def qv (fm:Fm) (body:List Stmt) (m:Loc) (H:MH) (Q:QV) (QE:QX):Prop :=
 ∀ s,Sat fm m H s→wpAny fm.M fm.A (execs body fm.env) (fun f s'=>∃ m',PV fm m' H s.heap Q (match f with | .ret v=>v | _=>.none) s') (PX fm m H s.heap QE) s
noncomputable def j1 (n:Nat) (f:Addr) (vs:List V) (H:MH) (Q:QV) (QE:QX):Prop :=
 ∀ fm m s xs,ay fm→fm.A.handled=none→uQ n fm.A→Sat fm m H s→fm.RL H s.heap vs xs→codeAny fm.M fm.A (.call (.ref f) ⟨xs,[]⟩) (fun r s'=>match r with | .ok (.ret v)=>PV fm m H s.heap Q v s' | .ok _=>False | .error e=>PX fm m H s.heap QE e s') s
noncomputable def m9 (F:Fn) (names:List Str):Bool :=
 F.scope.kind==.function&&!F.scope.isGenerator&&!F.scope.isCoroutine&&decide names.Nodup
noncomputable def oO (F:Fn) (ps:List Str):Bool:=ps.all fun x=>F.scope.names.lookup x==some .local||(F.scope.names.lookup x==some .cell&&((cellsFrom 0 F.scope.names []).lookup x).isSome)
noncomputable def wZ (F:Fn) (n:Nat) (ps:List Str):Prop:=∀ (s:Shared) (dV pm cd:Value) (ds xs:List Value),xs.length=n →
 ((dV=.none∧ds=[])∨∃ t,dV=.ref t∧IsTup s.heap t ds.toArray)→ds.length=F.dfl.length→BindsTo s (F.data dV pm cd) ⟨xs,[]⟩ (ps.zip (xs++ds.drop (n+F.dfl.length - ps.length)))
noncomputable def g0 (names ps:List Str) (vs:List V):Loc:=fun i=>(names[i]?).bind fun x=>(ps.zip vs).lookup x
section binds
variable {prog:Program}{w:World}{h:Heap}{ok:Addr→Prop}{al:List Addr}{kindOf:Str→Option NameKind}{f:List (Str × Value)→(Str→Option Value)→Str→Option Value}{c:Str→Prop} [DecidablePred c] {x:Str}
theorem zp (e0:∀ m,f [] m=m) (e:∀ n v r m,f ((n,v)::r) m=f r (if c n then fun y=>if y=n then some v else m y else m)):∀ {ps:List Str}{ys:List Value}{m:Str→Option Value},x ∉ ps→f (ps.zip ys) m x=m x
 | [],_,m,_=>congrFun (e0 m) x
 | _::_,[],m,_=>congrFun (e0 m) x
 | p::ps,y::ys,m,hn=>by
  refine (congrFun (e p y (ps.zip ys) m) x).trans ((zp e0 e fun q=>hn (.tail _ q)).trans ?_)
  by_cases hc:c p
  ·rw [if_pos hc]
   exact if_neg fun (q:x=p)=>hn (q ▸ .head _)
  ·rw [if_neg hc]
theorem sL (e0:∀ m,f [] m=m) (e:∀ n v r m,f ((n,v)::r) m=f r (if c n then fun y=>if y=n then some v else m y else m)) {v:V}(hx:c x):∀ {ps:List Str}{vs:List V}{ys:List Value}{m:Str→Option Value},ps.Nodup→RepL prog w h ok al vs ys→(ps.zip vs).lookup x=some v →
  ∃ val,f (ps.zip ys) m x=some val∧Rep prog w h ok al v val
 | [],_,_,_,_,_,q=>nS q
 | _::_,[],_,_,_,_,q=>nS q
 | p::ps,u::vs,ys,m,nd,r,q=>cz r fun y zs e1 r1 r2=>by
  subst e1
  have n:=List.nodup_cons.mp nd
  have k:=fun m'=>congrFun (e p y (ps.zip zs) m') x
  replace q:(match x==p with | true=>some u | false=>(ps.zip vs).lookup x)=some v:=q
  by_cases hp:x=p
  ·subst hp
   rw [beq_self_eq_true] at q
   refine ⟨y,(k m).trans ((zp e0 e n.1).trans ?_),sj q ▸ r1⟩
   rw [if_pos hx]
   exact if_pos rfl
  ·rw [beq_eq_false_iff_ne.mpr hp] at q
   exact (sL e0 e hx n.2 r2 q).imp fun _ z=>⟨(k m).trans z.1,z.2⟩
theorem DH {v:V}(hx:kindOf x=some .local) {ps:List Str}{vs:List V}{ys:List Value}{m:Str→Option Value}(n:ps.Nodup) (r:RepL prog w h ok al vs ys) (q:(ps.zip vs).lookup x=some v):∃ val,bindL kindOf (ps.zip ys) m x=some val∧Rep prog w h ok al v val :=
 sL (c:=fun n=>kindOf n=some .local) (fun _=>rfl) (fun _ _ _ _=>rfl) hx n r q
theorem DI {v:V}(hx:kindOf x=some .cell) {ps:List Str}{vs:List V}{ys:List Value}{m:Str→Option Value}(n:ps.Nodup) (r:RepL prog w h ok al vs ys) (q:(ps.zip vs).lookup x=some v):∃ val,bindC kindOf (ps.zip ys) m x=some val∧Rep prog w h ok al v val :=
 sL (c:=fun n=>¬ kindOf n=some .local) (fun _=>rfl) (fun n v r m=>congrArg (bindC kindOf r) (ite_not ..).symm) (by rw [hx]; decide) n r q
end binds
noncomputable def CC (p:Fm) (F:Fn) (names:List Str) (dV pm cd:Value) (L:Addr):Fm :=
 let env:=callEnvC (F.data dV pm cd) L F.addr
 {p with A:=p.A.deeper env,env,fenvs:=env::p.fenvs,names,own:=L::env.cells.filterMap fun p=>env.cells.lookup p.1,fr:=L }
noncomputable abbrev Fm.hand (fm:Fm):Fm:={ fm with outs:=fm.fr::fm.outs,int:=fm.own.filter (· != fm.fr)++fm.int }
noncomputable abbrev Fm.callee (fm:Fm) (F:Fn) (names:List Str) (dV pm cd:Value) (L:Addr):Fm:=CC fm.hand F names dV pm cd L
theorem jn {x:Str}:∀ (names:List (Str × NameKind)) (n n':Nat),((cellsFrom n names []).lookup x).isSome=((cellsFrom n' names []).lookup x).isSome:=by
 intro names n n'
 have h:=cellsFrom_names names n n' [] [] rfl
 have key:∀ (a b:List (Str × Addr)),a.map (·.1)=b.map (·.1)→(a.lookup x).isSome=(b.lookup x).isSome:=by
  intro a
  induction a with
  | nil=>intro b e; cases b with | nil=>rfl | cons _ _=>simp at e
  | cons p a ih =>
   intro b e
   cases b with
   | nil=>simp at e
   | cons q b =>
    simp only [List.map_cons,List.cons.injEq] at e
    obtain ⟨p1,p2⟩:=p
    obtain ⟨q1,q2⟩:=q
    simp only at e
    obtain ⟨rfl,e⟩:=e
    simp only [List.lookup_cons]
    cases x==p1 with
    | true=>rfl
    | false=>exact ih b e
 exact key _ _ h
theorem Kj {a:Bool}(h:(!a)=true):a=false:=by
 cases a with
 | false=>rfl
 | true=>exact ff h
section enter
variable {p:Fm}{F:Fn}{names ps:List Str}{dV pm cd:Value}{s s₁:Shared}{H:MH}{cm m:Str→Option Value}
noncomputable abbrev nuE (F:Fn) (dV pm cd:Value) (s:Shared):Env:=callEnvC (F.data dV pm cd) s.heap.objs.size F.addr
noncomputable abbrev nuF (p:Fm) (F:Fn) (names:List Str) (dV pm cd:Value) (s:Shared):Fm:=CC p F names dV pm cd s.heap.objs.size
theorem na {c:Addr}:c∈(nuF p F names dV pm cd s).own↔c=s.heap.objs.size∨∃ y,(nuE F dV pm cd s).cells.lookup y=some c :=
 List.mem_cons.trans (or_congr Iff.rfl ⟨fun q=>ae (List.mem_filterMap.mp q) fun p _ hp=>⟨p.1,hp⟩,fun q=>q.elim fun y q=>List.mem_filterMap.mpr ⟨(y,c),mem_of_lookup q,q⟩⟩)
theorem gT (x:InCallC s s.heap.objs.size m (nuE F dV pm cd s).cells cm s₁) {c:Addr}(hc:c∈(nuF p F names dV pm cd s).own):s.heap.get? c=none:=by
 have lt:s.heap.objs.size≤c:=(na.mp hc).elim (fun e=>Nat.le_of_eq e.symm) fun q=>q.elim fun y hy=>Nat.le_of_lt (x.above y c (mem_of_lookup hy))
 cases hq:s.heap.get? c with
 | none=>rfl
 | some o=>exact absurd (Heap.lt_size hq) (Nat.not_lt.mpr lt)
theorem ay.new (k1:F.scope.kind=.function) (k4:names.Nodup) (W:Wd p.prog p.w p.base) (hfr:p.A.frames=some p.fenvs) (base:∀ b o,p.base.get? b=some o→s.heap.get? b=some o)
  (b0:∀ a,a∈p.outs∨a∈p.int→p.base.get? a=none∧∃ o,s.heap.get? a=some o) (dis:∀ a∈p.outs,a ∉ p.int) (fe:∀ e∈p.fenvs,∀ L,e.frame=some L→L∈p.outs)
  (x:InCallC s s.heap.objs.size m (nuE F dV pm cd s).cells cm s₁):ay (nuF p F names dV pm cd s) where
 frames:=congrArg (Option.map (nuE F dV pm cd s::·)) hfr
 kind:=k1
 glob:=rfl
 blt:=rfl
 locals:=na.mpr (.inl rfl)
 cellsOwn:=fun y c _ hc=>⟨.inl (na.mpr (.inr ⟨y,hc⟩)),Nat.ne_of_gt (x.above y c (mem_of_lookup hc))⟩
 cellsInj:=fun y z c _ _ hy hz=>name_of_addr x.apart (mem_of_lookup hy) (mem_of_lookup hz)
 names:=k4
 ownBase:=fun a ha=>ha.elim (fun q=>by
  cases e:p.base.get? a with
  | none=>exact e
  | some o=>exact nS ((gT x q).symm.trans (base a o e))) fun q=>(b0 a q).1
 ownFm:=fun a ha q=>(b0 a (.inr q)).2.elim fun o e=>nS ((gT x ha).symm.trans e)
 outsFm:=dis
 ownOuts:=fun a ha q=>(b0 a (.inl q)).2.elim fun o e=>nS ((gT x ha).symm.trans e)
 frIn:=.inl (na.mpr (.inl rfl))
 frEnv:=rfl
 wd:=W
 fenvsIn:=fun e he L hL=>(List.mem_cons.mp he).elim (fun q=>by subst q; exact .inl (sj hL).symm) fun q=>.inr (fe e q L hL)
theorem Ig {names ps:List Str}{us:List V}{i:Nat}{y:Str}{v:V}(hi:names[i]? = some y) (hm:g0 names ps us i=some v):(ps.zip us).lookup y=some v:=by
 unfold g0 at hm
 rw [hi] at hm
 exact hm
theorem Sat.new {us:List V}{ys:List Value}(k1:F.scope.kind=.function) (ha:oO F ps=true) (hp:ps.Nodup) (base:∀ b o,p.base.get? b=some o→s.heap.get? b=some o)
  (b0:∀ a,a∈p.outs∨a∈p.int→p.base.get? a=none∧∃ o,s.heap.get? a=some o) (funs:s₁.heap.FunFrames p.base p.fenvs)
  (objs:∀ q∈H,dC (nuF p F names dV pm cd s) H s₁.heap q.1 q.2) (nodup:(aW H).Nodup) (apart:∀ a∈aW H,a ∉ p.outs∧a ∉ p.int∧p.base.get? a=none∧s.heap.get? a≠none)
  (hg:s₁.gens=p.gens) (ho:s₁.os=p.os) (hd:s₁.drawn=p.drawn) (rIn:(nuF p F names dV pm cd s).RL H s₁.heap us ys)
  (x:InCallC s s.heap.objs.size (bindL (nuE F dV pm cd s).kindOf (ps.zip ys) fun _=>none) (nuE F dV pm cd s).cells (bindC (nuE F dV pm cd s).kindOf (ps.zip ys) fun _=>none) s₁) :
  Sat (nuF p F names dV pm cd s) (g0 names ps us) H s₁ where
 base:=fun b o e=>x.toInCall.keep b o (base b o e)
 funs:=by
  obtain ⟨oL,es,ep,hoL,hdL,_⟩:=x.toInCall.ns
  refine ⟨fun q=>(nomatch k1.symm.trans q),⟨s.heap.objs.size,oL,rfl,?_,hoL,fun vs q=>(nomatch hdL.symm.trans q)⟩,funs⟩
  cases e:p.base.get? s.heap.objs.size with
  | none=>exact e
  | some o=>exact absurd (Heap.lt_size (base _ o e)) (Nat.lt_irrefl _)
 ns:=⟨_,x.toInCall.ns⟩
 cells:=fun y c _ hc=>⟨_,x.cell y c hc⟩
 vars:=fun i y v hi hv hm=>by
  replace hm:=Ig hi hm
  unfold d6
  rcases hv with hv | hv
  ·exact ae (DH (m:=fun _=>none) hv hp rIn hm) fun val q1 q2=>⟨val,by rw [hv]; exact ⟨_,x.toInCall.ns,q1⟩,q2⟩
  ·refine ae (DI (m:=fun _=>none) hv hp rIn hm) fun val q1 q2=>?_
   have q:=List.all_eq_true.mp ha _ (List.of_mem_zip (mem_of_lookup hm)).1
   have hv':F.scope.names.lookup y=some .cell:=hv
   rw [hv',jn _ 0 (s.heap.objs.size+1)] at q
   refine aj (Option.isSome_iff_exists.mp ((Bool.or_eq_true_iff.mp q).elim ff fun q=>(an q).2)) fun c hc=>?_
   exact ⟨val,by rw [hv]; exact ⟨c,hc,q1 ▸ x.cell y c hc⟩,q2⟩
 objs:=objs
 nodup:=nodup
 apart:=fun a h=>⟨fun q=>(apart a h).2.2.2 (gT x q),(apart a h).1,(apart a h).2.1,(apart a h).2.2.1⟩
 alive:=fun a h=>h.elim (fun q=>(na.mp q).elim (fun e=>by subst e; exact Dz x.toInCall.ns fun oL _ _ e _=>⟨oL,e⟩) fun q=>q.elim fun y hy=>let ⟨o,e,_⟩:=x.cell y a hy; ⟨o,e⟩) fun q=>(b0 a q).2.elim fun o e=>⟨o,x.toInCall.keep a o e⟩
 gens:=hg
 os:=ho
 drawn:=hd
theorem sM {R:Result→Shared→Prop}{ok:Addr→Prop}{vs:List V}{xs:List Value}(hF:F∈av::au::TAB) (hk:m9 F names=true) (ha:oO F ps=true) (hp:ps.Nodup)
  (hb:wZ F vs.length ps) (W:Wd p.prog p.w p.base) (hfr:p.A.frames=some p.fenvs) (hroom:p.A.depth<recursionLimit) (base:∀ b o,p.base.get? b=some o→s.heap.get? b=some o∧ok b)
  (b0:∀ a,a∈p.outs∨a∈p.int→p.base.get? a=none∧∃ o,s.heap.get? a=some o) (dis:∀ a∈p.outs,a ∉ p.int) (fe:∀ e∈p.fenvs,∀ L,e.frame=some L→L∈p.outs)
  (funs:s.heap.FunFrames p.base p.fenvs) (hok:∀ b,ok b→b ∉ p.outs∧b ∉ aW H∧b ∉ p.int)
  (objs:∀ q∈H,kt p.prog p.w (RepL p.prog p.w s.heap ok (bC H)) s.heap q.1 q.2) (nodup:(aW H).Nodup) (apart:∀ a∈aW H,a ∉ p.outs∧a ∉ p.int∧p.base.get? a=none∧s.heap.get? a≠none)
  (hg:s.gens=p.gens) (ho:s.os=p.os) (hd:s.drawn=p.drawn) (r:RepL p.prog p.w s.heap ok (bC H) vs xs)
  (k:∀ dV pm cd h₁ tk,(∀ b o,s.heap.get? b=some o→h₁.get? b=some o)→(∀ a∈(nuF p F names dV pm cd s).own,s.heap.get? a=none)→ay (nuF p F names dV pm cd s) →
   Sat (nuF p F names dV pm cd s) (g0 names ps (vs++F.dfl.drop (vs.length+F.dfl.length - ps.length))) H { s with heap:=h₁,toks:=tk } →
   codeAny (model p.prog p.w) p.A (.func F.body (nuE F dV pm cd s)) R { s with heap:=h₁,toks:=tk }) :
  codeAny (model p.prog p.w) p.A (.call (.ref F.addr) ⟨xs,[]⟩) R s:=by
 refine MZ (W.fns F hF) fun o pm cd dV h1 h2 h3 h4=>?_
 refine ar (an hk) fun hk k4=>ar (an hk) fun hk k3=>ar (an hk) fun k1 k2=>?_
 replace k1:=eq_of_beq k1
 refine codeAny_call_function hroom (base _ _ h1).1 h2 (Kj k3) (Kj k2) rfl (h3.keeps fun b o e=>(base b o e).1) ?_
 have key:∃ ds:List Value,((dV=.none∧ds=[])∨∃ t,dV=.ref t∧IsTup s.heap t ds.toArray)∧ds.length=F.dfl.length∧RepL p.prog p.w s.heap ok (bC H) F.dfl ds:=by
  rcases h4 with ⟨q1,q2⟩ | ⟨t,ys,q1,q2,q3⟩
  ·exact ⟨[],.inl ⟨q2,rfl⟩,q1 ▸ rfl,q1 ▸ RepL.nil⟩
  ·exact ⟨ys.toList,.inr ⟨t,q1,qk (fun o e=>(base t o e).1) q2⟩,q3.length.symm,RepL.mono (fun _ _ e=>nS e) (fun b o e _=>base b o e) q3⟩
 refine dA key fun ds hds hdl rd=>hb s dV pm cd ds xs r.length.symm hds hdl _ _ _ _ (wpAny_newFunctionEnv_cells k1 (fun x hx=>?_) fun env he s₁ x=>?_)
 ·have q:=List.all_eq_true.mp ha _ (List.of_mem_zip hx).1
  rw [jn _ 0 (s.heap.objs.size+1)] at q
  exact (Bool.or_eq_true_iff.mp q).imp eq_of_beq fun q=>⟨eq_of_beq (an q).1,(an q).2⟩
 ·have he':env=nuE F dV pm cd s:=he
  subst he'
  have keep:=x.toInCall.keep
  obtain ⟨h₁,tk,rfl⟩:=x.toInCall.same
  have kp:Kp s.heap h₁ ok ((nuF p F names dV pm cd s).ok H):=fun b o e q=>⟨keep b o e,fun z=>(List.mem_append.mp z).elim (fun z=>(List.mem_append.mp z).elim (fun z=>nS ((gT x z).symm.trans e)) (hok b q).1) (hok b q).2.1,(hok b q).2.2⟩
  have rAll:=RepL.append r (RepL.drop rd (vs.length+F.dfl.length - ps.length))
  refine ⟨(W.nolimit.keeps fun b o e=>(base b o e).1).keeps keep,k dV pm cd h₁ tk keep (fun a=>gT x) (ay.new k1 (of_decide_eq_true k4) W hfr (fun b o e=>(base b o e).1) b0 dis fe x) ?_⟩
  exact Sat.new k1 ha hp (fun b o e=>(base b o e).1) b0 (funs.of_keeps fun b o e _=>⟨o,keep b o e,rfl⟩) (fun q hq=>kt.conv (RepL.mono (fun _ _ e=>e) kp) (fun b _ o=>keep b o) (objs q hq)) nodup apart hg ho hd (RepL.mono (fun _ _ e=>e) kp rAll) x
end enter
section back
variable {fm:Fm}{F:Fn}{names:List Str}{dV pm cd:Value}{m m':Loc}{H H':MH}{s s':Shared}{h₁:Heap}
theorem eL {a:Addr}:a∈fm.hand.int↔(a∈fm.own∧a≠fm.fr)∨a∈fm.int:=by rw [List.mem_append,List.mem_filter,bne_iff_ne]
theorem CD {b:Addr}(q:(nuF fm.hand F names dV pm cd s).ok H' b):fm.ok H' b:=by
 refine ⟨fun z=>?_,fun z=>q.2 (eL.mpr (.inr z))⟩
 rcases ax.mp z with z | z | z
 ·by_cases hb:b=fm.fr
  ·exact q.1 (ax.mpr (.inr (.inl (hb ▸ .head _))))
  ·exact q.2 (eL.mpr (.inl ⟨z,hb⟩))
 ·exact q.1 (ax.mpr (.inr (.inl (.tail _ z))))
 ·exact q.1 (ax.mpr (.inr (.inr z)))
theorem Fo {h:Heap}{v:V}{x:Value}(r:(nuF fm.hand F names dV pm cd s).R H' h v x):fm.R H' h v x:=Rep.mono (fun _ _ e=>e) (fun _ _ e q=>⟨e,CD q⟩) r
theorem qw (O:ay fm) (S:Sat fm m H s) (keep:∀ b o,s.heap.get? b=some o→h₁.get? b=some o) (fresh:∀ a∈(nuF fm.hand F names dV pm cd s).own,s.heap.get? a=none)
  (S₂:Sat (nuF fm.hand F names dV pm cd s) m' H' s') (T₂:af (nuF fm.hand F names dV pm cd s) H h₁ H' s'.heap):Sat fm m H' s'∧af fm H s.heap H' s'.heap:=by
 refine Sat.upd O S (fun b o hb hn=>?_) (fun L hL o ho=>?_) (fun p hp=>kt.conv (RepL.mono (fun _ _ e=>e) fun _ _ e q=>⟨e,CD q⟩) (fun _ _ _ e=>e) (S₂.objs p hp)) S₂.nodup (fun a ha=>?_) (S₂.gens.trans S.gens.symm) (S₂.os.trans S.os.symm) (S₂.drawn.trans S.drawn.symm) T₂.pre
 ·have z:=T₂.keep b o (keep b o hb) fun q=>by
   rcases ax.mp q with q | q | q
   ·exact nS ((fresh b q).symm.trans hb)
   ·exact hn (ax.mpr ((List.mem_cons.mp q).elim (fun e=>e ▸ O.frIn.imp id .inl) fun q=>.inr (.inl q)))
   ·exact hn (ax.mpr (.inr (.inr q)))
  exact ⟨z.1,fun q=>(ax.mp q).elim (fun q=>hn (ax.mpr (.inl q))) fun q=>q.elim (fun q=>hn (ax.mpr (.inr (.inl q)))) fun q=>z.2 (ax.mpr (.inr (.inr q)))⟩
 ·by_cases hf:L=fm.fr
  ·exact T₂.outs L (hf ▸ .head _) o (keep L o ho)
  ·refine hL.elim (fun hL=>?_) fun hL=>T₂.outs L (.tail _ hL) o (keep L o ho)
   refine ⟨o.slots,(T₂.keep L o (keep L o ho) fun q=>?_).1⟩
   rcases ax.mp q with q | q | q
   ·exact nS ((fresh L q).symm.trans ho)
   ·exact (List.mem_cons.mp q).elim hf (O.ownOuts L hL)
   ·exact (S.apart L q).1 hL
 ·obtain ⟨p1,p2,p3,p4⟩:=S₂.apart a ha
  refine ⟨fun q=>?_,fun q=>p2 (.tail _ q),fun q=>p3 (eL.mpr (.inr q)),p4⟩
  by_cases hb:a=fm.fr
  ·exact p2 (hb ▸ .head _)
  ·exact p3 (eL.mpr (.inl ⟨q,hb⟩))
end back
theorem Fp {n:Nat}{F:Fn}{names ps:List Str}{vs:List V}{H:MH}{Q:QV}{QE:QX}(hF:F∈av::au::TAB) (hk:m9 F names=true) (ha:oO F ps=true) (hp:ps.Nodup)
  (hb:wZ F vs.length ps)
  (body:∀ fm' dV pm cd L (fm:Fm),fm'=fm.callee F names dV pm cd L→ay fm'→fm'.A.handled=none→qu n fm'.A→qv fm' F.body (g0 names ps (vs++F.dfl.drop (vs.length+F.dfl.length - ps.length))) H Q QE) :
  j1 (n+1) F.addr vs H Q QE:=by
 intro fm m s xs O hh R S r
 refine sM (p:=fm.hand) (ok:=fm.ok H) hF hk ha hp hb O.wd O.frames (Nat.lt_trans (Nat.lt_of_le_of_lt (Nat.le_add_right ..) R.1) (by decide)) (fun b o e=>⟨S.base b o e,fun q=>nS ((Bd O S q).symm.trans e),fun q=>nS ((O.ownBase b (.inr (.inr q))).symm.trans e)⟩)
  (fun a q=>?_) (fun a q z=>?_) (fun e he L hL=>(O.fenvsIn e he L hL).elim (fun e=>e ▸ .head _) (.tail _)) S.funs (fun b q=>?_) S.objs S.nodup (fun a q=>?_) S.gens S.os S.drawn r fun dV pm cd h₁ tk keep fresh O' S'=>?_
 ·have q:a∈fm.own∨a∈fm.outs∨a∈fm.int:=q.elim (fun q=>(List.mem_cons.mp q).elim (fun e=>e ▸ O.frIn.imp id .inl) fun q=>.inr (.inl q)) fun q=>(eL.mp q).imp (·.1) .inr
  exact ⟨O.ownBase a q,S.alive a q⟩
 ·refine (List.mem_cons.mp q).elim (fun e=>?_) fun q=>(eL.mp z).elim (fun z=>O.ownOuts a z.1 q) (O.outsFm a q)
  subst e
  exact (eL.mp z).elim (fun z=>z.2 rfl) fun z=>O.frIn.elim (fun q=>O.ownFm _ q z) fun q=>O.outsFm _ q z
 ·exact ⟨fun z=>q.1 (ax.mpr ((List.mem_cons.mp z).elim (fun e=>e ▸ O.frIn.imp id .inl) fun z=>.inr (.inl z))),fun z=>q.1 (ax.mpr (.inr (.inr z))),fun z=>(eL.mp z).elim (fun z=>q.1 (ax.mpr (.inl z.1))) q.2⟩
 ·have ap:=S.apart a q
  exact ⟨fun z=>(List.mem_cons.mp z).elim (fun e=>O.frIn.elim (e ▸ ap.1) (e ▸ ap.2.1)) ap.2.1,fun z=>(eL.mp z).elim (fun z=>ap.1 z.1) ap.2.2.1,ap.2.2.2,fun e=>S.fresh_owned e q⟩
 ·refine codeAny_func (wpAny_mono (body _ dV pm cd _ fm rfl O' hh R.deeper _ S') (fun f s' hq=>?_) fun x s' hq=>?_)
  ·obtain ⟨m',v,H',T₂,S₂,r₂,q₂⟩:=hq
   refine ar (qw O S keep fresh S₂ T₂) fun S₃ T₃=>?_
   exact ⟨v,H',T₃,S₃,Fo r₂,q₂⟩
  ·obtain ⟨e,d,tb,ks,us,H',m',rfl,T₂,S₂,ht,q₂⟩:=hq
   refine DG (M:=fm.M) (Q:=fun _ s''=>PX fm m H s.heap QE (.ref e) s'') (E:=fun e' s''=>PX fm m H s.heap QE e' s'') O' (outer:=fm.fenvs) rfl O'.frEnv ht S₂ fun T s'' S₃ T₃=>?_
   refine ar (qw O S keep fresh S₃ (T₂.trans T₃)) fun S₄ T₄=>?_
   exact ⟨e,d,_,ks,us,H',m,rfl,T₄,S₄,.inl rfl,q₂⟩
end
section
section
variable {fm:Fm}{m:Loc}{H:MH}{Q:QV}{QE:QX}
structure gu (fm:Fm) (id:Str) (f:Value):Prop where
 read:∀ (m:Loc) (H:MH) (s:Shared) (pos:Pos) (Q:Value→Shared→Prop) (E:Value→Shared→Prop),Sat fm m H s→Q f s→wpAny fm.M fm.A (eval (.Name id pos) fm.env) Q E s
 keep:∀ h:Heap,(∀ b o,fm.base.get? b=some o→h.get? b=some o)→∃ k,(k=Keeper.frame∨k=Keeper.machine∨k=Keeper.boundFrame)∧Looks fm.M h (keeperOf f) k
theorem DJ (O:ay fm) {F:Fn}(hF:F∈TAB) (hk:fm.env.kindOf F.name=some .globalImplicit) (hd:(F.name==("__debug__":Str))=false):gu fm F.name (.ref F.addr) where
 read:=fun m H s pos Q E S q=>by
  obtain ⟨mg,h1,h2,_⟩:=O.wd.glob
  exact Calls.Name_function_global O.kind hk (Calls.loadGlobal_global (by rw [O.glob]; exact h1.keeps S.base) (h2 F hF) q) hd
 keep:=fun h k=>by
  refine E2 (O.wd.fns F (.tail _ (.tail _ hF))) fun o pm cd dV h1 h2 _=>?_
  refine ⟨.frame,.inl rfl,fun A Q E s k' q=>?_⟩
  unfold keeperOf
  refine wpAny_bind (wpAny_load (k' _ _ (k _ _ h1)) ?_)
  rw [h2]
  exact wpAny_pure q
theorem jo (O:ay fm) {x:Str}{f:Value}(hx:x∈fZ) (hv:bootBuiltins x=some f) (hf:∀ a,f≠.ref a) (hk:fm.env.kindOf x=some .globalImplicit) (hd:(x==("__debug__":Str))=false):gu fm x f where
 read:=fun m H s pos Q E S q=>by
  refine E1 O.wd.glob fun mg h1 _ _ _ h2=>?_
  refine ae O.wd.blt fun mb h3 h4=>?_
  exact Calls.Name_function_global O.kind hk (Calls.loadGlobal_builtin (by rw [O.glob]; exact h1.keeps S.base) (h2 x hx) (by rw [O.blt]; exact h3.keeps S.base) ((h4 x hx).trans hv) q) hd
 keep:=fun h k=>⟨.machine,.inr (.inl rfl),Looks.of_pure (by cases f <;> first | rfl | exact absurd rfl (hf _))⟩
noncomputable def bb:List Expr→Bool
 | []=>true
 | .Starred ..::_=>false
 | _::r=>bb r
theorem dJ {env:Env}:∀ {es:List Expr},bb es=true→(starEach es env)=es.map fun e=>(false,eval e env)
 | [],_=>rfl
 | e::r,h=>by
  cases e <;> first | (cases h; done) | (show _::starEach r env=_; rw [dJ (es:=r) h]; rfl)
theorem ct {e:Expr}{r:List Expr}(h:bb (e::r)=true):bb r=true∧∀ env,starEach (e::r) env=(false,eval e env)::starEach r env:=by
 cases e <;> first | (cases h; done) | exact ⟨h,fun _=>rfl⟩
theorem zq {pos:Pos}{es:List Expr}{env:Env}(hs:bb es=true):((backTo pos (starEach es env)).any (·.1)||([]:List (Option Str × Sem Value)).any (·.1.isNone))=false:=by
 rw [dJ hs]
 unfold backTo
 simp
theorem vB {s:Shared}{f:Value}{args:List Expr}{pos:Pos}{E:Value→Shared→Prop}{K:List Value→Shared→Prop}{Q:Args→Shared→Prop}(hs:bb args=true) (h:wpAny fm.M fm.A (spliced (backTo pos (starEach args fm.env))) K E s)
  (k:∀ xs s1,K xs s1→Q { pos:=xs } s1):wpAny fm.M fm.A (evalArgs f true (backTo pos (starEach args fm.env)) []) Q E s:=by
 cases args with
 | nil =>
  unfold evalArgs
  refine wpAny_bind (wpAny_mono h (fun xs s1 q=>?_) fun _ _ p=>p)
  refine wpAny_bind (wpAny_pure (wpAny_holding ?_))
  exact wpAny_bind (wpAny_pure (wpAny_bind (wpAny_pure (wpAny_pure (k xs s1 q)))))
 | cons e r =>
  rw [(ct hs).2] at h ⊢
  exact Calls.evalArgs_plain (wpAny_mono h k fun _ _ p=>p)
theorem sO {id:Str}{p pos:Pos}{args:List Expr}{f:Value}(hn:gu fm id f) (hs:bb args=true)
  (h:∀ s,Sat fm m H s→wpAny fm.M fm.A (spliced (backTo pos (starEach args fm.env))) (fun xs s1=>(∀ b o,fm.base.get? b=some o→s1.heap.get? b=some o)∧wpAny fm.M fm.A (call f xs) (PV fm m H s.heap Q) (PX fm m H s.heap QE) s1) (PX fm m H s.heap QE) s) :
  EW fm (.Call (.Name id p) args [] pos) m H Q QE:=fun s S =>
 wpAny_Call_NameR (hn.read m H s p _ _ S (callWith_of (P:=fun h=>∀ b o,fm.base.get? b=some o→h.get? b=some o) (zq hs) hn.keep (vB hs (h s S) fun xs s1 q=>q)))
theorem rP {id:Str}{p pos:Pos}{args:List Expr}{f:Value}(hn:gu fm id f) (hs:bb args=true)
  (h:LW fm pos args m H (fun vs H1=>∀ s xs,Sat fm m H1 s→fm.RL H1 s.heap vs xs→OW fm (call f xs) m H1 Q QE s) QE):EW fm (.Call (.Name id p) args [] pos) m H Q QE :=
 sO hn hs fun s S=>wpAny_mono (h s S) (fun xs s1 p=>p.el fun vs H1 T1 S1 r1 q1=>⟨S1.base,wpAny_mono (q1 s1 xs S1 r1) (fun _ _ p=>p.back T1) fun _ _ p=>p.back T1⟩) fun _ _ p=>p
end
end
end Mine
end
section
open PySem PySem.W PyProof.Rows Builtin.Str
set_option maxRecDepth 20000
set_option backward.match.sparseCases false
set_option genSizeOf false
set_option genInjectivity false
namespace Mine
section
set_option genCtorIdx false in
inductive AO where
 | list (vs:List V)
 | dS (ks:List Str) (vs:List V)
 | dI (ks:List Int)
 | inst (C:Addr) (ks:List Str) (vs:List V)
 | exc (ks:List Str) (vs:List V)
 | dead
noncomputable def MO.abs:MO→AO
 | .list vs=>.list vs
 | .dS ks vs=>.dS ks vs
 | .dI ks=>.dI ks
 | .inst C _ ks vs=>.inst C ks vs
 | .exc _ _ ks vs=>.exc ks vs
 | .made _ ks vs=>.exc ks vs
 | .dead=>.dead
noncomputable abbrev AH:=List AO
noncomputable def aa (H:MH):AH:=(H.filter fun p=>!p.2.isFly).map (·.2.abs)
noncomputable def QD (x:Str):Bool:=Nat.ble x.length big
noncomputable def QG {α:Type} (l:List α):Bool:=Nat.ble l.length big
theorem aX {a b:Nat}(h:Nat.ble a b=true):a≤b:=Nat.le_of_ble_eq_true h
theorem bX {n:Nat}(h:n≤11000000):n≤sizeLine:=by rw [sizeLine_eq]; lia
section
variable {fm:Fm}{m:Loc}{H:MH}{Q:QV}{QE:QX}{s:Shared}
theorem iB {vs:List V}{xs:Array Value}(hl:xs.size≤big) (S:Sat fm m H s) (r:fm.RL H s.heap vs xs.toList) (q:Q (.lst vs) H) :
  PV fm m H s.heap Q (.ref s.heap.objs.size) { s with heap:=s.heap.push { cls:=.type "list",data:=.seq xs } } :=
 dD (v:=.lst vs) S (fun _ _ e=>Heap.get?_push_of_some _ e) rfl rfl rfl ⟨_,xs,rfl,S.fresh_ok (aV _),⟨hl,0,Heap.get?_push_size _ rfl⟩,(af.of_keeps fun _ _ e=>Heap.get?_push_of_some _ e).repL r⟩ q
theorem lZ {vs:List V}{xs:Array Value}(hl:xs.size≤big) (S:Sat fm m H s) (r:fm.RL H s.heap vs xs.toList) (q:Q (.tup vs) H) :
  PV fm m H s.heap Q (.ref s.heap.objs.size) { s with heap:=s.heap.push { cls:=.type "tuple",data:=.seq xs } } :=
 dD (v:=.tup vs) S (fun _ _ e=>Heap.get?_push_of_some _ e) rfl rfl rfl ⟨_,xs,rfl,S.fresh_ok (aV _),⟨hl,Heap.get?_push_size _ rfl⟩,(af.of_keeps fun _ _ e=>Heap.get?_push_of_some _ e).repL r⟩ q
theorem nf:∀ (l:List (Array Value)) (acc:Array Value),(List.foldl (fun x1 x2=>x1++x2) acc l).toList=acc.toList++(l.map Array.toList).flatten
 | [],acc=>by simp
 | x::l,acc=>by simp only [List.foldl_cons,nf l,List.map_cons,List.flatten_cons,Array.toList_append,List.append_assoc]
theorem oP (k:Nat) (xs:Array Value):(List.foldl (fun x1 x2=>x1++x2) #[] (List.replicate (if xs.isEmpty=true then 0 else k) xs):Array Value).toList=(List.replicate k xs.toList).flatten:=by
 rw [nf]
 split
 ·rename_i h
  obtain rfl:xs=#[]:=by simpa using h
  simp
 ·simp
theorem RepL.flatten {prog:Program}{w:World}{h:Heap}{ok:Addr→Prop}{al:List Addr}{vs:List V}{xs:List Value}(r:RepL prog w h ok al vs xs):∀ n:Nat,RepL prog w h ok al (List.replicate n vs).flatten (List.replicate n xs).flatten
 | 0=>.nil
 | n+1=>.append r (RepL.flatten r n)
end
noncomputable abbrev zr (op:Operator) (a b r:V):Prop:=∀ {fm:Fm}{m:Loc}{H:MH}{Q:QV}{QE:QX}{s:Shared}{xa xb:Value},Sat fm m H s→fm.R H s.heap a xa→fm.R H s.heap b xb→Q r H→OW fm (binaryOp op xa xb) m H Q QE s
theorem lA {op:Operator}{a b c:Int}(h:∀ {fm:Fm}{m:Loc}{Q:Value→Shared→Prop}{E:Value→Shared→Prop}{s:Shared}{t u:Tok},(∀ tk t,Q (.int c t) { s with toks:=tk })→wpAny fm.M fm.A (binaryOp op (.int a t) (.int b u)) Q E s):zr op (.int a) (.int b) (.int c) :=
 fun {fm m H Q QE s xa xb} S ra rb q=>by
  refine aj ra fun t e=>aj rb fun u e'=>?_
  rw [e,e']
  exact h (m:=m) fun tk t=>aK S d7 q
noncomputable def w4 (a b:Int):Bool:=decide (a.natAbs.log2<2000000)&&decide (b.natAbs.log2<2000)
theorem vC (a:Int):Builtin.Int.intBits a≤a.natAbs.log2+1:=by
 unfold Builtin.Int.intBits
 split
 ·exact Nat.zero_le _
 ·exact Nat.le_refl _
theorem Fr {a b:Int}(hb:w4 a b=true):IntMulOk a b:=by
 obtain ⟨b1,b2⟩:=an hb
 have b1:=of_decide_eq_true b1
 have b2:=of_decide_eq_true b2
 have h1:=vC a
 have h2:=vC b
 unfold IntMulOk
 simp only [Bool.and_eq_true,decide_eq_true_eq,Builtin.Int.intTooBig]
 intro z
 exact absurd z.2 (Int.not_lt.mpr (Int.ofNat_le.mpr (Nat.le_trans (Nat.add_le_add (Nat.le_trans h1 b1) (Nat.le_trans h2 b2)) (by decide:2000000+2000≤2 ^ 27))))
theorem zt {a b:Str}(h:Nat.ble (a.length+b.length) big=true):zr .Add (.str a) (.str b) (.str (a++b)):=fun {fm m H Q QE s xa xb} S ra rb q=>by
 refine ae ra fun t e _=>ae rb fun u e' _=>?_
 have h:=aX h
 rw [e,e']
 have hl:(a++b).length≤big:=by
  show (a.cps++b.cps).size≤_
  rw [Array.size_append]; exact h
 exact add_str (fun _ _=>aK S (iy hl) q) (bX (Nat.le_trans h (by decide)))
theorem zu {a b:List V}(h:Nat.ble (a.length+b.length) big=true):zr .Add (.lst a) (.lst b) (.lst (a++b)):=fun {fm m H Q QE s xa xb} S ra rb q=>by
 refine cP ra fun l xs e _ hl r1=>cP rb fun b ys e' _ hb r2=>?_
 rw [e,e']
 refine aj hl.2 fun n ho=>aj hb.2 fun n2 ho2=>?_
 have h:=aX h
 rw [r1.length,r2.length,Array.length_toList,Array.length_toList] at h
 exact concat_meets ⟨_,ho,rfl⟩ ⟨_,ho2,rfl⟩ noFill_list_add seq_list_add PySem.F.slot_list_add PySem.F.entry_list_add (PySem.F.args_list_add_2 _ _) (list_addW l b xs ys n n2 none none #[] #[] (bX (Nat.le_trans h (by decide))))
  ⟨ho,ho2,iB (by rw [Array.size_append]; exact h) S (by rw [Array.toList_append]; exact RepL.append r1 r2) q⟩
theorem zv {a:List V}{b:Int}(h:(Builtin.List.listFitsIndex b&&Nat.ble (a.length*b.toNat) big)=true):zr .Mult (.lst a) (.int b) (.lst (List.replicate b.toNat a).flatten):=fun {fm m H Q QE s xa xb} S ra rb q=>by
 refine cP ra fun l xs e _ hl r1=>aj rb fun u e'=>?_
 rw [e,e']
 obtain ⟨h,h1⟩:=an h
 have h1:=aX h1
 rw [r1.length,Array.length_toList] at h1
 refine aj hl.2 fun n ho=>?_
 have hsz:=oP b.toNat xs
 have g:¬ (!Builtin.List.listFitsIndex b)=true:=by rw [h]; exact fun q=>ff q
 refine wpAny_binaryOp_repeat_ref (T:="list") (U:="int") (by decide) ⟨_,ho,rfl⟩ (fun s'=>typeIs_int s' b u) noFill_list_mul F.fills_int_mul F.slot_int_rmul repeat_list F.slot_int_index.lookup
  (call_meets F.slot_int_rmul (typeIs_int s b u) F.entry_int_rmul (F.args_int_rmul_2 _ _) (int___rmul___int_list b u l xs n)
  ⟨ho,rfl,⟨_,ho,rfl⟩,call_meets F.slot_list_mul ⟨_,ho,rfl⟩ F.entry_list_mul (F.args_list_mul_2 _ _)
   (AutoListH.list___mul___list_int_3 l xs n b u g (Nat.not_lt.mpr (Nat.le_trans h1 (by decide))) (fun q=>absurd (of_decide_eq_true q) (Nat.not_lt.mpr (bX (Nat.le_trans h1 (by decide)))))) ⟨ho,?_⟩⟩)
 refine iB ?_ S (by rw [hsz]; exact RepL.flatten r1 _) q
 rw [← Array.length_toList,hsz,List.length_flatten]
 simp only [List.map_replicate,List.sum_replicate_nat,Array.length_toList]
 rw [Nat.mul_comm]; exact h1
noncomputable def Pj (a b:V):Cv (zr .Add a b):=match a with
 | .int a=>match b with
  | .int b=>yes (.int (a+b)) (lA fun q=>add_int (q _ _))
  | _=>none
 | .str a=>match b with
  | .str b=>wh (Nat.ble (a.length+b.length) big) fun h=>yes (.str (a++b)) (zt h)
  | _=>none
 | .lst a=>match b with
  | .lst b=>wh (Nat.ble (a.length+b.length) big) fun h=>yes (.lst (a++b)) (zu h)
  | _=>none
 | _=>none
theorem Fs {n:Nat}(h:(Nat.blt 0 n&&Nat.ble n 999999)=true):Int.ofNat n≠0:=fun e=>by
 obtain rfl:n=0:=Int.ofNat.inj e
 exact ff h
theorem Bi {a b:Nat}(h:(Nat.ble a 10&&Nat.ble b 100)=true):(0:Int)≤.ofNat b∧Int.ofNat b≤1000000∧a<2 ^ 64 :=
 ⟨Int.natCast_nonneg b,Int.ofNat_le.mpr (Nat.le_trans (aX (an h).2) (by decide)),Nat.lt_of_le_of_lt (aX (an h).1) (by decide)⟩
noncomputable def Pl (op:Operator) (a b:Int):Cv (zr op (.int a) (.int b)):=match op with
 | .Sub=>yes (.int (a - b)) (lA fun q=>sub_int (q _ _))
 | .Mult=>wh (w4 a b) fun h=>yes (.int (a*b)) (lA fun q=>mul_int (q _ _) (Fr h))
 | .FloorDiv=>match b with
  | .ofNat n=>wh (Nat.blt 0 n&&Nat.ble n 999999) fun h=>yes (.int (a.fdiv (.ofNat n))) (lA fun q=>floordiv_int (Fs h) (q _ _) (.inl (PyProof.noPylong_small (Nat.lt_of_le_of_lt (aX (an h).2) (by decide)))))
  | _=>none
 | .Mod=>match b with
  | .ofNat n=>wh (Nat.blt 0 n&&Nat.ble n 999999) fun h=>yes (.int (a.fmod (.ofNat n))) (lA fun q=>mod_int (Fs h) (q _ _))
  | _=>none
 | .Pow=>match a,b with
  | .ofNat a,.ofNat b=>wh (Nat.ble a 10&&Nat.ble b 100) fun h=>yes (.int (Int.ofNat a ^ b)) (lA fun q=>pow_int_small (a:=.ofNat a) (Bi h).1 (Bi h).2.1 (Bi h).2.2 (q _ _))
  | _,_=>none
 | _=>none
noncomputable def Pm (op:Operator) (a b:V):Cv (zr op a b):=match op with
 | .Add=>Pj a b
 | op=>match b with
  | .int b=>match a with
   | .int a=>Pl op a b
   | .lst a=>match op with
    | .Mult=>wh (Builtin.List.listFitsIndex b&&Nat.ble (a.length*b.toNat) big) fun h=>yes (.lst (List.replicate b.toNat a).flatten) (zv h)
    | _=>none
   | _=>none
  | _=>none
noncomputable def cC (op:Operator) (a b:V):Option V:=(Pm op a b).v
theorem K5 {op:Operator}{a b r:V}(h:cC op a b=some r):zr op a b r:=lJ h
end
section
section
variable {fm:Fm}{m:Loc}{H:MH}{Q:QV}{QE:QX}{s:Shared}
theorem abs_get {H:MH}{i:Nat}{ao:AO}(h:(aa H)[i]? = some ao):∃ p,p∈H∧(bC H)[i]? = some p.1∧p.2.abs=ao∧p.2.isFly=false:=by
 unfold aa at h
 rw [List.getElem?_map] at h
 refine ae (Option.map_eq_some_iff.mp h) fun p hp e=>?_
 have hm:=List.mem_filter.mp (List.mem_of_getElem? hp)
 refine ⟨p,hm.1,?_,e,by simpa using hm.2⟩
 unfold bC
 rw [List.getElem?_map,hp]; rfl
theorem w5 (O:ay fm) (S:Sat fm m H s) {a:Addr}(h:a∈aW H):(a==sysModules)=false:=by
 refine aj O.wd.sysm fun o ho=>beq_eq_false_iff_ne.mpr fun e=>?_
 rw [← e,(S.apart a h).2.2.2] at ho
 exact nS ho
theorem lC (S:Sat fm m H s) {i:Nat}{ao:AO}{x:Value}(h:(aa H)[i]? = some ao) (r:fm.R H s.heap (.ref i) x) :
  ∃ a mo,x=.ref a∧(a,mo)∈H∧mo.abs=ao∧mo.isFly=false∧dC fm H s.heap a mo :=
 A7 (abs_get h) fun p hp h1 h2 h3=>ae r fun b hb e=>⟨p.1,p.2,by rw [e,sj (hb.symm.trans h1)],hp,h2,h3,S.objs _ hp⟩
noncomputable def AO.l:AO→Option (List V)
 | .list vs=>some vs
 | _=>none
noncomputable def AO.i:AO→Option (List Int)
 | .dI vs=>some vs
 | _=>none
noncomputable def AO.sd:AO→Option (List Str × List V)
 | .dS ks vs=>some (ks,vs)
 | _=>none
theorem ng {mo:MO}{vs:List V}(h:mo.abs=.list vs):mo=.list vs:=by
 have h:mo.abs.l=some vs:=congrArg AO.l h
 cases mo <;> first | exact nS h | exact congrArg _ (sj h)
theorem Bj {mo:MO}{ks:List Int}(h:mo.abs=.dI ks):mo=.dI ks:=by
 have h:mo.abs.i=some ks:=congrArg AO.i h
 cases mo <;> first | exact nS h | exact congrArg _ (sj h)
theorem Bk {mo:MO}{ks:List Str}{vs:List V}(h:mo.abs=.dS ks vs):mo=.dS ks vs:=by
 have h:mo.abs.sd=some (ks,vs):=congrArg AO.sd h
 cases mo <;> first | exact nS h | exact congrArg (fun p=>MO.dS p.1 p.2) (sj h)
theorem g6 (S:Sat fm m H s) {i:Nat}{vs:List V}{x:Value}(h:(aa H)[i]? = some (.list vs)) (r:fm.R H s.heap (.ref i) x) :
  ∃ a xs,x=.ref a∧(a,MO.list vs)∈H∧iw s.heap a xs∧fm.RL H s.heap vs xs.toList :=
 mQ (lC S h r) fun a mo e hp h2 _ q=>by
  obtain rfl:=ng h2
  exact ae q fun xs q1 q2=>⟨a,xs,e,hp,q1,q2⟩
theorem w6 (O:ay fm) (S:Sat fm m H s) {i:Nat}{ks:List Int}{x:Value}(h:(aa H)[i]? = some (.dI ks)) (r:fm.R H s.heap (.ref i) x) :
  ∃ a ep,x=.ref a∧(a,MO.dI ks)∈H∧(a==sysModules)=false∧s.heap.DictAt (intKind fm.prog fm.w) a (ks.map fun k=>(k,Value.bool true)) ep∧ks.length≤big:=by
 refine mQ (lC S h r) fun a mo e hp h2 _ q=>?_
 obtain rfl:=Bj h2
 exact ae q fun ep q1 q2=>⟨a,ep,e,hp,w5 O S (bm hp (.head _)),q1,q2⟩
theorem Bl (O:ay fm) (S:Sat fm m H s) {i:Nat}{ks:List Str}{vs:List V}{x:Value}(h:(aa H)[i]? = some (.dS ks vs)) (r:fm.R H s.heap (.ref i) x) :
  ∃ a xs ep,x=.ref a∧(a,MO.dS ks vs)∈H∧(a==sysModules)=false∧s.heap.DictAt (strKind fm.prog fm.w) a (ks.zip xs) ep∧ks.length=xs.length∧fm.RL H s.heap vs xs:=by
 refine mQ (lC S h r) fun a mo e hp h2 _ q=>?_
 obtain rfl:=Bk h2
 exact cz q fun xs ep q1 q2 q3=>⟨a,xs,ep,e,hp,w5 O S (bm hp (.head _)),q1,q2,q3⟩
end
theorem vD {n:Nat}(h:n≤big):(n:Int)<2 ^ 63:=by lia
noncomputable abbrev K6 (G:AH) (v:V) (b:Bool):Prop:=∀ {fm:Fm}{H:MH},ay fm→aa H=G→zm fm v H b
theorem Ft {fm:Fm}{s:Shared}{ks:List Int}{a:Addr}{ep:Nat}{Q:Bool→Shared→Prop}{E:Value→Shared→Prop}(hz:(a==sysModules)=false)
  (hd:s.heap.DictAt (intKind fm.prog fm.w) a (ks.map fun k=>(k,Value.bool true)) ep) (hl:ks.length≤big) (q:∀ tk,Q (!ks.isEmpty) { s with toks:=tk }):wpAny fm.M fm.A (truthy (.ref a)) Q E s:=by
 refine wpAny_truthy_dict hz hd.dictOf (by rw [List.length_map]; exact vD hl) ?_
 rw [List.isEmpty_map]
 exact q _
theorem Fu {fm:Fm}{s:Shared}{H:MH}{vs:List V}{a:Addr}{xs:Array Value}{Q:Bool→Shared→Prop}{E:Value→Shared→Prop}(hl:iw s.heap a xs) (r:fm.RL H s.heap vs xs.toList) (q:∀ tk,Q (!vs.isEmpty) { s with toks:=tk }):wpAny fm.M fm.A (truthy (.ref a)) Q E s:=by
 refine wpAny_truthy_list hl.isList (vD hl.1) ?_
 have e:xs.isEmpty=vs.isEmpty:=by
  rw [← Array.isEmpty_toList]
  cases vs with
  | nil=>rw [show xs.toList=[] from r]; rfl
  | cons v vs=>exact cz r fun x ys e _ _=>by rw [e]; rfl
 rw [e]
 exact q _
noncomputable def Fv (G:AH) (v:V):Cv (K6 G v):=match v with
 | .none=>yes false fun _ _ _ _ _ _ _ _ r q=>(show _=Value.none from r) ▸ truthy_none (q _)
 | .bool b=>yes b fun _ _ _ _ _ _ _ _ r q=>(show _=Value.bool b from r) ▸ wpAny_truthy_bool (q _)
 | .int i=>yes (i != 0) fun _ _ _ _ _ _ _ _ r q=>aj r fun t e=>e ▸ PyProof.Rows.truthy_int (q _)
 | .dI ks=>yes (!ks.isEmpty) fun _ _ _ _ _ _ _ _ r q=>mQ r fun a ep e _ hz hd hl=>e ▸ Ft hz hd hl q
 | .ref i=>opt G[i]? fun o h=>match o,h with
  | .dI ks,h=>yes (!ks.isEmpty) fun O e _ _ _ _ _ S r q=>mQ (w6 O S (e ▸ h) r) fun a ep e _ hz hd hl=>e ▸ Ft hz hd hl q
  | .list vs,h=>yes (!vs.isEmpty) fun O e _ _ _ _ _ S r q=>cP (g6 S (e ▸ h) r) fun a xs e _ hl r1=>e ▸ Fu hl r1 q
  | _,_=>none
 | _=>none
noncomputable def l7 (G:AH) (v:V):Option Bool:=(Fv G v).v
theorem sP {fm:Fm}(O:ay fm) {v:V}{H:MH}{b:Bool}(h:l7 (aa H) v=some b):zm fm v H b:=lJ (P:=K6 (aa H) v) h O rfl
noncomputable abbrev UnS (G:AH) (op:UnaryOp) (a r:V):Prop:=∀ {fm:Fm}{m:Loc}{H:MH}{Q:QV}{QE:QX}{s:Shared}{xa:Value},ay fm→aa H=G→Sat fm m H s→fm.R H s.heap a xa→Q r H→OW fm (unaryOp op xa) m H Q QE s
noncomputable def unC (G:AH) (op:UnaryOp) (a:V):Cv (UnS G op a):=match op with
 | .Not=>match Fv G a with
  | some b=>yes (.bool (!b.1)) fun O e S r q=>not_value (b.2 O e _ _ _ _ _ S r fun tk=>aK S gZ q)
  | none=>none
 | .USub=>match a with
  | .int i=>yes (.int (-i)) fun O e S r q=>aj r fun t e=>e ▸ PyProof.Rows.neg_int (aK S d7 q)
  | _=>none
 | _=>none
noncomputable def unV (G:AH) (op:UnaryOp) (a:V):Option V:=(unC G op a).v
theorem Nf {fm:Fm}{H:MH}{op:UnaryOp}{a r:V}(h:unV (aa H) op a=some r):UnS (aa H) op a r:=lJ h
section
variable {fm:Fm}{m:Loc}{H:MH}{s:Shared}
noncomputable def Bm (fm:Fm) (t:Sem Value) (b:Bool) (s:Shared):Prop:=∀ (Q:Value→Shared→Prop) (E:Value→Shared→Prop),(∀ tk,Q (.bool b) { s with toks:=tk })→wpAny fm.M fm.A t Q E s
noncomputable def bg:V→Bool
 | .none=>true
 | _=>false
structure Shp (v:V) (x:Value):Prop where
 none:(x==Value.none)=bg v
 handed:handedIn x=true
theorem jp {v:V}{x:Value}{a:Addr}(h:bg v=false) (e:x=.ref a):Shp v x:=e ▸ ⟨h ▸ rfl,rfl⟩
theorem gU {h:Heap}{v:V}{x:Value}(r:fm.R H h v x):Shp v x:=by
 cases v with
 | none=>exact (show x=Value.none from r) ▸ ⟨rfl,rfl⟩
 | bool b=>exact (show x=Value.bool b from r) ▸ ⟨rfl,rfl⟩
 | int _=>exact aj r fun t e=>e ▸ ⟨rfl,rfl⟩
 | str _=>exact aj r fun t e=>e.1 ▸ ⟨rfl,rfl⟩
 | ref _=>exact aj r fun t e=>jp rfl e.2
 | tup _=>exact sf r fun _ _ e=>jp rfl e.1
 | lst _=>exact sf r fun _ _ e=>jp rfl e.1
 | dI _=>exact sf r fun _ _ e=>jp rfl e.1
 | dS _ _=>exact Pa r fun _ _ _ e=>jp rfl e.1
 | inst _ _ _=>exact KK r fun _ _ _ _ e=>jp rfl e.1
 | rng _ _=>exact KK r fun _ _ _ _ e=>jp rfl e.1
theorem iC {h:Heap}{a:Addr}{xs:Array Value}(x:Cq h a xs):h.IsTuple a xs:=⟨_,x.2,rfl,0,rfl⟩
end
mutual
noncomputable def V.data:V→Option PyData
 | .none=>some .none
 | .bool b=>some (.bool b)
 | .int i=>some (.int i)
 | .str x=>some (.str x)
 | .tup vs=>(V.datas vs).map .tuple
 | .lst vs=>(V.datas vs).map .list
 | _=>Option.none
noncomputable def V.datas:List V→Option (List PyData)
 | []=>some []
 | v::vs=>(V.data v).bind fun d=>(V.datas vs).map (d::·)
end
theorem gh {α β:Type}{o:Option α}{f:α→β}{b:β}{P:Prop}(h:o.map f=some b) (k:∀ a,o=some a→f a=b→P):P:=ae (Option.map_eq_some_iff.mp h) k
theorem cD {α β:Type}{o:Option α}{f:α→Option β}{b:β}{P:Prop}(h:o.bind f=some b) (k:∀ a,o=some a→f a=some b→P):P:=ae (Option.bind_eq_some_iff.mp h) k
theorem sQ {prog:Program}{w:World}{h:Heap}{ok:Addr→Prop}{al:List Addr}(v:V):∀ {d:PyData}{x:Value},V.data v=some d→Rep prog w h ok al v x→∃ as,Reads h x d as :=
 V.rec (motive_1:=fun v=>∀ {d:PyData}{x:Value},V.data v=some d→Rep prog w h ok al v x→∃ as,Reads h x d as)
  (motive_2:=fun vs=>∀ {ds:List PyData}{xs:List Value},V.datas vs=some ds→RepL prog w h ok al vs xs→∃ as,ReadsAll h xs ds as)
  (fun e r=>sj e ▸ (show _=Value.none from r) ▸ ⟨_,.none⟩) (fun b _ _ e r=>sj e ▸ (show _=Value.bool b from r) ▸ ⟨_,.bool b⟩) (fun b _ _ e r=>sj e ▸ aj r fun t e=>e ▸ ⟨_,.int b t⟩) (fun b _ _ e r=>sj e ▸ aj r fun t e=>e.1 ▸ ⟨_,.str b t⟩)
  (fun vs i _ _ e r=>gh e fun ds e' e=>e ▸ cP r fun a xs e h2 h1 r1=>e ▸ aj (i e' r1) fun as q=>⟨_,.tuple h1.2 rfl rfl q⟩)
  (fun vs i _ _ e r=>gh e fun ds e' e=>e ▸ cP r fun a xs e h2 h1 r1=>e ▸ h1.2.elim fun n h1=>aj (i e' r1) fun as q=>⟨_,.list h1 rfl rfl q⟩)
  (fun _ _ _ _ _ e _=>nS e) (fun _ _ _ e _=>nS e) (fun _ _ _ _ _ _ e _=>nS e) (fun _ _ _ _ e _=>nS e) (fun _ _ _ e _=>nS e)
  (fun e r=>sj e ▸ (show _=[] from r) ▸ ⟨_,.nil⟩)
  (fun v vs i j _ _ e r=>cD e fun d e1 e=>gh e fun ds e2 e=>e ▸ cz r fun x ys e r1 r2=>e ▸ aj (i e1 r1) fun as q=>aj (j e2 r2) fun bs q'=>⟨_,.cons q q'⟩) v
end
section
noncomputable abbrev Fw (fm:Fm) (o p:CmpOp) (xa xc:Value) (b:Bool) (s:Shared):Prop:=Bm fm (compareOp o xa xc) b s∧Bm fm (compareOp p xa xc) (!b) s
noncomputable abbrev EqS (a c:V) (b:Bool):Prop:=∀ {fm:Fm}{H:MH}{s:Shared}{xa xc:Value},fm.A.units<9000→fm.R H s.heap a xa→fm.R H s.heap c xc→Fw fm .Eq .NotEq xa xc b s
theorem Ih {a c:V}{da dc:PyData}(e1:V.data a=some da) (e2:V.data c=some dc) (h:((da.canLay0&&dc.canLay0)&&Nat.ble da.depth 20)=true):EqS a c (PyData.eqv da dc):=fun {fm H s xa xc} hu ra rc =>
 aj (sQ _ e1 ra) fun as r1=>aj (sQ _ e2 rc) fun bs r2=>by
  have hd:fm.A.units+min da.depth dc.depth<cLine:=Nat.lt_of_le_of_lt (Nat.add_le_add_left (Nat.le_trans (Nat.min_le_left ..) (aX (an h).2)) _) (Nat.lt_of_lt_of_le (Nat.add_lt_add_right hu 20) (by decide))
  exact ⟨fun Q E q=>SeqAt.compareEq_reads r1 r2 (an (an h).1).1 (an (an h).1).2 hd (q _),fun Q E q=>SeqAt.compareNe_reads r1 r2 (an (an h).1).1 (an (an h).1).2 hd (q _)⟩
noncomputable def eqD (a c:V):Cv (EqS a c):=opt (V.data a) fun da h1=>opt (V.data c) fun dc h2=>wh ((da.canLay0&&dc.canLay0)&&Nat.ble da.depth 20) fun h=>yes (PyData.eqv da dc) (Ih h1 h2 h)
noncomputable def eqC (a c:V):Cv (EqS a c):=match a with
 | .int x=>match c with
  | .int y=>yes (x==y) fun _ ra rc=>aj ra fun t e=>aj rc fun u e'=>e ▸ e' ▸ ⟨fun Q E q=>PyProof.Rows.eq_int (q _),fun Q E q=>PyProof.Rows.ne_int (q _)⟩
  | c=>eqD (.int x) c
 | .str x=>match c with
  | .str y=>yes (x==y) fun _ ra rc=>ae ra fun t e _=>ae rc fun u e' _=>e ▸ e' ▸ ⟨fun Q E q=>PyProof.Rows.eq_str (q _),fun Q E q=>PyProof.Rows.ne_str (q _)⟩
  | c=>eqD (.str x) c
 | a=>eqD a c
noncomputable def w7 (k:Str):List V→Option Bool
 | []=>some false
 | v::r=>match v with
  | .str x=>(w7 k r).map (x==k||·)
  | _=>none
noncomputable def kx (k:Int):List V→Option Bool
 | []=>some false
 | v::r=>match v with
  | .int x=>(kx k r).map (x==k||·)
  | _=>none
noncomputable def eS (k:Str):Value→Bool
 | .str z _=>z==k
 | _=>false
noncomputable def eI (k:Int):Value→Bool
 | .int z _=>z==k
 | _=>false
section
variable {fm:Fm}{H:MH}{s:Shared}{A:Around}{u:Tok}{h:Heap}{vs:List V}{xs:List Value}{b:Bool}
theorem Fx {k:Str}(r:fm.RL H h vs xs):∀ {b:Bool},w7 k vs=some b→(∀ y∈xs,SeqAt.EqAt A s y (.str k u) (eS k y))∧xs.any (eS k)=b :=
 r.ind (P:=fun vs xs=>∀ {b:Bool},w7 k vs=some b→(∀ y∈xs,SeqAt.EqAt A s y (.str k u) (eS k y))∧xs.any (eS k)=b) (fun e=>⟨(fun _ q=>nomatch q),sj e⟩) fun v x vs xs r1 _ ih {b} e=>by
  cases v with
  | str z =>
   refine gh e fun c e' e=>ae r1 fun t ex _=>ar (ih e') fun h1 h2=>?_
   subst ex
   exact ⟨fun y hy=>(List.mem_cons.mp hy).elim (fun q=>q ▸ SeqAt.EqAt.str_str _ _ _ _) (h1 y),by rw [List.any_cons,h2]; exact e⟩
  | _=>exact nS e
theorem Fy {k:Int}(r:fm.RL H h vs xs):∀ {b:Bool},kx k vs=some b→(∀ y∈xs,SeqAt.EqAt A s y (.int k u) (eI k y))∧xs.any (eI k)=b :=
 r.ind (P:=fun vs xs=>∀ {b:Bool},kx k vs=some b→(∀ y∈xs,SeqAt.EqAt A s y (.int k u) (eI k y))∧xs.any (eI k)=b) (fun e=>⟨(fun _ q=>nomatch q),sj e⟩) fun v x vs xs r1 _ ih {b} e=>by
  cases v with
  | int z =>
   refine gh e fun c e' e=>aj r1 fun t ex=>ar (ih e') fun h1 h2=>?_
   subst ex
   exact ⟨fun y hy=>(List.mem_cons.mp hy).elim (fun q=>q ▸ SeqAt.EqAt.int_int _ _ _ _) (h1 y),by rw [List.any_cons,h2]; exact e⟩
  | _=>exact nS e
theorem isS {prog:Program}{w:World}{k:Str}{t:Tok}:(PySem.strKind prog w).is k (.str k t)=true:=by simp [PySem.strKind,Value.isStrOf]
theorem isI {prog:Program}{w:World}{k:Int}{t:Tok}:(PySem.intKind prog w).is k (.int k t)=true:=by simp [PySem.intKind,Value.isInt]
theorem gB {K:Type} [DecidableEq K] {a k:K}{x:Value}{l:List (K × Value)}:valueAt ((a,x)::l) k=if a=k then some x else valueAt l k:=by
 unfold valueAt
 rw [List.find?_cons]
 by_cases h:a=k
 ·simp only [h,decide_true,if_true,Option.map_some]
 ·simp only [h,decide_false,if_false]
theorem contains_cons {K:Type} [DecidableEq K] {a k:K}{ks:List K}:(a::ks).contains k=if a=k then true else ks.contains k:=by
 rw [List.contains_cons]
 by_cases h:a=k
 ·rw [if_pos h,h,beq_self_eq_true,Bool.true_or]
 ·rw [if_neg h,beq_eq_false_iff_ne.mpr (Ne.symm h),Bool.false_or]
theorem ky {K:Type} [DecidableEq K] {k:K}:∀ {ks:List K}{xs:List Value},ks.length=xs.length→(valueAt (ks.zip xs) k).isSome=ks.contains k
 | [],_,_=>rfl
 | a::ks,[],h=>nomatch h
 | a::ks,x::xs,h=>by
  rw [List.zip_cons_cons,gB,contains_cons]
  split
  ·rfl
  ·exact ky (Nat.succ.inj h)
theorem iK {k:Int}:∀ {ks:List Int},(valueAt (ks.map fun k=>(k,Value.bool true)) k).isSome=ks.contains k
 | []=>rfl
 | a::ks=>by
  rw [List.map_cons,gB,contains_cons]
  split
  ·rfl
  ·exact iK
theorem Kk {k:Int}{t:Tok}{ks:List Int}{a:Addr}{ep:Nat}(hz:(a==sysModules)=false) (hd:s.heap.DictAt (intKind fm.prog fm.w) a (ks.map fun k=>(k,Value.bool true)) ep):Fw fm .In .NotIn (.int k t) (.ref a) (ks.contains k) s :=
 ⟨fun Q E q=>wpAny_in_of isI hz hd.dictOf.mapOf (by rw [iK]; exact q _),fun Q E q=>wpAny_notIn_of isI hz hd.dictOf.mapOf (by rw [iK]; exact q _)⟩
theorem Kl {k:Str}{t:Tok}{ks:List Str}{xs:List Value}{a:Addr}{ep:Nat}(hz:(a==sysModules)=false) (hd:s.heap.DictAt (strKind fm.prog fm.w) a (ks.zip xs) ep) (hl:ks.length=xs.length):Fw fm .In .NotIn (.str k t) (.ref a) (ks.contains k) s :=
 ⟨fun Q E q=>wpAny_in_of isS hz hd.dictOf.mapOf (by rw [ky hl]; exact q _),fun Q E q=>wpAny_notIn_of isS hz hd.dictOf.mapOf (by rw [ky hl]; exact q _)⟩
theorem CE {k:Int}{t:Tok}{xs:Array Value}{a:Addr}(hl:iw s.heap a xs) (h:kx k vs=some b) (r:fm.RL H s.heap vs xs.toList):Fw fm .In .NotIn (.int k t) (.ref a) b s :=
 ar (Fy (s:=s) (A:=fm.A.in1) (u:=t) r h) fun h1 h2=>⟨fun Q E q=>SeqAt.in_listAt _ hl.isList (fun y hy=>h1 y (Array.mem_toList_iff.mpr hy)) (by rw [← Array.any_toList,h2]; exact q _),
  fun Q E q=>SeqAt.notIn_listAt _ hl.isList (fun y hy=>h1 y (Array.mem_toList_iff.mpr hy)) (by rw [← Array.any_toList,h2]; exact q _)⟩
end
noncomputable abbrev InS (G:AH) (a c:V) (b:Bool):Prop:=∀ {fm:Fm}{m:Loc}{H:MH}{s:Shared}{xa xc:Value},ay fm→aa H=G→Sat fm m H s→fm.R H s.heap a xa→fm.R H s.heap c xc→Fw fm .In .NotIn xa xc b s
noncomputable def inI (G:AH) (k:Int) (c:V):Cv (InS G (.int k) c):=match c with
 | .dI ks=>yes (ks.contains k) fun _ _ _ ra rc=>aj ra fun t e=>mQ rc fun l ep e' _ hz hd _=>e ▸ e' ▸ Kk hz hd
 | .lst vs=>opt (kx k vs) fun b h=>yes b fun _ _ _ ra rc=>aj ra fun t e=>cP rc fun l xs e' _ hl r=>e ▸ e' ▸ CE hl h r
 | .ref i=>match h:G[i]? with
  | some o=>match o,h with
   | .dI ks,h=>yes (ks.contains k) fun O g S ra rc=>aj ra fun t e=>mQ (w6 O S (g ▸ h) rc) fun l ep e' _ hz hd _=>e ▸ e' ▸ Kk hz hd
   | .list vs,h=>match h':kx k vs with
    | some b=>yes b fun O g S ra rc=>aj ra fun t e=>cP (g6 S (g ▸ h) rc) fun l xs e' _ hl r=>e ▸ e' ▸ CE hl h' r
    | none=>none
   | _,_=>none
  | none=>none
 | _=>none
noncomputable def inS (G:AH) (k:Str) (c:V):Cv (InS G (.str k) c):=match c with
 | .tup vs=>match h:w7 k vs with
  | some b=>yes b fun {fm m H s xa xc} _ _ _ ra rc=>ae ra fun t e _=>cP rc fun l xs e' _ hl r=>e ▸ e' ▸ ar (Fx (s:=s) (A:=fm.A.in1) (u:=t) r h) fun h1 h2 =>
    ⟨fun Q E q=>SeqAt.in_tupleAt _ (iC hl) (fun y hy=>h1 y (Array.mem_toList_iff.mpr hy)) (by rw [← Array.any_toList,h2]; exact q _),
     fun Q E q=>SeqAt.notIn_tupleAt _ (iC hl) (fun y hy=>h1 y (Array.mem_toList_iff.mpr hy)) (by rw [← Array.any_toList,h2]; exact q _)⟩
  | none=>none
 | .str x=>yes (!(occurrences x k 0 x.length 1).isEmpty) fun _ _ _ ra rc=>ae ra fun t e _=>ae rc fun l e' _=>e ▸ e' ▸ ⟨fun Q E q=>PyProof.Rows.in_str (q _),fun Q E q=>PyProof.Rows.notIn_str (q _)⟩
 | .dS ks _=>yes (ks.contains k) fun _ _ _ ra rc=>ae ra fun t e _=>DA rc fun l xs ep e' _ hz hd hl _=>e ▸ e' ▸ Kl hz hd hl
 | .ref i=>match h:G[i]? with
  | some o=>match o,h with
   | .dS ks vs,h=>yes (ks.contains k) fun O g S ra rc=>ae ra fun t e _=>DA (Bl O S (g ▸ h) rc) fun l xs ep e' _ hz hd hl _=>e ▸ e' ▸ Kl hz hd hl
   | _,_=>none
  | none=>none
 | _=>none
noncomputable def inC (G:AH) (a c:V):Cv (InS G a c):=match a with
 | .int k=>inI G k c
 | .str k=>inS G k c
 | _=>none
noncomputable def d8 (a b:Str):Bool:=decide (a.cps.toList<b.cps.toList)
noncomputable abbrev uR (G:AH) (op:CmpOp) (a c:V) (b:Bool):Prop:=∀ {fm:Fm}{m:Loc}{H:MH}{s:Shared}{xa xc:Value},ay fm→fm.A.units<9000→aa H=G→Sat fm m H s→fm.R H s.heap a xa→fm.R H s.heap c xc→Bm fm (compareOp op xa xc) b s
theorem rQ {G:AH}{op:CmpOp}{x y:Int}{b:Bool}(h:∀ {fm:Fm}{Q:Value→Shared→Prop}{E:Value→Shared→Prop}{s:Shared}{t u:Tok},(∀ tk,Q (.bool b) { s with toks:=tk })→wpAny fm.M fm.A (compareOp op (.int x t) (.int y u)) Q E s):uR G op (.int x) (.int y) b :=
 fun _ _ _ _ ra rc Q E q=>aj ra fun t e=>aj rc fun u e'=>e ▸ e' ▸ h q
theorem w8 {G:AH}{op:CmpOp}{x y:Str}{b:Bool}(h:∀ {fm:Fm}{Q:Value→Shared→Prop}{E:Value→Shared→Prop}{s:Shared}{t u:Tok},(∀ tk,Q (.bool b) { s with toks:=tk })→wpAny fm.M fm.A (compareOp op (.str x t) (.str y u)) Q E s):uR G op (.str x) (.str y) b :=
 fun _ _ _ _ ra rc Q E q=>ae ra fun t e _=>ae rc fun u e' _=>e ▸ e' ▸ h q
noncomputable def Ng (G:AH) (op:CmpOp) (x y:Int):Cv (uR G op (.int x) (.int y)):=match op with
 | .Lt=>yes (decide (x<y)) (rQ fun q=>PyProof.Rows.lt_int (q _))
 | .LtE=>yes (decide (x≤y)) (rQ fun q=>PyProof.Rows.le_int (q _))
 | .Gt=>yes (decide (y<x)) (rQ fun q=>PyProof.Rows.gt_int (q _))
 | .GtE=>yes (decide (y≤x)) (rQ fun q=>PyProof.Rows.ge_int (q _))
 | _=>none
noncomputable def Nh (G:AH) (op:CmpOp) (x y:Str):Cv (uR G op (.str x) (.str y)):=match op with
 | .Lt=>yes (d8 x y) (w8 fun q=>PyProof.Rows.lt_str (q _))
 | .LtE=>yes (!d8 y x) (w8 fun q=>PySem.P.le_str (q _))
 | .Gt=>yes (d8 y x) (w8 fun q=>PySem.P.gt_str (q _))
 | _=>none
noncomputable def isC (G:AH) (op:CmpOp) (a:V):Cv (uR G op a .none):=match op with
 | .Is=>yes (bg a) fun {fm m H s xa xc} _ _ _ _ ra rc Q E q=>(show xc=Value.none from rc) ▸ is_none (by rw [(gU ra).none]; exact q _)
 | .IsNot=>yes (!bg a) fun {fm m H s xa xc} _ _ _ _ ra rc Q E q=>(show xc=Value.none from rc) ▸ isNot_none (by rw [(gU ra).none]; exact q _)
 | _=>none
noncomputable def Pn (G:AH) (op:CmpOp) (a c:V):Cv (uR G op a c):=match op with
 | .Eq=>match eqC a c with
  | some b=>yes b.1 fun _ hu _ _ ra rc=>(b.2 hu ra rc).1
  | none=>none
 | .NotEq=>match eqC a c with
  | some b=>yes (!b.1) fun _ hu _ _ ra rc=>(b.2 hu ra rc).2
  | none=>none
 | .In=>match inC G a c with
  | some b=>yes b.1 fun O _ g S ra rc=>(b.2 O g S ra rc).1
  | none=>none
 | .NotIn=>match inC G a c with
  | some b=>yes (!b.1) fun O _ g S ra rc=>(b.2 O g S ra rc).2
  | none=>none
 | op=>match c with
  | .none=>isC G op a
  | .int y=>match a with
   | .int x=>Ng G op x y
   | _=>none
  | .str y=>match a with
   | .str x=>Nh G op x y
   | _=>none
  | _=>none
noncomputable def aG (G:AH) (op:CmpOp) (a c:V):Option Bool:=(Pn G op a c).v
theorem oQ {H:MH}{op:CmpOp}{a c:V}{b:Bool}(h:aG (aa H) op a c=some b):uR (aa H) op a c b:=lJ h
end
section
noncomputable def zw (c:Nat):Str:=⟨#[c]⟩
noncomputable def cS {α:Type} (l:List α) (i:Int):Option α:=match i with
 | .ofNat n=>l[n]?
 | .negSucc n=>wh (Nat.ble (n+1) l.length) fun _=>l[l.length - (n+1)]?
theorem DK {n len:Nat}(h:n<len):seqIndex? (.ofNat n) len=some n:=StrLaws.seqIndex_nonneg (Int.natCast_nonneg n) (Int.ofNat_lt.mpr h)
theorem DL {n len:Nat}(h:n+1≤len):seqIndex? (.negSucc n) len=some (len - (n+1)):=by
 rw [StrLaws.seqIndex_neg (Int.negSucc_lt_zero n) (by rw [Int.negSucc_eq]; lia)]
 rw [Int.negSucc_eq,Int.add_comm,← Int.sub_eq_add_neg]
 exact congrArg some (Int.toNat_sub len (n+1))
structure SG {α:Type} (l:List α) (i:Int) (x:α):Prop where
 lo:-(2 ^ 62)≤i
 hi:i<2 ^ 62
 ix:∃ j,seqIndex? i l.length=some j∧l[j]? = some x
theorem kz {α:Type}{l:List α}{i:Int}{x:α}(h:cS l i=some x) (hl:l.length≤big):SG l i x:=by
 cases i with
 | ofNat n =>
  have h:l[n]? = some x:=h
  have hn:=(List.getElem?_eq_some_iff.mp h).1
  exact ⟨Int.le_trans (by decide) (Int.natCast_nonneg n),Int.ofNat_lt.mpr (Nat.lt_of_lt_of_le hn (Nat.le_trans hl (by decide))),n,DK hn,h⟩
 | negSucc n =>
  have h:wh (Nat.ble (n+1) l.length) (fun _=>l[l.length - (n+1)]?)=some x:=h
  refine zb h fun hc h=>?_
  have hn:=aX hc
  refine ⟨?_,Int.lt_trans (Int.negSucc_lt_zero n) (by decide),_,DL hn,h⟩
  rw [Int.negSucc_eq]
  exact Int.neg_le_neg (Int.ofNat_le.mpr (Nat.le_trans hn (Nat.le_trans hl (by decide))))
section
variable {fm:Fm}{m:Loc}{H:MH}{Q:QV}{QE:QX}{s:Shared}
theorem RepL.at {prog:Program}{w:World}{h:Heap}{ok:Addr→Prop}{al:List Addr}{vs:List V}{xs:Array Value}{j:Nat}{v:V}(r:RepL prog w h ok al vs xs.toList) (e:vs[j]? = some v):∃ x,xs[j]? = some x∧Rep prog w h ok al v x :=
 ae (r.get e) fun x h1 h2=>⟨x,(Array.getElem?_toList).symm.trans h1,h2⟩
theorem i3 {prog:Program}{w:World}{h:Heap}{ok:Addr→Prop}{al:List Addr}{k:Str}{v:V}{vs:List V}{xs:List Value}(r:RepL prog w h ok al vs xs):∀ {ks:List Str},(ks.zip vs).lookup k=some v →
  ∃ x,valueAt (ks.zip xs) k=some x∧Rep prog w h ok al v x :=
 r.ind (P:=fun vs xs=>∀ {ks:List Str},(ks.zip vs).lookup k=some v→∃ x,valueAt (ks.zip xs) k=some x∧Rep prog w h ok al v x) (fun {ks} e=>by rw [List.zip_nil_right] at e; exact nS e) fun u x vs xs r1 _ ih {ks} e=>by
  cases ks with
  | nil=>exact nS e
  | cons a ks =>
   rw [List.zip_cons_cons,List.lookup_cons] at e
   rw [List.zip_cons_cons,gB]
   by_cases hp:a=k
   ·rw [if_pos hp]
    rw [← hp,beq_self_eq_true] at e
    exact ⟨x,rfl,sj e ▸ r1⟩
   ·rw [if_neg hp]
    rw [beq_eq_false_iff_ne.mpr (Ne.symm hp)] at e
    exact ih e
theorem zx {a:Addr}{xs:Array Value}{i:Int}{t:Tok}{j:Nat}{x:Value}{A:Around}{E:Value→Shared→Prop}{Q:Value→Shared→Prop}(hl:s.heap.IsList a xs) (h1:-(2 ^ 62)≤i) (h2:i<2 ^ 62) (hj:seqIndex? i xs.size=some j) (hx:xs[j]? = some x) (q:Q x s) :
  wpAny fm.M A (getItem (.ref a) (.int i t)) Q E s:=by
 unfold seqIndex? at hj
 dsimp only at hj
 by_cases hi:i<0
 ·rw [if_pos hi] at hj
  split at hj
  ·rename_i hr
   have hr:=of_decide_eq_true (an hr).1
   rw [← sj hj] at hx
   exact wpAny_getItem_list_neg hl hi (by lia) (Int.le_trans (by decide) h1) hx q
  ·exact nS hj
 ·rw [if_neg hi] at hj
  split at hj
  ·rw [← sj hj] at hx
   exact wpAny_getItem_list hl (Int.not_lt.mp hi) (Int.lt_trans h2 (by decide)) hx q
  ·exact nS hj
end
noncomputable abbrev ItS (G:AH) (a i r:V):Prop:=∀ {fm:Fm}{m:Loc}{H:MH}{s:Shared}{xa xi:Value},ay fm→aa H=G→Sat fm m H s→fm.R H s.heap a xa→fm.R H s.heap i xi →
 ∃ T id,s.TypeIs xa T∧typeLookup (.type T) "__getitem__"=pure (some (.builtin id))∧∀ (Q:Value→Shared→Prop) (E:Value→Shared→Prop),(∀ x tk,fm.R H s.heap r x→Q x { s with toks:=tk })→wpAny fm.M fm.A (getItem xa xi) Q E s
section
variable {fm:Fm}{m:Loc}{H:MH}{s:Shared}{G:AH}{vs:List V}{i:Int}{v:V}
theorem CF {a:Addr}{xs:Array Value}{t:Tok}(hl:iw s.heap a xs) (r:fm.RL H s.heap vs xs.toList) (h:cS vs i=some v) :
  ∃ T id,s.TypeIs (.ref a) T∧typeLookup (.type T) "__getitem__"=pure (some (.builtin id))∧∀ (Q:Value→Shared→Prop) (E:Value→Shared→Prop),(∀ x tk,fm.R H s.heap v x→Q x { s with toks:=tk })→wpAny fm.M fm.A (getItem (.ref a) (.int i t)) Q E s:=by
 have e:vs.length=xs.size:=r.length
 have g:=kz h (e ▸ hl.1)
 exact ae g.ix fun j h3 h4=>ae (r.at h4) fun x h5 h6=>⟨_,_,hl.isList.typeIs,PySem.slot_list_getitem.lookup,fun Q E q=>zx hl.isList g.lo g.hi (e ▸ h3) h5 (q x _ h6)⟩
theorem K7 (h:cS vs i=some v):ItS G (.lst vs) (.int i) v:=fun _ _ _ ra ri=>aj ri fun t e=>cP ra fun a xs e' _ hl r=>e ▸ e' ▸ CF hl r h
theorem K8 (h:cS vs i=some v):ItS G (.tup vs) (.int i) v:=fun _ _ _ ra ri=>aj ri fun t e=>cP ra fun a xs e' _ hl r=>by
 have z:vs.length=xs.size:=r.length
 have g:=kz h (z ▸ hl.1)
 rw [e,e']
 exact ae g.ix fun j h3 h4=>ae (r.at h4) fun x h5 h6=>⟨_,_,hl.isTup.typeIs,PyProof.Rows.slot_tuple_getitem.lookup,
  fun Q E q=>PyProof.Rows.getItem_tuple hl.isTup (Int.le_trans (by decide) g.lo) (Int.lt_trans g.hi (by decide)) (z ▸ h3) h5 (q x _ h6)⟩
theorem K9 {x:Str}{c:Nat}(h:cS x.cps.toList i=some c):ItS G (.str x) (.int i) (.str (zw c)):=fun _ _ _ ra ri=>aj ri fun t e=>ae ra fun u e' hl=>by
 have g:=kz h hl
 rw [e,e']
 refine ae g.ix fun j h3 h4=>⟨_,_,typeIs_str _ _ _,PyProof.Rows.slot_str_getitem.lookup,fun Q E q=>PyProof.Rows.getItem_str (c:=c) ?_ ?_ (q _ _ (iy (show 1≤big by decide)))⟩
 ·rw [decide_eq_false (Int.not_lt.mpr (Int.le_trans (by decide) g.lo)),decide_eq_false (Int.not_le.mpr (Int.lt_trans g.hi (by decide)))]; rfl
 ·show (seqIndex? _ (List.length _)).bind _=some c
  rw [h3]
  exact (Array.getElem?_toList).symm.trans h4
theorem Ni {ks:List Str}{k:Str}(h:(ks.zip vs).lookup k=some v):ItS G (.dS ks vs) (.str k) v:=fun _ _ _ ra ri=>ae ri fun t e _=>DA ra fun a xs ep e' _ hz hd hl r=>e ▸ e' ▸
 ae (i3 r h) fun x h1 h2=>⟨_,_,hd.dictOf.mapOf.typeIs,PySem.slot_dict_getitem.lookup,fun Q E q=>wpAny_getItem_of isS hd.dictOf.mapOf h1 (q x _ h2)⟩
end
noncomputable def Km (G:AH) (a:V) (i:Int):Cv (ItS G a (.int i)):=match a with
 | .lst vs=>opt (cS vs i) fun v h=>yes v (K7 h)
 | .tup vs=>opt (cS vs i) fun v h=>yes v (K8 h)
 | .str x=>opt (cS x.cps.toList i) fun c h=>yes (.str (zw c)) (K9 h)
 | .ref k=>opt G[k]? fun o h=>match o,h with
   | .list vs,h=>opt (cS vs i) fun v h'=>yes v fun O g S ra ri=>aj ri fun t e=>cP (g6 S (g ▸ h) ra) fun a xs e' _ hl r=>e ▸ e' ▸ CF hl r h'
   | _,_=>none
 | _=>none
noncomputable def Nj (G:AH) (a i:V):Cv (ItS G a i):=match i with
 | .int i=>Km G a i
 | .str k=>match a with
  | .dS ks vs=>opt ((ks.zip vs).lookup k) fun v h=>yes v (Ni h)
  | _=>none
 | _=>none
noncomputable def aF (G:AH) (a i:V):Option V:=(Nj G a i).v
noncomputable def g7:Expr→Bool
 | .Slice ..=>false
 | _=>true
theorem nh {sl:Expr}(h:g7 sl=true) (o i:Value):subscripted sl false o i=operate [o,i] (getItem o i):=by
 cases sl <;> first | exact ff h | rfl
theorem Ii {fm:Fm}{m:Loc}{H:MH}{Q:QV}{QE:QX}{s:Shared}(O:ay fm) {va vi r:V}{xa xi:Value}{value slice:Expr}(hs:g7 slice=true) (h:aF (aa H) va vi=some r) (S:Sat fm m H s) (ra:fm.R H s.heap va xa) (ri:fm.R H s.heap vi xi) (q:Q r H) :
  OW fm (subscriptTail value slice xa xi) m H Q QE s :=
 cz (lJ (P:=ItS (aa H) va vi) h O rfl S ra ri) fun T id h1 h2 h3=>tail_any (ops:=[xa,xi]) h1 h2 (h3 _ _ fun x tk r=>aK S r q) (nh hs _ _)
end
section
noncomputable def fx (x:Str) (l u:Option Int):Str :=
 if ((1:Int)==1&&(strSliceIndices l u 1 x.length).length==x.length)=true then x else ⟨((strSliceIndices l u 1 x.length).filterMap (x.cps[·]?)).toArray⟩
noncomputable def a6 {α:Type} (l:List α) (lo hi st:Option Int):List α :=
 (sliceRange (sliceBounds lo hi st l.length).1 (sliceBounds lo hi st l.length).2.1 (sliceBounds lo hi st l.length).2.2).filterMap (l[·]?)
noncomputable def i4 (p:Option V):Option (Option Int):=match p with
 | none=>some none
 | some v=>match v with
  | .int i=>some (some i)
  | _=>none
noncomputable def qy (fm:Fm) (H:MH) (h:Heap) (v:Option V) (x:Value):Prop:=(v=none∧x=.none)∨∃ u,v=some u∧fm.R H h u x
section
variable {fm:Fm}{m:Loc}{H:MH}{Q:QV}{QE:QX}{s:Shared}
theorem qy.keep {H H':MH}{h h':Heap}{v:Option V}{x:Value}(T:af fm H h H' h') (r:qy fm H h v x):qy fm H' h' v x:=r.imp id fun ⟨u,e,r⟩=>⟨u,e,T.rep r⟩
theorem gD {h:Heap}{v:Option V}{k:Option Int}{x:Value}(e:i4 v=some k) (r:qy fm H h v x):∃ p:Option (Int × Tok),x=partValue p∧p.map (·.1)=k∧IsPart x k:=by
 cases v with
 | none=>exact r.elim (fun r=>⟨none,r.2,sj e,by rw [r.2,← sj e]; exact .none⟩) fun r=>aj r fun _ q=>nS q.1
 | some v =>
  cases v with
  | int i=>exact r.elim (fun r=>sN r.1) fun r=>ae r fun u q r=>aj (sj q ▸ r:fm.R H h (.int i) x) fun t ex=>⟨some (i,t),ex,sj e,by rw [ex,← sj e]; exact .int _ t⟩
  | _=>exact nS e
theorem RepL.pick {prog:Program}{w:World}{h:Heap}{ok:Addr→Prop}{al:List Addr}{vs:List V}{xs:List Value}(r:RepL prog w h ok al vs xs):∀ is:List Nat,RepL prog w h ok al (is.filterMap (vs[·]?)) (is.filterMap (xs[·]?))
 | []=>.nil
 | i::is=>by
  rw [List.filterMap_cons,List.filterMap_cons]
  cases e:vs[i]? with
  | none =>
   rw [show xs[i]? = none by rw [List.getElem?_eq_none_iff] at e ⊢; rw [← r.length]; exact e]
   exact RepL.pick r is
  | some v=>exact ae (r.get e) fun x h1 h2=>by rw [h1]; exact .cons h2 (RepL.pick r is)
theorem RepL.dropLast {prog:Program}{w:World}{h:Heap}{ok:Addr→Prop}{al:List Addr}{vs:List V}{xs:List Value}(r:RepL prog w h ok al vs xs):RepL prog w h ok al vs.dropLast xs.dropLast:=by
 rw [List.dropLast_eq_take,List.dropLast_eq_take,r.length]
 exact RepL.take r _
end
section tup
variable {prog:Program}{w:World}{A:Around}{E:Value→Shared→Prop}{s:Shared}
theorem zy {n:Nat}(hn:1≤n):Builtin.Slice.sliceAdjust none (some (-1)) 1 (n:Int)=(0,(n:Int) - 1):=by
 unfold Builtin.Slice.sliceAdjust
 simp only [show ¬ ((1:Int)<0) by decide,show ((-1:Int)<0) by decide,if_false,if_true]
 congr 1
 cases n with
 | zero=>exact absurd hn (by decide)
 | succ m =>
  show max (-1+((m:Int)+1)) 0=(m:Int)+1 - 1
  rw [Int.add_sub_cancel,Int.add_comm,Int.add_neg_cancel_right]
  exact Int.max_eq_left (Int.natCast_nonneg m)
theorem zz {n:Nat}(hn:1≤n):Builtin.Slice.slicePlaces 0 ((n:Int) - 1) 1=n - 1:=by
 unfold Builtin.Slice.slicePlaces
 simp only [show (1:Int) > 0 by decide,if_true,Int.ediv_one]
 split <;> rename_i h
 ·cases n with
  | zero=>exact absurd hn (by decide)
  | succ m =>
   rw [Int.sub_zero,Int.sub_add_cancel]
   show ((m:Int)+1 - 1).toNat=m
   rw [Int.add_sub_cancel]
   rfl
 ·exact (Nat.sub_eq_zero_of_le (Int.ofNat_le.mp (Int.le_of_sub_nonpos (Int.not_lt.mp h)))).symm
theorem ni {sl:Addr}{n:Nat}{u:Tok}{Q:Int × Int × Nat→Shared→Prop}(hs:s.heap.IsSliceOf sl .none (.int (-1) u) .none) (hn:1≤n) (h:Q (0,1,n - 1) s) :
  wpAny (model prog w) A (Builtin.Slice.sliceApplied (.ref sl) (pure (n:Int))) Q E s:=by
 refine dA (id hs) fun os hos hcs hds=>?_
 unfold Builtin.Slice.sliceApplied Builtin.Slice.sliceFields
 refine wpAny_bind (wpAny_bind (wpAny_field hos hds (x:=.none) rfl (wpAny_bind (wpAny_field hos hds (x:=.int (-1) u) rfl (wpAny_bind (wpAny_field hos hds (x:=.none) rfl (wpAny_pure ?_)))))))
 refine wpAny_bind (slicePart_none ?_)
 show wpAny _ _ (if ((1:Int)==0)=true then _ else _) _ _ s
 rw [if_neg (by decide)]
 refine wpAny_bind (slicePart_none (wpAny_bind (slicePart_int (wpAny_bind (wpAny_pure ?_)))))
 show wpAny _ _ (match Builtin.Slice.sliceAdjust none (some (-1)) 1 (n:Int) with | (lo,hi)=>pure (lo,(1:Int),Builtin.Slice.slicePlaces lo hi 1)) _ _ s
 rw [zy hn]
 show wpAny _ _ (pure (0,(1:Int),Builtin.Slice.slicePlaces 0 ((n:Int) - 1) 1)) _ _ s
 rw [zz hn]
 exact wpAny_pure h
theorem DM (xs:Array Value):((List.range (xs.size - 1)).filterMap fun (k:Nat)=>xs[((0:Int)+(k:Int)*1).toNat]?).toArray=xs.toList.dropLast.toArray:=by
 have e:(fun (k:Nat)=>xs[((0:Int)+(k:Int)*1).toNat]?)=(fun x=>xs[x]?)∘fun x=>0+x:=by
  funext k
  show _=xs[0+k]?
  rw [Int.mul_one,Int.zero_add,Nat.zero_add]; rfl
 rw [e,← List.filterMap_map,pick_run xs 0 (xs.size - 1)]
 simp [List.dropLast_eq_take]
theorem mc {t sl:Addr}{items:Array Value}{u:Tok}{Q:Value→Shared→Prop}(ht:IsTup s.heap t items) (hs:s.heap.IsSliceOf sl .none (.int (-1) u) .none) (h1:1≤items.size)
  (h:Q (.ref s.heap.objs.size) { s with heap:=s.heap.push { cls:=.type "tuple",data:=.seq items.toList.dropLast.toArray } })
  (hsz:items.size≤sizeLine):wpAny (model prog w) A (getItem (.ref t) (.ref sl)) Q E s:=by
 have hdrop:sizeOk (.seq items.toList.dropLast.toArray):=by
  show items.toList.dropLast.toArray.size≤sizeLine
  rw [List.size_toArray,List.length_dropLast,Array.length_toList]
  exact Nat.le_trans (Nat.sub_le ..) hsz
 refine dA (id hs) fun os hos hcs hds=>?_
 have hTs:s.TypeIs (.ref sl) "slice":=⟨os,hos,hcs⟩
 refine PyProof.Rows.getItem_slot ht.typeIs (by decide) PyProof.Rows.slot_tuple_getitem (wpAny_call_entry PyProof.Rows.slot_tuple_getitem ht.typeIs PyProof.Rows.entry_tuple_getitem ?_ (PyProof.Rows.args_tuple_getitem _ _))
 show wpAny _ _ (Builtin.Tuple.tupleItemsOf (.ref t) >>= _) _ _ s
 refine wpAny_bind (tupleItemsOf_ ht ?_)
 refine wpAny_bind (wpAny_typeOf hTs ?_)
 rw [if_pos (by decide)]
 refine wpAny_bind (ni hs h1 ?_)
 show wpAny _ _ (if ((0:Int)==0&&(1:Int)==1&&(items.size - 1)==items.size)=true then _ else _) _ _ s
 rw [beq_eq_false_iff_ne.mpr (show items.size - 1≠items.size from Nat.ne_of_lt (Nat.sub_lt h1 Nat.one_pos)),Bool.and_false,if_neg (by decide),DM items]
 exact wpAny_bind (m:=Builtin.Tuple.tupleExact _) (wpAny_newObj_type (wpAny_pure ⟨_,rfl,h⟩) hdrop)
end tup
noncomputable abbrev SlS (a:V) (l u st:Option V) (r:V):Prop:=∀ {fm:Fm}{m:Loc}{H:MH}{Q:QV}{QE:QX}{s:Shared}{xa xl xu xs:Value}{value slice:Expr}{sl:Addr}{ops:List Value},subscripted slice false xa (.ref sl)=operate ops (getItem xa (.ref sl))→Sat fm m H s→fm.R H s.heap a xa →
 s.heap.IsSliceOf sl xl xu xs→qy fm H s.heap l xl→qy fm H s.heap u xu→qy fm H s.heap st xs→Q r H→OW fm (subscriptTail value slice xa (.ref sl)) m H Q QE s
section
variable {l u st:Option V}{lo hi k:Option Int}
theorem La {x:Str}(e1:i4 l=some lo) (e2:i4 u=some hi) (e3:i4 st=some none):SlS (.str x) l u st (.str (fx x lo hi)):=fun {fm m H Q QE s xa xl xu xs value slice sl ops} hop S ra hsl rl ru rs q=>by
 refine dA (gD e1 rl) fun pl a1 l1 l2=>dA (gD e2 ru) fun pu a2 u1 u2=>dA (gD e3 rs) fun ps a3 s1 s2=>ae ra fun t ea hl=>?_
 obtain rfl:ps=none:=by cases ps with | none=>rfl | some _=>exact sN s1
 subst a1 a2 a3 l1 u1 ea
 refine tail_any (ops:=ops) (typeIs_str _ _ _) PyProof.Rows.slot_str_getitem.lookup (wpAny_getItem_str_slice (l:=pl) (u:=pu) (st:=none) hsl rfl ?_) hop
 unfold sliceMade
 have e:fx x (pl.map (·.1)) (pu.map (·.1))=if ((1:Int)==1&&(slicePicked x pl pu none).length==x.length)=true then x else ⟨((slicePicked x pl pu none).filterMap (x.cps[·]?)).toArray⟩:=rfl
 show Made.post (if ((1:Int)==1&&(slicePicked x pl pu none).length==x.length)=true then _ else _) _ _
 rw [e] at q
 have hz:(⟨((slicePicked x pl pu none).filterMap (x.cps[·]?)).toArray⟩:Str).length≤big:=by
  show (List.filterMap _ _).toArray.size≤_
  rw [List.size_toArray]
  exact Nat.le_trans (List.length_filterMap_le ..) (Nat.le_trans (PyProof.Rows.indices_len_le _ _ _) hl)
 split
 ·rename_i hc
  rw [if_pos hc] at q
  exact f0 S (iy hl) q
 ·rename_i hc
  rw [if_neg hc] at q
  exact ⟨bX (Nat.le_trans hz (by decide)),aK S (iy hz) q⟩
theorem sR {vs:List V}(e1:i4 l=some lo) (e2:i4 u=some hi) (e3:i4 st=some k) (hk:k≠some 0) (hn:Nat.ble (a6 vs lo hi k).length big=true):SlS (.lst vs) l u st (.lst (a6 vs lo hi k)):=fun {fm m H Q QE s xa xl xu xs value slice sl ops} hop S ra hsl rl ru rs q=>by
 refine dA (gD e1 rl) fun pl _ _ l2=>dA (gD e2 ru) fun pu _ _ u2=>dA (gD e3 rs) fun ps _ _ s2=>cP ra fun a xs ea _ hl r=>?_
 subst ea
 have z:vs.length=xs.size:=r.length
 have e:(slicePick xs lo hi k).toList=(sliceRange (sliceBounds lo hi k xs.size).1 (sliceBounds lo hi k xs.size).2.1 (sliceBounds lo hi k xs.size).2.2).filterMap (xs.toList[·]?):=by
  unfold slicePick; simp
 have r':fm.RL H s.heap (a6 vs lo hi k) (slicePick xs lo hi k).toList:=by
  rw [e]; unfold a6; rw [z]; exact RepL.pick r _
 refine tail_any (ops:=ops) hl.isList.typeIs PySem.slot_list_getitem.lookup (wpAny_getItem_list_slice hl.isList hsl l2 u2 s2 hk (iB ?_ S r' q) (bX (Nat.le_trans hl.1 (by decide)))) hop
 rw [← Array.length_toList,← r'.length]; exact aX hn
theorem Lb {vs:List V}(e1:i4 l=some none) (e2:i4 u=some (some (-1))) (e3:i4 st=some none) (h:Nat.ble 1 vs.length=true):SlS (.tup vs) l u st (.tup vs.dropLast):=fun {fm m H Q QE s xa xl xu xs value slice sl ops} hop S ra hsl rl ru rs q=>by
 refine dA (gD e1 rl) fun pl a1 l1 _=>dA (gD e2 ru) fun pu a2 u1 _=>dA (gD e3 rs) fun ps a3 s1 _=>cP ra fun a ys ea _ hl r=>?_
 obtain rfl:ps=none:=by cases ps with | none=>rfl | some _=>exact sN s1
 obtain rfl:pl=none:=by cases pl with | none=>rfl | some _=>exact sN l1
 cases pu with
 | none=>exact nS u1
 | some p =>
  obtain ⟨i,t⟩:=p
  obtain rfl:i=-1:=sj u1
  subst a1 a2 a3 ea
  have z:vs.length=ys.size:=r.length
  have r':=RepL.dropLast r
  refine tail_any (ops:=ops) hl.isTup.typeIs PyProof.Rows.slot_tuple_getitem.lookup (mc hl.isTup hsl (z ▸ aX h) (lZ ?_ S r' q) (bX (Nat.le_trans hl.1 (by decide)))) hop
  rw [List.size_toArray,List.length_dropLast,Array.length_toList]
  exact Nat.le_trans (Nat.sub_le ..) hl.1
end
noncomputable def Lc (a:V) (l u st:Option V):Cv (SlS a l u st):=match h1:i4 l,h2:i4 u,h3:i4 st with
 | some lo,some hi,some k=>match a with
  | .str x=>match k,h3 with
   | none,h3=>yes (.str (fx x lo hi)) (La h1 h2 h3)
   | _,_=>none
  | .lst vs=>wh (decide (k≠some 0)) fun hk=>wh (Nat.ble (a6 vs lo hi k).length big) fun hn=>yes (.lst (a6 vs lo hi k)) (sR h1 h2 h3 (of_decide_eq_true hk) hn)
  | .tup vs=>match lo,hi,k,h1,h2,h3 with
   | none,some (-1),none,h1,h2,h3=>wh (Nat.ble 1 vs.length) fun h=>yes (.tup vs.dropLast) (Lb h1 h2 h3 h)
   | _,_,_,_,_,_=>none
  | _=>none
 | _,_,_=>none
noncomputable def bG (a:V) (l u st:Option V):Option V:=(Lc a l u st).v
theorem FA {a r:V}{l u st:Option V}(h:bG a l u st=some r):SlS a l u st r:=lJ h
end
section
section
variable {fm:Fm}{m:Loc}{H:MH}{Q:QV}{QE:QX}{s:Shared}
theorem DN {k n:Str}{t:Tok}:(Value.str k t).isStr n=decide (k=n):=by
 show (k==n)=_
 rw [Bool.eq_iff_iff,beq_iff_eq,decide_eq_true_eq]
theorem sS {prog:Program}{w:World}{name:Str}{es:List DictEntry}{kvs:List (Str × Value)}(h:Pairs (PySem.strKind prog w) es kvs):(es.find? (·.key.isStr name)).map (·.val)=valueAt kvs name∧es.any (·.refKey)=false:=by
 induction h with
 | nil=>exact ⟨rfl,rfl⟩
 | @cons e kv es kvs h1 h2 h3 ih =>
  refine aj (Value.isStrOf_shape (show Value.isStrOf kv.1 e.key=true from h1)) fun t ht=>⟨?_,?_⟩
  ·rw [List.find?_cons,ht,DN]
   refine Eq.trans ?_ gB.symm
   by_cases q:kv.1=name
   ·rw [if_pos q,decide_eq_true q]; exact congrArg some h2
   ·rw [if_neg q,decide_eq_false q]; exact ih.1
  ·rw [List.any_cons,ih.2,Bool.or_false]
   unfold DictEntry.refKey
   rw [ht]
theorem lP {prog:Program}{w:World}{h:Heap}{d:Addr}{kvs:List (Str × Value)}{ep:Nat}(x:h.DictAt (PySem.strKind prog w) d kvs ep) (name:Str) :
  ∃ o,h.get? d=some o∧lookIn name o=some (valueAt kvs name):=by
 refine MY x fun o es h1 h2 h3 h4 h5 h6=>?_
 refine ⟨o,h1,?_⟩
 refine ar (sS (name:=name) h5) fun i1 i2=>?_
 unfold lookIn
 rw [h3]
 dsimp only
 rw [← i1]
 cases e:es.toList.find? (·.key.isStr name) with
 | some p=>rfl
 | none=>simp only [i2]; rfl
theorem zA {K:Frag}{C:Addr}{ga:String}(F:E8 K C ga) {n:Str}(hn:n∈aU) {od:Obj}{v:Value}(hl:lookIn n od=some (some v)):findObj K C (some od) n=some (.value v) :=
 ae F.cls fun cd h1 h2=>by
  have e:PySem.W.ownOf cd (some od) n=some (some v):=(if_pos h2).trans hl
  unfold findObj
  rw [h1,F.at_ n hn]
  show (PySem.W.ownOf cd (some od) n).bind _=_
  rw [e]; rfl
theorem nj (O:ay fm) (S:Sat fm m H s) {C:Addr}(hC:C=ak) {n:Str}(hn:n∈aU) {x d:Addr}{ox:Obj}(h1:s.heap.get? x=some ox) (h2:ox.cls=.ref C) (h3:notCls ox=true) (h4:ox.dict=some d)
  {kvs:List (Str × Value)}{ep:Nat}(hd:s.heap.DictAt (PySem.strKind fm.prog fm.w) d kvs ep) {v:Value}(hv:valueAt kvs n=some v) (hh:handedIn v=true) {Q:Value→Shared→Prop}{E:Value→Shared→Prop}(q:∀ tk,Q v { s with toks:=tk }) :
  wpAny fm.M fm.A (getAttr (.ref x) n true) Q E s :=
 ae O.wd.cls fun K hK F=>ae (lP hd n) fun od ho hl=>get_value (hK.keeps S.base) (C:=ak) ⟨h1,h2.trans (congrArg _ hC),h3,by rw [h4]; exact ho⟩ F.o.ga (zA F.o hn (hl.trans (congrArg some hv))) hh (q _)
theorem FB:builtinKind "BaseException.__getattribute__"=some .slot:=by decide +kernel
theorem DO:splitId "BaseException.__getattribute__"=some ("BaseException", "__getattribute__"):=by decide +kernel
theorem DP {M:Model}{h:Heap}{g:Array GenState}{d:Drawn}{os:OsState}{x:Value}(hi:Looks M h (isInstance x (.type "BaseException")) true) (nv:Value) (A:Around) (E:Value→Shared→Prop) (Q:Unit→Shared→Prop) (tk:Nat) (z:Q () ⟨h,g,d,tk,os⟩) :
  wpAny M A (checkBuiltinCall "BaseException.__getattribute__" ⟨[x,nv],[]⟩) Q E ⟨h,g,d,tk,os⟩ :=
 @check_slot M A E ⟨h,g,d,tk,os⟩ "BaseException.__getattribute__" "BaseException" "__getattribute__" x [nv] [] Q FB DO hi (PySem.F.args_bexc_ga x nv) z
theorem qz (O:ay fm) (S:Sat fm m H s) {C:Addr}(hC:C=ai) {n:Str}(hn:n∈aU) {x d:Addr}{ox:Obj}(h1:s.heap.get? x=some ox) (h2:ox.cls=.ref C) (h3:notCls ox=true) (h4:ox.dict=some d)
  {kvs:List (Str × Value)}{ep:Nat}(hd:s.heap.DictAt (PySem.strKind fm.prog fm.w) d kvs ep) {v:Value}(hv:valueAt kvs n=some v) (hh:handedIn v=true) {Q:Value→Shared→Prop}{E:Value→Shared→Prop}(q:∀ tk,Q v { s with toks:=tk }) :
  wpAny fm.M fm.A (getAttr (.ref x) n true) Q E s:=by
 refine ae O.wd.cls fun K hK F=>ae (lP hd n) fun od ho hl=>?_
 subst hC
 have I:PySem.W.InstAt s.heap x ox ai (some od):=⟨h1,h2,h3,by rw [h4]; exact ho⟩
 have X:=hK.keeps S.base
 have L0:=I.type (M:=fm.M)
 have L1:=looks_findIn (M:=fm.M) X F.r.ga
 have L2:=looks_findIn (M:=fm.M) X F.ga
 have L3:=looks_find (M:=fm.M) X I (zA F.r hn (hl.trans (congrArg some hv)))
 have hi:Looks fm.M s.heap (isInstance (.ref x) (.type "BaseException")) true:=L0.andThen (looks_mroIn X F.mro)
 clear I X hl ho hK F h1 h2 h3 h4 hd hv S O
 obtain ⟨hh',g,d',t,os⟩:=s
 unfold getAttr getAttrBy
 refine wpAny_bind (wpAny_mkText (wpAny_holding (wpAny_bind (L0.at (wpAny_bind (L1.at ?_))))))
 show wpAny _ _ (if _ then _ else getAttrByItsOwn _ _ _ _ _ _) _ _ _
 rw [if_neg (by decide +kernel)]
 unfold getAttrByItsOwn
 refine wpAny_bind ?_
 show wpAny _ _ (typeLookup (.ref ai) "__getattr__") _ _ _
 refine L2.at ?_
 refine wpAny_bind (wpAny_attempt (wpAny_holding ?_))
 show wpAny _ _ (boundAndCalled (.builtin "BaseException.__getattribute__") _ _) _ _ _
 unfold boundAndCalled
 rw [PySem.F.attr_Exception.ga.bind]
 refine wpAny_bind (wpAny_pure ?_)
 show wpAny _ _ (call (.builtin "BaseException.__getattribute__") [.ref x,.str n t]) _ _ _
 refine wpAny_call (codeAny_call_builtin PySem.F.attr_Exception.ga.plain PySem.F.entry_bexc_ga (DP hi _ _ _ _ _ ?_))
 unfold Builtin.«object.__getattribute__»
 refine wpAny_bind ?_
 show wpAny _ _ (pure (Value.ref x,[Value.str n t])) _ _ _
 refine wpAny_pure ?_
 dsimp only
 refine wpAny_bind (wpAny_pure (wpAny_bind (L0.at (wpAny_bind (L3.at ?_)))))
 refine wpAny_pure ?_
 show wpAny _ _ (handedOut v) _ _ _
 rw [handedOut_of hh]
 exact wpAny_pure (q _)
end
noncomputable abbrev AtS (G:AH) (n:Str) (a r:V):Prop:=∀ {fm:Fm}{m:Loc}{H:MH}{Q:QV}{QE:QX}{s:Shared}{xa:Value},ay fm→aa H=G→Sat fm m H s→fm.R H s.heap a xa→Q r H→OW fm (getAttr xa n true) m H Q QE s
noncomputable def AO.si:AO→Option (Addr × List Str × List V)
 | .inst C ks vs=>some (C,ks,vs)
 | _=>none
noncomputable def AO.se:AO→Option (List Str × List V)
 | .exc ks vs=>some (ks,vs)
 | _=>none
theorem nk {mo:MO}{C:Addr}{ks:List Str}{vs:List V}(h:mo.abs=.inst C ks vs):∃ d,mo=.inst C d ks vs:=by
 have h:mo.abs.si=some (C,ks,vs):=congrArg AO.si h
 cases mo <;> first | exact nS h | exact ⟨_,congrArg (fun p=>MO.inst p.1 _ p.2.1 p.2.2) (sj h)⟩
theorem nq {mo:MO}{ks:List Str}{vs:List V}(h:mo.abs=.exc ks vs) (hf:mo.isFly=false):∃ d,mo=.made d ks vs:=by
 have h:mo.abs.se=some (ks,vs):=congrArg AO.se h
 cases mo <;> first | exact nS h | exact tf hf | exact ⟨_,congrArg (fun p=>MO.made _ p.1 p.2) (sj h)⟩
section
variable {G:AH}{n:Str}{ks:List Str}{vs:List V}{v:V}
theorem Ij (hn:n∈aU) (h:(ks.zip vs).lookup n=some v):AtS G n (.inst ak ks vs) v:=fun O _ S ra q=>M0 ra fun a d xs ep e _ _ h1 h2 hl r=>e ▸
 ae (i3 r h) fun x h3 h4=>nj O S rfl hn h1 rfl rfl rfl h2 h3 (gU h4).handed fun tk=>aK S h4 q
theorem Ik {i:Nat}(hn:n∈aU) (e:G[i]? = some (.inst ak ks vs)) (h:(ks.zip vs).lookup n=some v):AtS G n (.ref i) v:=fun O g S ra q=>mQ (lC S (g ▸ e) ra) fun a mo ea hp h2 _ r=>by
 refine aj (nk h2) fun d ed=>?_
 subst ed ea
 refine ar r fun h1 r=>cz r fun xs ep h2 hl r=>ae (i3 r h) fun x h3 h4=>?_
 exact nj O S rfl hn h1 rfl rfl rfl h2 h3 (gU h4).handed fun tk=>aK S h4 q
theorem Il {i:Nat}(hn:n∈aU) (e:G[i]? = some (.exc ks vs)) (h:(ks.zip vs).lookup n=some v):AtS G n (.ref i) v:=fun O g S ra q=>mQ (lC S (g ▸ e) ra) fun a mo ea hp h2 hf r=>by
 refine aj (nq h2 hf) fun d ed=>?_
 subst ed ea
 refine ar r fun h1 r=>cN h1 fun fs sl h1 _=>?_
 cases d with
 | none=>rw [r.1] at h; exact nS h
 | some d=>exact cz r fun xs ep h2 hl r=>ae (i3 r h) fun x h3 h4=>qz O S rfl hn h1 rfl rfl rfl h2 h3 (gU h4).handed fun tk=>aK S h4 q
end
noncomputable def Po (G:AH) (n:Str) (a:V):Cv (AtS G n a):=wh (aU.contains n) fun hn=>match a with
 | .inst C ks vs=>match h:(ks.zip vs).lookup n with
  | some v=>wh (C==ak) fun hC=>yes v (eq_of_beq hC ▸ Ij (List.contains_iff_mem.mp hn) h)
  | none=>none
 | .ref i=>match e:G[i]? with
  | some o=>match o,e with
   | .inst C ks vs,e=>match h:(ks.zip vs).lookup n with
    | some v=>wh (C==ak) fun hC=>yes v (Ik (List.contains_iff_mem.mp hn) (eq_of_beq hC ▸ e) h)
    | none=>none
   | .exc ks vs,e=>match h:(ks.zip vs).lookup n with
    | some v=>yes v (Il (List.contains_iff_mem.mp hn) e h)
    | none=>none
   | _,_=>none
  | none=>none
 | _=>none
noncomputable def FC (G:AH) (n:Str) (a:V):Option V:=(Po G n a).v
theorem Im {H:MH}{n:Str}{a r:V}(h:FC (aa H) n a=some r):AtS (aa H) n a r:=lJ h
end
section
noncomputable def cif {α:Type} (c:Bool) (x y:α):α:=match c with
 | true=>x
 | false=>y
noncomputable def Io:List Nat→List Nat→Bool
 | [],b=>b.isEmpty
 | a::l,b=>match b with
  | []=>false
  | c::r=>cif (Nat.beq a c) (Io l r) false
noncomputable def cU (a b:Str):Bool:=Io a.cps.toList b.cps.toList
theorem Ip (a:List Nat):∀ b:List Nat,Io a b=true→a=b:=by
 induction a with
 | nil=>intro b h; cases b with
  | nil=>rfl
  | cons=>exact ff h
 | cons a l ih=>intro b h; cases b with
  | nil=>exact ff h
  | cons c r =>
   have h:cif (Nat.beq a c) (Io l r) false=true:=h
   cases e:Nat.beq a c with
   | false=>rw [e] at h; exact ff h
   | true=>rw [e] at h; rw [Nat.eq_of_beq_eq_true e,ih r h]
theorem dh {a b:Str}(h:cU a b=true):a=b:=by
 obtain ⟨⟨a⟩⟩:=a; obtain ⟨⟨b⟩⟩:=b
 exact congrArg (fun l=>Str.mk (Array.mk l)) (Ip a b h)
noncomputable def eM:List V→Option (List Int)
 | []=>some []
 | v::r=>match v with
  | .int i=>(eM r).map (i::·)
  | _=>none
noncomputable def fy:List V→Option (List Str)
 | []=>some []
 | v::r=>match v with
  | .str i=>(fy r).map (i::·)
  | _=>none
noncomputable def DQ (a:Int) (r:List Int):Int:=r.foldl (fun m x=>if x<m then x else m) a
noncomputable def Bn (x:Str):List Str→List Str
 | []=>[x]
 | y::r=>if d8 y x then y::Bn x r else x::y::r
noncomputable def nr:List Str→List Str
 | []=>[]
 | x::r=>Bn x (nr r)
section
variable {fm:Fm}{H:MH}{h:Heap}
theorem Bo {vs:List V}{xs:List Value}(r:fm.RL H h vs xs):∀ {ns:List Int},eM vs=some ns→IntsAre xs ns :=
 r.ind (P:=fun vs xs=>∀ {ns:List Int},eM vs=some ns→IntsAre xs ns) (fun e=>sj e ▸ .nil) fun v x vs xs r1 _ ih ns e=>by
  cases v with
  | int i=>exact gh e fun c e' e=>aj r1 fun t ex=>e ▸ ex ▸ .cons _ _ (ih e')
  | _=>exact nS e
theorem jq {vs:List V}{xs:List Value}(r:fm.RL H h vs xs):∀ {ns:List Str},fy vs=some ns→StrsAre xs ns∧∀ y∈ns,y.length≤big :=
 r.ind (P:=fun vs xs=>∀ {ns:List Str},fy vs=some ns→StrsAre xs ns∧∀ y∈ns,y.length≤big) (fun e=>sj e ▸ ⟨.nil,fun _ q=>(nomatch q)⟩) fun v x vs xs r1 _ ih ns e=>by
  cases v with
  | str i=>exact gh e fun c e' e=>ae r1 fun t ex hl=>e ▸ ex ▸ ⟨.cons _ _ (ih e').1,fun y hy=>(List.mem_cons.mp hy).elim (fun q=>q ▸ hl) ((ih e').2 y)⟩
  | _=>exact nS e
theorem FD {xs:List Value}{ns:List Str}(r:StrsAre xs ns):(∀ y∈ns,y.length≤big)→fm.RL H h (ns.map .str) xs:=by
 induction r with
 | nil=>exact fun _=>.nil
 | cons y t _ ih=>exact fun k=>.cons (iy (k y (.head _))) (ih fun z hz=>k z (.tail _ hz))
theorem FE {xs:List Value}{ns:List Int}(r:IntsAre xs ns):∃ ps:List (Int × Tok),xs=ps.map (fun p=>Value.int p.1 p.2)∧ps.map (·.1)=ns:=by
 induction r with
 | nil=>exact ⟨[],rfl,rfl⟩
 | cons n t _ ih=>exact ae ih fun ps h1 h2=>⟨(n,t)::ps,by rw [h1]; rfl,by rw [← h2]; rfl⟩
theorem CG {a:Addr}{vs:List V}{ns:List Int}{ys:Array Value}(hl:iw h a ys) (hn:eM vs=some ns) (r:fm.RL H h vs ys.toList):∃ ps:List (Int × Tok),h.IsList a (intItems ps.toArray)∧ps.map (·.1)=ns :=
 ae (FE (Bo r hn)) fun ps h1 h2=>⟨ps,by
  rw [show intItems ps.toArray=ys by rw [← Array.toList_inj,h1]; simp [intItems]]
  exact hl.isList,h2⟩
end
theorem zB {xs:List Value}{ns:List Str}(r:StrsAre xs ns):ns.length=xs.length:=by
 induction r with
 | nil=>rfl
 | cons _ _ _ ih=>exact congrArg (·+1) ih
theorem oR:∀ {l:List Int}{a:Int},(DQ a l∈a::l)∧(∀ x∈a::l,DQ a l≤x)
 | [],a=>⟨.head _,fun x hx=>by rw [List.mem_singleton.mp hx]; exact Int.le_refl _⟩
 | b::l,a=>by
  refine ar (oR (l:=l) (a:=if b<a then b else a)) fun h1 h2=>?_
  show DQ (if b<a then b else a) l∈_∧∀ x∈_,DQ (if b<a then b else a) l≤x
  have h3:=h2 _ (.head _)
  by_cases q:b<a
  ·rw [if_pos q] at h1 h2 h3 ⊢
   exact ⟨.tail _ h1,fun x hx=>(List.mem_cons.mp hx).elim (fun e=>e ▸ Int.le_trans h3 (Int.le_of_lt q)) fun hx=>h2 x hx⟩
  ·rw [if_neg q] at h1 h2 h3 ⊢
   exact ⟨(List.mem_cons.mp h1).elim (fun e=>by rw [e]; exact .head _) fun h=>.tail _ (.tail _ h),fun x hx=>(List.mem_cons.mp hx).elim (fun e=>e ▸ h3) fun hx=>(List.mem_cons.mp hx).elim (fun e=>e ▸ Int.le_trans h3 (Int.not_lt.mp q)) fun hx=>h2 x (.tail _ hx)⟩
theorem w9 (a:Str):d8 a a=false:=by simp [d8,List.lt_irrefl]
theorem qA {a b c:Str}(h1:d8 a b=true) (h2:d8 b c=true):d8 a c=true:=by
 simp only [d8,decide_eq_true_eq] at *; exact List.lt_trans h1 h2
theorem kA {a b:Str}(h1:d8 a b=false) (h2:d8 b a=false):a=b:=by
 simp only [d8,decide_eq_false_iff_not] at *
 have:a.cps.toList=b.cps.toList:=List.le_antisymm (by simpa using h2) (by simpa using h1)
 cases a with | mk a=>cases b with | mk b=>congr 1; exact Array.toList_inj.mp this
noncomputable def nle (a b:Str):Prop:=d8 b a=false
theorem vE {a b c:Str}(h1:nle a b) (h2:nle b c):nle a c:=by
 unfold nle at *
 cases h:d8 c a with
 | false=>rfl
 | true =>
  exfalso
  cases h3:d8 b c with
  | true =>
   have:=qA h3 h
   rw [h1] at this; exact ff this
  | false =>
   obtain rfl:=kA h3 h2
   rw [h1] at h; exact ff h
theorem oS (x:Str):∀ l:List Str,(Bn x l).Perm (x::l)
 | []=>.refl _
 | y::r=>by
  unfold Bn
  split
  ·exact ((oS x r).cons y).trans (.swap _ _ _)
  ·exact .refl _
theorem dU:∀ l:List Str,(nr l).Perm l
 | []=>.refl _
 | x::r=>(oS x _).trans ((dU r).cons x)
theorem qB (x:Str):∀ {l:List Str},l.Pairwise nle→(Bn x l).Pairwise nle
 | [],_=>by simp [Bn]
 | y::r,h=>by
  unfold Bn
  refine ar (List.pairwise_cons.mp h) fun h1 h2=>?_
  split
  ·rename_i hc
   refine List.pairwise_cons.mpr ⟨fun z hz=>?_,qB x h2⟩
   rcases List.mem_cons.mp ((oS x r).mem_iff.mp hz) with rfl | hz
   ·unfold nle
    cases e:d8 z y with
    | false=>rfl
    | true=>have:=qA hc e; rw [w9] at this; exact ff this
   ·exact h1 z hz
  ·rename_i hc
   have hc:nle x y:=by simpa [nle] using hc
   exact List.pairwise_cons.mpr ⟨fun z hz=>by
    rcases List.mem_cons.mp hz with rfl | hz
    ·exact hc
    ·exact vE hc (h1 z hz),h⟩
theorem gE:∀ l:List Str,(nr l).Pairwise nle
 | []=>.nil
 | x::r=>qB x (gE r)
theorem lQ:∀ {l k:List Str},l.Perm k→l.Pairwise nle→k.Pairwise nle→l=k
 | [],k,p,_,_=>(List.nil_perm.mp p).symm
 | a::l,[],p,_,_=>absurd p (by simp)
 | a::l,b::k,p,h1,h2=>by
  refine ar (List.pairwise_cons.mp h1) fun a1 a2=>?_
  refine ar (List.pairwise_cons.mp h2) fun b1 b2=>?_
  have e:a=b:=by
   rcases List.mem_cons.mp (p.mem_iff.mp (.head l)) with h | h
   ·exact h
   ·rcases List.mem_cons.mp (p.symm.mem_iff.mp (.head k)) with h' | h'
    ·exact h'.symm
    ·exact kA (b1 a h) (a1 b h') |>.symm ▸ rfl
  subst e
  rw [lQ (List.Perm.cons_inv p) a2 b2]
theorem j2:∀ {l:List Str}{p:Str},risingS p l=true→(p::l).Pairwise nle
 | [],p,_=>by simp
 | x::r,p,h=>by
  simp only [risingS,ltCps_eq,Bool.and_eq_true,Bool.not_eq_true'] at h
  have ih:=j2 h.2
  refine List.pairwise_cons.mpr ⟨fun z hz=>?_,ih⟩
  rcases List.mem_cons.mp hz with rfl | hz
  ·exact h.1
  ·exact vE (show nle p x from h.1) ((List.pairwise_cons.mp ih).1 z hz)
theorem oU {l:List Str}(h:sortedS l=true):l.Pairwise nle:=by
 cases l with
 | nil=>exact .nil
 | cons x r=>exact j2 h
noncomputable abbrev BlG (g:Value) (G:AH) (vs:List V) (r:V):Prop:=∀ {fm:Fm}{m:Loc}{H:MH}{Q:QV}{QE:QX}{s:Shared}{xs:List Value},fm.A.handled=none→aa H=G→Sat fm m H s→fm.RL H s.heap vs xs→Q r H→OW fm (call g xs) m H Q QE s
section
variable {fm:Fm}{H:MH}{h:Heap}{xs:List Value}{a b:V}
@[elab_as_elim] theorem rl1 {P:List Value→Prop}(r:fm.RL H h [a] xs) (k:∀ x,fm.R H h a x→P [x]):P xs:=cz r fun x ys e r1 (r2:ys=[])=>by rw [e,r2]; exact k x r1
@[elab_as_elim] theorem rl2 {P:List Value→Prop}(r:fm.RL H h [a,b] xs) (k:∀ x y,fm.R H h a x→fm.R H h b y→P [x,y]):P xs:=cz r fun x ys e r1 r2=>e ▸ rl1 (P:=fun l=>P (x::l)) r2 fun y r2=>k x y r1 r2
end
section
variable {G:AH}
theorem Bp {vs:List V}{i:Nat}(h:G[i]? = some (.list vs)):BlG (.builtin "len") G [.ref i] (.int vs.length):=fun _ g S r q=>rl1 r fun x r=>cP (g6 S (g ▸ h) r) fun a ys e _ hl r=>e ▸
 PyProof.Rows.len_list hl.isList (vD hl.1) (aK S (by rw [r.length]; exact d7) q)
noncomputable def Pp (G:AH) (vs:List V):Cv (BlG (.builtin "len") G vs):=match vs with
 | [v]=>match v with
  | .str x=>yes (.int x.length) fun _ _ S r q=>rl1 r fun x r=>ae r fun t e hl=>e ▸ PyProof.Rows.len_str (Int.not_le.mpr (vD hl)) (aK S d7 q)
  | .lst l=>yes (.int l.length) fun _ _ S r q=>rl1 r fun x r=>cP r fun a ys e _ hl r=>e ▸ PyProof.Rows.len_list hl.isList (vD hl.1) (aK S (by rw [r.length]; exact d7) q)
  | .tup l=>yes (.int l.length) fun _ _ S r q=>rl1 r fun x r=>cP r fun a ys e _ hl r=>e ▸ PyProof.Rows.len_tuple hl.isTup (vD hl.1) (aK S (by rw [r.length]; exact d7) q)
  | .ref i=>match h:G[i]? with
   | some o=>match o,h with
    | .list vs,h=>yes (.int vs.length) (Bp h)
    | _,_=>none
   | none=>none
  | _=>none
 | _=>none
noncomputable def Pq (G:AH) (vs:List V):Cv (BlG (.builtin "ord") G vs):=match vs with
 | [v]=>match v with
  | .str x=>wh (Nat.beq x.length 1) fun h=>yes (.int (x.cps.getD 0 0:Nat)) fun _ _ S r q=>rl1 r fun y r=>ae r fun t e _=>e ▸ PyProof.Rows.ord_of_one (Nat.eq_of_beq_eq_true h) (aK S d7 q)
  | _=>none
 | _=>none
noncomputable def Nk (G:AH) (vs:List V):Cv (BlG (.type "str") G vs):=match vs with
 | [v]=>match v with
  | .int a=>wh (Nat.ble (a.natAbs.log2+1) 1920&&Nat.ble (Str.ofString (toString a)).length big) fun h=>yes (.str (Str.ofString (toString a))) fun _ _ S r q=>rl1 r fun y r=>aj r fun t e=>e ▸ P.str_of_int (aX (an h).1) (aK S (iy (aX (an h).2)) q)
  | _=>none
 | _=>none
theorem CH {fm:Fm}{m:Loc}{H:MH}{Q:QV}{QE:QX}{s:Shared}{o:Obj}{r:V}{tk:Nat}(S:Sat fm m H s) (hr:∀ h:Heap,h.get? s.heap.objs.size=some o→fm.ok H s.heap.objs.size→fm.R H h r (.ref s.heap.objs.size)) (hf:o.isFreed=false) (q:Q r H) :
  PV fm m H s.heap Q (.ref s.heap.objs.size) { s with heap:=s.heap.push o,toks:=tk } :=
 dD S (fun _ _ e=>Heap.get?_push_of_some _ e) rfl rfl rfl (hr _ (Heap.get?_push_size _ hf) (S.fresh_ok (aV _))) q
noncomputable def Ld (G:AH) (vs:List V):Cv (BlG (.type "range") G vs):=match vs with
 | [v]=>match v with
  | .int n=>yes (.rng 0 n) fun {fm m H Q QE s xs} _ _ S r q=>rl1 r fun y r=>aj r fun t e=>e ▸ call_range_1 (CH (QE:=QE) (r:=.rng 0 n) S (fun h e ok=>⟨_,_,_,_,rfl,ok,e⟩) rfl q)
  | _=>none
 | [v,u]=>match v,u with
  | .int a,.int b=>yes (.rng a b) fun {fm m H Q QE s xs} _ _ S r q=>rl2 r fun y z r r'=>aj r fun t e=>aj r' fun t' e'=>e ▸ e' ▸ call_range_2 (CH (QE:=QE) (r:=.rng a b) S (fun h e ok=>⟨_,_,_,_,rfl,ok,e⟩) rfl q)
  | _,_=>none
 | _=>none
theorem Le {l:List V}{n:Int}{ns:List Int}(hn:eM l=some (n::ns)):BlG (.builtin "min") G [.lst l] (.int (DQ n ns)):=fun {fm m H Q QE s xs} hh _ S r q=>rl1 r fun y r=>cP r fun a ys e _ hl r=>e ▸ ae (CG hl hn r) fun ps hl' h2=>by
 have hsz:0<ps.toArray.size:=by cases ps with | nil=>exact absurd h2 (by simp) | cons _ _=>exact Nat.succ_pos _
 refine min_intList hh hl' hsz fun v h' tk hv hk=>?_
 refine aj (intItems_at hv) fun t ev=>?_
 subst ev
 refine ar (argBest_lt (numAt ps.toArray) (ps.toArray.size - 1)) fun h3 h4=>dD S hk rfl rfl rfl ?_ q
 have hp:ps.toArray.size=ps.length:=List.size_toArray
 have hin:numAt ps.toArray (argBest (fun i j=>decide (numAt ps.toArray i<numAt ps.toArray j)) (ps.toArray.size - 1))∈n::ns:=by
  rw [← h2,numAt_eq]
  exact getD_mem (by rw [List.length_map,← hp]; exact Nat.lt_of_le_of_lt h3 (Nat.sub_lt hsz Nat.one_pos))
 have hle:∀ a∈n::ns,numAt ps.toArray (argBest (fun i j=>decide (numAt ps.toArray i<numAt ps.toArray j)) (ps.toArray.size - 1))≤a:=fun a ha=>by
  rw [← h2] at ha
  refine ae (mem_getD ha) fun j hj ej=>?_
  have:=h4 j (Nat.le_sub_one_of_lt (Nat.lt_of_lt_of_eq hj (List.length_map ..)))
  rw [numAt_eq ps.toArray j] at this
  exact ej ▸ this
 rw [Int.le_antisymm (hle _ oR.1) (oR.2 _ hin)]
 exact d7
noncomputable def Nl (G:AH) (vs:List V):Cv (BlG (.builtin "min") G vs):=match vs with
 | [v]=>match v with
  | .lst l=>opt (eM l) fun ns h=>match ns,h with
   | n::ns,h=>yes (.int (DQ n ns)) (Le h)
   | _,_=>none
  | _=>none
 | [v,u]=>match v,u with
  | .int a,.int b=>yes (.int (if b<a then b else a)) fun hh _ S r q=>rl2 r fun y z r r'=>aj r fun t e=>aj r' fun t' e'=>e ▸ e' ▸ min_two_ints hh fun h' tk hk=>dD S hk rfl rfl rfl (by split <;> exact d7) q
  | _,_=>none
 | _=>none
noncomputable def Pr (G:AH) (vs:List V):Cv (BlG (.builtin "max") G vs):=match vs with
 | [v,u]=>match v,u with
  | .int a,.int b=>yes (.int (if b > a then b else a)) fun hh _ S r q=>rl2 r fun y z r r'=>aj r fun t e=>aj r' fun t' e'=>e ▸ e' ▸ max_two_ints hh fun h' tk hk=>dD S hk rfl rfl rfl (by split <;> exact d7) q
  | _,_=>none
 | _=>none
noncomputable def Nm (G:AH) (vs:List V):Cv (BlG (.builtin "sum") G vs):=match vs with
 | [v]=>match v with
  | .lst l=>opt (eM l) fun ns h=>yes (.int ns.sum) fun hh _ S r q=>rl1 r fun y r=>cP r fun a ys e _ hl r=>e ▸ ae (CG hl h r) fun ps hl' h2=>sum_intListG hh hl' fun h' tk t' hk=>dD S hk rfl rfl rfl (by
     rw [preSum_eq,List.take_of_length_le (by simp)]
     exact h2 ▸ d7) q
  | _=>none
 | _=>none
theorem DR {l:List V}{ss:List Str}(hn:fy l=some ss) (hz:Nat.ble (l.length+1) 64=true):BlG (.builtin "sorted") G [.lst l] (.lst ((nr ss).map .str)):=fun {fm m H Q QE s xs} _ _ S r0 q=>rl1 r0 fun y r1=>cP r1 fun a ys e _ hl r=>by
 rw [e]
 have hb:=jq r hn
 have hlen:l.length=ys.toList.length:=r.length
 refine sorted_strs (vs:=ys.toList) hl.isList hb.1 (hlen ▸ aX hz) fun out ss' ha hp hs=>?_
 have e:=lQ (hp.trans (dU ss).symm) (oU hs) (gE ss)
 subst e
 refine dD (v:=.lst _) S (fun b o hb=>sortedAll_old hb) rfl rfl rfl ?_ q
 have r':∀ h:Heap,fm.RL H h ((nr ss).map .str) out.toList:=fun h=>FD ha fun y hy=>hb.2 y ((dU ss).mem_iff.mp hy)
 refine aj (sortedAll_at s.heap ys.toList out) fun e he=>⟨_,out,rfl,S.fresh_ok ?_,⟨?_,e,he⟩,r' _⟩
 ·unfold Heap.get?
  simp
 ·rw [← Array.length_toList,← (r' s.heap).length,List.length_map,(dU ss).length_eq]
  rw [zB hb.1,← hlen]
  exact Nat.le_trans (Nat.le_of_succ_le (aX hz)) (by decide)
noncomputable def CI (G:AH) (vs:List V):Cv (BlG (.builtin "sorted") G vs):=match vs with
 | [v]=>match v with
  | .lst l=>opt (fy l) fun ss h=>wh (Nat.ble (l.length+1) 64) fun hz=>yes (.lst ((nr ss).map .str)) (DR h hz)
  | _=>none
 | _=>none
end
noncomputable abbrev BlS (G:AH) (f:Str) (vs:List V) (r:V):Prop:=∀ {g:Value},bootBuiltins f=some g→BlG g G vs r
noncomputable def Pu {G:AH}{n:Str}{g:Value}{vs:List V}(h:bootBuiltins n=some g) (c:Cv (BlG g G vs)):Cv (BlS G n vs):=match c with
 | some r=>yes r.1 fun h'=>sj (h.symm.trans h') ▸ r.2
 | none=>none
noncomputable def ifS {α:Type}{P:Str→α→Prop}(f n:Str) (a:Cv (P n)) (b:Cv (P f)):Cv (P f):=match h:cU n f with
 | true=>match a with
  | some r=>yes r.1 (dh h ▸ r.2)
  | none=>none
 | false=>b
noncomputable def blI (G:AH) (f:Str) (vs:List V) (n:Str) {g:Value}(c:Cv (BlG g G vs)) (h:bootBuiltins n=some g) (b:Cv (BlS G f vs)):Cv (BlS G f vs):=ifS (P:=fun f=>BlS G f vs) f n (Pu h c) b
noncomputable def Pv (G:AH) (f:Str) (vs:List V):Cv (BlS G f vs) :=
 blI G f vs ⟨⟨[108,101,110]⟩⟩ (Pp G vs) (by decide +kernel) <|
 blI G f vs ⟨⟨[111,114,100]⟩⟩ (Pq G vs) (by decide +kernel) <|
 blI G f vs ⟨⟨[115,116,114]⟩⟩ (Nk G vs) (by decide +kernel) <|
 blI G f vs ⟨⟨[114,97,110,103,101]⟩⟩ (Ld G vs) (by decide +kernel) <|
 blI G f vs ⟨⟨[109,105,110]⟩⟩ (Nl G vs) (by decide +kernel) <|
 blI G f vs ⟨⟨[109,97,120]⟩⟩ (Pr G vs) (by decide +kernel) <|
 blI G f vs ⟨⟨[115,117,109]⟩⟩ (Nm G vs) (by decide +kernel) <|
 blI G f vs ⟨⟨[115,111,114,116,101,100]⟩⟩ (CI G vs) (by decide +kernel) none
noncomputable def nu (G:AH) (f:Str) (vs:List V):Option V:=(Pv G f vs).v
theorem Lf {H:MH}{f:Str}{vs:List V}{r:V}(h:nu (aa H) f vs=some r):BlS (aa H) f vs r:=lJ h
end
end Mine
end
section
open PySem PySem.W PyProof.Rows Builtin.Str
set_option maxRecDepth 20000
namespace Mine
section
theorem di:∀ {H:MH}{i:Nat}{ao:AO},(aa H)[i]? = some ao→∃ pre a mo post,H=pre++(a,mo)::post∧mo.abs=ao∧mo.isFly=false∧(bC H)[i]? = some a ∧
  ∀ mo':MO,mo'.isFly=false→aa (pre++(a,mo')::post)=(aa H).set i mo'.abs∧bC (pre++(a,mo')::post)=bC H
 | [],i,ao,h=>by simp [aa] at h
 | (b,q)::H,i,ao,h=>by
  cases hq:q.isFly with
  | true =>
   have e1:aa ((b,q)::H)=aa H:=by simp [aa,hq]
   have e2:bC ((b,q)::H)=bC H:=by simp [bC,hq]
   rw [e1] at h
   refine DB (di h) fun pre a mo post z9=>?_; subst z9; intro h2 h3 h4 h5
   refine ⟨(b,q)::pre,a,mo,post,rfl,h2,h3,by rw [e2]; exact h4,fun mo' hm=>?_⟩
   refine ar (h5 mo' hm) fun g1 g2=>?_
   refine ⟨?_,?_⟩
   ·rw [e1,← g1]; simp [aa,hq]
   ·rw [e2,← g2]; simp [bC,hq]
  | false =>
   have e1:aa ((b,q)::H)=q.abs::aa H:=by simp [aa,hq]
   have e2:bC ((b,q)::H)=b::bC H:=by simp [bC,hq]
   rw [e1] at h
   cases i with
   | zero =>
    simp only [List.getElem?_cons_zero,Option.some.injEq] at h
    refine ⟨[],b,q,H,rfl,h,hq,by rw [e2]; rfl,fun mo' hm=>?_⟩
    simp [aa,bC,hq,hm]
   | succ i =>
    simp only [List.getElem?_cons_succ] at h
    refine DB (di h) fun pre a mo post z9=>?_; subst z9; intro h2 h3 h4 h5
    refine ⟨(b,q)::pre,a,mo,post,rfl,h2,h3,by rw [e2]; exact h4,fun mo' hm=>?_⟩
    refine ar (h5 mo' hm) fun g1 g2=>?_
    refine ⟨?_,?_⟩
    ·rw [e1,List.set_cons_succ,← g1]; simp [aa,hq]
    ·rw [e2,← g2]; simp [bC,hq]
theorem cg {pre post:MH}{p:Addr × MO}:aW (pre++p::post)=aW pre++(p.2.addrs p.1++aW post):=by simp [aW]
section
variable {fm:Fm}{m:Loc}{H:MH}{Q:QV}{QE:QX}{s:Shared}
theorem Sat.mut {pre post:MH}{a:Addr}{mo mo':MO}{s':Shared}(O:ay fm) (S:Sat fm m (pre++(a,mo)::post) s) (hal:bC (pre++(a,mo')::post)=bC (pre++(a,mo)::post))
  (haddr:∀ b∈mo'.addrs a,b∈mo.addrs a∨s.heap.get? b=none) (hnd:(mo'.addrs a).Nodup)
  (k:∀ b o,b ∉ mo.addrs a→s.heap.get? b=some o→s'.heap.get? b=some o)
  (r:(∀ {vs:List V}{xs:List Value},fm.RL (pre++(a,mo)::post) s.heap vs xs→fm.RL (pre++(a,mo')::post) s'.heap vs xs)→dC fm (pre++(a,mo')::post) s'.heap a mo')
  (hg:s'.gens=s.gens) (ho:s'.os=s.os) (hd:s'.drawn=s.drawn) :
  Sat fm m (pre++(a,mo')::post) s'∧af fm (pre++(a,mo)::post) s.heap (pre++(a,mo')::post) s'.heap:=by
 have inA:∀ {b},b∈mo.addrs a→b∈aW (pre++(a,mo)::post):=fun hb=>by rw [cg]; exact List.mem_append_right _ (List.mem_append_left _ hb)
 have ownIn:∀ {b},b∈aW (pre++(a,mo')::post)→b∈aW (pre++(a,mo)::post)∨s.heap.get? b=none:=fun {b} hb=>by
  rw [cg] at hb ⊢
  simp only [List.mem_append] at hb ⊢
  rcases hb with h | h | h
  ·exact .inl (.inl h)
  ·rcases haddr b h with h | h
   ·exact .inl (.inr (.inl h))
   ·exact .inr h
  ·exact .inl (.inr (.inr h))
 have kX:∀ b o,s.heap.get? b=some o→b ∉ fm.X (pre++(a,mo)::post)→s'.heap.get? b=some o∧b ∉ fm.X (pre++(a,mo')::post):=fun b o hb hn=>by
  refine ⟨k b o (fun q=>hn (ax.mpr (.inr (.inr (inA q))))) hb,fun q=>?_⟩
  rcases ax.mp q with q | q | q
  ·exact hn (ax.mpr (.inl q))
  ·exact hn (ax.mpr (.inr (.inl q)))
  ·rcases ownIn q with q | q
   ·exact hn (ax.mpr (.inr (.inr q)))
   ·rw [q] at hb; exact nS hb
 have okk:∀ b o,s.heap.get? b=some o→fm.ok (pre++(a,mo)::post) b→s'.heap.get? b=some o∧fm.ok (pre++(a,mo')::post) b:=fun b o hb q =>
  let ⟨x,y⟩:=kX b o hb q.1; ⟨x,y,q.2⟩
 have ple:∀ (i:Nat) (x:Addr),(bC (pre++(a,mo)::post))[i]? = some x→(bC (pre++(a,mo')::post))[i]? = some x:=fun i x e=>by rw [hal]; exact e
 have nd:=S.nodup
 rw [cg] at nd
 refine bW (List.nodup_append.mp nd) fun n1 n2 n3=>?_
 refine bW (List.nodup_append.mp n2) fun n4 n5 n6=>?_
 have other:∀ p,p∈pre∨p∈post→∀ b∈p.2.addrs p.1,b ∉ mo.addrs a:=fun p hp b hb q=>by
  rcases hp with hp | hp
  ·exact n3 b (bm hp hb) b (List.mem_append_left _ q) rfl
  ·exact n6 b q b (bm hp hb) rfl
 refine Sat.upd O S kX (fun L hL o e=>⟨o.slots,k L o (fun q=>?_) e⟩) (fun p hp=>?_) ?_ (fun b hb=>?_) hg ho hd ple
 ·have ap:=S.apart L (inA q)
  rcases hL with h | h
  ·exact ap.1 h
  ·exact ap.2.1 h
 ·have fin:p∈pre∨p∈post→dC fm (pre++(a,mo')::post) s'.heap p.1 p.2:=fun hp' =>
   dC.mono (H:=pre++(a,mo)::post) ple okk (fun b hb o e=>k b o (other p hp' b hb) e) (S.objs p (by rcases hp' with h | h; exact List.mem_append_left _ h; exact List.mem_append_right _ (.tail _ h)))
  rcases List.mem_append.mp hp with h | h
  ·exact fin (.inl h)
  ·rcases List.mem_cons.mp h with rfl | h
   ·exact r fun r=>RepL.mono ple okk r
   ·exact fin (.inr h)
 ·rw [cg]
  have f:∀ b∈mo'.addrs a,b ∉ aW pre∧b ∉ aW post:=fun b hb=>by
   rcases haddr b hb with h | h
   ·exact ⟨fun q=>n3 b q b (List.mem_append_left _ h) rfl,fun q=>n6 b h b q rfl⟩
   ·have:=S.fresh_owned h
    rw [cg] at this
    simp only [List.mem_append,not_or] at this
    exact ⟨this.1,this.2.2⟩
  refine List.nodup_append.mpr ⟨n1,List.nodup_append.mpr ⟨hnd,n5,fun x hx y hy e=>(f x hx).2 (e ▸ hy)⟩,fun x hx y hy e=>?_⟩
  rcases List.mem_append.mp hy with h | h
  ·exact (f y h).1 (e ▸ hx)
  ·exact n3 x hx y (List.mem_append_right _ h) e
 ·rcases ownIn hb with h | h
  ·exact S.apart b h
  ·exact S.fresh_apart h
theorem Sat.grow {a:Addr}{mo:MO}{s':Shared}(O:ay fm) (S:Sat fm m H s) (hfl:mo.isFly=false) (hfresh:∀ b∈mo.addrs a,s.heap.get? b=none) (hnd:(mo.addrs a).Nodup)
  (k:∀ b o,s.heap.get? b=some o→s'.heap.get? b=some o)
  (r:(∀ {vs:List V}{xs:List Value},fm.RL H s.heap vs xs→fm.RL (H++[(a,mo)]) s'.heap vs xs)→dC fm (H++[(a,mo)]) s'.heap a mo)
  (hg:s'.gens=s.gens) (ho:s'.os=s.os) (hd:s'.drawn=s.drawn) :
  Sat fm m (H++[(a,mo)]) s'∧af fm H s.heap (H++[(a,mo)]) s'.heap∧aa (H++[(a,mo)])=aa H++[mo.abs]∧(bC (H++[(a,mo)]))[(aa H).length]? = some a:=by
 have e1:aW (H++[(a,mo)])=aW H++mo.addrs a:=by simp [aW]
 have e2:bC (H++[(a,mo)])=bC H++[a]:=by simp [bC,hfl]
 have e3:(aa H).length=(bC H).length:=by simp [aa,bC]
 have kX:∀ b o,s.heap.get? b=some o→b ∉ fm.X H→s'.heap.get? b=some o∧b ∉ fm.X (H++[(a,mo)]):=fun b o hb hn=>by
  refine ⟨k b o hb,fun q=>?_⟩
  rcases ax.mp q with q | q | q
  ·exact hn (ax.mpr (.inl q))
  ·exact hn (ax.mpr (.inr (.inl q)))
  ·rw [e1] at q
   rcases List.mem_append.mp q with q | q
   ·exact hn (ax.mpr (.inr (.inr q)))
   ·rw [hfresh b q] at hb; exact nS hb
 have okk:∀ b o,s.heap.get? b=some o→fm.ok H b→s'.heap.get? b=some o∧fm.ok (H++[(a,mo)]) b:=fun b o hb q =>
  let ⟨x,y⟩:=kX b o hb q.1; ⟨x,y,q.2⟩
 have ple:∀ (i:Nat) (x:Addr),(bC H)[i]? = some x→(bC (H++[(a,mo)]))[i]? = some x:=fun i x e=>by
  rw [e2,List.getElem?_append_left (List.getElem?_eq_some_iff.mp e).1]; exact e
 obtain ⟨g1,g2⟩:=Sat.upd (H':=H++[(a,mo)]) O S kX (fun L hL o e=>⟨o.slots,k L o e⟩) (fun p hp=>by
   rcases List.mem_append.mp hp with h | h
   ·exact dC.mono (H:=H) ple okk (fun b hb o e=>k b o e) (S.objs p h)
   ·obtain rfl:=List.mem_singleton.mp h
    exact r fun r=>RepL.mono ple okk r) (by
   rw [e1]
   exact List.nodup_append.mpr ⟨S.nodup,hnd,fun x hx y hy e=>S.fresh_owned (hfresh y hy) (e ▸ hx)⟩) (fun b hb=>by
   rw [e1] at hb
   rcases List.mem_append.mp hb with h | h
   ·exact S.apart b h
   ·exact S.fresh_apart (hfresh b h)) hg ho hd ple
 exact ⟨g1,g2,by simp [aa,hfl],by rw [e2,e3]; simp⟩
theorem xd {a:Addr}{mo:MO}{x:Value}{s':Shared}(O:ay fm) (S:Sat fm m H s) (hfl:mo.isFly=false) (hfresh:∀ b∈mo.addrs a,s.heap.get? b=none) (hnd:(mo.addrs a).Nodup)
  (k:∀ b o,s.heap.get? b=some o→s'.heap.get? b=some o)
  (r:(∀ {vs:List V}{xs:List Value},fm.RL H s.heap vs xs→fm.RL (H++[(a,mo)]) s'.heap vs xs)→dC fm (H++[(a,mo)]) s'.heap a mo)
  (hg:s'.gens=s.gens) (ho:s'.os=s.os) (hd:s'.drawn=s.drawn) (hx:x=.ref a) (q:∀ H',aa H'=aa H++[mo.abs]→Q (.ref (aa H).length) H'):PV fm m H s.heap Q x s':=by
 refine uO (Sat.grow O S hfl hfresh hnd k r hg ho hd) fun g1 g2 g3 g4=>?_
 subst hx
 exact ⟨_,_,g2,g1,Nb g4,q _ g3⟩
end
end
end Mine
end
section
open PySem PySem.W PyProof.Rows Builtin.Str
set_option maxRecDepth 20000
set_option backward.match.sparseCases false
set_option genSizeOf false
set_option genInjectivity false
namespace Mine
section
structure Lg (T:String) (name:Str) (id:String):Prop where
 plain:PlainAttrs T
 slot:Slot T name id
 ty:typeOf (.builtin id)=pure (.type "method_descriptor")
inductive Mth where
 | lower | islower | isupper | find | sindex | join | starts | append | extend | reverse | lindex
noncomputable def Mth.T:Mth→String
 | .append=>"list"
 | .extend=>"list"
 | .reverse=>"list"
 | .lindex=>"list"
 | _=>"str"
noncomputable def Mth.nm:Mth→Str
 | .lower=>⟨⟨[108,111,119,101,114]⟩⟩
 | .islower=>⟨⟨[105,115,108,111,119,101,114]⟩⟩
 | .isupper=>⟨⟨[105,115,117,112,112,101,114]⟩⟩
 | .find=>⟨⟨[102,105,110,100]⟩⟩
 | .sindex=>⟨⟨[105,110,100,101,120]⟩⟩
 | .join=>⟨⟨[106,111,105,110]⟩⟩
 | .starts=>⟨⟨[115,116,97,114,116,115,119,105,116,104]⟩⟩
 | .append=>⟨⟨[97,112,112,101,110,100]⟩⟩
 | .extend=>⟨⟨[101,120,116,101,110,100]⟩⟩
 | .reverse=>⟨⟨[114,101,118,101,114,115,101]⟩⟩
 | .lindex=>⟨⟨[105,110,100,101,120]⟩⟩
noncomputable def Mth.id:Mth→String
 | .lower=>"str.lower"
 | .islower=>"str.islower"
 | .isupper=>"str.isupper"
 | .find=>"str.find"
 | .sindex=>"str.index"
 | .join=>"str.join"
 | .starts=>"str.startswith"
 | .append=>"list.append"
 | .extend=>"list.extend"
 | .reverse=>"list.reverse"
 | .lindex=>"list.index"
theorem eP {T id:String}{n n':Str}(h:Slot T n id) (e:n=n'):Slot T n' id:=e ▸ h
theorem Mth.is (k:Mth):Lg k.T k.nm k.id:=by
 cases k with
 | lower=>exact ⟨F.plainAttrs_str,eP F.slot_str_lower (by decide +kernel),F.type_str_lower⟩
 | islower=>exact ⟨F.plainAttrs_str,eP F.slot_str_islower (by decide +kernel),F.type_str_islower⟩
 | isupper=>exact ⟨F.plainAttrs_str,eP F.slot_str_isupper (by decide +kernel),F.type_str_isupper⟩
 | find=>exact ⟨F.plainAttrs_str,eP F.slot_str_find (by decide +kernel),F.type_str_find⟩
 | sindex=>exact ⟨F.plainAttrs_str,eP F.slot_str_index (by decide +kernel),F.type_str_index⟩
 | join=>exact ⟨F.plainAttrs_str,eP F.slot_str_join (by decide +kernel),F.type_str_join⟩
 | starts=>exact ⟨F.plainAttrs_str,eP F.slot_str_startswith (by decide +kernel),F.type_str_startswith⟩
 | append=>exact ⟨F.plainAttrs_list,eP PySem.F.slot_list_append (by decide +kernel),PySem.F.type_list_append⟩
 | extend=>exact ⟨F.plainAttrs_list,eP PySem.F.slot_list_extend (by decide +kernel),PySem.F.type_list_extend⟩
 | reverse=>exact ⟨F.plainAttrs_list,eP PySem.F.slot_list_reverse (by decide +kernel),PySem.F.type_list_reverse⟩
 | lindex=>exact ⟨F.plainAttrs_list,eP PySem.F.slot_list_index (by decide +kernel),PySem.F.type_list_index⟩
noncomputable def lkM (n:Str):List Mth→Option Mth
 | []=>none
 | k::l=>cif (cU k.nm n) (some k) (lkM n l)
noncomputable def Lh:List Mth:=[.lower,.islower,.isupper,.find,.sindex,.join,.starts]
noncomputable def Iq:List Mth:=[.append,.extend,.reverse,.lindex]
theorem iD {n:Str}{k:Mth}:∀ {l:List Mth},lkM n l=some k→k∈l∧k.nm=n
 | [],h=>nS h
 | a::l,h=>by
  unfold lkM at h
  cases e:cU a.nm n with
  | true=>rw [e] at h; exact sj h ▸ ⟨.head _,dh e⟩
  | false=>rw [e] at h; exact ⟨.tail _ (iD h).1,(iD h).2⟩
noncomputable abbrev MtS (G:AH) (u:V) (n:Str) (k:Mth):Prop:=k.nm=n∧∀ {fm:Fm}{m:Loc}{H:MH}{s:Shared}{x:Value},aa H=G→Sat fm m H s→fm.R H s.heap u x→s.TypeIs x k.T∧∀ a,x=.ref a→∃ ob,s.heap.get? a=some ob∧ob.dict=none
theorem Li {k:Mth}(h:k∈Lh):k.T="str":=eq_of_beq (List.all_eq_true.mp (show Lh.all (fun k=>k.T=="str")=true by decide +kernel) k h)
theorem FF {k:Mth}(h:k∈Iq):k.T="list":=eq_of_beq (List.all_eq_true.mp (show Iq.all (fun k=>k.T=="list")=true by decide +kernel) k h)
theorem FG {s:Shared}{a:Addr}{xs:Array Value}{T:String}(e:T="list") (hl:iw s.heap a xs):s.TypeIs (.ref a) T∧∀ b,Value.ref a=.ref b→∃ ob,s.heap.get? b=some ob∧ob.dict=none :=
 hl.2.elim fun n h=>⟨⟨_,h,e ▸ rfl⟩,fun b q=>Value.ref.inj q ▸ ⟨_,h,rfl⟩⟩
noncomputable def Lj (G:AH) (u:V) (n:Str):Cv (MtS G u n):=match u with
 | .str _=>opt (lkM n Lh) fun k h=>yes k ⟨(iD h).2,fun _ S r=>ae r fun t e _=>e ▸ ⟨Li (iD h).1 ▸ typeIs_str _ _ _,fun _ e=>nomatch e⟩⟩
 | .lst _=>opt (lkM n Iq) fun k h=>yes k ⟨(iD h).2,fun _ S r=>cP r fun a xs e _ hl _=>e ▸ FG (FF (iD h).1) hl⟩
 | .ref i=>opt G[i]? fun o e=>match o,e with
  | .list vs,e=>opt (lkM n Iq) fun k h=>yes k ⟨(iD h).2,fun g S r=>cP (g6 S (g ▸ e) r) fun a xs e _ hl _=>e ▸ FG (FF (iD h).1) hl⟩
  | _,_=>none
 | _=>none
noncomputable def Ir (G:AH) (u:V) (n:Str):Option Mth:=(Lj G u n).v
noncomputable def Mth.mut:Mth→Bool
 | .append=>true
 | .extend=>true
 | .reverse=>true
 | _=>false
noncomputable def fA:Expr→Bool
 | .Call ..=>false
 | _=>true
theorem Bq {o:Expr}(h:fA o=true) (name:Str) (env:Env):attributeBase o name env (eval o env)=eval o env:=by
 cases o <;> first | exact ff h | rfl
theorem FH {fm:Fm}{args:List Expr}{pos:Pos}(hs:bb args=true) (hlen:args.length<20):((backTo pos (starEach args fm.env)).all (fun x=>!x.1)&&(backToKw pos (keywordEach [] fm.env)).all (fun x=>x.1.isSome)
   &&decide (args.length+([]:List Keyword).length+(if ([]:List Keyword).isEmpty then 0 else 1)<30))=true:=by
 rw [dJ hs,show backToKw pos (keywordEach [] fm.env)=[] from rfl]
 unfold backTo
 simp
 lia
section
variable {fm:Fm}{m:Loc}{H:MH}{Q:QV}{QE:QX}{s:Shared}
theorem It {o:Expr}{name:Str}{apos pos:Pos}{args:List Expr}(hs:bb args=true) (hlen:args.length<20) (hline:(apos.endLine==pos.line)=true) (hb:fA o=true)
  (h:EW fm o m H (fun ov H1=>∃ k,Ir (aa H1) ov name=some k∧LW fm pos args m H1 (fun vs H2=>∀ s xo xs,Sat fm m H2 s→fm.R H2 s.heap ov xo→fm.RL H2 s.heap vs xs→OW fm (call (.builtin k.id) (xo::xs)) m H2 Q QE s) QE) QE) :
  EW fm (.Call (.Attribute o name apos) args [] pos) m H Q QE:=fun s S=>by
 refine wpAny_Call_method_late (Bq hb name fm.env) (FH hs hlen) hline rfl (wpAny_mono (h s S) (fun xo s1 p=>?_) fun _ _ p=>p)
 obtain ⟨ov,H1,T1,S1,r1,k,hk,q⟩:=p
 obtain ⟨e,ht⟩:=lJ (P:=MtS (aa H1) ov name) hk
 subst e
 have ht:=ht rfl S1 r1
 have h':wpAny fm.M fm.A _ _ (PX fm m H s.heap QE) s1:=wpAny_mono (q s1 S1) (fun _ _ p=>p) fun _ _ p=>p.back T1
 exact ⟨k.T,k.id,k.is.plain,k.is.slot,k.is.ty,ht.1,ht.2,callWith_of (P:=fun h=>True) (zq hs) (fun h _=>⟨.machine,.inr (.inl rfl),Looks.of_pure rfl⟩) (vB hs h' fun xs s2 p=>p.el fun vs H2 T2 S2 r2 q2 =>
  ⟨trivial,wpAny_mono (q2 s2 xo xs S2 (T2.rep r1) r2) (fun _ _ p=>p.back (T1.trans T2)) fun _ _ p=>p.back (T1.trans T2)⟩)⟩
end
end
section
noncomputable abbrev MeS (k:Mth) (u:V) (vs:List V) (r:V):Prop:=∀ {fm:Fm}{m:Loc}{H:MH}{Q:QV}{QE:QX}{s:Shared}{xo:Value}{xs:List Value},Sat fm m H s→fm.R H s.heap u xo→fm.RL H s.heap vs xs→Q r H→OW fm (call (.builtin k.id) (xo::xs)) m H Q QE s
theorem xe {k:Mth}{x y:Str}{r:V}(h:∀ {fm:Fm}{m:Loc}{H:MH}{Q:QV}{QE:QX}{s:Shared}{t u:Tok},Sat fm m H s→Q r H→OW fm (call (.builtin k.id) [.str x t,.str y u]) m H Q QE s):MeS k (.str x) [.str y] r :=
 fun S r0 r1 q=>ae r0 fun t e _=>rl1 r1 fun z r1=>ae r1 fun u e' _=>e ▸ e' ▸ h S q
theorem xf {k:Mth}{x:Str}{r:V}(h:∀ {fm:Fm}{m:Loc}{H:MH}{Q:QV}{QE:QX}{s:Shared}{t:Tok},x.length≤big→Sat fm m H s→Q r H→OW fm (call (.builtin k.id) [.str x t]) m H Q QE s):MeS k (.str x) [] r :=
 fun S r0 r1 q=>ae r0 fun t e hl=>e ▸ (show _=[] from r1) ▸ h hl S q
noncomputable def Pw (k:Mth) (x:Str):Cv (MeS k (.str x) []):=match k with
 | .lower=>wh (Nat.ble (Txt.lower x).length big) fun h=>yes (.str (Txt.lower x)) (xf (k:=.lower) fun hl S q=>SCL.lower (Nat.le_trans hl (by decide)) fun _=>aK S (iy (aX h)) q)
 | .islower=>yes (.bool (Txt.islower x)) (xf (k:=.islower) (x:=x) fun _ S q=>SC.islower (f0 S gZ q))
 | .isupper=>yes (.bool (Txt.isupper x)) (xf (k:=.isupper) (x:=x) fun _ S q=>SC.isupper (f0 S gZ q))
 | _=>none
noncomputable def Px (k:Mth) (x y:Str):Cv (MeS k (.str x) [.str y]):=match k with
 | .starts=>yes (.bool (Txt.startswith x y)) (xe (k:=.starts) (x:=x) (y:=y) fun S q=>SC.startswith (f0 S gZ q))
 | .find=>yes (.int (Txt.find x y)) (xe (k:=.find) (x:=x) (y:=y) fun S q=>SC.find (aK S d7 q))
 | .sindex=>match h:occurrences x y 0 x.length 1 with
  | i::rest=>yes (.int (i:Nat)) (xe (k:=.sindex) fun S q=>SC.index h (aK S d7 q))
  | []=>none
 | _=>none
theorem Nn {x:Str}{ys:List Str}(h:Nat.ble (Txt.join x ys).length big=true):(Txt.join x ys).length≤big:=aX h
noncomputable def oW (x:Str) (ys:List Str):Bool:=Nat.ble ((ys.map (·.length)).sum+ys.length*x.length) big&&Nat.ble (Txt.join x ys).length big
theorem FI {x:Str}{l:List V}{ys:List Str}(hy:fy l=some ys) (h:oW x ys=true):MeS .join (.str x) [.lst l] (.str (Txt.join x ys)):=fun S r0 r1 q=>ae r0 fun t e _=>rl1 r1 fun z r1=>cP r1 fun a zs e' _ hl r2=>e ▸ e' ▸
 join_list hl.isList (jq r2 hy).1 (Nat.le_trans (aX (an h).1) (by decide)) fun t' k=>aK S (iy (aX (an h).2)) q
theorem FJ {x:Str}{l:List V}{ys:List Str}(hy:fy l=some ys) (h:oW x ys=true):MeS .join (.str x) [.tup l] (.str (Txt.join x ys)):=fun S r0 r1 q=>ae r0 fun t e _=>rl1 r1 fun z r1=>cP r1 fun a zs e' _ hl r2=>e ▸ e' ▸
 join_tuple hl.isTup (jq r2 hy).1 (Nat.le_trans (aX (an h).1) (by decide)) fun t' k=>aK S (iy (aX (an h).2)) q
theorem Iu {k:Str}{u:Tok}{l:List Value}{ss:List Str}(h:StrsAre l ss):(∀ y∈l,MeetsSeq.EqGives y (.str k u) (eS k y))∧∀ j (hj:j<l.length),∃ hj':j<ss.length,eS k l[j]=(ss[j]==k):=by
 induction h with
 | nil=>exact ⟨(fun _ q=>nomatch q),fun j hj=>absurd hj (Nat.not_lt_zero _)⟩
 | cons y t _ ih =>
  refine ⟨fun z hz=>(List.mem_cons.mp hz).elim (fun e=>e ▸ ?_) (ih.1 z),fun j hj=>?_⟩
  ·show MeetsSeq.EqGives _ _ (y==k)
   rw [← SeqAt.str_beq]; exact SeqRoads2.EqGives.str _ _ _ _
  ·cases j with
   | zero=>exact ⟨Nat.succ_pos _,rfl⟩
   | succ j =>
    obtain ⟨h1,h2⟩:=ih.2 j (Nat.lt_of_succ_lt_succ hj)
    exact ⟨Nat.succ_lt_succ h1,h2⟩
theorem DS {l:List V}{ys:List Str}{k:Str}(hy:fy l=some ys) (hz:ys.contains k=true):MeS .lindex (.lst l) [.str k] (.int (ys.idxOf k:Nat)):=fun {fm m H Q QE s xo xs} S r0 r1 q=>cP r0 fun a zs e _ hl r2=>rl1 r1 fun z r1=>ae r1 fun u e' _=>hl.2.elim fun n ho=>by
 have ha:=(jq r2 hy).1
 have hlen:=zB ha
 have hi:ys.idxOf k<ys.length:=List.idxOf_lt_length_iff.mpr (List.contains_iff_mem.mp hz)
 have hi':ys.idxOf k<zs.size:=Nat.lt_of_lt_of_eq hi hlen
 rw [e,e']
 have w:=Iu (u:=u) (k:=k) ha
 refine call_meets PySem.F.slot_list_index ⟨_,ho,rfl⟩ PySem.F.entry_list_index (PySem.F.args_list_index_2 _ _) (MeetsSeq.list_index a zs n (.str k u) (eS k) (fun y hy=>w.1 y (Array.mem_toList_iff.mpr hy)) (ys.idxOf k) hi' (by have:=Nat.lt_of_lt_of_le hi' hl.1; lia) ?_ fun j hj hlt=>?_) ⟨ho,aK S d7 q⟩
 ·obtain ⟨h1,h2⟩:=w.2 _ hi'
  exact Eq.trans h2 (by simp)
 ·obtain ⟨h1,h2⟩:=w.2 j hj
  refine Eq.trans h2 ?_
  have:=List.not_of_lt_findIdx (p:=(·==k)) hlt
  simpa using this
noncomputable def No (k:Mth) (u:V) (vs:List V):Cv (MeS k u vs):=match u with
 | .str x=>match vs with
  | []=>Pw k x
  | [v]=>match v with
   | .str y=>Px k x y
   | .lst l=>match k with
    | .join=>opt (fy l) fun ys h=>wh (oW x ys) fun h'=>yes (.str (Txt.join x ys)) (FI h h')
    | _=>none
   | .tup l=>match k with
    | .join=>opt (fy l) fun ys h=>wh (oW x ys) fun h'=>yes (.str (Txt.join x ys)) (FJ h h')
    | _=>none
   | _=>none
  | [v,w]=>match v,w,k with
   | .str y,.int i,.find=>yes (.int (Txt.find3 x y i)) fun S r0 r1 q=>ae r0 fun t e _=>rl2 r1 fun z z' r1 r2=>ae r1 fun u e' _=>aj r2 fun u' e''=>e ▸ e' ▸ e'' ▸ SC.find3 (aK S d7 q)
   | _,_,_=>none
  | _=>none
 | .lst l=>match vs with
  | [v]=>match v,k with
   | .str y,.lindex=>opt (fy l) fun ys h=>wh (ys.contains y) fun h'=>yes (.int (ys.idxOf y:Nat)) (DS h h')
   | _,_=>none
  | _=>none
 | _=>none
noncomputable def eQ (k:Mth) (u:V) (vs:List V):Option V:=(No k u vs).v
theorem Iv {k:Mth}{u:V}{vs:List V}{r:V}(h:eQ k u vs=some r):MeS k u vs r:=lJ h
theorem RepL.reverse {prog:Program}{w:World}{h:Heap}{ok:Addr→Prop}{al:List Addr}{vs:List V}{xs:List Value}(r:RepL prog w h ok al vs xs):RepL prog w h ok al vs.reverse xs.reverse :=
 r.ind (P:=fun vs xs=>RepL prog w h ok al vs.reverse xs.reverse) .nil fun _ _ _ _ r1 _ ih=>by rw [List.reverse_cons,List.reverse_cons]; exact .append ih (.cons r1 .nil)
section
variable {fm:Fm}{m:Loc}{H:MH}{Q:QV}{QE:QX}{s:Shared}
theorem sU (O:ay fm) {i:Nat}{us ws:List V}{zs:Array Value}{a:Addr}{h':Heap}{tk n:Nat}{x:Value}(e:(aa H)[i]? = some (.list us)) (ea:(bC H)[i]? = some a) (S:Sat fm m H s)
  (hb:Heap.SameBut a s.heap h') (hn:h'.get? a=some { cls:=.type "list",dict:=none,data:=.seq zs n,slots:=#[] }) (hl:zs.size≤big) (r:fm.RL H s.heap ws zs.toList)
  {rv:V}(hr:∀ H' h',fm.R H' h' rv x) (q:∀ H',aa H'=(aa H).set i (.list ws)→Q rv H'):PV fm m H s.heap Q x { s with heap:=h',toks:=tk }:=by
 obtain ⟨pre,b,mo,post,rfl,h2,h3,h4,h5⟩:=di e
 rw [h4] at ea
 obtain rfl:=sj ea
 obtain rfl:=ng h2
 refine ar (h5 (.list ws) rfl) fun g1 g2=>?_
 refine ar (Sat.mut (mo':=.list ws) (s':={ s with heap:=h',toks:=tk }) O S g2 (fun b hb=>.inl hb) (by simp [MO.addrs]) (fun b o hb' ho=>(hb.2 b fun q=>hb' (q ▸ .head _)).trans ho) (fun conv=>⟨zs,⟨hl,n,hn⟩,conv r⟩) rfl rfl rfl) fun S' T=>?_
 exact ⟨_,_,T,S',hr _ _,q _ g1⟩
theorem xg (S:Sat fm m H s) {i:Nat}{us:List V}{x:Value}(e:(aa H)[i]? = some (.list us)) (r:fm.R H s.heap (.ref i) x) :
  ∃ a zs n,x=.ref a∧(bC H)[i]? = some a∧s.heap.get? a=some { cls:=.type "list",dict:=none,data:=.seq zs n,slots:=#[] }∧zs.size≤big∧fm.RL H s.heap us zs.toList :=
 cP (g6 S e r) fun a zs ex _ hl r1=>hl.2.elim fun n h=>ae r fun b hb eb=>⟨a,zs,n,ex,by rw [hb,Value.ref.inj (eb.symm.trans ex)],h,hl.1,r1⟩
end
noncomputable abbrev MuS (k:Mth) (l:List V) (vs:List V) (r:List V):Prop:=∀ {fm:Fm}{m:Loc}{H:MH}{Q:QV}{QE:QX}{s:Shared}{i:Nat}{xo:Value}{xs:List Value},ay fm→Sat fm m H s→(aa H)[i]? = some (.list l)→fm.R H s.heap (.ref i) xo→fm.RL H s.heap vs xs →
 (∀ H',aa H'=(aa H).set i (.list r)→Q .none H')→OW fm (call (.builtin k.id) (xo::xs)) m H Q QE s
theorem DT {l:List V}{v:V}(h:Nat.ble (l.length+1) big=true):MuS .append l [v] (l++[v]):=fun {fm m H Q QE s i xo xs} O S e r0 r1 q=>Ib (xg S e r0) fun a zs n ex ha ho hl r2=>rl1 r1 fun x r1=>by
 rw [ex]
 have hn:l.length=zs.size:=r2.length
 exact append_at ho (fun h' hb hn'=>sU O e ha S hb hn' (by rw [Array.size_push,← hn]; exact aX h) (by rw [Array.toList_push]; exact .append r2 (.cons r1 .nil)) (fun _ _=>wW) q) (bX (Nat.le_trans hl (by decide)))
theorem DU {l us:List V}(h:Nat.ble (l.length+us.length) big=true):MuS .extend l [.lst us] (l++us):=fun {fm m H Q QE s i xo xs} O S e r0 r1 q=>Ib (xg S e r0) fun a zs n ex ha ho hl r2=>rl1 r1 fun x r1=>cP r1 fun b ys ex' _ hb r3=>hb.2.elim fun n2 hb=>by
 rw [ex,ex']
 have hn:l.length=zs.size:=r2.length
 have hn2:us.length=ys.size:=r3.length
 have h:=aX h
 rw [hn,hn2] at h
 have hsz:zs.size+ys.size≤sizeLine:=bX (Nat.le_trans h (by decide))
 refine call_meets PySem.F.slot_list_extend ⟨_,ho,rfl⟩ PySem.F.entry_list_extend (PySem.F.args_list_extend_2 _ _) (AutoSeq1.list_extend_list_list_0 a zs n b ys n2 (extend_door hsz) (by lia) (by lia)) ⟨ho,hb,?_⟩
 have ho':(s.heap.update a (Obj.mapSeq fun x=>x++ys)).get? a=some { cls:=.type "list",dict:=none,data:=.seq (zs++ys) (if (zs++ys).size==zs.size then n else n+1),slots:=#[] }:=by
  rw [Heap.get?_update_self _ ho (by rw [mapSeq_app]; rfl),mapSeq_app]
 exact sU O e ha S (Heap.SameBut.update ..) ho' (by rw [Array.size_append]; exact h) (by rw [Array.toList_append]; exact .append r2 r3) (fun _ _=>wW) q
theorem Br {l:List V}:MuS .reverse l [] l.reverse:=fun {fm m H Q QE s i xo xs} O S e r0 r1 q=>Ib (xg S e r0) fun a zs n ex ha ho hl r2=>by
 rw [ex,show xs=[] from r1]
 refine call_meets PySem.F.slot_list_reverse ⟨_,ho,rfl⟩ PySem.F.entry_list_reverse (PySem.F.args_list_reverse_1 _) (AutoSeq1.list_reverse_list_0 a zs n (bX (Nat.le_trans hl (by decide)))) ⟨ho,?_⟩
 have ho':(s.heap.update a (Obj.mapSeq fun x=>x.reverse)).get? a=some { cls:=.type "list",dict:=none,data:=.seq zs.toList.reverse.toArray n,slots:=#[] }:=by
  rw [Heap.get?_update_self _ ho (by rw [mapSeq_reverse]; rfl),mapSeq_reverse]
 exact sU O e ha S (Heap.SameBut.update ..) ho' (by rw [List.size_toArray,List.length_reverse]; exact hl) (RepL.reverse r2) (fun _ _=>wW) q
noncomputable def Py (k:Mth) (l:List V) (vs:List V):Cv (MuS k l vs):=match vs with
 | [v]=>match k with
  | .append=>wh (Nat.ble (l.length+1) big) fun h=>yes (l++[v]) (DT h)
  | .extend=>match v with
   | .lst us=>wh (Nat.ble (l.length+us.length) big) fun h=>yes (l++us) (DU h)
   | _=>none
  | _=>none
 | []=>match k with
  | .reverse=>yes l.reverse Br
  | _=>none
 | _=>none
noncomputable def oX (k:Mth) (l vs:List V):Option (List V):=(Py k l vs).v
theorem Lk {k:Mth}{l vs r:List V}(h:oX k l vs=some r):MuS k l vs r:=lJ h
end
section
noncomputable abbrev FL (fm:Fm) (H:MH) (h0:Heap) (v:V) (y:Value):Prop:=∀ (fm':Fm) (H':MH) (h':Heap),fm'.prog=fm.prog→fm'.w=fm.w→(∀ (i:Nat) (a:Addr),(bC H)[i]? = some a→(bC H')[i]? = some a)→Kp h0 h' (fm.ok H) (fm'.ok H')→fm'.R H' h' v y
structure Iw (fm:Fm) (H:MH) (h0:Heap) (xs:List V) (I:Addr) (fp:List Addr) (P:Nat→Value→Prop) (St:Nat→Heap→Prop):Prop where
 W:Walks fm.prog fm.w fm.A I fp [I] xs.length P St
 fpX:∀ b∈fp,b=I∨(∃ o,h0.get? b=some o)∧fm.ok H b
 al:∀ i h,St i h→∃ o,h.get? I=some o
 item:∀ i y,i<xs.length→P i y→∃ v,xs[i]? = some v∧FL fm H h0 v y
noncomputable abbrev Pz (fm:Fm) (H:MH) (s:Shared) (seq:Bool) (xs:List V) (Q:Value→Shared→Prop):Prop:=∀ (o:Obj) (St:Nat→Heap→Prop) (P:Nat→Value→Prop) (fp:List Addr),Iw fm H s.heap xs s.heap.objs.size fp P St→xs.length≤big→St 0 (s.heap.push o) →
 (seq=true→∀ (target:Expr) (i:Nat) (y:Value) (s':Shared) (Q':Unit→Shared→Prop) (E':Value→Shared→Prop),St i s'.heap→Q' () s'→wpAny fm.M fm.A (letOwnedTupleGo target (.ref s.heap.objs.size) y) Q' E' s') →
 (s.heap.push o).get? s.heap.objs.size=some o→Q (.ref s.heap.objs.size) { s with heap:=s.heap.push o }
noncomputable def zC:V→Bool
 | .lst _=>true
 | .tup _=>true
 | _=>false
noncomputable abbrev Bs (v:V) (xs:List V):Prop:=∀ {fm:Fm}{m:Loc}{H:MH}{s:Shared}{x:Value}{Q:Value→Shared→Prop}{E:Value→Shared→Prop},fm.A.handled=none→Sat fm m H s→fm.R H s.heap v x→Pz fm H s (zC v) xs Q→wpAny fm.M fm.A (pyIter x) Q E s
section
variable {fm:Fm}{m:Loc}{H:MH}{s:Shared}
theorem oY {b:Addr}{ob:Obj}(e:s.heap.get? b=some ob):b≠s.heap.objs.size:=fun q=>by rw [q,aV] at e; exact nS e
theorem Bt {a I:Addr}{o:Obj}(ha:s.heap.get? a=some o) (ok:fm.ok H a):∀ b∈[I,a],b=I∨(∃ o,s.heap.get? b=some o)∧fm.ok H b:=fun b hb =>
 (List.mem_cons.mp hb).elim .inl fun hb=>by rw [List.mem_singleton.mp hb]; exact .inr ⟨⟨_,ha⟩,ok⟩
theorem Bu {I:Addr}:∀ b∈[I],b=I∨(∃ o,s.heap.get? b=some o)∧fm.ok H b:=fun b hb=>.inl (List.mem_singleton.mp hb)
theorem zD {vs:List V}{ys:Array Value}(r:fm.RL H s.heap vs ys.toList):∀ i y,i<vs.length→ys[i]? = some y→∃ v,vs[i]? = some v∧FL fm H s.heap v y:=fun i y hi hy =>
 ⟨vs[i],List.getElem?_eq_getElem hi,fun fm' H' h' hp hw pre k=>ae ((RepL.mono pre k r).at (List.getElem?_eq_getElem hi)) fun z hz rz=>by
  unfold Fm.R; rw [hp,hw,sj (hy.symm.trans hz)]; exact rz⟩
end
theorem Ix {vs:List V}:Bs (.lst vs) vs:=fun {fm m H s x Q E} hh S r q=>cP r fun a ys e ok hl r1=>hl.2.elim fun n ha=>by
 have hlen:vs.length=ys.size:=r1.length
 rw [e]
 exact wpAny_pyIter_list hl.isList (q _ (fun i h=>h.IsListIter s.heap.objs.size a i∧h.IsList a ys) (fun i v=>ys[i]? = some v) [s.heap.objs.size,a]
  ⟨hlen ▸ Walks.list hh _ a (oY ha) ys,Bt ha ok,fun i h st=>aj st.1 fun o z=>⟨o,z.1⟩,zD r1⟩ (hlen ▸ hl.1) ⟨⟨_,Heap.get?_push_size _ rfl,rfl,rfl⟩,hl.isList.at fun o e=>Heap.get?_push_of_some _ e⟩
  (fun _ target i y s' Q' E' st hq=>letGo_listiter st.1 hq) (Heap.get?_push_size _ rfl))
theorem Iy {vs:List V}:Bs (.tup vs) vs:=fun {fm m H s x Q E} hh S r q=>cP r fun a ys e ok hl r1=>by
 have hlen:vs.length=ys.size:=r1.length
 rw [e]
 exact wpAny_pyIter_tuple (iC hl) (q _ (fun i h=>h.IsTupleIter s.heap.objs.size a i∧h.IsTuple a ys) (fun i v=>ys[i]? = some v) [s.heap.objs.size,a]
  ⟨hlen ▸ Walks.tuple hh _ a (oY hl.2) ys,Bt hl.2 ok,fun i h st=>aj st.1 fun o z=>⟨o,z.1⟩,zD r1⟩ (hlen ▸ hl.1) ⟨⟨_,Heap.get?_push_size _ rfl,rfl,rfl⟩,iC ⟨hl.1,Heap.get?_push_of_some _ hl.2⟩⟩
  (fun _ target i y s' Q' E' st hq=>letGo_tupleiter st.1 hq) (Heap.get?_push_size _ rfl))
theorem vF {fm:Fm}{H:MH}{h0:Heap}{x:Str}:∀ i y,i<(x.cps.toList.map fun c=>V.str (zw c)).length→SignAt x i y→∃ v,(x.cps.toList.map fun c=>V.str (zw c))[i]? = some v∧FL fm H h0 v y:=fun i y _ h =>
 cN h fun c u hc e=>⟨.str (zw c),by rw [List.getElem?_map,Array.getElem?_toList,hc]; rfl,fun _ _ _ _ _ _ _=>e ▸ iy (show 1≤big by decide)⟩
theorem ny {x:Str}:(x.cps.toList.map fun c=>V.str (zw c)).length=x.cps.size:=List.length_map ..
theorem Iz {x:Str}:Bs (.str x) (x.cps.toList.map fun c=>.str (zw c)):=fun {fm m H s y Q E} hh S r q=>ae r fun t e hl=>by
 rw [e]
 cases ha:x.cps.all (·<128)
 ·exact wpAny_pyIter_wide ha (q _ (fun i h=>h.IsStrIter s.heap.objs.size "str_iterator" x t i) (SignAt x) [s.heap.objs.size] ⟨ny ▸ Walks.strWide hh _ x t,Bu,fun i h st=>aj st fun o z=>⟨o,z.1⟩,vF⟩ (ny ▸ hl) ⟨_,Heap.get?_push_size _ rfl,rfl,rfl⟩ ff (Heap.get?_push_size _ rfl))
 ·exact wpAny_pyIter_ascii ha (q _ (fun i h=>h.IsStrIter s.heap.objs.size "str_ascii_iterator" x t i) (SignAt x) [s.heap.objs.size] ⟨ny ▸ Walks.strAscii hh _ x t,Bu,fun i h st=>aj st fun o z=>⟨o,z.1⟩,vF⟩ (ny ▸ hl) ⟨_,Heap.get?_push_size _ rfl,rfl,rfl⟩ ff (Heap.get?_push_size _ rfl))
noncomputable def cV (a b:Int):List Int:=(List.range (b - a).toNat).map fun k=>a+Int.ofNat k
noncomputable def small:Int→Bool
 | .ofNat n=>Nat.ble n 4611686018427387903
 | .negSucc n=>Nat.ble n 4611686018427387903
noncomputable def CJ (a b:Int):Bool:=(small a&&small b)&&Nat.ble (b - a).toNat big
theorem zE {i:Int}(h:small i=true):-(2 ^ 62)≤i∧i<2 ^ 62:=by
 cases i with
 | ofNat n=>exact ⟨Int.le_trans (by decide) (Int.natCast_nonneg n),Int.ofNat_lt.mpr (Nat.lt_succ_of_le (aX h))⟩
 | negSucc n=>exact ⟨by rw [Int.negSucc_eq]; exact Int.neg_le_neg (Int.ofNat_le.mpr (Nat.succ_le_succ (aX h))),Int.lt_trans (Int.negSucc_lt_zero n) (by decide)⟩
theorem zF {a b:Int}(h:CJ a b=true):Builtin.Range.small a b 1=true∧Builtin.Range.rangeSize a b 1=((b - a).toNat:Int):=by
 have h1:=zE (an (an h).1).1
 have h2:=zE (an (an h).1).2
 have h3:=aX (an h).2
 have e:Builtin.Range.rangeSize a b 1=((b - a).toNat:Int):=by
  unfold Builtin.Range.rangeSize
  rw [if_pos (by decide)]
  split <;> rename_i q
  ·rw [Int.ediv_one,Int.sub_add_cancel,Int.toNat_of_nonneg (Int.sub_nonneg_of_le (Int.le_of_lt q))]
  ·rw [Int.toNat_of_nonpos (Int.sub_nonpos_of_le (Int.not_lt.mp q))]; rfl
 refine ⟨?_,e⟩
 have w:∀ {i:Int},-2 ^ 62≤i∧i<2 ^ 62→-2 ^ 63≤i∧i<2 ^ 63:=fun h=>⟨Int.le_trans (by decide) h.1,Int.lt_of_lt_of_le h.2 (by decide)⟩
 unfold Builtin.Range.small
 rw [e]
 unfold Builtin.Range.rangeFitsLong
 simp only [Bool.and_eq_true,decide_eq_true_eq,Bool.or_eq_true,beq_iff_eq]
 exact ⟨⟨⟨⟨w h1,w h2⟩,by decide⟩,Int.le_trans (by decide) (Int.natCast_nonneg _),Int.lt_of_le_of_lt (Int.ofNat_le.mpr h3) (by decide)⟩,.inr (by rw [if_pos (by decide),Int.sub_self,Int.add_zero,decide_eq_true (w h2).1,decide_eq_true (w h2).2]; rfl)⟩
theorem IA {a b:Int}(h:CJ a b=true):Bs (.rng a b) ((cV a b).map .int):=fun {fm m H s x Q E} hh S r q=>E2 r fun r t u w e hok hr=>by
 have k:=zF h
 have hlen:((cV a b).map V.int).length=(b - a).toNat:=by simp [cV]
 rw [e]
 refine wpAny_pyIter_range hr k.1 (q _ (fun i h=>IsRangeIter h s.heap.objs.size (a+(i:Nat)*1) (((b - a).toNat:Int) - (i:Nat)) 1) (fun i v=>∃ t,v=.int (a+i*1) t) [s.heap.objs.size]
  ⟨by rw [hlen]; exact Walks.range hh s.heap.objs.size a 1 (b - a).toNat,Bu,fun i h st=>⟨_,st⟩,fun i y hi z=>aj z fun t' e=>⟨.int (a+i),?_,fun _ _ _ _ _ _ _=>?_⟩⟩ (hlen ▸ aX (an h).2) ?_ ff (Heap.get?_push_size _ rfl))
 ·rw [hlen] at hi
  simp [cV,List.getElem?_range hi]
 ·rw [e,Int.mul_one]; exact d7
 ·simp only [Int.natCast_zero,Int.zero_mul,Int.add_zero,Int.sub_zero,k.2]
  exact Heap.get?_push_size _ rfl
theorem Ll {ks:List Int}:Bs (.dI ks) (ks.map .int):=fun {fm m H s x Q E} hh S r q=>mQ r fun d ep e hok hz hd hl=>cN (id hd) fun od ed hd1 hd2=>by
 have hlen:(ks.map V.int).length=(ks.map fun k=>(k,Value.bool true)).length:=by rw [List.length_map,List.length_map]
 rw [e]
 refine wpAny_pyIter_dict hz hd (q _ (fun i h=>h.IsKeyIter s.heap.objs.size d i (ks.map fun k=>(k,Value.bool true)).length ep∧h.DictAt (intKind fm.prog fm.w) d (ks.map fun k=>(k,Value.bool true)) ep) (fun i v=>∃ k x,(ks.map fun k=>(k,Value.bool true))[i]? = some (k,x)∧(intKind fm.prog fm.w).is k v=true) [s.heap.objs.size,d]
  ⟨by rw [hlen]; exact Walks.dictKeys hh _ d (oY hd1) _ ep,Bt hd1 hok,fun i h st=>aj st.1 fun o z=>⟨o,z.1⟩,fun i y _ z=>cN z fun k w hk hy=>?_⟩ (by rw [List.length_map]; exact hl) ⟨⟨_,Heap.get?_push_size _ rfl,rfl,rfl⟩,bE (fun o e=>Heap.get?_push_of_some _ e) hd⟩ ff (Heap.get?_push_size _ rfl))
 rw [List.getElem?_map] at hk
 refine gh hk fun k' hk' e=>⟨.int k',by rw [List.getElem?_map,hk']; rfl,fun _ _ _ _ _ _ _=>?_⟩
 rw [← (Prod.mk.inj e).1] at hy
 cases y <;> first | exact ff hy | exact eq_of_beq hy ▸ d7
noncomputable def Np (v:V):Cv (Bs v):=match v with
 | .lst vs=>yes vs Ix
 | .tup vs=>yes vs Iy
 | .str x=>yes (x.cps.toList.map fun c=>.str (zw c)) Iz
 | .rng a b=>wh (CJ a b) fun h=>yes ((cV a b).map .int) (IA h)
 | .dI ks=>yes (ks.map .int) Ll
 | _=>none
noncomputable def nz (v:V):Option (List V):=(Np v).v
noncomputable def FM (v:V):Option (List V):=cif (zC v) (nz v) none
theorem CK {v:V}{xs:List V}(h:nz v=some xs):Bs v xs:=lJ h
end
section
section
variable {fm:Fm}{m:Loc}{H:MH}{s:Shared}
theorem xh (O:ay fm) {i:Nat}{ao:AO}{a:Addr}{s':Shared}(e:(aa H)[i]? = some ao) (ea:fm.R H s.heap (.ref i) (.ref a)) (S:Sat fm m H s) (mo':MO) (hfl:mo'.isFly=false) (h1:∀ mo:MO,mo.abs=ao→∀ b,mo.addrs b=[b]) (h2:mo'.addrs a=[a])
  (k:Heap.SameBut a s.heap s'.heap) (r:∀ H',(∀ {vs:List V}{xs:List Value},fm.RL H s.heap vs xs→fm.RL H' s'.heap vs xs)→dC fm H' s'.heap a mo') (hg:s'.gens=s.gens) (ho:s'.os=s.os) (hd:s'.drawn=s.drawn) :
  ∃ H',aa H'=(aa H).set i mo'.abs∧af fm H s.heap H' s'.heap∧Sat fm m H' s':=by
 obtain ⟨pre,b,mo,post,rfl,g2,g3,g4,g5⟩:=di e
 refine ae ea fun c hc ec=>?_
 obtain rfl:b=a:=(sj (g4.symm.trans hc)).trans (Value.ref.inj ec).symm
 refine ar (g5 mo' hfl) fun k1 k2=>?_
 have ha:=h1 mo g2 b
 refine ar (Sat.mut (mo':=mo') (s':=s') O S k2 (fun x hx=>.inl (by rw [ha]; rwa [h2] at hx)) (by rw [h2]; simp) (fun x o hx hb=>(k.2 x fun q=>hx (by rw [ha,q]; exact .head _)).trans hb) (fun conv=>r _ conv) hg ho hd) fun S' T=>⟨_,k1,T,S'⟩
end
noncomputable def kB (k:Str) (v:V) (ks:List Str) (vs:List V):List V:=(ks.zip vs).map fun p=>if p.1=k then v else p.2
noncomputable def bh (n:Str) (v:V) (ks:List Str) (vs:List V):List Str × List V:=if ks.contains n then (ks,kB n v ks vs) else (ks++[n],vs++[v])
section
variable {prog:Program}{w:World}{h:Heap}{ok:Addr→Prop}{al:List Addr}{x:Str}{v:V}{xv:Value}
theorem Bv (rv:Rep prog w h ok al v xv) {vs:List V}{xs:List Value}(r:RepL prog w h ok al vs xs):∀ {ks:List Str},ks.length=xs.length →
  ∃ ys,(ks.zip xs).map (fun kv=>if kv.1=x then (kv.1,xv) else kv)=ks.zip ys∧ks.length=ys.length∧RepL prog w h ok al (kB x v ks vs) ys :=
 r.ind (P:=fun vs xs=>∀ {ks:List Str},ks.length=xs.length→∃ ys,(ks.zip xs).map (fun kv=>if kv.1=x then (kv.1,xv) else kv)=ks.zip ys∧ks.length=ys.length∧RepL prog w h ok al (kB x v ks vs) ys)
  (fun {ks} hl=>⟨[],by rw [List.zip_nil_right]; rfl,hl,by unfold kB; rw [List.zip_nil_right]; exact .nil⟩) fun u y vs xs r1 _ ih {ks} hl=>by
  cases ks with
  | nil=>exact nomatch hl
  | cons k ks =>
   refine dA (ih (Nat.succ.inj hl)) fun ys h1 h2 h3=>?_
   have e:kB x v (k::ks) (u::vs)=(if k=x then v else u)::kB x v ks vs:=rfl
   rw [e,List.zip_cons_cons,List.map_cons,h1]
   by_cases hk:k=x
   ·exact ⟨xv::ys,by rw [if_pos hk]; rfl,congrArg (·+1) h2,by rw [if_pos hk]; exact .cons rv h3⟩
   ·exact ⟨y::ys,by rw [if_neg hk]; rfl,congrArg (·+1) h2,by rw [if_neg hk]; exact .cons r1 h3⟩
theorem IB {α:Type}{ks:List Str}:∀ {xs:List α},ks.length=xs.length→((ks.zip xs).any fun kv=>decide (kv.1=x))=ks.contains x:=by
 induction ks with
 | nil=>exact fun _=>rfl
 | cons k ks ih =>
  intro xs hl
  cases xs with
  | nil=>exact nomatch hl
  | cons y xs =>
   rw [List.zip_cons_cons,List.any_cons,ih (Nat.succ.inj hl),contains_cons]
   by_cases e:k=x
   ·rw [if_pos e,decide_eq_true e,Bool.true_or]
   ·rw [if_neg e,decide_eq_false e,Bool.false_or]
theorem me (rv:Rep prog w h ok al v xv) {ks:List Str}{vs:List V}{xs:List Value}(hl:ks.length=xs.length) (r:RepL prog w h ok al vs xs) :
  ∃ ys,PySem.stored (ks.zip xs) x xv=(bh x v ks vs).1.zip ys∧(bh x v ks vs).1.length=ys.length∧RepL prog w h ok al (bh x v ks vs).2 ys:=by
 unfold PySem.stored bh
 rw [IB hl]
 cases ks.contains x with
 | true=>exact Bv rv r hl
 | false=>exact ⟨xs++[xv],(List.zip_append hl).symm ▸ rfl,by rw [if_neg ff,List.length_append,List.length_append,hl]; rfl,RepL.append r (.cons rv .nil)⟩
end
theorem zG {ks:List Int}{j:Int}:PySem.stored (ks.map fun k=>(k,Value.bool true)) j (.bool true)=((if ks.contains j then ks else ks++[j]).map fun k=>(k,Value.bool true)):=by
 unfold PySem.stored
 have h1:((ks.map fun k=>(k,Value.bool true)).any fun kv=>decide (kv.1=j))=ks.contains j:=by
  induction ks with
  | nil=>rfl
  | cons k ks ih =>
   rw [List.map_cons,List.any_cons,ih,contains_cons]
   by_cases e:k=j
   ·rw [if_pos e,decide_eq_true e,Bool.true_or]
   ·rw [if_neg e,decide_eq_false e,Bool.false_or]
 rw [h1]
 cases ks.contains j with
 | true =>
  rw [if_pos rfl,if_pos rfl,List.map_map]
  refine List.map_congr_left fun k _=>?_
  show (if k=j then _ else _)=_
  split <;> rfl
 | false=>rw [if_neg ff,if_neg ff,List.map_append]; rfl
theorem RepL.set {prog:Program}{w:World}{h:Heap}{ok:Addr→Prop}{al:List Addr}{v:V}{xv:Value}{vs:List V}{xs:List Value}(r:RepL prog w h ok al vs xs) (rv:Rep prog w h ok al v xv):∀ j:Nat,RepL prog w h ok al (vs.set j v) (xs.set j xv) :=
 r.ind (P:=fun vs xs=>∀ j:Nat,RepL prog w h ok al (vs.set j v) (xs.set j xv)) (fun _=>.nil) fun _ _ _ _ r1 r2 ih j=>match j with
  | 0=>.cons rv r2
  | j+1=>.cons r1 (ih j)
noncomputable abbrev PuS (G:AH) (op:Value→Value→Sem Unit) (o v:V) (G':AH):Prop:=∀ {fm:Fm}{m:Loc}{H:MH}{s:Shared}{xo xv:Value}{Q:Unit→Shared→Prop}{E:Value→Shared→Prop},ay fm→aa H=G→Sat fm m H s→fm.R H s.heap o xo→fm.R H s.heap v xv →
 (∀ H' s',aa H'=G'→af fm H s.heap H' s'.heap→Sat fm m H' s'→Q () s')→wpAny fm.M fm.A (op xo xv) Q E s
section
variable {G:AH}{i:Nat}{v:V}
theorem IC {us:List V}{n:Nat}{t:Tok}(e:G[i]? = some (.list us)) (h:Nat.ble (n+1) us.length=true):PuS G (fun xo xv=>setItem xo (.int (.ofNat n) t) xv) (.ref i) v (G.set i (.list (us.set n v))):=fun {fm m H s xo xv Q E} O g S ro rv q=>Ib (xg S (g ▸ e) ro) fun a zs nn ex ha hl hz r2=>by
 have hsz:us.length=zs.size:=r2.length
 have h:=aX h
 subst g ex
 have hn':(s.heap.update a (Obj.mapSeq fun x=>x.setIfInBounds n xv)).get? a=some { cls:=.type "list",dict:=none,data:=.seq (zs.setIfInBounds n xv) nn,slots:=#[] }:=by
  rw [Heap.get?_update_self _ hl (by rfl)]
  simp [Obj.mapSeq]
 refine ki_setAt hl (Int.natCast_nonneg n) (Int.ofNat_lt.mpr (Nat.lt_of_lt_of_le h (hsz ▸ Nat.le_trans hz (by decide)))) (Int.ofNat_lt.mpr (hsz ▸ h)) ?_
 exact dA (xh (s':={ s with heap:=s.heap.update a (Obj.mapSeq fun x=>x.setIfInBounds n xv) }) O e ro S (.list (us.set n v)) rfl (fun mo h b=>by rw [ng h]; rfl) rfl (Heap.SameBut.update ..)
  (fun H' conv=>⟨_,⟨by rw [Array.size_setIfInBounds]; exact hz,_,hn'⟩,conv (by rw [Array.toList_setIfInBounds]; exact RepL.set r2 rv _)⟩) rfl rfl rfl) fun H' g T' S'=>q H' _ g T' S'
theorem Nq {ks:List Int}{j:Int}{t:Tok}(e:G[i]? = some (.dI ks)) (h:Nat.ble (ks.length+1) big=true):PuS G (fun xo xv=>setItem xo (.int j t) xv) (.ref i) (.bool true) (G.set i (.dI (if ks.contains j then ks else ks++[j]))):=fun {fm m H s xo xv Q E} O g S ro rv q=>mQ (w6 O S (g ▸ e) ro) fun a ep ex hin hz hd hl=>by
 subst g ex
 rw [show xv=Value.bool true from rv]
 refine wpAny_setItem_pairs (k:=j) isI hd.dictOf (fun h' hd' hs'=>?_) (by rw [List.length_map]; exact bX (Nat.le_trans hl (by decide)))
 rw [zG] at hd'
 refine aj hd'.dictAt fun ep' hd'=>?_
 exact dA (xh (s':={ s with heap:=h',toks:=s.toks+1 }) O e ro S (.dI (if ks.contains j then ks else ks++[j])) rfl (fun mo h b=>by rw [Bj h]; rfl) rfl hs'
  (fun H' conv=>⟨ep',hd',by
   split
   ·exact hl
   ·rw [List.length_append]; exact aX h⟩) rfl rfl rfl) fun H' g T' S'=>q H' _ g T' S'
theorem Nr {ks:List Str}{us:List V}{x:Str}{t:Tok}(e:G[i]? = some (.dS ks us)) (h:Nat.ble ks.length big=true):PuS G (fun xo xv=>setItem xo (.str x t) xv) (.ref i) v (G.set i (.dS (bh x v ks us).1 (bh x v ks us).2)):=fun {fm m H s xo xv Q E} O g S ro rv q=>DA (Bl O S (g ▸ e) ro) fun a xs ep ex hin hz hd hl r2=>by
 subst g ex
 refine wpAny_setItem_pairs (k:=x) isS hd.dictOf (fun h' hd' hs'=>?_) (by rw [List.length_zip,← hl,Nat.min_self]; exact bX (Nat.le_trans (aX h) (by decide)))
 refine dA (me (x:=x) rv hl r2) fun ys y1 y2 y3=>?_
 rw [y1] at hd'
 refine aj hd'.dictAt fun ep' hd'=>?_
 exact dA (xh (s':={ s with heap:=h',toks:=s.toks+1 }) O e ro S (.dS (bh x v ks us).1 (bh x v ks us).2) rfl (fun mo h b=>by rw [Bk h]; rfl) rfl hs'
  (fun H' conv=>⟨ys,ep',hd',y2,conv y3⟩) rfl rfl rfl) fun H' g T' S'=>q H' _ g T' S'
end
noncomputable abbrev SiS (G:AH) (o k v:V) (G':AH):Prop:=∀ {fm:Fm}{m:Loc}{H:MH}{s:Shared}{xo xk xv:Value}{Q:Unit→Shared→Prop}{E:Value→Shared→Prop},ay fm→aa H=G→Sat fm m H s→fm.R H s.heap o xo→fm.R H s.heap k xk→fm.R H s.heap v xv →
 (∀ H' s',aa H'=G'→af fm H s.heap H' s'.heap→Sat fm m H' s'→Q () s')→wpAny fm.M fm.A (setItem xo xk xv) Q E s
noncomputable def FN (G:AH) (o k v:V):Cv (SiS G o k v):=match o with
 | .ref i=>opt G[i]? fun ao e=>match ao,e with
   | .list us,e=>match k with
    | .int j=>match j with
     | .ofNat n=>wh (Nat.ble (n+1) us.length) fun h=>yes (G.set i (.list (us.set n v))) fun O g S ro rk rv q=>aj rk fun t ek=>ek ▸ IC e h O g S ro rv q
     | _=>none
    | _=>none
   | .dI ks,e=>match k with
    | .int j=>match v with
     | .bool b=>match b with
      | true=>wh (Nat.ble (ks.length+1) big) fun h=>yes (G.set i (.dI (if ks.contains j then ks else ks++[j]))) fun O g S ro rk rv q=>aj rk fun t ek=>ek ▸ Nq e h O g S ro rv q
      | _=>none
     | _=>none
    | _=>none
   | .dS ks us,e=>match k with
    | .str x=>wh (Nat.ble ks.length big) fun h=>yes (G.set i (.dS (bh x v ks us).1 (bh x v ks us).2)) fun O g S ro rk rv q=>ae rk fun t ek _=>ek ▸ Nr e h O g S ro rv q
    | _=>none
   | _,_=>none
 | _=>none
noncomputable def j3 (G:AH) (o k v:V):Option AH:=(FN G o k v).v
theorem ID {H:MH}{o k v:V}{G':AH}(h:j3 (aa H) o k v=some G'):SiS (aa H) o k v G':=lJ h
end
noncomputable abbrev FzS (G:AH) (i:Nat) (w:V):Prop:=∀ {fm:Fm}{m:Loc}{H:MH}{s:Shared},ay fm→aa H=G→Sat fm m H s →
 ∃ H',aa H'=G.set i .dead∧Sat fm m H' s∧af fm H s.heap H' s.heap∧∀ x,fm.R H s.heap (.ref i) x→fm.R H' s.heap w x
theorem fz {G:AH}{i:Nat}{ao:AO}{w:V}(e:G[i]? = some ao) (k:∀ {fm:Fm}{H H':MH}{h:Heap}{a:Addr}{mo:MO},mo.abs=ao→(∀ b∈mo.addrs a,fm.ok H' b∧(b==sysModules)=false)→dC fm H h a mo →
  (∀ {vs:List V}{xs:List Value},fm.RL H h vs xs→fm.RL H' h vs xs)→fm.R H' h w (.ref a)):FzS G i w:=fun {fm m H s} O g S=>by
 subst g
 obtain ⟨pre,a,mo,post,rfl,h2,h3,h4,h5⟩:=di e
 refine ar (h5 .dead rfl) fun g1 g2=>?_
 refine ar (Sat.mut (mo':=.dead) (s':=s) O S g2 (fun b hb=>nomatch hb) List.nodup_nil (fun b o _ ho=>ho) (fun conv=>trivial) rfl rfl rfl) fun S' T=>?_
 refine ⟨_,g1,S',T,fun x r=>ae r fun b hb ex=>?_⟩
 obtain rfl:=sj (h4.symm.trans hb)
 rw [ex]
 refine k h2 (fun b hb=>?_) (S.objs (a,mo) (List.mem_append_right _ (.head _))) T.repL
 have hin:b∈aW (pre++(a,mo)::post):=bm (List.mem_append_right _ (.head _)) hb
 refine ⟨⟨fun q=>?_,(S.apart b hin).2.2.1⟩,w5 O S hin⟩
 rcases ax.mp q with q | q | q
 ·exact (S.apart b hin).1 q
 ·exact (S.apart b hin).2.1 q
 ·have nd:=S.nodup
  rw [cg] at nd q
  refine bW (List.nodup_append.mp nd) fun _ n2 n3=>?_
  rcases List.mem_append.mp q with q | q
  ·exact n3 b q b (List.mem_append_left _ hb) rfl
  ·exact (List.nodup_append.mp n2).2.2 b hb b q rfl
noncomputable def CL (G:AH) (i:Nat):Cv (FzS G i):=opt G[i]? fun ao e=>match ao,e with
  | .list vs,e=>yes (.lst vs) (fz e fun {fm H H' h a mo} h2 ok r conv=>by
   rw [ng h2] at ok r
   exact ae r fun xs hl r1=>⟨a,xs,rfl,(ok a (.head _)).1,hl,conv r1⟩)
  | .dS ks vs,e=>yes (.dS ks vs) (fz e fun {fm H H' h a mo} h2 ok r conv=>by
   rw [Bk h2] at ok r
   exact cz r fun xs ep hd hl r1=>⟨a,xs,ep,rfl,(ok a (.head _)).1,(ok a (.head _)).2,hd,hl,conv r1⟩)
  | .dI ks,e=>yes (.dI ks) (fz e fun {fm H H' h a mo} h2 ok r conv=>by
   rw [Bj h2] at ok r
   exact ae r fun ep hd hl=>⟨a,ep,rfl,(ok a (.head _)).1,(ok a (.head _)).2,hd,hl⟩)
  | .inst C ks vs,e=>yes (.inst C ks vs) (fz e fun {fm H H' h a mo} h2 ok r conv=>by
   refine aj (nk h2) fun d ed=>?_
   rw [ed] at ok r
   exact ar r fun h0 r=>cz r fun xs ep hd hl r1=>⟨a,d,xs,ep,rfl,(ok a (.head _)).1,(ok d (.tail _ (.head _))).1,h0,hd,hl,conv r1⟩)
  | _,_=>none
noncomputable def look (G:AH) (i:Nat):Option V:=(CL G i).v
theorem Lm {H:MH}{i:Nat}{w:V}(h:look (aa H) i=some w):FzS (aa H) i w:=lJ h
noncomputable abbrev AuS (op:Operator) (a b r:V):Prop:=∀ {fm:Fm}{m:Loc}{H:MH}{s:Shared}{xa xb:Value}{Q:Value→Shared→Prop}{E:Value→Shared→Prop},Sat fm m H s→fm.R H s.heap a xa→fm.R H s.heap b xb →
 (∀ y tk,fm.R H s.heap r y→Q y { s with toks:=tk })→wpAny fm.M fm.A (inplaceOp op xa xb) Q E s
noncomputable def PA (op:Operator) (a b:V):Cv (AuS op a b):=match a with
 | .int a=>match b with
  | .int b=>match op with
   | .Add=>yes (.int (a+b)) fun S ra rb q=>aj ra fun t e=>aj rb fun u e'=>e ▸ e' ▸ iadd_int (q _ _ d7)
   | .Sub=>yes (.int (a - b)) fun S ra rb q=>aj ra fun t e=>aj rb fun u e'=>e ▸ e' ▸ isub_int (q _ _ d7)
   | _=>none
  | _=>none
 | .str a=>match b with
  | .str b=>match op with
   | .Add=>wh (Nat.ble (a.length+b.length) big) fun h=>yes (.str (a++b)) fun S ra rb q=>ae ra fun t e _=>ae rb fun u e' _=>e ▸ e' ▸ iadd_str (fun t' tk=>q _ _ (iy (by
     show (a.cps++b.cps).size≤_
     rw [Array.size_append]; exact aX h))) (bX (Nat.le_trans (aX h) (by decide)))
   | _=>none
  | _=>none
 | _=>none
noncomputable def FO (op:Operator) (a b:V):Option V:=(PA op a b).v
theorem Ln {op:Operator}{a b r:V}(h:FO op a b=some r):AuS op a b r:=lJ h
end Mine
end
section
open PySem PySem.W PyProof.Rows Builtin.Str Builtin Builtin.ObjectAttr
set_option maxRecDepth 20000
set_option genSizeOf false
set_option genInjectivity false
namespace Mine
section
theorem FQ {prog:Program}{w:World}(e:Value) (n:Str):e.isStr n=(PySem.strKind prog w).is n e:=by cases e <;> rfl
theorem Bw {prog:Program}{w:World}{h:Heap}{d:Addr}{kvs:List (Str × Value)}{ep:Nat}(x:h.DictAt (PySem.strKind prog w) d kvs ep) (name:Str) (tk:Tok) (v:Value) :
  ∃ o es,h.get? d=some o∧o.data=.dict es ep∧es.size=kvs.length∧(aRefKeyMayBeTheName name es=false) ∧
   ∃ es' ep',(o.putName name (hashStr w name) (.str name tk) v).ExactDict∧(o.putName name (hashStr w name) (.str name tk) v).data=.dict es' ep'∧es'.size≤es.size+1∧PySem.KeysOf (PySem.strKind prog w) es' ∧
    Pairs (PySem.strKind prog w) es'.toList (PySem.stored kvs name v)∧((PySem.stored kvs name v).map (·.1)).Nodup:=by
 refine MY x fun o es ho hex hd hk hp hn=>?_
 have hlen:es.size=kvs.length:=by rw [← hp.length]; simp
 refine ⟨o,es,ho,hd,hlen,?_,?_⟩
 ·refine ar (sS (name:=name) hp) fun _ h2=>?_
  rw [aRefKeyMayBeTheName_at]
  rw [← Array.any_toList (as:=es) (p:=(·.refKey)),h2,Bool.and_false]
 ·obtain ⟨c,dd,data,sl⟩:=o
  dsimp only at hd
  subst hd
  refine bW hex fun h1 h2 h3=>?_
  rw [Obj.putName_eq]
  unfold Obj.putNameByArray
  dsimp only
  have hf:(es.findIdx? fun e=>e.key.isStr name)=es.findIdx? fun e=>(PySem.strKind prog w).is name e.key:=by congr 1; funext e; exact FQ _ _
  have hidx:(es.findIdx? fun e=>(PySem.strKind prog w).is name e.key)=kvs.findIdx? fun kv=>decide (kv.1=name):=by
   rw [← hp.findIdx name]; obtain ⟨l⟩:=es; simp
  rw [hf]
  cases hi:es.findIdx? fun e=>(PySem.strKind prog w).is name e.key with
  | some i =>
   refine ⟨_,ep,⟨h1,h2,h3⟩,rfl,by simp,hk.modify _ _,?_,?_⟩
   ·rw [PySem.stored,if_pos (any_of_findIdx_some (hidx ▸ hi))]
    have hl:(es.toList.findIdx? fun e=>(PySem.strKind prog w).is name e.key)=some i:=by rw [← hi]; obtain ⟨l⟩:=es; simp
    have:=hp.modify hn hl v
    obtain ⟨l⟩:=es
    simpa using this
   ·rw [PySem.stored,if_pos (any_of_findIdx_some (hidx ▸ hi)),keys_map_store]; exact hn
  | none =>
   have hnot:name ∉ kvs.map (·.1):=not_mem_of_findIdx_none (hidx ▸ hi)
   have hany:¬ (kvs.any fun kv=>decide (kv.1=name))=true:=by
    rw [List.any_eq_true]; rintro ⟨kv,hkv,he⟩
    exact hnot (List.mem_map.mpr ⟨kv,hkv,of_decide_eq_true he⟩)
   refine ⟨_,ep+1,⟨h1,h2,h3⟩,rfl,by simp,hk.push (k:=name) isS v,?_,?_⟩
   ·rw [PySem.stored,if_neg hany]
    have:=hp.append (k:=name) (key:=.str name tk) isS (hashStr w name) v
    simpa using this
   ·rw [PySem.stored,if_neg hany,List.map_append,List.nodup_append]
    exact ⟨hn,by simp,fun a ha b hb=>by simp at hb; rintro rfl; exact hnot (hb ▸ ha)⟩
section
variable {prog:Program}{w:World}{A:Around}{E:Value→Shared→Prop}{s:Shared}{K:Frag}{x C d:Addr}{ox:Obj}{od:Option Obj}{name:Str}{v:Value}
structure DV (K:Frag) (C:Addr) (name:Str):Prop where
 set:findIn K (.ref C) "__setattr__"=some (some (.builtin "object.__setattr__"))
 free:findIn K (.ref C) name=some none
 cls:∃ cd,clsIn K C=some cd∧cd.hasDict=true∧cd.mro.isEmpty=false∧cd.mro.contains (.type "object")=true∧∀ self,refuseLoop self "__setattr__" cd.mro=pure ()
theorem zH {kvs:List (Str × Value)}{ep:Nat}{Q:Unit→Shared→Prop}(hd:s.heap.DictAt (PySem.strKind prog w) d kvs ep) (hz:kvs.length≤1000)
  (q:∀ h' ep',h'.DictAt (PySem.strKind prog w) d (PySem.stored kvs name v) ep'→Heap.SameBut d s.heap h'→Q () { s with heap:=h',toks:=s.toks+1 }) :
  wpAny (model prog w) A (nsSet d name v) (fun _ s'=>wpAny (model prog w) A (lookBehind d (some (.str name 0))) Q E s') E s:=by
 obtain ⟨o,es,ho,hdd,hlen,har,es',ep',hex,hd',hsz,hk,hp,hn⟩:=Bw hd name s.toks v
 unfold nsSet
 have hu:=Heap.get?_update_self (Obj.putName name (hashStr w name) (.str name s.toks) v) ho (by
  have:(Obj.putName name (hashStr w name) (.str name s.toks) v o).data=.dict es' ep':=hd'
  exact Obj.isFreed_of_dict this)
 unfold strHash
 refine wpAny_bind (wpAny_bind (wpAny_askSetting (wpAny_pure (wpAny_bind (wpAny_mkText (wpAny_bind (wpAny_loadPart ho ?_)))))))
 rw [hdd]
 dsimp only
 rw [har]
 refine wpAny_updatePart ho ?_
 refine wpAny_lookBehind hu (by rw [hd']; exact pastItsLine_dict (by rw [sizeLine_eq]; lia)) ?_
 exact q _ ep' ⟨_,es',hu,hex,hd',hk,hp,hn⟩ (Heap.SameBut.update ..)
theorem zI {tk:Tok}{R:Result→Shared→Prop}(X:K.In s.heap) (I:PySem.W.InstAt s.heap x ox C od) (Pt:DV K C name)
  (h:∀ b,wpAny (model prog w) A.in1 (storeInOwnDict (.ref x) (.ref C) (.str name tk) name v b)
   (fun fin s'=>match fin with | .done f=>R (.ok f) s' | .again c'=>c'.quiet=true∧codeAny (model prog w) A c' R s') (fun e s'=>R (.error e) s') s) :
  codeAny (model prog w) A (.call (.builtin "object.__setattr__") ⟨[.ref x,.str name tk,v],[]⟩) R s:=by
 have SF:=PySem.F.store_object
 refine E1 Pt.cls fun cd hc hd ne hob href=>?_
 have sub:Looks (model prog w) s.heap (isInstance (.ref x) (.type "object")) true:=I.type.andThen (looks_mroIn X (by unfold mroIn; rw [hc,Option.bind_some,if_neg (by rw [ne]; decide),hob]))
 refine codeAny_call_builtin SF.slot.plain SF.entry (@check_slot (model prog w) _ _ s "object.__setattr__" "object" "__setattr__" (.ref x) [.str name tk,v] [] _ SF.kind SF.split sub (SF.args (.ref x) (.str name tk) v) ?_)
 have hm:Looks (model prog w) s.heap (mroOf (.ref C)) cd.mro:=(looks_clsIn X hc).andThen .now
 rw [osa_eq,refuse_eq]
 refine wpAny_bind (wpAny_bind (I.type.here (wpAny_bind (hm.here ?_))))
 rw [href]
 refine wpAny_pure (wpAny_bind (I.type.here (wpAny_bind ((looks_findIn X Pt.free).here (wpAny_bind ?_)))))
 exact wpAny_pure (h _)
theorem nA {Q:Unit→Shared→Prop}{kvs:List (Str × Value)}{ep:Nat}(X:K.In s.heap) (I:PySem.W.InstAt s.heap x ox C (some (⟨.type "dict",none,.dict #[] 0,#[]⟩:Obj))∨∃ od,PySem.W.InstAt s.heap x ox C (some od)) (Pt:DV K C name) (hdx:ox.dict=some d)
  (hd:s.heap.DictAt (PySem.strKind prog w) d kvs ep) (hz:kvs.length≤1000)
  (q:∀ h' ep' tk,h'.DictAt (PySem.strKind prog w) d (PySem.stored kvs name v) ep'→Heap.SameBut d s.heap h'→Q () { s with heap:=h',toks:=tk }) :
  wpAny (model prog w) A (setAttr (.ref x) name v) Q E s:=by
 obtain ⟨od,I⟩:∃ od,PySem.W.InstAt s.heap x ox C (some od):=I.elim (fun i=>⟨_,i⟩) id
 refine set_plain X I Pt.set (zI (s:={ s with toks:=s.toks+1 }) X I Pt fun b=>?_)
 refine E1 Pt.cls fun cd hc hd' ne hob href=>?_
 obtain ⟨hx,hcl,hn,-⟩:=I
 obtain ⟨oc,odi,oda,osl⟩:=ox
 dsimp only at hcl hdx
 subst hcl hdx
 refine wpAny_bind (wpAny_pure (wpAny_bind (wpAny_bind (wpAny_loadPart hx (wpAny_bind (looks_clsIn X hc _ _ _ _ (fun _ _ e=>e) ?_))))))
 rw [hd']
 refine wpAny_pure (a:=some d) (wpAny_bind (wpAny_pure ?_))
 refine wpAny_bind ?_
 refine wpAny_mono (zH (s:={ s with toks:=s.toks+1 }) (name:=name) (v:=v) (Q:=fun _ s'=>Q () s') hd hz fun h' ep' a b=>q h' ep' _ a b) (fun _ s' h=>?_) fun _ _ h=>h
 exact wpAny_bind (wpAny_mono h (fun _ _ z=>wpAny_pure z) fun _ _ z=>z)
theorem zJ {fs:Array Value}{sl:Array (Option Value)}{Q:Unit→Shared→Prop}(X:K.In s.heap) (hx:s.heap.get? x=some ⟨.ref C,none,.fields fs,sl⟩) (Pt:DV K C name)
  (q:∀ h' ep' tk,h'.DictAt (PySem.strKind prog w) s.heap.objs.size [(name,v)] ep'→h'.get? x=some ⟨.ref C,some s.heap.objs.size,.fields fs,sl⟩→(∀ b o,b≠x→s.heap.get? b=some o→h'.get? b=some o)→Q () { s with heap:=h',toks:=tk }) :
  wpAny (model prog w) A (setAttr (.ref x) name v) Q E s:=by
 have I:PySem.W.InstAt s.heap x ⟨.ref C,none,.fields fs,sl⟩ C none:=⟨hx,rfl,rfl,trivial⟩
 refine set_plain X I Pt.set (zI (s:={ s with toks:=s.toks+1 }) X I Pt fun b=>?_)
 refine E1 Pt.cls fun cd hc hd' ne hob href=>?_
 have hlt:x≠s.heap.objs.size:=fun q=>nS ((aV _).symm.trans (q ▸ hx))
 refine wpAny_bind (wpAny_pure (wpAny_bind (wpAny_bind (wpAny_loadPart hx (wpAny_bind (looks_clsIn X hc _ _ _ _ (fun _ _ e=>e) ?_))))))
 rw [hd']
 have body:wpAny (model prog w) A.in1 (do
   let d ← alloc { cls:=.type "dict",data:=.dict #[] }
   update x fun o=>{ o with dict:=some d }
   dictMade (.ref C) x d) (fun a s'=>wpAny (model prog w) A.in1 (match a with | some d=>storeInDict d (Value.str name s.toks) name v | none=>noDictFor (.ref x) (.ref C) name b)
    (fun fin s'=>match fin with | .done f=>(match (Except.ok f:Result) with | .ok (.ret _)=>Q () s' | .ok _=>False | .error e=>E e s') | .again c'=>c'.quiet=true∧codeAny (model prog w) A c' (fun r s'=>match r with | .ok (.ret _)=>Q () s' | .ok _=>False | .error e=>E e s') s')
    (fun e s'=>match (Except.error e:Result) with | .ok (.ret _)=>Q () s' | .ok _=>False | .error e=>E e s') s')
    (fun e s'=>match (Except.error e:Result) with | .ok (.ret _)=>Q () s' | .ok _=>False | .error e=>E e s') { s with toks:=s.toks+1 }:=by
  refine wpAny_bind (wpAny_alloc (wpAny_bind (wpAny_update (Heap.get?_push_of_some _ hx) ?_)))
  refine wpAny_pure (a:=some s.heap.objs.size) ?_
  dsimp only
  have up:=Heap.get?_update_self (fun o=>{ o with dict:=some s.heap.objs.size }) (Heap.get?_push_of_some (h:=s.heap) { cls:=.type "dict",data:=.dict #[] } hx) rfl
  have oth:∀ b,b≠x→((s.heap.push { cls:=.type "dict",data:=.dict #[] }).update x fun o=>{ o with dict:=some s.heap.objs.size }).get? b=(s.heap.push { cls:=.type "dict",data:=.dict #[] }).get? b:=fun b hb=>Heap.get?_update_ne _ _ _ _ hb
  have hd0:((s.heap.push { cls:=.type "dict",data:=.dict #[] }).update x fun o=>{ o with dict:=some s.heap.objs.size }).DictAt (PySem.strKind prog w) s.heap.objs.size [] 0 :=
   ⟨_,#[],(oth _ (fun q=>hlt q.symm)).trans (Heap.get?_push_size _ rfl),⟨rfl,rfl,rfl⟩,rfl,fun e he=>by simp at he,.nil,by simp⟩
  refine wpAny_bind (wpAny_pure (wpAny_bind ?_))
  refine wpAny_mono (zH (s:={ s with heap:=(s.heap.push { cls:=.type "dict",data:=.dict #[] }).update x fun o=>{ o with dict:=some s.heap.objs.size },toks:=s.toks+1 }) (name:=name) (v:=v) (Q:=fun _ s'=>Q () s') hd0 (by simp) fun h' ep' a b=>?_) (fun _ s' h=>?_) fun _ _ h=>h
  ·refine q h' ep' _ (by simpa [PySem.stored] using a) ((b.2 x hlt).trans up) fun b' o hb e=>?_
   exact (b.2 b' (fun q=>nS ((aV _).symm.trans (q ▸ e)))).trans ((oth b' hb).trans (Heap.get?_push_of_some _ e))
  ·exact wpAny_bind (wpAny_mono h (fun _ _ z=>wpAny_pure z) fun _ _ z=>z)
 exact body
end
section
theorem CM {K:Frag}{C:Addr}{ga:String}(F:E8 K C ga) {n:Str}(hn:n∈aU) (h:findIn K (.ref C) "__setattr__"=some (some (.builtin "object.__setattr__")))
  (g:∃ cd,clsIn K C=some cd∧cd.mro.isEmpty=false∧cd.mro.contains (.type "object")=true∧∀ self,refuseLoop self "__setattr__" cd.mro=pure ()):DV K C n :=
 ⟨h,F.at_ n hn,ae F.cls fun cd h1 h2=>A7 g fun cd' h3 h4 h5 h6=>⟨cd,h1,h2,(sj (h1.symm.trans h3)) ▸ ⟨h4,h5,h6⟩⟩⟩
theorem xj {K:Frag}(F:wT K) {n:Str}(hn:n∈aU):DV K ak n:=CM F.o hn F.so (ae F.co fun cd h1 h4=>⟨cd,h1,by cases q:cd.mro with | nil=>rw [q] at h4; exact ff h4 | cons _ _=>rfl,only_has h4,fun self=>refuse_only self h4⟩)
theorem qC {K:Frag}(F:wT K) {n:Str}(hn:n∈aU):DV K ai n:=CM F.r hn F.sr (ae F.cr fun cd h1 h4=>⟨cd,h1,by rw [eq_of_beq h4]; exact ⟨rfl,by decide +kernel,fun self=>by rw [refuseLoop_ref]; exact PySem.F.store_Exception.passes self⟩⟩)
end
noncomputable abbrev SaS (G:AH) (o:V) (n:Str) (v:V) (G':AH):Prop:=∀ {fm:Fm}{m:Loc}{H:MH}{s:Shared}{xo xv:Value}{Q:Unit→Shared→Prop}{E:Value→Shared→Prop},ay fm→aa H=G→Sat fm m H s→fm.R H s.heap o xo→fm.R H s.heap v xv →
 (∀ H' s',aa H'=G'→af fm H s.heap H' s'.heap→Sat fm m H' s'→Q () s')→wpAny fm.M fm.A (setAttr xo n xv) Q E s
section
variable {G:AH}{i:Nat}{n:Str}{ks:List Str}{vs:List V}{v:V}
theorem xm {fm:Fm}{m:Loc}{pre post:MH}{s:Shared}{a:Addr}{mo:MO}(S:Sat fm m (pre++(a,mo)::post) s):(mo.addrs a).Nodup:=by
 have nd:=S.nodup
 rw [cg] at nd
 exact (List.nodup_append.mp (List.nodup_append.mp nd).2.1).1
theorem IE (hn:n∈aU) (e:G[i]? = some (.inst ak ks vs)) (hl:Nat.ble ks.length 100=true):SaS G (.ref i) n v (G.set i (.inst ak (bh n v ks vs).1 (bh n v ks vs).2)):=fun {fm m H s xo xv Q E} O g S ro rv q=>by
 refine ae O.wd.cls fun K hK F=>?_
 have X:=hK.keeps S.base
 subst g
 obtain ⟨pre,a,mo,post,rfl,h2,h3,h4,h5⟩:=di e
 refine ae ro fun a' ha ex=>?_
 obtain rfl:=sj (h4.symm.trans ha)
 refine aj (nk h2) fun d ed=>?_
 subst ed ex
 refine ar (S.objs (a,.inst ak d ks vs) (List.mem_append_right _ (.head _))) fun h0 r=>cz r fun xs ep hd hlen rl=>cN (id hd) fun od es hod _=>?_
 have nd:=xm S
 have hne:a≠d:=fun q=>(List.nodup_cons.mp nd).1 (q ▸ .head _)
 refine nA X (.inr ⟨od,h0,rfl,rfl,hod⟩) (xj F hn) rfl hd (by rw [List.length_zip,← hlen,Nat.min_self]; exact Nat.le_trans (aX hl) (by decide)) fun h' ep' tk hd' hs'=>?_
 refine dA (me (x:=n) rv hlen rl) fun ys y1 y2 y3=>?_
 rw [y1] at hd'
 refine ar (h5 (.inst ak d (bh n v ks vs).1 (bh n v ks vs).2) rfl) fun k1 k2=>?_
 refine ar (Sat.mut (mo':=.inst ak d (bh n v ks vs).1 (bh n v ks vs).2) (s':={ s with heap:=h',toks:=tk }) O S k2 (fun b hb=>.inl hb) nd
  (fun b o hb ho=>(hs'.2 b fun q=>hb (q ▸ .tail _ (.head _))).trans ho)
  (fun conv=>⟨(hs'.2 a hne).trans h0,ys,ep',hd',y2,conv y3⟩) rfl rfl rfl) fun S' T'=>q _ _ k1 T' S'
theorem Lo (hn:n∈aU) (e:G[i]? = some (.exc ks vs)) (hl:Nat.ble ks.length 100=true):SaS G (.ref i) n v (G.set i (.exc (bh n v ks vs).1 (bh n v ks vs).2)):=fun {fm m H s xo xv Q E} O g S ro rv q=>by
 refine ae O.wd.cls fun K hK F=>?_
 have X:=hK.keeps S.base
 subst g
 obtain ⟨pre,a,mo,post,rfl,h2,h3,h4,h5⟩:=di e
 refine ae ro fun a' ha ex=>?_
 obtain rfl:=sj (h4.symm.trans ha)
 refine aj (nq h2 h3) fun d ed=>?_
 subst ed ex
 refine ar (S.objs (a,.made d ks vs) (List.mem_append_right _ (.head _))) fun h0 r=>cN h0 fun fs sl h0 h1=>?_
 have nd:=xm S
 cases d with
 | some d =>
  refine cz r fun xs ep hd hlen rl=>cN (id hd) fun od es hod _=>?_
  have hne:a≠d:=fun q=>(List.nodup_cons.mp nd).1 (q ▸ .head _)
  refine nA X (.inr ⟨od,h0,rfl,rfl,hod⟩) (qC F hn) rfl hd (by rw [List.length_zip,← hlen,Nat.min_self]; exact Nat.le_trans (aX hl) (by decide)) fun h' ep' tk hd' hs'=>?_
  refine dA (me (x:=n) rv hlen rl) fun ys y1 y2 y3=>?_
  rw [y1] at hd'
  refine ar (h5 (.made (some d) (bh n v ks vs).1 (bh n v ks vs).2) rfl) fun k1 k2=>?_
  refine ar (Sat.mut (mo':=.made (some d) (bh n v ks vs).1 (bh n v ks vs).2) (s':={ s with heap:=h',toks:=tk }) O S k2 (fun b hb=>.inl hb) nd
   (fun b o hb ho=>(hs'.2 b fun q=>hb (q ▸ .tail _ (.head _))).trans ho)
   (fun conv=>⟨⟨fs,sl,(hs'.2 a hne).trans h0,h1⟩,ys,ep',hd',y2,conv y3⟩) rfl rfl rfl) fun S' T'=>q _ _ k1 T' S'
 | none =>
  refine ar r fun z8 z9=>?_
  subst z8 z9
  have hne:a≠s.heap.objs.size:=oY h0
  refine zJ X h0 (qC F hn) fun h' ep' tk hd' hx' hk'=>?_
  refine ar (h5 (.made (some s.heap.objs.size) [n] [v]) rfl) fun k1 k2=>?_
  refine ar (Sat.mut (mo':=.made (some s.heap.objs.size) [n] [v]) (s':={ s with heap:=h',toks:=tk }) O S k2
   (fun b hb=>(List.mem_cons.mp hb).elim (fun q=>.inl (q ▸ .head _)) fun hb=>.inr (List.mem_singleton.mp hb ▸ aV _)) (List.nodup_cons.mpr ⟨fun q=>hne (List.mem_singleton.mp q),List.nodup_cons.mpr ⟨fun q=>(nomatch q),List.nodup_nil⟩⟩)
   (fun b o hb ho=>hk' b o (fun q=>hb (q ▸ .head _)) ho)
   (fun conv=>⟨⟨fs,sl,hx',h1⟩,[xv],ep',hd',rfl,conv (RepL.cons rv RepL.nil)⟩) rfl rfl rfl) fun S' T'=>q _ _ k1 T' S'
end
set_option backward.match.sparseCases false
noncomputable def Nt (G:AH) (o:V) (n:Str) (v:V):Cv (SaS G o n v):=wh (aU.contains n) fun hn=>match o with
 | .ref i=>match e:G[i]? with
  | some ao=>match ao,e with
   | .inst C ks vs,e=>wh (C==ak&&Nat.ble ks.length 100) fun h=>yes (G.set i (.inst ak (bh n v ks vs).1 (bh n v ks vs).2)) (IE (List.contains_iff_mem.mp hn) (eq_of_beq (an h).1 ▸ e) (an h).2)
   | .exc ks vs,e=>wh (Nat.ble ks.length 100) fun h=>yes (G.set i (.exc (bh n v ks vs).1 (bh n v ks vs).2)) (Lo (List.contains_iff_mem.mp hn) e h)
   | _,_=>none
  | none=>none
 | _=>none
noncomputable def vG (G:AH) (o:V) (n:Str) (v:V):Option AH:=(Nt G o n v).v
theorem IF {H:MH}{o v:V}{n:Str}{G':AH}(h:vG (aa H) o n v=some G'):SaS (aa H) o n v G':=lJ h
end
end Mine
end
section
open PySem PySem.W PyProof.Rows Builtin.Str
set_option maxRecDepth 20000
set_option backward.match.sparseCases false
set_option genSizeOf false
set_option genInjectivity false
namespace Mine
section
inductive Res where
 | ok (v:V) | ex (ks:List Str) (vs:List V)
inductive Fl where
 | next | brk | cont | ret (v:V) | ex (ks:List Str) (vs:List V)
noncomputable abbrev LV:=List (Option V)
noncomputable abbrev FS:=List V→AH→Res→AH→Prop
noncomputable abbrev FP:=List V→Res→Prop
set_option genCtorIdx false in
inductive Tr (α:Type) where
 | ok (a:α) | no
 | aO (q:Option V) (k:V→Tr α)
 | aB (q:Option Bool) (k:Bool→Tr α)
 | aC (q:Bool) (k:Bool→Tr α)
 | aL (q:Option (List V)) (k:List V→Tr α)
 | aH (q:Option AH) (k:AH→Tr α)
 | aM (q:Option Mth) (k:Mth→Tr α)
 | aP (q:Res→Prop) (c:Option Res) (h:∀ r,c=some r→q r) (k:Res→Tr α)
 | aR (q:Res→AH→Prop) (c:Option (Res × AH)) (h:∀ r,c=some r→q r.1 r.2) (k:Res→AH→Tr α)
 | aS (q:Fl→LV→AH→Prop) (c:Option (Fl × LV × AH)) (h:∀ r,c=some r→q r.1 r.2.1 r.2.2) (k:Fl→LV→AH→Tr α)
 | aQ (q:List V→AH→Prop) (c:Option (List V × AH)) (h:∀ r,c=some r→q r.1 r.2) (k:List V→AH→Tr α)
noncomputable def Tr.tt {α:Type} (L:α→Prop):Tr α→Prop
 | .ok a=>L a
 | .no=>False
 | .aO q k=>∃ x,q=some x∧(k x).tt L
 | .aB q k=>∃ x,q=some x∧(k x).tt L
 | .aC q k=>(k q).tt L
 | .aL q k=>∃ x,q=some x∧(k x).tt L
 | .aH q k=>∃ x,q=some x∧(k x).tt L
 | .aM q k=>∃ x,q=some x∧(k x).tt L
 | .aP q _ _ k=>∃ r,q r∧(k r).tt L
 | .aR q _ _ k=>∃ r G,q r G∧(k r G).tt L
 | .aS q _ _ k=>∃ f m G,q f m G∧(k f m G).tt L
 | .aQ q _ _ k=>∃ vs G,q vs G∧(k vs G).tt L
theorem Tr.tt_mono {α:Type}{L K:α→Prop}(i:∀ a,L a→K a) (t:Tr α):t.tt L→t.tt K:=by
 induction t with
 | ok a=>exact i a
 | no=>exact id
 | aO q k ih=>exact fun ⟨x,e,h⟩=>⟨x,e,ih x h⟩
 | aB q k ih=>exact fun ⟨x,e,h⟩=>⟨x,e,ih x h⟩
 | aL q k ih=>exact fun ⟨x,e,h⟩=>⟨x,e,ih x h⟩
 | aH q k ih=>exact fun ⟨x,e,h⟩=>⟨x,e,ih x h⟩
 | aM q k ih=>exact fun ⟨x,e,h⟩=>⟨x,e,ih x h⟩
 | aC q k ih=>exact ih q
 | aP q _ _ k ih=>exact fun ⟨r,e,h⟩=>⟨r,e,ih _ h⟩
 | aR q _ _ k ih=>exact fun ⟨r,G,e,h⟩=>⟨r,G,e,ih _ _ h⟩
 | aS q _ _ k ih=>exact fun ⟨f,m,G,e,h⟩=>⟨f,m,G,e,ih _ _ _ h⟩
 | aQ q _ _ k ih=>exact fun ⟨r,G,e,h⟩=>⟨r,G,e,ih _ _ h⟩
noncomputable def Tr.rn {α:Type}:Tr α→Option α
 | .ok a=>some a
 | .no=>none
 | .aO q k=>q.bind fun x=>(k x).rn
 | .aB q k=>q.bind fun x=>(k x).rn
 | .aC q k=>(k q).rn
 | .aL q k=>q.bind fun x=>(k x).rn
 | .aH q k=>q.bind fun x=>(k x).rn
 | .aM q k=>q.bind fun x=>(k x).rn
 | .aP _ c _ k=>c.bind fun x=>(k x).rn
 | .aR _ c _ k=>c.bind fun x=>(k x.1 x.2).rn
 | .aS _ c _ k=>c.bind fun x=>(k x.1 x.2.1 x.2.2).rn
 | .aQ _ c _ k=>c.bind fun x=>(k x.1 x.2).rn
theorem Tr.rn_ok {α:Type}{L:α→Prop}{a:α}(l:L a) (t:Tr α):t.rn=some a→t.tt L:=by
 induction t with
 | ok b=>exact fun e=>sj e ▸ l
 | no=>exact fun e=>nS e
 | aO q k ih=>exact fun e=>cD e fun x e h=>⟨x,e,ih x h⟩
 | aB q k ih=>exact fun e=>cD e fun x e h=>⟨x,e,ih x h⟩
 | aL q k ih=>exact fun e=>cD e fun x e h=>⟨x,e,ih x h⟩
 | aH q k ih=>exact fun e=>cD e fun x e h=>⟨x,e,ih x h⟩
 | aM q k ih=>exact fun e=>cD e fun x e h=>⟨x,e,ih x h⟩
 | aC q k ih=>exact ih q
 | aP q c g k ih=>exact fun e=>cD e fun x e h=>⟨x,g _ e,ih x h⟩
 | aR q c g k ih=>exact fun e=>cD e fun x e h=>⟨x.1,x.2,g _ e,ih _ _ h⟩
 | aS q c g k ih=>exact fun e=>cD e fun x e h=>⟨x.1,x.2.1,x.2.2,g _ e,ih _ _ _ h⟩
 | aQ q c g k ih=>exact fun e=>cD e fun x e h=>⟨x.1,x.2,g _ e,ih _ _ h⟩
noncomputable def gF:List Str→Str→Nat
 | [],_=>0
 | y::l,x=>cif (cU y x) 0 (gF l x+1)
noncomputable def sV:List Str→Str→Bool
 | [],_=>false
 | y::l,x=>cif (cU y x) true (sV l x)
structure PC (f:FP) where
 c:List V→Option Res
 h:∀ vs r,c vs=some r→f vs r
structure HC (f:FS) where
 c:List V→AH→Option (Res × AH)
 h:∀ vs G r,c vs G=some r→f vs G r.1 r.2
set_option genCtorIdx false in
inductive FK where
 | h (f:FS) (c:HC f) | p (f:FP) (c:PC f) | r (f:FS) (c:HC f) | o (f:FS) (c:HC f)
structure Cx where
 names:List Str
 kinds:List (Str × NameKind)
 fns:List (Str × FK)
 mv:List Str
noncomputable def lkF:List (Str × FK)→Str→Option FK
 | [],_=>none
 | (y,f)::l,x=>cif (cU y x) (some f) (lkF l x)
noncomputable def ba (m:LV) (i:Nat):Option V:=(m[i]?).join
noncomputable def FR:V→Option Bool
 | .str _=>some true
 | .int _=>some false
 | _=>Option.none
noncomputable def bw:List Nat→List V→LV→Option LV
 | [],[],m=>some m
 | i::is,v::vs,m=>bw is vs (m.set i (some v))
 | _,_,_=>none
noncomputable def rR:V→Option (List V)
 | .tup vs=>some vs
 | _=>none
noncomputable def vH (G:AH):V→Bool
 | .ref i=>match G[i]? with
  | some (.exc _ _)=>true
  | _=>false
 | _=>false
noncomputable def IG (G:AH) (v:V):Option (Nat × List Str × List V):=match v with
 | .ref i=>match G[i]? with
  | some a=>match a with
   | .exc ks us=>cif ks.isEmpty none (some (i,ks,us))
   | _=>none
  | none=>none
 | _=>none
noncomputable def nC (G:AH) (u:V) (f:List V→List V→Option (List V)) (vs:List V):Option AH:=match u with
 | .ref i=>match G[i]? with
  | some o=>match o with
   | .list us=>match f us vs with
    | some ws=>some (G.set i (.list ws))
    | none=>none
   | _=>none
  | none=>none
 | _=>none
set_option genCtorIdx false in
inductive Vw where
 | const (c:Const) | name (y:Str) | bin (l:Expr) (op:Operator) (r:Expr) | un (op:UnaryOp) (a:Expr) | bop (op:BoolOp) (es:List Expr)
 | cmp (l:Expr) (ops:List CmpOp) (rs:List Expr) | ife (t a b:Expr) | sub (o s:Expr) | att (o:Expr) (n:Str) | tup (es:List Expr) | lst (es:List Expr)
 | dict (ks:List (Option Expr)) (vs:List Expr) | comp (e:Expr) (gs:List Comprehension) (sc:Scope) | call (f:Expr) (args:List Expr) | slice (l u s:Option Expr) | no
noncomputable def vw:Expr→Vw
 | .Constant c _ _=>.const c
 | .Name y _=>.name y
 | .BinOp l op r _=>.bin l op r
 | .UnaryOp op a _=>.un op a
 | .BoolOp op es _=>.bop op es
 | .Compare l ops rs _=>.cmp l ops rs
 | .IfExp t a b _=>.ife t a b
 | .Subscript o s _=>.sub o s
 | .Attribute o n _=>.att o n
 | .Tuple es _ _=>.tup es
 | .List es _=>.lst es
 | .Dict ks vs _=>.dict ks vs
 | .ListComp e gs sc _=>.comp e gs sc
 | .Call f args _ _=>.call f args
 | .Slice l u s _=>.slice l u s
 | _=>.no
noncomputable abbrev XT (α:Type):=List Str→List V→AH→Tr α
noncomputable abbrev ET:=∀ α:Type,LV→AH→(V→AH→Tr α)→XT α→Tr α
noncomputable abbrev SM:=∀ α:Type,LV→AH→(Fl→LV→AH→Tr α)→Tr α
section
variable {α:Type}
noncomputable def evF (v:V) (G:AH) (k:V→AH→Tr α):Tr α:=match v with
 | .ref i=>.aO (look G i) fun w=>k w (G.set i .dead)
 | v=>k v G
noncomputable def zK (k:V→AH→Tr α) (x:XT α):Res→AH→Tr α
 | .ok v,G=>k v G
 | .ex ks us,G=>x ks us G
noncomputable def noX:XT α:=fun _ _ _=>.no
noncomputable def tst (k:Bool→AH→Tr α):V→AH→Tr α:=fun v G=>.aB (l7 G v) fun b=>.aC b fun b=>k b G
noncomputable def Kn:BoolOp→Bool
 | .And=>true
 | .Or=>false
noncomputable def evL (ev:Expr→ET):List Expr→LV→AH→(List V→AH→Tr α)→XT α→Tr α
 | [],_,G,k,_=>k [] G
 | e::r,m,G,k,x=>ev e α m G (fun v G=>evL ev r m G (fun vs G=>k (v::vs) G) x) x
noncomputable def evA (ev:Expr→ET) (op:BoolOp):List Expr→LV→AH→(V→AH→Tr α)→XT α→Tr α
 | [],_,_,_,_=>.no
 | [e],m,G,k,x=>ev e α m G k x
 | e::r,m,G,k,x=>ev e α m G (fun v G=>.aB (l7 G v) fun b=>.aC b fun b=>cif (b==Kn op) (evA ev op r m G k x) (k v G)) x
noncomputable def evP (ev:Expr→ET) (e:Option Expr) (m:LV) (G:AH) (k:Option V→AH→Tr α) (x:XT α):Tr α:=match e with
 | none=>k none G
 | some e=>ev e α m G (fun v G=>k (some v) G) x
noncomputable def evX (cx:Cx) (ev:Expr→ET) (e:Expr) (m:LV) (G:AH) (k:V→AH→Tr α) (x:XT α):Tr α:=match vw e with
 | .name y=>cif (sV cx.mv y) (ev e α m G (fun v G=>evF v G k) x) (ev e α m G k x)
 | _=>ev e α m G k x
noncomputable def xn (e:Expr):Option Str:=match vw e with
 | .const c=>match c with
  | .str s=>some s
  | _=>none
 | _=>none
noncomputable def bi (e:Expr):Str:=match vw e with
 | .name y=>y
 | _=>⟨⟨[]⟩⟩
noncomputable def f9:List (Option Expr)→List Expr→Option (List Str × List Str)
 | [],[]=>some ([],[])
 | some e::es,f::fs=>(xn e).bind fun a=>(xn f).bind fun b=>(f9 es fs).map fun p=>(a::p.1,b::p.2)
 | _,_=>none
noncomputable def qD:List (Str × NameKind)→List Str
 | []=>[]
 | (x,.free)::l=>x::qD l
 | _::l=>qD l
noncomputable def oZ (kinds:List (Str × NameKind)) (scope:Scope):List (Str × NameKind) :=
 scope.names.map fun (n,k)=>if (k==.free&&true&&kinds.lookup n==some .cell) then (n,.cell) else (n,k)
noncomputable def Cx.inner (cx:Cx) (x:Str) (scope:Scope):Cx:={ cx with names:=x::qD scope.names,kinds:=oZ cx.kinds scope,mv:=[] }
noncomputable def IH (cx:Cx) (scope:Scope) (m:LV):LV:=(qD scope.names).map fun x=>ba m (gF cx.names x)
noncomputable def zL (ev:Cx→Expr→ET) (cx:Cx) (elt t:Expr) (ifs:List Expr) (scope:Scope) (m:LV) (y:V) (G:AH):Tr (Option V × AH) :=
 let fin:=fun G=>ev (cx.inner (bi t) scope) elt (Option V × AH) (some y::IH cx scope m) G (fun v G=>.ok (some v,G)) noX
 match ifs with
 | []=>fin G
 | c::_=>ev (cx.inner (bi t) scope) c _ (some y::IH cx scope m) G (tst fun b G=>cif b (fin G) (.ok (none,G))) noX
noncomputable def cQ (E:V→AH→Tr (Option V × AH)):List V→AH→List V→AH→Prop
 | [],G,vs,G'=>vs=[]∧G'=G
 | y::ys,G,vs,G'=>(E y G).tt fun p=>match p.1 with
  | none=>cQ E ys p.2 vs G'
  | some v=>∃ us,vs=v::us∧cQ E ys p.2 us G'
noncomputable def cmE (E:V→AH→Tr (Option V × AH)):List V→AH→Option (List V × AH)
 | [],G=>some ([],G)
 | y::ys,G=>(E y G).rn.bind fun p=>match p.1 with
  | none=>cmE E ys p.2
  | some v=>(cmE E ys p.2).bind fun q=>some (v::q.1,q.2)
theorem Bx {E:V→AH→Tr (Option V × AH)}:∀ (xs:List V) (G:AH) (r:List V × AH),cmE E xs G=some r→cQ E xs G r.1 r.2
 | [],G,r,e=>sj e ▸ ⟨rfl,rfl⟩
 | y::ys,G,r,e=>cD e fun p e h=>Tr.rn_ok (a:=p) (by
   obtain ⟨_ | v,G1⟩:=p
   ·exact Bx ys G1 r h
   ·exact cD h fun q e h=>⟨q.1,sj h ▸ rfl,sj h ▸ Bx ys G1 q e⟩) _ e
noncomputable def FT:List Str:=[⟨⟨[108,101,110]⟩⟩,⟨⟨[111,114,100]⟩⟩,⟨⟨[115,116,114]⟩⟩,⟨⟨[114,97,110,103,101]⟩⟩,⟨⟨[109,105,110]⟩⟩,⟨⟨[109,97,120]⟩⟩,⟨⟨[115,117,109]⟩⟩,⟨⟨[115,111,114,116,101,100]⟩⟩]
noncomputable def aI:Str:=⟨⟨[105,115,105,110,115,116,97,110,99,101]⟩⟩
noncomputable def sW:Str:=⟨⟨[115,116,114]⟩⟩
noncomputable def xp:Str:=⟨⟨[69,120,99,101,112,116,105,111,110]⟩⟩
noncomputable def qE:Str:=⟨⟨[95,95,105,110,105,116,95,95]⟩⟩
noncomputable def uS (o:Option FK) (cx:Cx) (ev:Expr→ET) (g:Str) (args:List Expr) (m:LV) (G:AH) (k:V→AH→Tr α) (x:XT α):Tr α:=match o with
 | some (.h f c)=>evL ev args m G (fun vs G=>.aR (f vs G) (c.c vs G) (c.h vs G) (zK k x)) x
 | some (.p f c)=>evL (fun e _=>evX cx ev e) args m G (fun vs G=>.aP (f vs) (c.c vs) (c.h vs) fun r=>zK k x r G) x
 | some (.r f c)=>evL ev args m G (fun vs G=>.aR (f (.ref G.length::vs) (G++[.exc [] []])) (c.c (.ref G.length::vs) (G++[.exc [] []])) (c.h _ _) (zK (fun u G'=>.aC (bg u) fun c=>cif c (k (.ref G.length) G') .no) x)) x
 | some (.o f c)=>cif args.isEmpty (.aR (f [.ref G.length] (G++[.inst ak [] []])) (c.c [.ref G.length] (G++[.inst ak [] []])) (c.h _ _) (zK (fun u G'=>.aC (bg u) fun c=>cif c (k (.ref G.length) G') .no) x)) .no
 | none=>cif (cU g aI) (match args with
   | [a,_]=>ev a α m G (fun v G=>.aB (FR v) fun b=>k (.bool b) G) x
   | _=>.no) (cif (sV FT g) (evL ev args m G (fun vs G=>.aO (nu G g vs) fun v=>k v G) x) .no)
noncomputable abbrev evN (cx:Cx) (ev:Expr→ET) (g:Str) (args:List Expr) (m:LV) (G:AH) (k:V→AH→Tr α) (x:XT α):Tr α:=uS (lkF cx.fns g) cx ev g args m G k x
noncomputable def evM (cx:Cx) (ev:Expr→ET) (o:Expr) (n:Str) (args:List Expr) (m:LV) (G:AH) (k':V→AH→Tr α) (x:XT α):Tr α :=
 cif (cU n qE) (match args with
  | [a,b]=>ev a α m G (fun u G=>ev b α m G (fun _ G=>.aC (vH G u) fun c=>cif c (k' .none G) .no) x) x
  | _=>.no)
 (ev o α m G (fun u G=>.aM (Ir G u n) fun k=>cif k.mut (evL ev args m G (fun vs G=>.aH (nC G u (oX k) vs) fun G=>k' .none G) x)
   (evL (fun e _=>evX cx ev e) args m G (fun vs G=>.aO (eQ k u vs) fun v=>k' v G) x)) x)
noncomputable def Nu (ev:Cx→Expr→ET) (cx:Cx) (e:Expr):ET:=fun α m G k x=>match vw e with
 | .const c=>match c with
  | .none=>k .none G
  | .bool b=>k (.bool b) G
  | .int i=>k (.int i) G
  | .str s=>k (.str s) G
  | _=>.no
 | .name y=>.aO (ba m (gF cx.names y)) fun v=>k v G
 | .bin l op r=>ev cx l α m G (fun a G=>ev cx r α m G (fun b G=>.aO (cC op a b) fun v=>k v G) x) x
 | .un op a=>ev cx a α m G (fun a G=>.aO (unV G op a) fun v=>k v G) x
 | .bop op es=>evA (ev cx) op es m G k x
 | .cmp l ops rs=>match ops,rs with
  | o::ops,r::rs=>ev cx l α m G (fun a G=>ev cx r α m G (fun b G=>.aB (aG G o a b) fun t=>match ops,rs with
   | o₂::_,s::_=>.aC t fun t=>cif t (ev cx s α m G (fun c G=>.aB (aG G o₂ b c) fun t=>k (.bool t) G) x) (k (.bool false) G)
   | _,_=>k (.bool t) G) x) x
  | _,_=>.no
 | .ife t a b=>ev cx t α m G (tst fun c G=>cif c (ev cx a α m G k x) (ev cx b α m G k x)) x
 | .sub o s=>match vw s with
  | .slice l u st=>evX cx (ev cx) o m G (fun a G=>evP (ev cx) l m G (fun l G=>evP (ev cx) u m G (fun u G=>evP (ev cx) st m G (fun st G=>.aO (bG a l u st) fun v=>k v G) x) x) x) x
  | _=>ev cx o α m G (fun a G=>ev cx s α m G (fun b G=>.aO (aF G a b) fun v=>k v G) x) x
 | .att o n=>ev cx o α m G (fun a G=>.aO (FC G n a) fun v=>k v G) x
 | .tup es=>evL (ev cx) es m G (fun vs G=>k (.tup vs) G) x
 | .lst es=>evL (ev cx) es m G (fun vs G=>k (.lst vs) G) x
 | .dict ks vs=>match f9 ks vs with
  | some (ks,vs)=>k (.dS ks (vs.map .str)) G
  | none=>.no
 | .comp e gs sc=>match gs with
  | g::_=>evX cx (ev cx) g.iter m G (fun v G=>.aL (nz v) fun xs=>.aQ (cQ (zL ev cx e g.target g.ifs sc m) xs G) (cmE (zL ev cx e g.target g.ifs sc m) xs G) (Bx xs G) fun vs G=>k (.lst vs) G) x
  | _=>.no
 | .call f args=>match vw f with
  | .name g=>evN cx (ev cx) g args m G k x
  | .att o n=>evM cx (ev cx) o n args m G k x
  | _=>.no
 | _=>.no
end
noncomputable def evE:Nat→Cx→Expr→ET
 | 0,_,_,_,_,_,_,_=>.no
 | n+1,cx,e,α,m,G,k,x=>Nu (evE n) cx e α m G k x
noncomputable abbrev ev (cx:Cx) (e:Expr):ET:=evE 24 cx e
noncomputable abbrev Rd:=Fl × LV × AH
noncomputable def aft (next:LV→AH→Fl→LV→AH→Prop) (p:Rd) (f:Fl) (m:LV) (G:AH):Prop:=match p.1 with
 | .next=>next p.2.1 p.2.2 f m G
 | .cont=>next p.2.1 p.2.2 f m G
 | .brk=>f=.next∧m=p.2.1∧G=p.2.2
 | g=>f=g∧m=[]∧G=p.2.2
noncomputable def whl (R:LV→AH→Tr Rd):Nat→LV→AH→Fl→LV→AH→Prop
 | 0,_,_,_,_,_=>False
 | k+1,m,G,f,m',G'=>(R m G).tt fun p=>aft (whl R k) p f m' G'
noncomputable def Wh (R:LV→AH→Tr Rd) (m:LV) (G:AH) (f:Fl) (m':LV) (G':AH):Prop:=∃ j,whl R j m G f m' G'
noncomputable def flr (S:V→LV→Option LV) (B:LV→AH→Tr Rd):List V→LV→AH→Fl→LV→AH→Prop
 | [],m,G,f,m',G'=>f=.next∧m'=m∧G'=G
 | v::vs,m,G,f,m',G'=>∃ m1,S v m=some m1∧(B m1 G).tt fun p=>aft (flr S B vs) p f m' G'
noncomputable def afE (next:LV→AH→Option Rd) (p:Rd):Option Rd:=match p.1 with
 | .next=>next p.2.1 p.2.2
 | .cont=>next p.2.1 p.2.2
 | .brk=>some (.next,p.2.1,p.2.2)
 | g=>some (g,[],p.2.2)
theorem FU {N:LV→AH→Fl→LV→AH→Prop}{next:LV→AH→Option Rd}(h:∀ m G r,next m G=some r→N m G r.1 r.2.1 r.2.2) (p r:Rd) (e:afE next p=some r):aft N p r.1 r.2.1 r.2.2:=by
 obtain ⟨f,m,G⟩:=p
 cases f with
 | next=>exact h _ _ _ e
 | cont=>exact h _ _ _ e
 | _=>obtain rfl:=sj e; exact ⟨rfl,rfl,rfl⟩
noncomputable def whE (R:LV→AH→Tr Rd):Nat→LV→AH→Option Rd
 | 0,_,_=>none
 | k+1,m,G=>(R m G).rn.bind (afE (whE R k))
theorem FV {R:LV→AH→Tr Rd}:∀ (k:Nat) (m:LV) (G:AH) (r:Rd),whE R k m G=some r→whl R k m G r.1 r.2.1 r.2.2
 | 0,_,_,_,e=>nS e
 | k+1,m,G,r,e=>cD e fun p e h=>Tr.rn_ok (a:=p) (FU (FV k) p r h) _ e
noncomputable def flE (S:V→LV→Option LV) (B:LV→AH→Tr Rd):List V→LV→AH→Option Rd
 | [],m,G=>some (.next,m,G)
 | v::vs,m,G=>(S v m).bind fun m1=>(B m1 G).rn.bind (afE (flE S B vs))
theorem FW {S:V→LV→Option LV}{B:LV→AH→Tr Rd}:∀ (xs:List V) (m:LV) (G:AH) (r:Rd),flE S B xs m G=some r→flr S B xs m G r.1 r.2.1 r.2.2
 | [],_,_,_,e=>sj e ▸ ⟨rfl,rfl,rfl⟩
 | v::vs,m,G,r,e=>cD e fun m1 e1 e=>⟨m1,e1,cD e fun p e h=>Tr.rn_ok (a:=p) (FU (FW vs) p r h) _ e⟩
noncomputable abbrev WN:Nat:=200
section
variable {α:Type}
noncomputable def exS (k:Fl→LV→AH→Tr α):XT α:=fun ks us G=>k (.ex ks us) [] G
noncomputable def evB (evs:Stmt→SM):List Stmt→LV→AH→(Fl→LV→AH→Tr α)→Tr α
 | [],m,G,k=>k .next m G
 | s::r,m,G,k=>evs s α m G fun f m G=>match f with
  | .next=>evB evs r m G k
  | f=>k f m G
noncomputable def rnd (cx:Cx) (evs:Stmt→SM) (t:Expr) (b:List Stmt) (m:LV) (G:AH):Tr Rd :=
 ev cx t Rd m G (tst fun c G=>cif c (evB evs b m G fun f m G=>.ok (f,m,G)) (.ok (.brk,m,G))) fun ks us G=>.ok (.ex ks us,[],G)
noncomputable def bod (evs:Stmt→SM) (b:List Stmt) (m:LV) (G:AH):Tr Rd:=evB evs b m G fun f m G=>.ok (f,m,G)
noncomputable def nD (cx:Cx):List Expr→List Nat
 | e::l=>gF cx.names (bi e)::nD cx l
 | []=>[]
noncomputable def xq (cx:Cx) (t:Expr) (v:V) (m:LV):Option LV:=match vw t with
 | .name y=>some (m.set (gF cx.names y) (some v))
 | .tup ts=>(rR v).bind fun vs=>bw (nD cx ts) vs m
 | _=>none
noncomputable def FX (e:Expr):Bool:=match vw e with
 | .lst _=>true
 | _=>false
noncomputable def zM (e:Expr):List Expr:=match vw e with
 | .lst es=>es
 | _=>[]
noncomputable def dE (e:Expr):Bool:=match vw e with
 | .dict ks _=>ks.isEmpty
 | _=>false
noncomputable def evR (cx:Cx) (y:Str) (e:Expr) (m:LV) (G:AH) (k:V→AH→Tr α) (x:XT α):Tr α :=
 cif (FX e&&sV cx.mv y) (evL (ev cx) (zM e) m G (fun vs G=>k (.ref G.length) (G++[.list vs])) x) (cif (dE e) (k (.ref G.length) (G++[.dI []])) (evX cx (ev cx) e m G k x))
noncomputable def II (cx:Cx):List Expr→List Expr→LV→AH→(List V→AH→Tr α)→XT α→Tr α
 | t::ts,es,m,G,k,x=>match es with
  | e::es=>evR cx (bi t) e m G (fun v G=>II cx ts es m G (fun vs G=>k (v::vs) G) x) x
  | []=>.no
 | [],es,m,G,k,_=>cif es.isEmpty (k [] G) .no
noncomputable def lR (y:Str) (ks:List Str) (us:List V):List Expr→Option (List V)
 | []=>some []
 | e::r=>(match vw e with
  | .att o n=>cif (cU y (bi o)&&aU.contains n) ((ks.zip us).lookup n) none
  | _=>(xn e).map .str).bind fun v=>(lR y ks us r).map (v::·)
noncomputable def FY (b:List Stmt):Option Expr:=match b with
 | s::_=>match s with
  | .Return e _=>e
  | _=>none
 | []=>none
noncomputable def hdl (hs:List ExceptHandler):Str × List Stmt:=match hs with
 | h::_=>match h with
  | .ExceptHandler _ y b _=>(y.getD ⟨⟨[]⟩⟩,b)
 | []=>(⟨⟨[]⟩⟩,[])
noncomputable def evH (hs:List ExceptHandler) (k:Fl→LV→AH→Tr α):XT α:=fun ks us G=>match ((FY (hdl hs).2).bind fun e=>match vw e with
 | .tup xs=>lR (hdl hs).1 ks us xs
 | _=>none) with
 | some ws=>k (.ret (.tup ws)) [] G
 | none=>.no
noncomputable def Lp:Str:=⟨⟨[]⟩⟩
noncomputable def Nv (evs:Cx→Stmt→SM) (cx:Cx) (s:Stmt):SM:=fun α m G k=>match s with
 | .Return e _=>match e with
  | none=>k (.ret .none) m G
  | some e=>evR cx Lp e m G (fun v G=>k (.ret v) m G) (exS k)
 | .Expr e _=>ev cx e α m G (fun v G=>.aC (bg v) fun c=>cif c (k .next m G) .no) (exS k)
 | .Assign ts e _=>match ts with
  | t::_=>match vw t with
   | .name y=>evR cx y e m G (fun v G=>k .next (m.set (gF cx.names y) (some v)) G) (exS k)
   | .tup ys=>match vw e with
    | .tup es=>II cx ys es m G (fun vs G=>match bw (nD cx ys) vs m with
     | some m=>k .next m G
     | none=>.no) (exS k)
    | _=>ev cx e α m G (fun v G=>.aL (rR v) fun vs=>match bw (nD cx ys) vs m with
     | some m=>k .next m G
     | none=>.no) (exS k)
   | .sub o i=>ev cx e α m G (fun v G=>ev cx o α m G (fun a G=>ev cx i α m G (fun b G=>.aH (j3 G a b v) fun G=>k .next m G) (exS k)) (exS k)) (exS k)
   | .att o n=>let st:=fun v G=>ev cx o α m G (fun a G=>.aH (vG G a n v) fun G=>k .next m G) (exS k)
    match vw e with
    | .dict ks _=>cif ks.isEmpty (st (.ref G.length) (G++[.dS [] []])) .no
    | _=>ev cx e α m G st (exS k)
   | _=>.no
  | _=>.no
 | .AugAssign t op e _=>.aO (ba m (gF cx.names (bi t))) fun a=>ev cx e α m G (fun b G=>.aO (FO op a b) fun v=>k .next (m.set (gF cx.names (bi t)) (some v)) G) (exS k)
 | .If t a b _=>ev cx t α m G (tst fun c G=>cif c (evB (evs cx) a m G k) (evB (evs cx) b m G k)) (exS k)
 | .While t b _ _=>.aS (Wh (rnd cx (evs cx) t b) m G) (whE (rnd cx (evs cx) t b) WN m G) (fun r e=>⟨WN,FV WN m G r e⟩) k
 | .For t it b _ _=>evX cx (ev cx) it m G (fun v G=>.aL (match vw t with
  | .name _=>nz v
  | _=>FM v) fun xs=>.aS (flr (xq cx t) (bod (evs cx) b) xs m G) (flE (xq cx t) (bod (evs cx) b) xs m G) (FW xs m G) k) (exS k)
 | .Raise e _ _=>match e with
  | some e=>ev cx e α m G (fun v G=>match IG G v with
   | some p=>k (.ex p.2.1 p.2.2) [] (G.set p.1 .dead)
   | none=>.no) (exS k)
  | none=>.no
 | .Try b hs _ _ _=>match FY b with
  | some e=>ev cx e α m G (fun v G=>k (.ret v) m G) (evH hs k)
  | none=>evB (evs cx) b m G fun f m G=>match f with
   | .ex _ _=>.no
   | f=>k f m G
 | .Pass _=>k .next m G
 | .Break _=>k .brk m G
 | .Continue _=>k .cont m G
 | _=>.no
end
noncomputable def evS:Nat→Cx→Stmt→SM
 | 0,_,_,_,_,_,_=>.no
 | n+1,cx,s,α,m,G,k=>Nv (evS n) cx s α m G k
structure Fd where
 names:List Str
 np:Nat
 body:List Stmt
 dfl:List V
 kinds:List (Str × NameKind)
noncomputable def frm (d:Fd) (vs:List V):LV:=(vs++d.dfl.drop (vs.length+d.dfl.length - d.np)).map some++List.replicate (d.names.length - d.np) none
noncomputable def bo (d:Fd) (vs:List V):Bool:=Nat.ble vs.length d.np&&Nat.ble d.np (vs.length+d.dfl.length)
noncomputable abbrev SN:Nat:=8
noncomputable def fnT (cx:Cx) (d:Fd) (vs:List V) (G:AH):Tr (Fl × AH):=evB (evS SN cx) d.body (frm d vs) G fun f _ G=>.ok (f,G)
noncomputable def FZ (p:Fl × AH) (r:Res) (G':AH):Prop:=match p.1 with
 | .ret v=>r=.ok v∧G'=p.2
 | .next=>r=.ok .none∧G'=p.2
 | .ex ks us=>r=.ex ks us∧G'=p.2
 | _=>False
noncomputable def i5 (G:AH):V→V
 | .ref i=>match G[i]? with
  | some (.list vs)=>.lst vs
  | some (.dS ks vs)=>.dS ks vs
  | some (.dI ks)=>.dI ks
  | _=>.ref i
 | v=>v
noncomputable def xr (th:Bool) (G:AH):V→V
 | .ref i=>match G[i]? with
  | some (.list vs)=>.lst vs
  | some (.dS ks vs)=>.dS ks vs
  | some (.dI ks)=>.dI ks
  | some (.inst C ks vs)=>.inst C ks (vs.map (i5 G))
  | _=>.ref i
 | .tup vs=>.tup (cif th (vs.map (i5 G)) vs)
 | v=>v
noncomputable def Res.pu:Res→Bool
 | .ok v=>v.pu
 | .ex _ us=>V.puL us
noncomputable def fF (th:Bool) (r:Res) (p:Fl × AH):Prop:=match p.1 with
 | .ret v=>Res.ok (xr th p.2 v)=r
 | .next=>Res.ok .none=r
 | .ex ks us=>Res.ex ks us=r
 | _=>False
noncomputable def aY (d:Fd) (fns:List (Str × FK)) (mv:List Str):Cx:=⟨d.names,d.kinds,fns,mv⟩
noncomputable def fnH (cx:Cx) (d:Fd):FS:=fun vs G r G'=>bo d vs=true∧(fnT cx d vs G).tt fun p=>FZ p r G'
noncomputable def fnP (th:Bool) (cx:Cx) (d:Fd):FP:=fun vs r=>r.pu=true∧(V.puL vs&&bo d vs)=true∧(fnT cx d vs []).tt (fF th r)
noncomputable def PD (p:Fl × AH):Option (Res × AH):=match p.1 with
 | .ret v=>some (.ok v,p.2)
 | .next=>some (.ok .none,p.2)
 | .ex ks us=>some (.ex ks us,p.2)
 | _=>none
noncomputable def PG (th:Bool) (p:Fl × AH):Option Res:=match p.1 with
 | .ret v=>some (.ok (xr th p.2 v))
 | .next=>some (.ok .none)
 | .ex ks us=>some (.ex ks us)
 | _=>none
noncomputable def Nw (cx:Cx) (d:Fd) (vs:List V) (G:AH):Option (Res × AH):=wh (bo d vs) fun _=>(fnT cx d vs G).rn.bind PD
noncomputable def zN (th:Bool) (cx:Cx) (d:Fd) (vs:List V):Option Res:=wh (V.puL vs&&bo d vs) fun _=>((fnT cx d vs []).rn.bind (PG th)).bind fun r=>wh r.pu fun _=>some r
theorem IJ {cx:Cx}{d:Fd}(vs:List V) (G:AH) (r:Res × AH) (e:Nw cx d vs G=some r):fnH cx d vs G r.1 r.2:=zb e fun h e=>⟨h,cD e fun p e h=>Tr.rn_ok (a:=p) (by
 obtain ⟨f,G1⟩:=p
 cases f with
 | ret v=>exact sj h ▸ ⟨rfl,rfl⟩
 | next=>exact sj h ▸ ⟨rfl,rfl⟩
 | ex ks us=>exact sj h ▸ ⟨rfl,rfl⟩
 | _=>exact nS h) _ e⟩
theorem CN {th:Bool}{cx:Cx}{d:Fd}(vs:List V) (r:Res) (e:zN th cx d vs=some r):fnP th cx d vs r:=zb e fun h e=>cD e fun q e2 h2=>zb h2 fun hp h2=>by
 obtain rfl:=sj h2
 exact ⟨hp,h,cD e2 fun p e3 h3=>Tr.rn_ok (a:=p) (by
  obtain ⟨f,G1⟩:=p
  cases f with
  | ret v=>exact sj h3
  | next=>exact sj h3
  | ex ks us=>exact sj h3
  | _=>exact nS h3) _ e3⟩
noncomputable def pcP (th:Bool) (cx:Cx) (d:Fd):PC (fnP th cx d):=⟨zN th cx d,CN⟩
noncomputable def pcH (cx:Cx) (d:Fd):HC (fnH cx d):=⟨Nw cx d,IJ⟩
noncomputable def xt:List (Str × NameKind)→List Str
 | []=>[]
 | (x,.local)::l=>x::xt l
 | (x,.cell)::l=>x::xt l
 | _::l=>xt l
noncomputable def aZ (s:Stmt) (dfl:List V):Fd:=match s with
 | .FunctionDef _ args body _ _ _ scope _ _ _=>⟨xt scope.names,args.args.length,body,dfl,scope.names⟩
 | _=>⟨[],0,[],[],[]⟩
end
end Mine
end
section
open PySem PySem.W PyProof.Rows Builtin.Str
set_option maxRecDepth 20000
set_option genSizeOf false
set_option genInjectivity false
namespace Mine
section
theorem sX {a:Addr}:[a].Nodup:=List.nodup_cons.mpr ⟨List.not_mem_nil,List.nodup_nil⟩
section
variable {fm:Fm}{m:Loc}{H:MH}{Q:QV}{QE:QX}{s:Shared}{QB:Bool→MH→Prop}{l r t o:Expr}{pos p:Pos}
theorem Lq (O:ay fm) (hu:fm.A.units<9000) {op:CmpOp}(hm:behindInMarks op r=false)
  (h:EW fm l m H (fun va H1=>EW fm r m H1 (fun vb H2=>∃ b,aG (aa H2) op va vb=some b∧Q (.bool b) H2) QE) QE):EW fm (.Compare l [op] [r] pos) m H Q QE:=fun s S=>by
 rw [eval_Compare1,markedBehindIn_of_false hm]
 exact wpAny_bind (wpAny_mono (h s S) (fun xa s1 p=>p.el fun va H1 T1 S1 r1 q1=>wpAny_bind (wpAny_holding (wpAny_mono (q1 s1 S1) (fun xb s2 p=>p.el fun vb H2 T2 S2 r2 q=>ae q fun b e q =>
  wpAny_bind (wpAny_standAt (wpAny_operate' (oQ e O hu rfl S2 (T2.rep r1) r2 _ _ fun tk=>(aK S2 gZ q).back (T1.trans T2))))) fun _ _ p=>p.back T1))) fun _ _ p=>p)
theorem Lr (O:ay fm) (hu:fm.A.units<9000) {op:CmpOp}(hm:behindInMarks op r=false)
  (h:EW fm l m H (fun va H1=>EW fm r m H1 (fun vb H2=>∃ b,aG (aa H2) op va vb=some b∧QB b H2) QE) QE):TW fm (.Compare l [op] [r] pos) m H QB QE:=fun s S=>by
 rw [isTrue_Compare1,markedBehindIn_of_false hm]
 exact wpAny_bind (wpAny_mono (h s S) (fun xa s1 p=>p.el fun va H1 T1 S1 r1 q1=>wpAny_bind (wpAny_holding (wpAny_mono (q1 s1 S1) (fun xb s2 p=>p.el fun vb H2 T2 S2 r2 q=>ae q fun b e q =>
  wpAny_bind (wpAny_standAt (wpAny_bind (wpAny_operate' (oQ e O hu rfl S2 (T2.rep r1) r2 _ _ fun tk=>wpAny_holding (wpAny_truthy_bool ⟨H2,T1.trans T2,S2.toks tk,q⟩)))))) fun _ _ p=>p.back T1))) fun _ _ p=>p)
theorem vI {o₂:CmpOp}(h:behindInMarks o₂ t=false):lastMarks [o₂] [t]=false:=by simpa [lastMarks] using h
theorem IK (O:ay fm) (hu:fm.A.units<9000) {o₁ o₂:CmpOp}(hm:behindInMarks o₂ t=false)
  (h:EW fm l m H (fun va H1=>EW fm r m H1 (fun vb H2=>∃ b,aG (aa H2) o₁ va vb=some b∧(b=true→EW fm t m H2 (fun vc H3=>∃ b,aG (aa H3) o₂ vb vc=some b∧Q (.bool b) H3) QE)∧(b=false→Q (.bool false) H2)) QE) QE) :
  EW fm (.Compare l [o₁,o₂] [r,t] pos) m H Q QE:=fun s S =>
 Compare_chain (rs:=[]) (wpAny_mono (h s S) (fun xa s1 p=>p.el fun va H1 T1 S1 r1 q1=>chain_link (wpAny_mono (q1 s1 S1) (fun xb s2 p=>p.el fun vb H2 T2 S2 r2 q=>ae q fun b e q=>oQ e O hu rfl S2 (T2.rep r1) r2 _ _ fun tk=>wpAny_truthy_bool (by
  cases b with
  | false=>exact (aK S2 gZ (q.2 rfl)).back (T1.trans T2)
  | true=>exact chain_last (wpAny_mono (q.1 rfl _ (S2.toks tk)) (fun xc s3 p=>p.el fun vc H3 T3 S3 r3 q=>ae q fun b e q=>oQ e O hu rfl S3 (T3.rep r2) r3 _ _ fun tk=>(aK S3 gZ q).back ((T1.trans T2).trans T3)) fun _ _ p=>p.back (T1.trans T2)))) fun _ _ p=>p.back T1)) fun _ _ p=>p) (vI hm)
theorem IL (O:ay fm) (hu:fm.A.units<9000) {o₁ o₂:CmpOp}(hm:behindInMarks o₂ t=false)
  (h:EW fm l m H (fun va H1=>EW fm r m H1 (fun vb H2=>∃ b,aG (aa H2) o₁ va vb=some b∧(b=true→EW fm t m H2 (fun vc H3=>∃ b,aG (aa H3) o₂ vb vc=some b∧QB b H3) QE)∧(b=false→QB false H2)) QE) QE) :
  TW fm (.Compare l [o₁,o₂] [r,t] pos) m H QB QE:=fun s S =>
 isTrue_chain (rs:=[]) (wpAny_mono (h s S) (fun xa s1 p=>p.el fun va H1 T1 S1 r1 q1=>test_link (wpAny_mono (q1 s1 S1) (fun xb s2 p=>p.el fun vb H2 T2 S2 r2 q=>ae q fun b e q=>oQ e O hu rfl S2 (T2.rep r1) r2 _ _ fun tk=>wpAny_truthy_bool (by
  cases b with
  | false=>exact ⟨H2,T1.trans T2,S2.toks tk,q.2 rfl⟩
  | true=>exact test_last (wpAny_mono (q.1 rfl _ (S2.toks tk)) (fun xc s3 p=>p.el fun vc H3 T3 S3 r3 q=>ae q fun b e q=>oQ e O hu rfl S3 (T3.rep r2) r3 _ _ fun tk=>wpAny_truthy_bool ⟨H3,(T1.trans T2).trans T3,S3.toks tk,q⟩) fun _ _ p=>p.back (T1.trans T2)))) fun _ _ p=>p.back T1)) fun _ _ p=>p) (vI hm)
theorem IM (O:ay fm) (hs:g7 r=true)
  (h:EW fm l m H (fun va H1=>EW fm r m H1 (fun vb H2=>∃ r,aF (aa H2) va vb=some r∧Q r H2) QE) QE):EW fm (.Subscript l r pos) m H Q QE:=fun s S =>
 Subscript_ (wpAny_mono (h s S) (fun xa s1 p=>p.el fun va H1 T1 S1 r1 q1=>wpAny_mono (q1 s1 S1) (fun xb s2 p=>p.el fun vb H2 T2 S2 r2 q=>ae q fun r e q =>
  wpAny_mono (Ii (QE:=QE) O hs e S2 (T2.rep r1) r2 q) (fun _ _ p=>p.back (T1.trans T2)) fun _ _ p=>p.back (T1.trans T2)) fun _ _ p=>p.back T1) fun _ _ p=>p)
theorem IN (O:ay fm) {n:Str}
  (he:eval (.Attribute o n pos) fm.env=(do let x ← eval o fm.env; standAt pos.atName; let r ← holding [x] (getAttr x n true); letTemporaryGo o x r; pure r))
  (h:EW fm o m H (fun va H1=>∃ r,FC (aa H1) n va=some r∧Q r H1) QE):EW fm (.Attribute o n pos) m H Q QE:=fun s S =>
 Attribute_any_ (wpAny_mono (h s S) (fun xa s1 p=>p.el fun va H1 T1 S1 r1 q=>ae q fun r e q=>wpAny_mono (Im (QE:=QE) e O rfl S1 r1 q) (fun _ _ p=>p.back T1) fun _ _ p=>p.back T1) fun _ _ p=>p) he
theorem few {n:Nat}(h:n≤1000):n≤big:=Nat.le_trans h (by decide)
theorem F0 {es:List Expr}{k:Nat}(h:LW fm pos es m H (fun vs H1=>vs.length≤1000∧Q (.tup vs) H1) QE):EW fm (.Tuple es k pos) m H Q QE:=fun s S =>
 wpAny_Tuple (wpAny_mono (h s S) (fun xs s1 p=>p.el fun vs H1 T1 S1 r1 q=>ar q fun hl q=>⟨bX (Nat.le_trans (r1.length ▸ hl) (by decide)),(lZ (by rw [List.size_toArray,← r1.length]; exact few hl) S1 r1 q).back T1⟩) fun _ _ p=>p)
theorem Ls {es:List Expr}(h:LW fm pos es m H (fun vs H1=>vs.length≤1000∧Q (.lst vs) H1) QE):EW fm (.List es pos) m H Q QE:=fun s S =>
 wpAny_List (wpAny_mono (h s S) (fun xs s1 p=>p.el fun vs H1 T1 S1 r1 q=>ar q fun hl q=>⟨bX (Nat.le_trans (r1.length ▸ hl) (by decide)),(iB (by rw [List.size_toArray,← r1.length]; exact few hl) S1 r1 q).back T1⟩) fun _ _ p=>p)
theorem By {h:Heap}:∀ b∈[h.objs.size],h.get? b=none:=fun b hb=>List.mem_singleton.mp hb ▸ aV h
theorem IO (O:ay fm) {es:List Expr}(h:LW fm pos es m H (fun vs H1=>vs.length≤1000∧∀ H',aa H'=aa H1++[.list vs]→Q (.ref (aa H1).length) H') QE):EW fm (.List es pos) m H Q QE:=fun s S =>
 wpAny_List (wpAny_mono (h s S) (fun xs s1 p=>p.el fun vs H1 T1 S1 r1 q=>ar q fun hl q=>⟨bX (Nat.le_trans (r1.length ▸ hl) (by decide)),PV.back T1 (xd (mo:=.list vs) O S1 rfl By sX (fun b o e=>Heap.get?_push_of_some _ e)
  (fun conv=>⟨_,⟨by rw [List.size_toArray,← r1.length]; exact few hl,0,Heap.get?_push_size _ rfl⟩,conv r1⟩) rfl rfl rfl rfl q)⟩) fun _ _ p=>p)
theorem Nx (O:ay fm) (q:∀ H',aa H'=aa H++[.dI []]→Q (.ref (aa H).length) H'):EW fm (.Dict [] [] pos) m H Q QE:=fun s S =>
 wpAny_Dict_empty (xd (mo:=.dI []) O S rfl By sX (fun b o e=>Heap.get?_push_of_some _ e)
  (fun conv=>aj (Heap.DictOf.new (knd:=intKind fm.prog fm.w) s.heap).dictAt fun ep h=>⟨ep,h,Nat.zero_le _⟩) rfl rfl rfl rfl q)
theorem Ny (O:ay fm) (q:∀ H',aa H'=aa H++[.dS [] []]→Q (.ref (aa H).length) H'):EW fm (.Dict [] [] pos) m H Q QE:=fun s S =>
 wpAny_Dict_empty (xd (mo:=.dS [] []) O S rfl By sX (fun b o e=>Heap.get?_push_of_some _ e)
  (fun conv=>aj (Heap.DictOf.new (knd:=strKind fm.prog fm.w) s.heap).dictAt fun ep h=>⟨[],ep,h,rfl,.nil⟩) rfl rfl rfl rfl q)
noncomputable def EP (fm:Fm) (x:Option Expr) (m:Loc) (H:MH) (Q:Option V→MH→Prop) (QE:QX):Prop :=
 ∀ s,Sat fm m H s→wpAny fm.M fm.A (evalPart x fm.env) (fun xv s'=>∃ v H',af fm H s.heap H' s'.heap∧Sat fm m H' s'∧qy fm H' s'.heap v xv∧Q v H') (PX fm m H s.heap QE) s
theorem IP {Q:Option V→MH→Prop}(q:Q none H):EP fm none m H Q QE:=fun s S=>wpAny_pure ⟨none,H,af.refl ..,S,.inl ⟨rfl,rfl⟩,q⟩
theorem IQ {Q:Option V→MH→Prop}{e:Expr}(h:EW fm e m H (fun v H'=>Q (some v) H') QE):EP fm (some e) m H Q QE:=fun s S =>
 wpAny_mono (h s S) (fun _ _ ⟨v,H',a,b,c,d⟩=>⟨some v,H',a,b,.inr ⟨v,rfl,c⟩,d⟩) fun _ _ p=>p
theorem IR {l u st:Option Expr}{x i:Value}:∃ ops,subscripted (.Slice l u st p) false x i=operate ops (getItem x i):=by
 cases st with
 | none=>exact ⟨_,rfl⟩
 | some _=>exact ⟨_,rfl⟩
theorem F1 {l u st:Option Expr}
  (h:EW fm o m H (fun va H1=>EP fm l m H1 (fun vl H2=>EP fm u m H2 (fun vu H3=>EP fm st m H3 (fun vs H4=>∃ r,bG va vl vu vs=some r∧Q r H4) QE) QE) QE) QE) :
  EW fm (.Subscript o (.Slice l u st p) pos) m H Q QE:=fun s S =>
 Subscript_ (wpAny_mono (h s S) (fun xa s1 q=>q.el fun va H1 T1 S1 r1 q1=>wpAny_Slice (wpAny_mono (q1 s1 S1) (fun xl s2 q=>cP q fun vl H2 T2 S2 r2 q2=>wpAny_mono (q2 s2 S2) (fun xu s3 q=>cP q fun vu H3 T3 S3 r3 q3=>wpAny_mono (q3 s3 S3) (fun xs s4 q=>by
  obtain ⟨vs,H4,T4,S4,r4,r,e,q⟩:=q
  have kp:∀ b o,s4.heap.get? b=some o→(s4.heap.push { cls:=.type "slice",data:=.fields #[xl,xu,xs] }).get? b=some o:=fun b o e=>Heap.get?_push_of_some _ e
  have T5:af fm H4 s4.heap H4 (s4.heap.push { cls:=.type "slice",data:=.fields #[xl,xu,xs] }):=af.of_keeps kp
  have Tall:=((((T1.trans T2).trans T3).trans T4).trans T5)
  refine aj (IR (l:=l) (u:=u) (st:=st) (p:=p) (x:=xa) (i:=.ref s4.heap.objs.size)) fun ops hop=>?_
  exact wpAny_mono (FA (QE:=QE) e hop (S4.push _) ((((T2.trans T3).trans T4).trans T5).rep r1) ⟨_,Heap.get?_push_size _ rfl,rfl,rfl⟩ (r2.keep ((T3.trans T4).trans T5)) (r3.keep (T4.trans T5)) (r4.keep T5) q) (fun _ _ q=>q.back Tall) fun _ _ q=>q.back Tall)
  fun _ _ q=>q.back ((T1.trans T2).trans T3)) fun _ _ q=>q.back (T1.trans T2)) fun _ _ q=>q.back T1)) fun _ _ q=>q)
theorem vJ {e:Expr}{a:Str}(h:xn e=some a):∃ k p,e=.Constant (.str a) k p:=by
 cases e <;> first | exact nS h | skip
 rename_i c k p
 cases c <;> first | exact nS h | exact ⟨k,p,by rw [sj h]⟩
theorem sY {A:Around}{E:Value→Shared→Prop}:∀ {es:List (Option Expr)}{fs:List Expr}{kv:List Str × List Str}{s:Shared}{P:List (Value × Value)→Shared→Prop},f9 es fs=some kv→kv.2.all (fun x=>Nat.ble x.length big)=true →
  (∀ ps kvs tk xs,Carries (strKind fm.prog fm.w) ps kvs→kvs=kv.1.zip xs→kv.1.length=xs.length→ps.length=kv.1.length→(∀ H h,fm.RL H h (kv.2.map .str) xs)→P ps { s with toks:=tk }) →
  wpAny fm.M A (evalPairs (pairTrees es fs fm.env pos)) P E s
 | [],[],kv,s,P,h,hz,q=>by
  obtain rfl:=sj h
  exact pairTrees_nil_walk (q [] [] s.toks [] trivial rfl rfl rfl fun _ _=>RepL.nil)
 | some e::es,f::fs,kv,s,P,h,hz,q=>cD h fun a ha h=>cD h fun b hb h=>gh h fun p hp ep=>by
  subst ep
  have hz:=an (show (Nat.ble b.length big&&p.2.all (fun x=>Nat.ble x.length big))=true from hz)
  refine sf (vJ ha) fun k p ee=>sf (vJ hb) fun k' p' ef=>?_
  subst ee ef
  exact pairTrees_cons_walk (wpAny_Constant_str (wpAny_Constant_str (sY hp hz.2 fun ps kvs tk xs hc hk hl hp hr =>
   q _ ((_,.str _ _)::kvs) tk (.str _ _::xs) ⟨isS,rfl,hc⟩ (congrArg (List.cons _) hk) (congrArg (·+1) hl) (congrArg (·+1) hp) fun H h=>RepL.cons (iy (aX hz.1)) (hr H h))))
 | none::_,_,_,_,_,h,_,_=>by unfold f9 at h; exact nS h
 | some _::_,[],_,_,_,h,_,_=>nS h
 | [],_::_,_,_,_,h,_,_=>nS h
theorem nE:∀ {es:List (Option Expr)}{fs:List Expr}{kv:List Str × List Str},f9 es fs=some kv→es.all (·.isSome)=true∧es.length=fs.length∧es.length=kv.1.length
 | [],[],kv,h=>(sj h) ▸ ⟨rfl,rfl,rfl⟩
 | some e::es,f::fs,kv,h=>cD h fun a ha h=>cD h fun b hb h=>gh h fun p hp ep=>ep ▸ bW (nE hp) fun h1 h2 h3=>⟨h1,(congrArg (·+1) h2:_+1=_+1),(congrArg (·+1) h3:_+1=_+1)⟩
 | none::_,_,_,h=>by unfold f9 at h; exact nS h
 | some _::_,[],_,h=>nS h
 | [],_::_,_,h=>nS h
theorem zO (O:ay fm) (S:Sat fm m H s):(s.heap.objs.size==sysModules)=false:=aj O.wd.sysm fun o ho=>beq_eq_false_iff_ne.mpr fun e=>oY (S.base _ _ ho) e.symm
theorem F2 (O:ay fm) {kv:List Str × List Str}{e:Option Expr}{es:List (Option Expr)}{fs:List Expr}(hd:f9 (e::es) fs=some kv) (hz:kv.2.all (fun x=>Nat.ble x.length big)=true) (hn:decide kv.1.Nodup=true) (hlen:Nat.ble kv.1.length 15=true)
  (q:Q (.dS kv.1 (kv.2.map .str)) H):EW fm (.Dict (e::es) fs pos) m H Q QE:=fun s S=>by
 refine bW (nE hd) fun k1 k2 k3=>?_
 refine wpAny_Dict_walk (knd:=strKind fm.prog fm.w) k1 k2 nofun (by rw [k3]; exact aX hlen) (sY hd hz fun ps kvs tk xs hc hk hl hp hr=>⟨kvs,hc,Heap.DictOf.new s.heap,fun h' hd' hs'=>?_⟩)
 have keys:kvs.map (·.1)=kv.1:=by rw [hk,List.map_fst_zip (Nat.le_of_eq hl)]
 rw [merged_nil_of_nodup kvs (by rw [keys]; exact of_decide_eq_true hn)] at hd'
 refine aj hd'.dictAt fun ep hd'=>?_
 exact dD (v:=.dS kv.1 (kv.2.map .str)) S (fun b o e=>hs'.extBut b o (oY e) (Heap.get?_push_of_some _ e)) rfl rfl rfl ⟨_,xs,ep,rfl,S.fresh_ok (aV _),zO O S,hk ▸ hd',hl,hr H h'⟩ q
theorem F3 (O:ay fm) {p':Pos}(hk:fm.env.kindOf aI=some .globalImplicit) (hk':fm.env.kindOf sW=some .globalImplicit) (hs:bb [l]=true)
  (h:EW fm l m H (fun v H1=>∃ b,FR v=some b∧Q (.bool b) H1) QE):EW fm (.Call (.Name aI p) [l,.Name sW p'] [] pos) m H Q QE:=by
 have n1:gu fm aI (.builtin "isinstance"):=jo O (by decide +kernel) (by decide +kernel) nofun hk (by decide +kernel)
 have n2:gu fm sW (.type "str"):=jo O (by decide +kernel) (by decide +kernel) nofun hk' (by decide +kernel)
 have hs2:bb [l,.Name sW p']=true:=by cases l <;> first | exact ff hs | rfl
 refine sO n1 hs2 fun s S=>wpAny_items_cons (wpAny_mono (h s S) (fun xa s1 p=>p.el fun v H1 T1 S1 r1 q=>ae q fun b e hq=>wpAny_items_cons (n2.read m H1 s1 _ _ _ S1 (wpAny_items_nil ⟨S1.base,?_⟩)) rfl) fun _ _ p=>p) ((ct hs2).2 _)
 cases v with
 | str z=>exact ae r1 fun t ex _=>ex ▸ IsiPair.str_str ((f0 S1 gZ (show Q (.bool true) H1 from sj e ▸ hq)).back T1)
 | int z=>exact aj r1 fun t ex=>ex ▸ IsiPair.int_str ((aK S1 gZ (show Q (.bool false) H1 from sj e ▸ hq)).back T1)
 | _=>exact nS e
end
end
end Mine
end
section
open PySem PySem.W PyProof.Rows Builtin.Str
set_option maxRecDepth 20000
set_option backward.match.sparseCases false
set_option genSizeOf false
set_option genInjectivity false
namespace Mine
section
noncomputable def Cx.isVar (cx:Cx) (x:Str):Bool:=(cx.names[gF cx.names x]?==some x&&(cx.kinds.lookup x==some .local||cx.kinds.lookup x==some .cell))&&!(x==("__debug__":Str))
noncomputable def Cx.isGlob (cx:Cx) (x:Str):Bool:=cx.kinds.lookup x==some .globalImplicit&&!(x==("__debug__":Str))
noncomputable abbrev d9 (n:Nat) (F:Fn) (f:FS):Prop:=∀ vs H r G',f vs (aa H) r G'→j1 n F.addr vs H (fun v H'=>r=.ok v∧aa H'=G') (fun ks us H'=>r=.ex ks us∧aa H'=G')
noncomputable abbrev aw (n:Nat) (F:Fn) (f:FP):Prop:=∀ vs H r,f vs r→j1 n F.addr vs H (fun v H'=>r=.ok v∧aa H'=aa H) (fun ks us H'=>r=.ex ks us∧aa H'=aa H)
noncomputable def uT (n:Nat) (g:Str):FK→Prop
 | .h f _=>∃ F,F∈TAB∧F.name=g∧d9 n F f
 | .p f _=>∃ F,F∈TAB∧F.name=g∧aw n F f
 | .r f _=>g="Raised"∧d9 n av f
 | .o f _=>g="Options"∧d9 n au f
structure Cn (fm:Fm) (cx:Cx) (n:Nat):Prop where
 O:ay fm
 names:fm.names=cx.names
 kinds:fm.env.scope.names=cx.kinds
 room:qu n fm.A
 hh:fm.A.handled=none
 fns:∀ g k,lkF cx.fns g=some k→uT n g k
 cells:∀ x:Str,fm.env.kindOf x=some .cell→∃ c,fm.env.cells.lookup x=some c
section
variable {fm:Fm}{cx:Cx}{n k:Nat}
theorem Cn.kindOf (C:Cn fm cx n) (x:Str):fm.env.kindOf x=cx.kinds.lookup x:=by unfold Env.kindOf; rw [C.kinds]
theorem Cn.hu (C:Cn fm cx n):fm.A.units<9000:=Nat.lt_of_le_of_lt (Nat.le_trans (Nat.le_add_right _ (16*n+8)) (Nat.le_of_lt C.room.2)) (by decide)
noncomputable abbrev KQ {α:Type} (L:α→Prop) (K:V→AH→Tr α) (Q:QV):Prop:=∀ v H',(K v (aa H')).tt L→Q v H'
noncomputable abbrev KB {α:Type} (L:α→Prop) (K:V→AH→Tr α) (Q:Bool→MH→Prop):Prop:=∀ v H',(K v (aa H')).tt L→∃ b,l7 (aa H') v=some b∧Q b H'
noncomputable abbrev KX {α:Type} (L:α→Prop) (X:XT α) (QE:QX):Prop:=∀ ks us H',(X ks us (aa H')).tt L→QE ks us H'
noncomputable abbrev sZ (fm:Fm) (g:ET) (e:Expr):Prop:=∀ {α:Type}{L:α→Prop}{m:LV}{H:MH}{K:V→AH→Tr α}{X:XT α}{Q:QV}{QE:QX},(g α m (aa H) K X).tt L→KQ L K Q→KX L X QE→EW fm e (ba m) H Q QE
noncomputable abbrev PH (fm:Fm) (g:ET) (e:Expr):Prop:=∀ {α:Type}{L:α→Prop}{m:LV}{H:MH}{K:V→AH→Tr α}{X:XT α}{Q:Bool→MH→Prop}{QE:QX},(g α m (aa H) K X).tt L→KB L K Q→KX L X QE→TW fm e (ba m) H Q QE
structure PI (fm:Fm) (g:ET) (e:Expr):Prop where
 a:sZ fm g e
 t:PH fm g e
noncomputable abbrev PE (n:Nat) (cx:Cx) (k:Nat) (e:Expr):Prop:=∀ fm,Cn fm cx n→PI fm (evE k cx e) e
theorem PE.of {e:Expr}(he:∀ fm:Fm,isTrue e fm.env (eval e fm.env)=(do let v ← eval e fm.env; standAt e.pos; holding [v] (truthy v))) (h:∀ fm,Cn fm cx n→sZ fm (evE k cx e) e):PE n cx k e :=
 fun fm C=>⟨h fm C,fun h0 q x=>K4 (he fm) (h fm C h0 (fun v H' hv=>ae (q v H' hv) fun b hb z=>⟨b,sP C.O hb,z⟩) x)⟩
structure PLs (n:Nat) (cx:Cx) (k:Nat) (es:List Expr):Prop where
 star:bb es=true
 all:∀ e∈es,PE n cx k e
theorem vK {x:Expr}{xs:List Expr}(h0:bb [x]=true) (h:bb xs=true):bb (x::xs)=true:=by
 cases x <;> first | exact ff h0 | exact h
theorem PLs.nil:PLs n cx k []:=⟨rfl,nofun⟩
theorem PLs.cons {x:Expr}{xs:List Expr}(h0:bb [x]=true) (h:PE n cx k x) (h1:PLs n cx k xs):PLs n cx k (x::xs):=⟨vK h0 h1.star,fun e he=>(List.mem_cons.mp he).elim (fun q=>q ▸ h) (h1.all e)⟩
theorem lS {α:Type}{L:α→Prop}{g:Expr→ET}{pos:Pos}{X:XT α}{QE:QX}(qx:KX L X QE) {m:LV}:∀ {es:List Expr}{H:MH}{K:List V→AH→Tr α}{QL:List V→MH→Prop},bb es=true→(∀ e∈es,sZ fm (g e) e)→(evL g es m (aa H) K X).tt L →
  (∀ vs H',vs.length=es.length→(K vs (aa H')).tt L→QL vs H')→LW fm pos es (ba m) H QL QE
 | [],_,_,_,_,_,h,q=>Bg (q _ _ rfl h)
 | e::r,_,_,_,hs,hg,h,q=>rO ((ct hs).2 _) (hg e (.head _) h (fun v H1 h1=>lS qx (ct hs).1 (fun e he=>hg e (.tail _ he)) h1 fun vs H2 hl h2=>q (v::vs) H2 (congrArg (·+1) hl) h2) qx)
theorem Nz {α:Type}{L:α→Prop}{m:Loc}{H:MH}{s:Shared}{K:V→AH→Tr α}{Q:QV}{v:V}{x:Value}(O:ay fm) (h:(evF v (aa H) K).tt L) (q:KQ L K Q) (S:Sat fm m H s) (r:fm.R H s.heap v x):PV fm m H s.heap Q x s:=by
 cases v with
 | ref i =>
  refine ae h fun w hw hk=>A7 (Lm hw O rfl S) fun H' g S' T hr=>⟨w,H',T,S',hr x r,q _ _ (by rw [g]; exact hk)⟩
 | _=>exact f0 S r (q _ _ h)
theorem vL {e:Expr}(C:Cn fm cx n) (h:sZ fm (evE k cx e) e):sZ fm (fun α=>evX (α:=α) cx (evE k cx) e) e:=fun {α L m H K X Q QE} h0 q x=>by
 have e0:evX cx (evE k cx) e m (aa H) K X=evE k cx e α m (aa H) (fun v G=>evF v G K) X∨evX cx (evE k cx) e m (aa H) K X=evE k cx e α m (aa H) K X:=by
  unfold evX
  cases vw e with
  | name y =>
   show cif _ _ _=_∨cif _ _ _=_
   cases sV cx.mv y with
   | true=>exact .inl rfl
   | false=>exact .inr rfl
  | _=>exact .inr rfl
 rcases e0 with e0 | e0
 ·have h0:(evX cx (evE k cx) e m (aa H) K X).tt L:=h0
  rw [e0] at h0
  exact fun s S=>wpAny_mono (h h0 (fun v H1 h1=>h1) x s S) (fun y s1 p=>p.el fun v H1 T1 S1 r1 q1=>(Nz C.O q1 q S1 r1).back T1) fun _ _ p=>p
 ·have h0:(evX cx (evE k cx) e m (aa H) K X).tt L:=h0
  rw [e0] at h0
  exact h h0 q x
theorem PLs.g {es:List Expr}(h:PLs n cx k es) (C:Cn fm cx n):∀ e∈es,sZ fm (evE k cx e) e:=fun e he=>(h.all e he fm C).a
theorem PLs.x {es:List Expr}(h:PLs n cx k es) (C:Cn fm cx n):∀ e∈es,sZ fm (fun α=>evX (α:=α) cx (evE k cx) e) e:=fun e he=>vL C (h.all e he fm C).a
theorem IS {a pos}:PE n cx (k+1) (.Constant .none a pos):=.of (fun _=>rfl) fun fm C _ _ _ _ _ _ _ _ h q _=>Id (q _ _ h)
theorem IT {b a pos}:PE n cx (k+1) (.Constant (.bool b) a pos):=.of (fun _=>rfl) fun fm C _ _ _ _ _ _ _ _ h q _=>Ie (q _ _ h)
theorem Lu {b a pos}:PE n cx (k+1) (.Constant (.int b) a pos):=.of (fun _=>rfl) fun fm C _ _ _ _ _ _ _ _ h q _=>KS (q _ _ h)
theorem Lv {b a pos} (hl:Nat.ble b.length big=true):PE n cx (k+1) (.Constant (.str b) a pos):=.of (fun _=>rfl) fun fm C _ _ _ _ _ _ _ _ h q _=>KT (aX hl) (q _ _ h)
theorem nt {b:Bool}(h:(!b)=true):b=false:=by cases b <;> first | rfl | exact ff h
theorem gV {x:Str}(h:cx.isVar x=true):cx.names[gF cx.names x]? = some x∧(cx.kinds.lookup x=some .local∨cx.kinds.lookup x=some .cell)∧(x==("__debug__":Str))=false :=
 ⟨eq_of_beq (an (an h).1).1,(Bool.or_eq_true_iff.mp (an (an h).1).2).imp eq_of_beq eq_of_beq,nt (an h).2⟩
theorem bj {x:Str}(C:Cn fm cx n) (h:cx.isGlob x=true):fm.env.kindOf x=some .globalImplicit∧(x==("__debug__":Str))=false:=⟨(C.kindOf x).trans (eq_of_beq (an h).1),nt (an h).2⟩
theorem IU {y:Str}{pos:Pos}(hy:cx.isVar y=true):PE n cx (k+1) (.Name y pos) :=
 .of (fun _=>rfl) fun fm C _ _ _ _ _ _ _ _ h q _=>ae h fun v hv hk=>KU C.O (C.names ▸ (gV hy).1) (C.kindOf y ▸ (gV hy).2.1) (gV hy).2.2 hv (q _ _ hk)
variable {l r t o:Expr}{pos p apos:Pos}
theorem Lw {op} (h1:PE n cx k l) (h2:PE n cx k r):PE n cx (k+1) (.BinOp l op r pos) :=
 .of (fun _=>rfl) fun fm C _ _ _ _ _ _ _ _ h q x=>KV ((h1 fm C).a h (fun va H1 h=>(h2 fm C).a h (fun vb H2 h s xa xb S ra rb=>ae h fun v hv hk=>K5 hv S ra rb (q _ _ hk)) x) x)
theorem nG {G:AH}{b b':Bool}(h:l7 G (.bool b)=some b'):b'=b:=(sj h).symm
theorem Lx {G:AH}{a v:V}(h:unV G .Not a=some v):∃ b,l7 G a=some b∧v=.bool (!b):=by
 unfold unV unC at h
 unfold l7
 cases e:Fv G a with
 | none=>rw [e] at h; exact nS h
 | some b=>rw [e] at h; exact ⟨b.1,rfl,(sj h).symm⟩
theorem NA {op} (h1:PE n cx k l):PE n cx (k+1) (.UnaryOp op l pos):=by
 have z:∀ op fm,Cn fm cx n→sZ fm (evE (k+1) cx (.UnaryOp op l pos)) (.UnaryOp op l pos):=fun op fm C _ _ _ _ _ _ _ _ h q x =>
  Nc ((h1 fm C).a h (fun va H1 h s xa S ra=>ae h fun v hv hk=>Nf (fm:=fm) hv C.O rfl S ra (q _ _ hk)) x)
 cases op with
 | Not=>exact fun fm C=>⟨z _ fm C,fun h q x=>KZ ((h1 fm C).t h (fun va H1 h=>ae h fun v hv hk=>ae (Lx hv) fun b hb e=>⟨b,hb,ae (q _ _ hk) fun b' hb' hq=>by
   subst e
   exact nG hb' ▸ hq⟩) x)⟩
 | _=>exact .of (fun _=>rfl) (z _)
theorem Ly {op} (hm:behindInMarks op r=false) (h1:PE n cx k l) (h2:PE n cx k r):PE n cx (k+1) (.Compare l [op] [r] pos):=fun fm C =>
 ⟨fun h q x=>Lq C.O C.hu hm ((h1 fm C).a h (fun va H1 h=>(h2 fm C).a h (fun vb H2 h=>ae h fun b hb hk=>⟨b,hb,q _ _ hk⟩) x) x),
  fun h q x=>Lr C.O C.hu hm ((h1 fm C).a h (fun va H1 h=>(h2 fm C).a h (fun vb H2 h=>ae h fun b hb hk=>⟨b,hb,ae (q _ _ hk) fun b' hb' hq=>nG hb' ▸ hq⟩) x) x)⟩
theorem IV {o₁ o₂} (hm:behindInMarks o₂ t=false) (h1:PE n cx k l) (h2:PE n cx k r) (h3:PE n cx k t):PE n cx (k+1) (.Compare l [o₁,o₂] [r,t] pos):=fun fm C =>
 ⟨fun h q x=>IK C.O C.hu hm ((h1 fm C).a h (fun va H1 h=>(h2 fm C).a h (fun vb H2 h=>ae h fun b hb hk=>⟨b,hb,fun e=>by subst e; exact (h3 fm C).a hk (fun vc H3 h=>ae h fun b hb hk=>⟨b,hb,q _ _ hk⟩) x,fun e=>by subst e; exact q _ _ hk⟩) x) x),
  fun h q x=>IL C.O C.hu hm ((h1 fm C).a h (fun va H1 h=>(h2 fm C).a h (fun vb H2 h=>ae h fun b hb hk=>⟨b,hb,fun e=>by subst e; exact (h3 fm C).a hk (fun vc H3 h=>ae h fun b hb hk=>⟨b,hb,ae (q _ _ hk) fun b' hb' hq=>nG hb' ▸ hq⟩) x,fun e=>by
   subst e; exact ae (q _ _ hk) fun b' hb' hq=>nG hb' ▸ hq⟩) x) x)⟩
theorem s5 {α:Type}{L:α→Prop}{K:Bool→AH→Tr α}{Q:Bool→MH→Prop}(q:∀ b H',(K b (aa H')).tt L→Q b H'):KB L (tst K) Q:=fun v H' h=>ae h fun b hb hk=>⟨b,hb,q _ _ hk⟩
theorem Lz (ht:PE n cx k t) (ha:PE n cx k l) (hb:PE n cx k r):PE n cx (k+1) (.IfExp t l r pos):=fun fm C =>
 ⟨fun h q x=>KY ((ht fm C).t h (s5 fun c H1 h=>by
   cases c with
   | true=>exact (ha fm C).a h q x
   | false=>exact (hb fm C).a h q x) x),
  fun h q x=>K3 ((ht fm C).t h (s5 fun c H1 h=>by
   cases c with
   | true=>exact (ha fm C).t h q x
   | false=>exact (hb fm C).t h q x) x)⟩
theorem IW (hs:g7 r=true) (h1:PE n cx k l) (h2:PE n cx k r):PE n cx (k+1) (.Subscript l r pos) :=
 .of (fun _=>rfl) fun fm C α L m H K X Q QE h q x=>IM C.O hs ((h1 fm C).a (K:=fun a G=>evE k cx r α m G (fun b G=>.aO (aF G a b) fun v=>K v G) X) (by cases r <;> first | exact ff hs | exact h) (fun va H1 h=>(h2 fm C).a h (fun vb H2 h=>ae h fun v hv hk=>⟨v,hv,q _ _ hk⟩) x) x)
theorem Bz {o:Expr}(h:fA o=true) (nm:Str) (pos:Pos) (env:Env):eval (.Attribute o nm pos) env=(do let x ← eval o env; standAt pos.atName; let r ← holding [x] (getAttr x nm true); letTemporaryGo o x r; pure r):=by
 cases o <;> first | exact ff h | rfl
theorem IX {nm} (h0:fA l=true) (h1:PE n cx k l):PE n cx (k+1) (.Attribute l nm pos) :=
 .of (fun _=>rfl) fun fm C _ _ _ _ _ _ _ _ h q x=>IN C.O (Bz h0 ..) ((h1 fm C).a h (fun va H1 h=>ae h fun v hv hk=>⟨v,hv,q _ _ hk⟩) x)
theorem LA {es a} (h0:Nat.ble es.length 1000=true) (h:PLs n cx k es):PE n cx (k+1) (.Tuple es a pos) :=
 .of (fun _=>rfl) fun fm C _ _ _ _ _ _ _ _ h1 q x=>F0 (lS x h.star (h.g C) h1 fun vs H1 hl hk=>⟨hl ▸ aX h0,q _ _ hk⟩)
theorem LB {es} (h0:Nat.ble es.length 1000=true) (h:PLs n cx k es):PE n cx (k+1) (.List es pos) :=
 .of (fun _=>rfl) fun fm C _ _ _ _ _ _ _ _ h1 q x=>Ls (lS x h.star (h.g C) h1 fun vs H1 hl hk=>⟨hl ▸ aX h0,q _ _ hk⟩)
theorem IY {kv e es fs} (hd:f9 (e::es) fs=some kv) (hz:kv.2.all (fun x=>Nat.ble x.length big)=true) (hn:decide kv.1.Nodup=true) (hlen:Nat.ble kv.1.length 15=true):PE n cx (k+1) (.Dict (e::es) fs pos) :=
 .of (fun _=>rfl) fun fm C α L m H K X Q QE h q x=>F2 C.O hd hz hn hlen (q _ _ (by
  have h:(match f9 (e::es) fs with
   | some (ks,vs)=>K (.dS ks (vs.map .str)) (aa H)
   | none=>.no).tt L:=h
  rw [hd] at h; exact h))
noncomputable abbrev PP (n:Nat) (cx:Cx) (k:Nat):Option Expr→Prop
 | none=>True
 | some e=>PE n cx k e
theorem xw {α:Type}{L:α→Prop}{m:LV}{H:MH}{x:Option Expr}{K:Option V→AH→Tr α}{X:XT α}{Q:Option V→MH→Prop}{QE:QX}(C:Cn fm cx n) (hp:PP n cx k x) (h:(evP (evE k cx) x m (aa H) K X).tt L) (q:∀ v H',(K v (aa H')).tt L→Q v H') (qx:KX L X QE) :
  EP fm x (ba m) H Q QE:=by
 cases x with
 | none=>exact IP (q _ _ h)
 | some e=>exact IQ ((hp fm C).a h (fun v H1 h=>q _ _ h) qx)
theorem F4 {l u s} (h1:PE n cx k o) (hl:PP n cx k l) (hu:PP n cx k u) (hs:PP n cx k s):PE n cx (k+1) (.Subscript o (.Slice l u s p) pos) :=
 .of (fun _=>rfl) fun fm C _ _ _ _ _ _ _ _ h q x=>F1 (vL C (h1 fm C).a h (fun va H1 h=>xw C hl h (fun vl H2 h=>xw C hu h (fun vu H3 h=>xw C hs h (fun vs H4 h=>ae h fun v hv hk=>⟨v,hv,q _ _ hk⟩) x) x) x) x)
noncomputable abbrev IZ (k:Nat) (cx:Cx) (op:BoolOp) (es:List Expr):ET:=fun α=>evA (α:=α) (evE k cx) op es
theorem QZ {b:Bool}(e:(b==Kn .And)=b):True:=trivial
theorem BA {n cx k}:∀ {es:List Expr},(∀ e∈es,PE n cx k e)→∀ fm,Cn fm cx n→(∀ pos,sZ fm (IZ k cx .And es) (.BoolOp .And es pos))∧∀ {α:Type}{L:α→Prop}{m:LV}{H:MH}{K:V→AH→Tr α}{X:XT α}{Q:Bool→MH→Prop}{QE:QX},(IZ k cx .And es α m (aa H) K X).tt L→KB L K Q→KX L X QE→wX fm .And es (ba m) H Q QE
 | [],_,_,_=>⟨fun _ _ _ _ _ _ _ _ _ h=>h.elim,fun h=>h.elim⟩
 | [e],h,fm,C=>⟨fun pos _ _ _ _ _ _ _ _ h0 q x s S=>BoolOp_one ((h e (.head _) fm C).a h0 q x s S),fun h0 q x=>zo ((h e (.head _) fm C).t h0 (fun v H' hv=>ae (q v H' hv) fun b hb hq=>⟨b,hb,by
   cases b with
   | true=>exact wY hq
   | false=>exact hq⟩) x)⟩
 | e::e'::r,h,fm,C =>
  have ih:=BA (es:=e'::r) (fun e he=>h e (.tail _ he)) fm C
  ⟨fun pos _ _ _ _ _ _ _ _ h0 q x=>KW ((h e (.head _) fm C).a h0 (fun v H' hv=>ae hv fun b hb hk=>⟨b,sP C.O hb,by
   cases b with
   | true=>exact ih.1 pos hk q x
   | false=>exact q _ _ hk⟩) x),fun h0 q x=>zo ((h e (.head _) fm C).t h0 (fun v H' hv=>ae hv fun b hb hk=>⟨b,hb,by
   cases b with
   | true=>exact ih.2 hk q x
   | false=>exact ae (q _ _ hk) fun b' hb' hq=>(by cases b' <;> first | exact hq | exact ff (sj (hb.symm.trans hb')) | exact tf (sj (hb.symm.trans hb')))⟩) x)⟩
theorem F5 {n cx k}:∀ {es:List Expr},(∀ e∈es,PE n cx k e)→∀ fm,Cn fm cx n→(∀ pos,sZ fm (IZ k cx .Or es) (.BoolOp .Or es pos))∧∀ {α:Type}{L:α→Prop}{m:LV}{H:MH}{K:V→AH→Tr α}{X:XT α}{Q:Bool→MH→Prop}{QE:QX},(IZ k cx .Or es α m (aa H) K X).tt L→KB L K Q→KX L X QE→wX fm .Or es (ba m) H Q QE
 | [],_,_,_=>⟨fun _ _ _ _ _ _ _ _ _ h=>h.elim,fun h=>h.elim⟩
 | [e],h,fm,C=>⟨fun pos _ _ _ _ _ _ _ _ h0 q x s S=>BoolOp_one ((h e (.head _) fm C).a h0 q x s S),fun h0 q x=>CA ((h e (.head _) fm C).t h0 (fun v H' hv=>ae (q v H' hv) fun b hb hq=>⟨b,hb,by
   cases b with
   | true=>exact hq
   | false=>exact zn hq⟩) x)⟩
 | e::e'::r,h,fm,C =>
  have ih:=F5 (es:=e'::r) (fun e he=>h e (.tail _ he)) fm C
  ⟨fun pos _ _ _ _ _ _ _ _ h0 q x=>Nd ((h e (.head _) fm C).a h0 (fun v H' hv=>ae hv fun b hb hk=>⟨b,sP C.O hb,by
   cases b with
   | true=>exact q _ _ hk
   | false=>exact ih.1 pos hk q x⟩) x),fun h0 q x=>CA ((h e (.head _) fm C).t h0 (fun v H' hv=>ae hv fun b hb hk=>⟨b,hb,by
   cases b with
   | true=>exact ae (q _ _ hk) fun b' hb' hq=>(by cases b' <;> first | exact hq | exact tf (sj (hb.symm.trans hb')))
   | false=>exact ih.2 hk q x⟩) x)⟩
theorem LC {op es} (h:PLs n cx k es):PE n cx (k+1) (.BoolOp op es pos):=fun fm C=>by
 cases op with
 | And=>exact ⟨fun h0 q x=>(BA h.all fm C).1 pos h0 q x,fun h0 q x=>Fh ((BA h.all fm C).2 h0 q x)⟩
 | Or=>exact ⟨fun h0 q x=>(F5 h.all fm C).1 pos h0 q x,fun h0 q x=>Fh ((F5 h.all fm C).2 h0 q x)⟩
end
end
end Mine
end
section
open PySem PySem.W PyProof.Rows Builtin.Str Builtin Builtin.ObjectAttr
set_option maxRecDepth 100000
set_option genSizeOf false
set_option genInjectivity false
namespace Mine
section
theorem j1.mono {n:Nat}{f:Addr}{vs:List V}{H:MH}{Q Q':QV}{QE QE':QX}(h:j1 n f vs H Q QE) (q:∀ v H',Q v H'→Q' v H') (x:∀ ks us H',QE ks us H'→QE' ks us H'):j1 n f vs H Q' QE':=fun fm m s xs O hh R S r =>
 codeAny_mono (h fm m s xs O hh R S r) fun r s' z=>by
  cases r with
  | error e=>exact PX.mono z x
  | ok f=>cases f with
   | ret v=>exact PV.el z fun v H' a b c d=>⟨v,H',a,b,c,q _ _ d⟩
   | _=>exact z
section
variable {fm:Fm}{cx:Cx}{n k:Nat}{α:Type}{L:α→Prop}{K:V→AH→Tr α}{X:XT α}{Q:QV}{QE:QX}{m:Loc}{H:MH}{s:Shared}
theorem F6 {r:Res}{G':AH}(hk:(zK K X r G').tt L) (q:KQ L K Q) (v:V) (H':MH) (e:r=.ok v∧aa H'=G'):Q v H':=by
 obtain ⟨e,g⟩:=e
 subst e g
 exact q _ _ hk
theorem BB {r:Res}{G':AH}(hk:(zK K X r G').tt L) (x:KX L X QE) (ks:List Str) (us:List V) (H':MH) (e:r=.ex ks us∧aa H'=G'):QE ks us H':=by
 obtain ⟨e,g⟩:=e
 subst e g
 exact x _ _ _ hk
theorem zP {a:Addr}{vs:List V}{xs:List Value}{r:Res}{G':AH}(C:Cn fm cx n) (h:j1 n a vs H (fun v H'=>r=.ok v∧aa H'=G') (fun ks us H'=>r=.ex ks us∧aa H'=G')) (hk:(zK K X r G').tt L) (q:KQ L K Q) (x:KX L X QE) (S:Sat fm m H s) (rl:fm.RL H s.heap vs xs) :
  OW fm (call (.ref a) xs) m H Q QE s:=wpAny_call (h.mono (F6 hk q) (BB hk x) fm _ s xs C.O C.hh C.room.room S rl)
theorem CO (C:Cn fm cx n) {F:Fn}{g:Str}(hF:F∈TAB) (hn:F.name=g) (hg:cx.isGlob g=true):gu fm g (.ref F.addr):=hn ▸ DJ C.O hF (bj C (hn ▸ hg)).1 (bj C (hn ▸ hg)).2
variable {g:Str}{args:List Expr}{p pos apos:Pos}
theorem PJ {f:FS}{c:HC f}(hl:lkF cx.fns g=some (.h f c)) (hg:cx.isGlob g=true) (h:PLs n cx k args):PE n cx (k+1) (.Call (.Name g p) args [] pos):=.of (fun _=>rfl) fun fm C α L m H K X Q QE h0 q x=>by
 have h0:(uS (lkF cx.fns g) cx (evE k cx) g args m (aa H) K X).tt L:=h0
 rw [hl] at h0
 refine dA (C.fns g _ hl) fun F hF hn hc=>rP (CO C hF hn hg) h.star (lS x h.star (h.g C) h0 fun vs H1 _ h1 s xs S rl=>cN h1 fun r G' hr hk=>zP C (hc vs H1 r G' hr) hk q x S rl)
theorem PK {f:FP}{c:PC f}(hl:lkF cx.fns g=some (.p f c)) (hg:cx.isGlob g=true) (h:PLs n cx k args):PE n cx (k+1) (.Call (.Name g p) args [] pos):=.of (fun _=>rfl) fun fm C α L m H K X Q QE h0 q x=>by
 have h0:(uS (lkF cx.fns g) cx (evE k cx) g args m (aa H) K X).tt L:=h0
 rw [hl] at h0
 refine dA (C.fns g _ hl) fun F hF hn hc=>rP (CO C hF hn hg) h.star (lS x h.star (h.x C) h0 fun vs H1 _ h1 s xs S rl=>ae h1 fun r hr hk=>zP C (hc vs H1 r hr) hk q x S rl)
theorem DW {x:Str}(h:x∈fZ):∃ g,bootBuiltins x=some g∧∀ a,g≠.ref a:=by
 have k:fZ.all (fun x=>match bootBuiltins x with | some (.ref _)=>false | some _=>true | Option.none=>false)=true:=by decide +kernel
 have:=List.all_eq_true.mp k x h
 cases e:bootBuiltins x with
 | none=>rw [e] at this; exact ff this
 | some g=>exact ⟨g,rfl,fun a q=>by rw [e,q] at this; exact ff this⟩
theorem LD (hl:lkF cx.fns g=none) (h0:fZ.contains g=true) (h1:sV FT g=true) (h2:cU g aI=false) (hg:cx.isGlob g=true) (h:PLs n cx k args):PE n cx (k+1) (.Call (.Name g p) args [] pos):=.of (fun _=>rfl) fun fm C α L m H K X Q QE h' q x=>by
 have h':(uS (lkF cx.fns g) cx (evE k cx) g args m (aa H) K X).tt L:=h'
 rw [hl] at h'
 simp only [uS,h1,h2,cif] at h'
 have hb:=List.contains_iff_mem.mp h0
 refine ae (DW hb) fun v hv hr=>rP (jo C.O hb hv hr (bj C hg).1 (bj C hg).2) h.star (lS x h.star (h.g C) h' fun vs H1 _ h1 s xs S rl=>ae h1 fun w hw hk=>Lf hw hv C.hh rfl S rl (q _ _ hk))
theorem F7 {l:Expr}{p':Pos}(hl:lkF cx.fns aI=none) (h1:cx.isGlob aI=true) (h2:cx.isGlob sW=true) (h3:bb [l]=true) (h:PE n cx k l):PE n cx (k+1) (.Call (.Name aI p) [l,.Name sW p'] [] pos):=.of (fun _=>rfl) fun fm C α L m H K X Q QE h0 q x=>by
 have h0:(uS (lkF cx.fns aI) cx (evE k cx) aI [l,.Name sW p'] m (aa H) K X).tt L:=h0
 rw [hl] at h0
 exact F3 C.O (bj C h1).1 (bj C h2).1 h3 ((h fm C).a h0 (fun v H1 h1=>ae h1 fun b hb hk=>⟨b,hb,q _ _ hk⟩) x)
theorem I0 {G G':AH}{u:V}{f:List V→List V→Option (List V)}{vs:List V}{P:Prop}(h:nC G u f vs=some G') (c:∀ i us ws,u=.ref i→G[i]? = some (.list us)→f us vs=some ws→G.set i (.list ws)=G'→P):P:=by
 unfold nC at h
 cases u with
 | ref i =>
  cases e:G[i]? with
  | none=>simp only [e] at h; exact nS h
  | some ao =>
   cases ao with
   | list us =>
    simp only [e] at h
    cases e2:f us vs with
    | none=>rw [e2] at h; exact nS h
    | some ws=>rw [e2] at h; exact c i us ws rfl e e2 (sj h)
   | _=>simp only [e] at h; exact nS h
 | _=>exact nS h
theorem I1 {l:Expr}{nm:Str}(h0:fA l=true) (hi:cU nm qE=false) (h1:(apos.endLine==pos.line)=true) (h2:Nat.blt args.length 20=true) (h3:PE n cx k l) (h:PLs n cx k args) :
  PE n cx (k+1) (.Call (.Attribute l nm apos) args [] pos):=.of (fun _=>rfl) fun fm C α L m H K X Q QE h' q x=>by
 have h':(evM cx (evE k cx) l nm args m (aa H) K X).tt L:=h'
 unfold evM at h'
 rw [hi] at h'
 refine It h.star (Nat.le_of_ble_eq_true h2) h1 h0 ((h3 fm C).a h' (fun ov H1 h1=>?_) x)
 refine ae h1 fun kk hm h1=>⟨kk,hm,?_⟩
 have h1:(cif kk.mut (evL (evE k cx) args m (aa H1) (fun vs G=>.aH (nC G ov (oX kk) vs) fun G=>K .none G) X) (evL (fun e _=>evX cx (evE k cx) e) args m (aa H1) (fun vs G=>.aO (eQ kk ov vs) fun v=>K v G) X)).tt L:=h1
 cases hk:kk.mut with
 | true =>
   rw [hk] at h1
   exact lS x h.star (h.g C) h1 fun vs H2 _ h2 s xo xs S ro rl=>ae h2 fun G' hp hq=>I0 hp fun i us ws e1 e2 e3 e4=>by
    subst e1
    exact Lk e3 C.O S e2 ro rl fun H' g=>q _ _ (by rw [g,e4]; exact hq)
 | false =>
   rw [hk] at h1
   exact lS x h.star (h.x C) h1 fun vs H2 _ h2 s xo xs S ro rl=>ae h2 fun v hv hq=>Iv hv S ro rl (q _ _ hq)
end
end
section
section
variable {prog:Program}{w:World}{A:Around}{R:Result→Shared→Prop}{h:Heap}{g:Array GenState}{d:Drawn}{t:Nat}{os:OsState}
noncomputable abbrev cW (rest:List Value):Obj:={ cls:=.type "tuple",data:=.seq rest.toArray }
noncomputable abbrev fG (C t:Addr):Obj:={ cls:=.ref C,data:=.fields #[.ref t,.none,.none,.none,.bool false,.none] }
theorem F8 {rest:List Value}{init:Value}(Y:de h) (hi:Looks (model prog w) h (typeLookup (.ref ai) "__init__") (some init))
  (hb:∀ self,Looks (model prog w) h (bindSpecial init self) (init,[self])) (hrest:rest.length≤100)
  (hq:codeAny (model prog w) (A.under (.builtin "type.__call__" ⟨.ref ai::rest,[]⟩)) (.call init ⟨.ref (h.objs.size+1)::rest,[]⟩) (InitBack (h.objs.size+1) R) ⟨(h.push (cW rest)).push (fG ai h.objs.size),g,d,t,os⟩) :
  codeAny (model prog w) A (.call (.ref ai) ⟨rest,[]⟩) R ⟨h,g,d,t,os⟩:=by
 refine Y.el fun nm q N bs hdct sn sub ab col dd k0 k1 k2 k3 k5 hC=>?_
 have f1:=tc_lookup
 have f2:=tc_bind (.ref ai)
 have hT:(⟨h,g,d,t,os⟩:Shared).TypeIs (.ref ai) "type":=⟨_,hC,rfl⟩
 have F:=PySem.F.excBase_Exception
 have hsz:rest.length≤sizeLine:=by rw [sizeLine_eq]; exact Nat.le_trans hrest (by decide)
 refine codeAny_of_tree ?_
 show wpAny _ _ (callAny (.ref ai) _) _ _ _
 repeat (any_goals (first | assumption | with_reducible refine wpAny_loadPart_at hC ?_ | wp_step))
 refine ⟨rfl,?_⟩
 refine codeAny_call_builtin_at (Code.quiet_builtin _ (by decide +kernel)) entry_typeCall (wpAny_check_type_call_sub hC ?_)
 unfold Builtin.«type.__call__»
 repeat (first | with_reducible refine wpAny_loadPart_at hC ?_ | with_reducible refine wpAny_madeBy_exc hC ?_ | wp_step)
 refine codeAny_call_builtin_code (Code.quiet_builtin _ F.quiet) (wpAny_check_new_sub F hC ?_)
 refine codeAny_exc_new_sub F hC ?_ hsz
 show wpAny _ _ _ _ _ _
 have hC₁:=Heap.get?_push_of_some (fG ai h.objs.size) (Heap.get?_push_of_some (cW rest) hC)
 have k:∀ b o,h.get? b=some o→((h.push (cW rest)).push (fG ai h.objs.size)).get? b=some o:=fun b o e=>Heap.get?_push_of_some _ (Heap.get?_push_of_some _ e)
 have hget:((h.push (cW rest)).push (fG ai h.objs.size)).get? (h.objs.size+1)=some (fG ai h.objs.size):=by heap_get
 have hcC:(Value.ref ai::oJ).contains (.ref ai)=true:=by simp
 have i1:=hi.keeps k
 have b1:=(hb (.ref (h.objs.size+1))).keeps k
 unfold isInstance
 repeat (first | with_reducible refine wpAny_loadPart_at hget ?_ | (with_reducible refine wpAny_isSubtype_exc hC₁ ?_; rw [hcC]) | wp_step)
 show wpAny _ _ (isSubtype (.ref ai) (.ref ai)) _ _ _
 refine wpAny_isSubtype_exc hC₁ ?_
 rw [hcC]
 rw [if_neg (by decide)]
 have t1:Looks (model prog w) ((h.push (cW rest)).push (fG ai h.objs.size)) (typeOf (.ref (h.objs.size+1))) (.ref ai):=(Looks.ld hget).andThen .now
 show wpAny _ _ (holding [.ref (h.objs.size+1)] (callSpecial? (.ref (h.objs.size+1)) "__init__" rest []) >>= _) _ _ _
 unfold callSpecial? specialOf
 refine wpAny_bind (wpAny_holding (wpAny_bind (wpAny_bind (t1.at (i1.at ?_)))))
 dsimp only
 refine wpAny_holding (wpAny_bind (b1.at ?_))
 refine wpAny_bind (wpAny_call (codeAny_mono hq fun r s' z=>?_))
 rcases r with e | (v | _ | _ | _) <;> first | exact z | exact z.elim | skip
 obtain ⟨rfl,z⟩:=z
 exact wpAny_pure (wpAny_pure z)
end
noncomputable abbrev iL (C:Addr) (rest:List Value):Code:=.builtin "type.__call__" ⟨.ref C::rest,[]⟩
theorem F9 (A:Around) (C:Addr) (rest:List Value):(A.under (iL C rest)).handled=A.handled∧(A.under (iL C rest)).frames=A.frames∧(A.under (iL C rest)).depth=A.depth+1∧(A.under (iL C rest)).units≤A.units+4:=by
 refine ⟨rfl,rfl,?_,?_⟩
 ·show A.depth+Code.weight _=_
  rfl
 ·show A.units+Code.cUnits _≤_
  have:(iL C rest).cUnits=1:=rfl
  rw [this]; exact Nat.add_le_add_left (by decide) _
noncomputable def Fm.up (fm:Fm) (A:Around):Fm:={ fm with A:=A }
section
variable {fm:Fm}{cx:Cx}{n k:Nat}{m:Loc}{H:MH}{s:Shared}{A:Around}
theorem ay.up (O:ay fm) (hf:A.frames=fm.A.frames):ay (fm.up A) :=
 ⟨hf.trans O.frames,O.kind,O.glob,O.blt,O.locals,O.cellsOwn,O.cellsInj,O.names,O.ownBase,O.ownFm,O.outsFm,O.ownOuts,O.frIn,O.frEnv,O.wd,O.fenvsIn⟩
theorem Sat.up (S:Sat fm m H s):Sat (fm.up A) m H s:=⟨S.base,S.funs,S.ns,S.cells,S.vars,S.objs,S.nodup,S.apart,S.alive,S.gens,S.os,S.drawn⟩
theorem Sat.down (S:Sat (fm.up A) m H s):Sat fm m H s:=⟨S.base,S.funs,S.ns,S.cells,S.vars,S.objs,S.nodup,S.apart,S.alive,S.gens,S.os,S.drawn⟩
theorem af.down {H':MH}{h h':Heap}(T:af (fm.up A) H h H' h'):af fm H h H' h':=⟨T.keep,T.outs,T.pre⟩
theorem mf (O:ay fm) {K:Frag}(hK:K.In fm.base) {x:Str}{C:Addr}(hx:∀ mg:Str→Option Value,mg "Raised"=some (.ref ai)→mg "Options"=some (.ref ak)→mg x=some (.ref C)) (hkp:keepIn K (.ref C)=true)
  (hk:fm.env.kindOf x=some .globalImplicit) (hd:(x==("__debug__":Str))=false):gu fm x (.ref C) where
 read:=fun m H s pos Q E S q=>by
  refine E1 O.wd.glob fun mg h1 h2 h3 h4 _=>?_
  exact Calls.Name_function_global O.kind hk (Calls.loadGlobal_global (by rw [O.glob]; exact h1.keeps S.base) (hx mg h3 h4) q) hd
 keep:=fun h k=>keeps_K hkp h (hK.keeps k)
theorem CP {u:V}(h:bg u=true):u=.none:=by cases u <;> first | rfl | exact ff h
theorem vM (C:Cn fm cx n) {i:Nat}{a fa C0:Addr}{vs:List V}{xs xs':List Value}{H0 H1:MH}{h0:Heap}{s1:Shared}{Q1 Q:QV}{X1 QE:QX}(h:j1 n fa (.ref i::vs) H1 Q1 X1) (q:∀ u H',Q1 u H'→bg u=true∧Q (.ref i) H') (x:∀ ks us H',X1 ks us H'→QE ks us H')
  (T1:af fm H0 h0 H1 s1.heap) (S1:Sat fm m H1 s1) (el:(bC H1)[i]? = some a) (rl:fm.RL H1 s1.heap vs xs) :
  codeAny fm.M (fm.A.under (iL C0 xs')) (.call (.ref fa) ⟨.ref a::xs,[]⟩) (InitBack a (fun r s'=>match r with | .ok (.ret v)=>PV fm m H0 h0 Q v s' | .ok _=>False | .error e=>PX fm m H0 h0 QE e s')) s1:=by
 refine uO (F9 fm.A C0 xs') fun u1 u2 u3 u4=>?_
 have hr:uQ n (fm.up (fm.A.under (iL C0 xs'))).A:=by
  have:=C.room
  unfold uQ qu at *
  show (fm.A.under (iL C0 xs')).depth+_<_∧(fm.A.under (iL C0 xs')).units+_<_
  exact ⟨by rw [u3,Nat.add_right_comm]; exact Nat.lt_trans (Nat.lt_succ_self _) this.1,Nat.lt_of_le_of_lt (Nat.le_trans (Nat.add_le_add_right u4 _) (by rw [Nat.add_right_comm]; exact Nat.add_le_add_left (by decide:4≤8) _)) this.2⟩
 refine codeAny_mono (h (fm.up (fm.A.under (iL C0 xs'))) m s1 (.ref a::xs) (C.O.up u2) (u1.trans C.hh) hr S1.up (RepL.cons ⟨a,el,rfl⟩ rl)) fun r s' z=>?_
 cases r with
 | error e =>
  obtain ⟨ee,dd,tb,ks,us,H',m',q0,T₂,S₂,ht,g⟩:=z
  exact ⟨ee,dd,tb,ks,us,H',m',q0,T1.trans T₂.down,S₂.down,ht,x _ _ _ g⟩
 | ok fl =>
  cases fl with
  | ret v =>
   obtain ⟨u,H',T₂,S₂,r₂,g⟩:=z
   obtain ⟨e,g'⟩:=q _ _ g
   obtain rfl:=CP e
   exact ⟨r₂,.ref i,H',T1.trans T₂.down,S₂.down,⟨_,T₂.pre _ _ el,rfl⟩,g'⟩
  | _=>exact z.elim
theorem zQ {α:Type}{L:α→Prop}{K:V→AH→Tr α}{X:XT α}{Q:QV}{G':AH}{r:Res}{i:Nat}(hk:(zK (fun u G'=>.aC (bg u) fun c=>cif c (K (.ref i) G') .no) X r G').tt L) (q:KQ L K Q) (u:V) (H':MH) (e:r=.ok u∧aa H'=G'):bg u=true∧Q (.ref i) H':=by
 have h:=F6 (Q:=fun u H'=>(cif (bg u) (K (.ref i) (aa H')) .no).tt L) hk (fun _ _ h=>h) u H' e
 cases hn:bg u with
 | true=>rw [hn] at h; exact ⟨rfl,q _ _ h⟩
 | false=>rw [hn] at h; exact h.elim
variable {args:List Expr}{p pos:Pos}
theorem PM {f:FS}{c:HC f}{g:Str}(hl:lkF cx.fns g=some (.o f c)) (hg:cx.isGlob g=true):PE n cx (k+1) (.Call (.Name g p) [] [] pos):=.of (fun _=>rfl) fun fm C α L m H K X Q QE h0 q x=>by
 have h0:(uS (lkF cx.fns g) cx (evE k cx) g [] m (aa H) K X).tt L:=h0
 rw [hl] at h0
 refine cN h0 fun r G' hr hk=>ar (C.fns g _ hl) fun hn hc=>ae C.O.wd.cls fun K0 hK hf=>?_
 have nm:gu fm g (.ref ak):=mf C.O hK (fun mg _ h=>hn ▸ h) hf.o2 (bj C hg).1 (bj C hg).2
 refine sO nm rfl fun s S=>wpAny_items_nil ⟨S.base,?_⟩
 obtain ⟨h,gg,d,t,os⟩:=s
 have Y:=hK.keeps S.base
 refine wpAny_call (make_core (rest:=[]) (makes_of Y hf.o1) (looks_findIn Y hf.o3) (fun self=>bind_fn Y self hf.o4) (.inl rfl) ?_)
 have hdx:((h.push emptyDict).push (instObj ak h.objs.size)).get? h.objs.size=some emptyDict:=Heap.get?_push_of_some _ (Heap.get?_push_size _ rfl)
 obtain ⟨S1,T1,ea,el⟩:=Sat.grow (a:=h.objs.size+1) (mo:=.inst ak h.objs.size [] []) (s':=⟨(h.push emptyDict).push (instObj ak h.objs.size),gg,d,t,os⟩) C.O S rfl
  (Fj (Heap.get?_none_of_le (Nat.le_succ _)) (aV _)) (List.nodup_cons.mpr ⟨fun q=>Nat.succ_ne_self _ (List.mem_singleton.mp q),sX⟩) (fun b o e=>Heap.get?_push_of_some _ (Heap.get?_push_of_some _ e))
  (fun conv=>⟨by heap_get,[],0,⟨_,#[],hdx,⟨rfl,rfl,rfl⟩,rfl,fun e he=>absurd he (Array.not_mem_empty e),.nil,List.nodup_nil⟩,rfl,RepL.nil⟩) rfl rfl rfl
 exact vM C (hc _ _ r G' (by rw [ea]; exact hr)) (zQ hk q) (BB hk x) T1 S1 el RepL.nil
theorem PN {f:FS}{c:HC f}{g:Str}(hl:lkF cx.fns g=some (.r f c)) (hg:cx.isGlob g=true) (hlen:Nat.ble args.length 20=true) (h:PLs n cx k args):PE n cx (k+1) (.Call (.Name g p) args [] pos):=.of (fun _=>rfl) fun fm C α L m H K X Q QE h0 q x=>by
 have h0:(uS (lkF cx.fns g) cx (evE k cx) g args m (aa H) K X).tt L:=h0
 rw [hl] at h0
 refine ar (C.fns g _ hl) fun hn hc=>ae C.O.wd.cls fun K0 hK hf=>?_
 have nm:gu fm g (.ref ai):=mf C.O hK (fun mg h _=>hn ▸ h) hf.r2 (bj C hg).1 (bj C hg).2
 refine rP nm h.star (lS x h.star (h.g C) h0 fun vs H0 hl1 h1 s xs S rl=>cN h1 fun r G' hr hk=>?_)
 obtain ⟨h',gg,d,t,os⟩:=s
 have Y:=hK.keeps S.base
 refine wpAny_call (F8 (hf.r1 _ Y) (looks_findIn Y hf.r3) (fun self=>bind_fn Y self hf.r4) (rl.length ▸ hl1 ▸ Nat.le_trans (aX hlen) (by decide)) ?_)
 obtain ⟨S1,T1,ea,el⟩:=Sat.grow (a:=h'.objs.size+1) (mo:=.made none [] []) (s':=⟨(h'.push (cW xs)).push (fG ai h'.objs.size),gg,d,t,os⟩) C.O S rfl
  (fun b hb=>List.mem_singleton.mp hb ▸ Heap.get?_none_of_le (Nat.le_succ _)) sX (fun b o e=>Heap.get?_push_of_some _ (Heap.get?_push_of_some _ e))
  (fun conv=>⟨⟨_,_,by heap_get,rfl⟩,rfl,rfl⟩) rfl rfl rfl
 exact vM C (hc _ _ r G' (by rw [ea]; exact hr)) (zQ hk q) (BB hk x) T1 S1 el (T1.repL rl)
end
theorem Ga:typeOf (.type "Exception")=pure (.type "type"):=by kernel_rfl
theorem Gb:Manifest.isStub "Exception"=false:=by decide +kernel
theorem Gc (K:Frag):findCls K (.type "Exception") (.type "type") "__init__"=some (.val (.builtin "Exception.__init__")):=by kernel_rfl
section
variable {prog:Program}{w:World}{A:Around}{E:Value→Shared→Prop}{s:Shared}{K:Frag}
theorem BC {pl:Sem Bool}{Q:Value × List Value→Shared→Prop}(X:K.In s.heap) (h:Q (.builtin "Exception.__init__",[]) { s with toks:=s.toks+1 }):wpAny (model prog w) A (getMethod (.type "Exception") "__init__" pl) Q E s:=by
 have hstub:opaqueClassAbove (.type "Exception")=pure none:=by unfold opaqueClassAbove; dsimp only; rw [Gb]; rfl
 have L0:Looks (model prog w) s.heap (typeOf (.type "Exception")) (.type "type"):=Looks.of_pure Ga
 have hg:findIn K (.type "type") "__getattribute__"=some (some (.builtin "type.__getattribute__")):=type_tga
 unfold getMethod specialOf
 refine wpAny_bind (wpAny_bind (L0.here ((looks_findIn X hg).here ?_)))
 dsimp only
 rw [if_pos canon_tga]
 refine wpAny_bind (wpAny_mono (Q:=fun v=>Q (v,[])) (E:=E) ?_ (fun _ _ z=>wpAny_pure z) fun _ _ z=>z)
 have LO:Looks (model prog w) s.heap (opaqueClassAbove (.type "Exception")) none:=Looks.of_pure hstub
 refine cls_open X LO L0 hg (looks_hook X (r:=none) (by rfl)) (by show subIn K _ _=_; rfl) (Gc K)
  (wpAny_pure (by show wpAny _ _ (handedOut _) _ _ _; rw [handedOut_of (by decide +kernel)]; exact wpAny_pure h))
theorem Gd {e:Addr}{dd:Option Addr}{fs:Array Value}{sl:Array (Option Value)}{v:Value}{Q:Value→Shared→Prop}(Y:de s.heap) (he:s.heap.get? e=some ⟨.ref ai,dd,.fields fs,sl⟩) (h0:0<fs.size)
  (q:Q .none { s with heap:=(s.heap.push (cW [v])).update e (Obj.mapFields (·.setIfInBounds 0 (.ref s.heap.objs.size))) }):wpAny (model prog w) A (call (.builtin "Exception.__init__") [.ref e,v]) Q E s:=by
 obtain ⟨hh,g,d,t,os⟩:=s
 refine Y.el fun nm qq N bs hdct sn sub ab col dd' k0 k1 k2 k3 k5 hC=>?_
 have F:=PySem.F.excBase_Exception
 refine wpAny_call (codeAny_call_builtin F.init.plain F.initEntry (wpAny_check_init_sub F hC he rfl ?_))
 unfold Builtin.«BaseException.__init__»
 have hn:(hh.push (cW [v])).get? e=some ⟨.ref ai,dd,.fields fs,sl⟩:=Heap.get?_push_of_some _ he
 show wpAny _ _ (newTuple [v] >>= fun t=>BaseException.bexcPut (.ref e) 0 t >>= fun _=>ret .none) _ _ _
 unfold newTuple BaseException.bexcPut
 refine wpAny_bind (wpAny_newObj_type ?_)
 refine wpAny_bind (wpAny_bind (wpAny_field hn rfl (Array.getElem?_eq_getElem h0) ?_))
 refine wpAny_bind (wpAny_setField hn rfl h0 ?_)
 generalize fs[0]'h0=old
 cases old <;> first | exact wpAny_letGo (wpAny_pure q) | exact wpAny_pure (wpAny_pure q)
end
section
variable {fm:Fm}{cx:Cx}{n k:Nat}
theorem Ge {G:AH}{u:V}(h:vH G u=true):∃ i ks us,u=.ref i∧G[i]? = some (.exc ks us):=by
 unfold vH at h
 cases u with
 | ref i =>
  cases e:G[i]? with
  | none=>simp only [e] at h; exact ff h
  | some ao=>cases ao with
   | exc ks us=>exact ⟨i,ks,us,rfl,e⟩
   | _=>simp only [e] at h; exact ff h
 | _=>exact ff h
theorem Gf:qE=("__init__":Str):=by decide +kernel
theorem I2 {fs:Array Value}{v:Value}(h:fs[1]? = some v):0<fs.size:=Nat.lt_trans Nat.zero_lt_one (Array.getElem?_eq_some_iff.mp h).1
theorem BD {x y:Expr}{p apos pos:Pos}(h1:cx.isGlob xp=true) (h2:(apos.endLine==pos.line)=true) (h3:bb [x]=true) (h4:bb [y]=true) (h5:PE n cx k x) (h6:PE n cx k y) :
  PE n cx (k+1) (.Call (.Attribute (.Name xp p) qE apos) [x,y] [] pos):=.of (fun _=>rfl) fun fm C α L m H K X Q QE hk q x' s S=>by
 have hk:(evM cx (evE k cx) (.Name xp p) qE [x,y] m (aa H) K X).tt L:=hk
 have nmE:gu fm xp (.type "Exception"):=jo C.O (by decide +kernel) (by decide +kernel) nofun (bj C h1).1 (bj C h1).2
 have hns2:bb [x,y]=true:=vK h3 h4
 have hsx:starEach [x,y] fm.env=[(false,eval x fm.env),(false,eval y fm.env)]:=(dJ hns2).trans rfl
 refine ae C.O.wd.cls fun K0 hK hf=>?_
 rw [arm_eval_Call]
 refine wpAny_bind (nmE.read (ba m) H s p _ _ S (wpAny_bind (wpAny_standAt ?_)))
 have hform:methodCallForm ([x,y].length+([]:List Keyword).length) (backTo pos (starEach [x,y] fm.env)) (backToKw pos (keywordEach [] fm.env))=true:=by rw [hsx]; rfl
 have hpos:methodCallPos true (.Name xp p) fm.env apos pos=pure pos:=by unfold methodCallPos; simp [eq_of_beq h2]
 unfold methodCall
 rw [hform]
 refine wpAny_bind (wpAny_holding ?_)
 rw [Gf]
 refine BC (hK.keeps S.base) ?_
 refine wpAny_bind (wpAny_of_eq hpos ?_)
 have S1:=S.toks (s.toks+1)
 refine callWith_of (P:=fun h=>True) (by rw [hsx]; rfl) (fun h _=>⟨.machine,.inr (.inl rfl),Looks.of_pure rfl⟩) ?_
 have W:LW fm pos [x,y] (ba m) H (fun vs H2=>∃ i vy ks us,vs=[.ref i,vy]∧(aa H2)[i]? = some (.exc ks us)∧Q .none H2) QE :=
  rO ((ct hns2).2 _) ((h5 fm C).a hk (fun vx H1 h=>rO ((ct (show bb [y]=true from h4)).2 _) ((h6 fm C).a h (fun vy H2 h=>Bg (by
   cases e:vH (aa H2) vx with
   | false=>have h:(cif (vH (aa H2) vx) (K .none (aa H2)) .no).tt L:=h; rw [e] at h; exact h.elim
   | true =>
    have h:(cif (vH (aa H2) vx) (K .none (aa H2)) .no).tt L:=h
    rw [e] at h
    exact Dz (Ge e) fun i ks us e1 e2=>⟨i,vy,ks,us,e1 ▸ rfl,e2,q _ _ h⟩)) x')) x')
 have L':=W _ S1
 rw [hsx] at L' ⊢
 refine Calls.evalArgs_plain (wpAny_mono L' (fun xs s2 p=>?_) fun _ _ p=>p.back (af.of_keeps fun _ _ e=>e))
 obtain ⟨vs,H2,T2,S2,r2,i,vy,ks,us,rfl,e,hq⟩:=p
 refine ⟨trivial,rl2 r2 fun y1 y2 ry1 ry2=>ae ry1 fun ad had ey=>?_⟩
 subst ey
 obtain ⟨pre,b,mo,post,rfl,g2,g3,g4,g5⟩:=di e
 obtain rfl:=sj (g4.symm.trans had)
 refine aj (nq g2 g3) fun dd ed=>?_
 subst ed
 refine ar (S2.objs (_,.made dd ks us) (List.mem_append_right _ (.head _))) fun h0 rr=>cN h0 fun fs sl h0 hf1=>?_
 refine Gd (hf.r1 _ (hK.keeps S2.base)) h0 (I2 hf1) ?_
 have hup:=Heap.get?_update_self (Obj.mapFields (·.setIfInBounds 0 (.ref s2.heap.objs.size))) (Heap.get?_push_of_some (h:=s2.heap) (cW [y2]) h0) rfl
 have nd:=xm S2
 have oth:∀ c o,c≠b→s2.heap.get? c=some o→((s2.heap.push (cW [y2])).update b (Obj.mapFields (·.setIfInBounds 0 (.ref s2.heap.objs.size)))).get? c=some o:=fun c o hb e =>
  (Heap.get?_update_ne _ _ _ _ hb).trans (Heap.get?_push_of_some _ e)
 refine ar (Sat.mut (mo':=.made dd ks us) (s':={ s2 with heap:=(s2.heap.push (cW [y2])).update b (Obj.mapFields (·.setIfInBounds 0 (.ref s2.heap.objs.size))) }) C.O S2 rfl (fun b hb=>.inl hb) nd
  (fun c o hb e=>oth c o (fun q=>hb (by rw [q]; exact .head _)) e)
  (fun conv=>⟨⟨_,sl,hup,by rw [Array.getElem?_setIfInBounds_ne (by decide)]; exact hf1⟩,by
   cases dd with
   | none=>exact rr
   | some d=>exact cz rr fun zs ep q1 q2 q3=>⟨zs,ep,bE (fun o=>oth d o (fun q=>(List.nodup_cons.mp nd).1 (q ▸ .head _))) q1,q2,conv q3⟩⟩) rfl rfl rfl) fun S3 T3=>?_
 exact ⟨.none,_,T2.trans T3,S3,rfl,hq⟩
end
end
end Mine
end
section
open PySem PySem.W PyProof.Rows Builtin.Str
set_option maxRecDepth 20000
set_option genSizeOf false
set_option genInjectivity false
namespace Mine
section
theorem o0 {fm:Fm}{h h':Heap}(O:ay fm) (hf:h.FunFrames fm.base fm.fenvs) (kF:∀ L,L∈fm.own∨L∈fm.outs→∀ o,h.get? L=some o→∃ sl,h'.get? L=some { o with slots:=sl }):h'.FunFrames fm.base fm.fenvs:=by
 have hin:=O.fenvsIn
 generalize fm.fenvs=l at hin hf
 induction l with
 | nil=>trivial
 | cons e r ih =>
  refine bW hf fun a z8=>?_; obtain ⟨L,o,h1,h2,h3,h4⟩:=z8; intro h5
  refine aj (kF L ((hin e (.head _) L h1).elim (fun (q:L=fm.fr)=>q ▸ O.frIn) .inr) o h3) fun sl hs=>?_
  exact ⟨a,⟨L,_,h1,h2,hs,h4⟩,ih (fun e he=>hin e (.tail _ he)) h5⟩
noncomputable def Fm.more (fm:Fm) (I:Addr):Fm:={ fm with int:=I::fm.int }
section
variable {fm:Fm}{m:Loc}{H:MH}{s s':Shared}{I:Addr}
theorem dK {a:Addr}:(fm.more I).ok H a↔fm.ok H a∧a≠I:=by
 unfold Fm.ok Fm.more Fm.X
 simp only [List.mem_cons,not_or]
 constructor
 ·rintro ⟨a,b,c⟩; exact ⟨⟨a,c⟩,b⟩
 ·rintro ⟨⟨a,c⟩,b⟩; exact ⟨a,b,c⟩
theorem Gg {H:MH}{h:Heap}{v:V}{x:Value}(r:(fm.more I).R H h v x):fm.R H h v x:=Rep.mono (fun _ _ e=>e) (fun b o e q=>⟨e,(dK.mp q).1⟩) r
theorem I3 {H:MH}{h:Heap}{v:List V}{x:List Value}(r:(fm.more I).RL H h v x):fm.RL H h v x:=RepL.mono (fun _ _ e=>e) (fun b o e q=>⟨e,(dK.mp q).1⟩) r
theorem LF {H:MH}{h h':Heap}{v:V}{x:Value}(hI:h.get? I=none) (k:∀ b o,h.get? b=some o→h'.get? b=some o) (r:fm.R H h v x):(fm.more I).R H h' v x :=
 Rep.mono (fun _ _ e=>e) (fun b o e q=>⟨k b o e,dK.mpr ⟨q,fun z=>nS (hI.symm.trans (z ▸ e))⟩⟩) r
theorem I4 {H:MH}{h h':Heap}{v:List V}{x:List Value}(hI:h.get? I=none) (k:∀ b o,h.get? b=some o→h'.get? b=some o) (r:fm.RL H h v x):(fm.more I).RL H h' v x :=
 RepL.mono (fun _ _ e=>e) (fun b o e q=>⟨k b o e,dK.mpr ⟨q,fun z=>nS (hI.symm.trans (z ▸ e))⟩⟩) r
theorem ay.more (O:ay fm) (hb:fm.base.get? I=none) (ho:I ∉ fm.own) (ho':I ∉ fm.outs):ay (fm.more I) where
 frames:=O.frames
 kind:=O.kind
 glob:=O.glob
 blt:=O.blt
 locals:=O.locals
 cellsOwn:=O.cellsOwn
 cellsInj:=O.cellsInj
 names:=O.names
 ownBase:=fun a ha=>by
  rcases ha with ha | ha | ha
  ·exact O.ownBase a (.inl ha)
  ·exact O.ownBase a (.inr (.inl ha))
  ·rcases List.mem_cons.mp ha with rfl | ha
   ·exact hb
   ·exact O.ownBase a (.inr (.inr ha))
 ownFm:=fun a ha q=>by
  rcases List.mem_cons.mp q with rfl | q
  ·exact ho ha
  ·exact O.ownFm a ha q
 outsFm:=fun a ha q=>by
  rcases List.mem_cons.mp q with rfl | q
  ·exact ho' ha
  ·exact O.outsFm a ha q
 ownOuts:=O.ownOuts
 frIn:=O.frIn
 frEnv:=O.frEnv
 wd:=O.wd
 fenvsIn:=O.fenvsIn
theorem Sat.more (S:Sat fm m H s) (hI:s.heap.get? I=none) (hI':∃ o,s'.heap.get? I=some o) (k:∀ b o,s.heap.get? b=some o→s'.heap.get? b=some o)
  (hg:s'.gens=s.gens) (ho:s'.os=s.os) (hd:s'.drawn=s.drawn):Sat (fm.more I) m H s' where
 base:=fun b o e=>k b o (S.base b o e)
 funs:=S.funs.of_keeps fun b o e _=>⟨o,k b o e,rfl⟩
 ns:=let ⟨mm,n⟩:=S.ns; ⟨mm,n.keeps k⟩
 cells:=fun x c h1 h2=>let ⟨v,o,h3,h4⟩:=S.cells x c h1 h2; ⟨v,o,k _ _ h3,h4⟩
 vars:=fun i x v h1 h2 h3=>let ⟨val,h4,h5⟩:=S.vars i x v h1 h2 h3; ⟨val,h4.keeps k,LF hI k h5⟩
 objs:=fun p hp=>dC.conv (fm:=fm) (fm':=fm.more I) rfl rfl (fun r=>I4 hI k r) (fun b _ o e=>k b o e) (S.objs p hp)
 nodup:=S.nodup
 apart:=fun a ha=>by
  refine uO (S.apart a ha) fun h1 h2 h3 h4=>?_
  refine ⟨h1,h2,fun q=>?_,h4⟩
  rcases List.mem_cons.mp q with rfl | q
  ·exact S.fresh_owned hI ha
  ·exact h3 q
 alive:=fun a ha=>by
  rcases ha with ha | ha | ha
  ·obtain ⟨o,h⟩:=S.alive a (.inl ha); exact ⟨o,k a o h⟩
  ·obtain ⟨o,h⟩:=S.alive a (.inr (.inl ha)); exact ⟨o,k a o h⟩
  ·rcases List.mem_cons.mp ha with rfl | ha
   ·exact hI'
   ·obtain ⟨o,h⟩:=S.alive a (.inr (.inr ha)); exact ⟨o,k a o h⟩
 gens:=hg.trans S.gens
 os:=ho.trans S.os
 drawn:=hd.trans S.drawn
theorem Sat.less (S:Sat (fm.more I) m H s):Sat fm m H s where
 base:=S.base
 funs:=S.funs
 ns:=S.ns
 cells:=S.cells
 vars:=fun i x v h1 h2 h3=>let ⟨val,h4,h5⟩:=S.vars i x v h1 h2 h3; ⟨val,h4,Gg h5⟩
 objs:=fun p hp=>dC.conv (fm:=fm.more I) (fm':=fm) rfl rfl (fun r=>I3 r) (fun b _ o e=>e) (S.objs p hp)
 nodup:=S.nodup
 apart:=fun a ha=>let ⟨h1,h2,h3,h4⟩:=S.apart a ha; ⟨h1,h2,fun q=>h3 (.tail _ q),h4⟩
 alive:=fun a ha=>S.alive a (ha.imp id fun q=>q.imp id fun q=>.tail _ q)
 gens:=S.gens
 os:=S.os
 drawn:=S.drawn
theorem af.more {H':MH}{h h':Heap}(T:af fm H h H' h'):af (fm.more I) H h H' h':=⟨T.keep,T.outs,T.pre⟩
theorem af.less {H':MH}{h h':Heap}(T:af (fm.more I) H h H' h'):af fm H h H' h':=⟨T.keep,T.outs,T.pre⟩
theorem Sat.inner (O:ay fm) (S:Sat fm m H s) (hI:I∈fm.int) (k:∀ b o,b≠I→s.heap.get? b=some o→s'.heap.get? b=some o) (hI':∃ o,s'.heap.get? I=some o)
  (hg:s'.gens=s.gens) (ho:s'.os=s.os) (hd:s'.drawn=s.drawn):Sat fm m H s':=by
 have nb:fm.base.get? I=none:=O.ownBase I (.inr (.inr hI))
 have kR:∀ b o,s.heap.get? b=some o→fm.ok H b→s'.heap.get? b=some o∧fm.ok H b:=fun b o e q=>⟨k b o (fun z=>q.2 (z ▸ hI)) e,q⟩
 have nown:I ∉ fm.own:=fun q=>O.ownFm I q hI
 have nouts:I ∉ fm.outs:=fun q=>O.outsFm I q hI
 refine ⟨fun b o e=>k b o (fun z=>by rw [z,nb] at e; exact nS e) (S.base b o e),?_,?_,?_,?_,?_,S.nodup,S.apart,?_,hg.trans S.gens,ho.trans S.os,hd.trans S.drawn⟩
 ·refine o0 O S.funs fun L hL o e=>⟨o.slots,k L o ?_ e⟩
  exact fun z=>hL.elim (fun q=>nown (z ▸ q)) fun q=>nouts (z ▸ q)
 ·refine aj S.ns fun mm n=>?_
  exact ⟨mm,n.at' fun o e=>k _ o (fun z=>nown (z ▸ O.locals)) e⟩
 ·intro x c h1 h2
  refine cN (S.cells x c h1 h2) fun v o h3 h4=>?_
  exact ⟨v,o,k _ _ (fun z=>by rcases (O.cellsOwn x c h1 h2).1 with q | q; exact nown (z ▸ q); exact nouts (z ▸ q)) h3,h4⟩
 ·intro i x v h1 h2 h3
  refine ae (S.vars i x v h1 h2 h3) fun val h4 h5=>?_
  refine ⟨val,h4.slots fun b o hb e=>⟨o.slots,k b o ?_ e⟩,Rep.mono (fun _ _ e=>e) kR h5⟩
  exact fun z=>hb.elim (fun q=>nown (q.symm.trans z ▸ O.locals)) fun q=>dA q fun c h1 h2 q=>(O.cellsOwn x c h2 h1).1.elim (fun r=>nown (q.symm.trans z ▸ r)) fun r=>nouts (q.symm.trans z ▸ r)
 ·exact fun p hp=>dC.conv rfl rfl (fun r=>RepL.mono (fun _ _ e=>e) kR r) (fun b hb o e=>k b o (fun z=>(S.apart b (bm hp hb)).2.2.1 (z ▸ hI)) e) (S.objs p hp)
 ·intro a ha
  by_cases z:a=I
  ·subst z; exact hI'
  ·refine aj (S.alive a ha) fun o e=>?_; exact ⟨o,k a o z e⟩
theorem Sat.drop (O:ay (fm.more I)) (hn:I ∉ fm.int) (S:Sat (fm.more I) m H s) (k:∀ b o,b≠I→s.heap.get? b=some o→s'.heap.get? b=some o)
  (hg:s'.gens=s.gens) (ho:s'.os=s.os) (hd:s'.drawn=s.drawn):Sat fm m H s':=by
 have inI:I∈(fm.more I).int:=List.mem_cons_self
 have nb:fm.base.get? I=none:=O.ownBase I (.inr (.inr inI))
 have nown:I ∉ fm.own:=fun q=>O.ownFm I q inI
 have nouts:I ∉ fm.outs:=fun q=>O.outsFm I q inI
 have kR:∀ b o,s.heap.get? b=some o→(fm.more I).ok H b→s'.heap.get? b=some o∧fm.ok H b:=fun b o e q=>⟨k b o (dK.mp q).2 e,(dK.mp q).1⟩
 refine ⟨fun b o e=>k b o (fun z=>by rw [z,nb] at e; exact nS e) (S.base b o e),?_,?_,?_,?_,?_,S.nodup,fun a ha=>let ⟨h1,h2,h3,h4⟩:=S.apart a ha; ⟨h1,h2,fun q=>h3 (.tail _ q),h4⟩,?_,hg.trans S.gens,ho.trans S.os,hd.trans S.drawn⟩
 ·refine o0 (fm:=fm.more I) O S.funs fun L hL o e=>⟨o.slots,k L o ?_ e⟩
  exact fun z=>hL.elim (fun q=>nown (z ▸ q)) fun q=>nouts (z ▸ q)
 ·refine aj S.ns fun mm n=>?_
  exact ⟨mm,n.at' fun o e=>k _ o (fun z=>nown (z ▸ O.locals)) e⟩
 ·intro x c h1 h2
  refine cN (S.cells x c h1 h2) fun v o h3 h4=>?_
  exact ⟨v,o,k _ _ (fun z=>by rcases (O.cellsOwn x c h1 h2).1 with q | q; exact nown (z ▸ q); exact nouts (z ▸ q)) h3,h4⟩
 ·intro i x v h1 h2 h3
  refine ae (S.vars i x v h1 h2 h3) fun val h4 h5=>?_
  refine ⟨val,d6.slots (h:=s.heap) (h':=s'.heap) (env:=fm.env) (fun b o hb e=>⟨o.slots,k b o ?_ e⟩) h4,Rep.mono (fun _ _ e=>e) kR h5⟩
  exact fun z=>hb.elim (fun q=>nown (q.symm.trans z ▸ O.locals)) fun q=>dA q fun c h1 h2 q=>(O.cellsOwn x c h2 h1).1.elim (fun r=>nown (q.symm.trans z ▸ r)) fun r=>nouts (q.symm.trans z ▸ r)
 ·exact fun p hp=>dC.conv (fm:=fm.more I) (fm':=fm) rfl rfl (fun r=>RepL.mono (fun _ _ e=>e) kR r) (fun b hb o e=>k b o (fun z=>(S.apart b (bm hp hb)).2.2.1 (z ▸ inI)) e) (S.objs p hp)
 ·intro a ha
  refine aj (S.alive a (ha.imp id fun q=>q.imp id fun q=>.tail _ q)) fun o e=>?_
  refine ⟨o,k a o ?_ e⟩
  exact fun z=>ha.elim (fun q=>nown (z ▸ q)) fun q=>q.elim (fun q=>nouts (z ▸ q)) fun q=>hn (z ▸ q)
end
structure Cs (fm:Fm) (cx:Cx) (n:Nat):Prop extends Cn fm cx n where
 outer:∃ outer,fm.fenvs=fm.env::outer
 cellIn:∀ (x:Str) (c:Addr),fm.env.kindOf x=some .cell→fm.env.cells.lookup x=some c→c∈fm.own
 frLoc:fm.fr=fm.env.locals
theorem zR {m:LV}{i j:Nat}{v w:V}(h:ba (m.set i (some v)) j=some w):(j=i∧w=v)∨(j≠i∧ba m j=some w):=by
 unfold ba at h ⊢
 rw [List.getElem?_set] at h
 by_cases e:i=j
 ·subst e
  rw [if_pos rfl] at h
  split at h
  ·exact .inl ⟨rfl,(Option.some.inj h).symm⟩
  ·exact nS h
 ·rw [if_neg e] at h
  exact .inr ⟨fun q=>e q.symm,h⟩
section
variable {fm:Fm}{cx:Cx}{n:Nat}{m:LV}{H:MH}{s:Shared}
theorem Sat.own {m m':Loc}{s':Shared}{b0:Addr}(O:ay fm) (S:Sat fm m H s) (hb:b0∈fm.own) (k:∀ b o,b≠b0→s.heap.get? b=some o→s'.heap.get? b=some o)
  (funs:s'.heap.FunFrames fm.base fm.fenvs) (ns:∃ mm,s'.heap.Ns fm.env.locals mm) (cells:∀ x c,fm.env.kindOf x=some .cell→fm.env.cells.lookup x=some c→∃ v,s'.heap.IsCell c v)
  (vars:∀ i x v,fm.names[i]? = some x→(fm.env.kindOf x=some .local∨fm.env.kindOf x=some .cell)→m' i=some v→∃ val,d6 s'.heap fm.env x val∧fm.R H s.heap v val)
  (hb':∃ o,s'.heap.get? b0=some o) (hg:s'.gens=s.gens) (ho:s'.os=s.os) (hd:s'.drawn=s.drawn):Sat fm m' H s'∧af fm H s.heap H s'.heap:=by
 have notX:∀ b,b ∉ fm.X H→b≠b0:=fun b h q=>h (ax.mpr (.inl (q ▸ hb)))
 have T:af fm H s.heap H s'.heap:=⟨fun b o e q=>⟨k b o (notX b q) e,q⟩,fun L hL o e=>⟨o.slots,k L o (fun q=>O.ownOuts b0 hb (q ▸ hL)) e⟩,fun _ _ e=>e⟩
 refine ⟨⟨fun b o e=>k b o (fun q=>by rw [q,O.ownBase b0 (.inl hb)] at e; exact nS e) (S.base b o e),funs,ns,cells,?_,?_,S.nodup,S.apart,?_,hg.trans S.gens,ho.trans S.os,hd.trans S.drawn⟩,T⟩
 ·intro i x v h1 h2 h3
  refine ae (vars i x v h1 h2 h3) fun val h4 h5=>?_
  exact ⟨val,h4,T.rep h5⟩
 ·exact fun p hp=>dC.conv rfl rfl (fun r=>T.repL r) (fun b hb' o e=>k b o (fun q=>(S.apart b (bm hp hb')).1 (q ▸ hb)) e) (S.objs p hp)
 ·intro a ha
  by_cases z:a=b0
  ·subst z; exact hb'
  ·refine aj (S.alive a ha) fun o e=>?_; exact ⟨o,k a o z e⟩
theorem mh {fm:Fm}{h h':Heap}(O:ay fm) (hf:h.FunFrames fm.base fm.fenvs)
  (kF:∀ L,L=fm.fr∨L∈fm.outs→∀ o,h.get? L=some o→(∀ vs,o.data≠.fields vs)→∃ o',h'.get? L=some o'∧∀ vs,o'.data≠.fields vs):h'.FunFrames fm.base fm.fenvs:=by
 have hin:=O.fenvsIn
 generalize fm.fenvs=l at hin hf
 induction l with
 | nil=>trivial
 | cons e r ih =>
  refine bW hf fun a z8=>?_; obtain ⟨L,o,h1,h2,h3,h4⟩:=z8; intro h5
  refine ae (kF L (hin e (.head _) L h1) o h3 h4) fun o' hs h6=>?_
  exact ⟨a,⟨L,_,h1,h2,hs,h6⟩,ih (fun e he=>hin e (.tail _ he)) h5⟩
theorem qG (C:Cn fm cx n) {i:Nat}{x:Str}(h1:cx.names[i]? = some x) {j:Nat}{y:Str}(hj:fm.names[j]? = some y) (hne:j≠i):y≠x:=fun q=>by
 subst q
 rw [C.names] at hj
 have nd:=C.O.names
 rw [C.names] at nd
 exact hne ((List.getElem?_inj (List.getElem?_eq_some_iff.mp hj).1 nd).mp (hj.trans h1.symm))
theorem vN {i:Nat}{x:Str}{v:V}{xv:Value}{Q:Unit→Shared→Prop}{E:Value→Shared→Prop}(C:Cn fm cx n) (h1:cx.names[i]? = some x) (hk:fm.env.kindOf x=some .local) (S:Sat fm (ba m) H s) (r:fm.R H s.heap v xv)
  (q:∀ s',af fm H s.heap H s'.heap→Sat fm (ba (m.set i (some v))) H s'→Q () s'):wpAny fm.M fm.A (storeName fm.env x xv) Q E s:=by
 have O:=C.O
 have other:∀ {j:Nat}{y:Str},fm.names[j]? = some y→j≠i→y≠x:=fun hj hne=>qG C h1 hj hne
 refine aj S.ns fun mm hn=>?_
 refine wpAny_storeName_local hk hn (fun h' hn' hs'=>?_) (by rw [O.kind]; rfl)
 have keep:∀ b o,b≠fm.env.locals→s.heap.get? b=some o→h'.get? b=some o:=fun b o e h=>(hs'.2 b e).trans h
 suffices both:Sat fm (ba (m.set i (some v))) H _∧af fm H s.heap H _ from q _ both.2 both.1
 refine Sat.own (m':=ba (m.set i (some v))) (s':={ s with heap:=h',toks:=s.toks+1 }) O S O.locals keep ?_ ⟨_,hn'⟩ ?_ ?_ (let ⟨o,_,_,e,_⟩:=hn'; ⟨o,e⟩) rfl rfl rfl
 ·refine mh O S.funs fun L hL o e hd=>?_
  by_cases z:L=fm.env.locals
  ·subst z
   refine lX hn' fun o' es ep e' hd' _=>?_
   exact ⟨o',e',fun vs q=>by rw [hd'] at q; cases q⟩
  ·exact ⟨o,keep L o z e,hd⟩
 ·intro y c hy hc
  refine cN (S.cells y c hy hc) fun w o e hd=>?_
  exact ⟨w,o,keep c o (O.cellsOwn y c hy hc).2 e,hd⟩
 ·intro j y w hj hy hw
  rcases zR hw with ⟨rfl,rfl⟩ | ⟨hne,hw⟩
  ·have:y=x:=by rw [C.names] at hj; exact Option.some.inj (hj.symm.trans h1)
   subst this
   refine ⟨xv,?_,r⟩
   unfold d6; rw [hk]
   exact ⟨_,hn',by simp⟩
  ·refine ae (S.vars j y w hj hy hw) fun val hva rv=>?_
   refine ⟨val,?_,rv⟩
   unfold d6 at hva ⊢
   rcases hy with hy | hy
   ·rw [hy] at hva ⊢
    refine ae hva fun m0 hn0 e0=>?_
    exact ⟨_,hn',by rw [if_neg (other hj hne),Heap.Ns.agree hn hn0]; exact e0⟩
   ·rw [hy] at hva ⊢
    obtain ⟨c,hc,o,e,hd⟩:=hva
    exact ⟨c,hc,o,keep c o (O.cellsOwn y c hy hc).2 e,hd⟩
theorem i6 {x:Str}{v:V}{xv:Value}{Q:Unit→Shared→Prop}{E:Value→Shared→Prop}(C:Cs fm cx n) (hv:cx.isVar x=true) (S:Sat fm (ba m) H s) (r:fm.R H s.heap v xv)
  (q:∀ s',af fm H s.heap H s'.heap→Sat fm (ba (m.set (gF cx.names x) (some v))) H s'→Q () s'):wpAny fm.M fm.A (storeName fm.env x xv) Q E s:=by
 obtain ⟨h1,h2,h3⟩:=gV hv
 generalize gF cx.names x=i at h1 q
 have O:=C.O
 have other:∀ {j:Nat}{y:Str},fm.names[j]? = some y→j≠i→y≠x:=fun hj hne=>qG C.toCn h1 hj hne
 rcases h2 with h2 | h2
 ·exact vN C.toCn h1 ((C.kindOf x).trans h2) S r q
 ·have hk:fm.env.kindOf x=some .cell:=(C.kindOf x).trans h2
  obtain ⟨c,hc⟩:=C.cells x hk
  obtain ⟨v0,hcell⟩:=S.cells x c hk hc
  have cO:=C.cellIn x c hk hc
  have cne:=(O.cellsOwn x c hk hc).2
  refine wpAny_storeName_cell O.kind hk hc hcell fun h' hn' hs'=>?_
  have keep:∀ b o,b≠c→s.heap.get? b=some o→h'.get? b=some o:=fun b o e h=>(hs'.2 b e).trans h
  suffices both:Sat fm (ba (m.set i (some v))) H _∧af fm H s.heap H _ from q _ both.2 both.1
  refine Sat.own (m':=ba (m.set i (some v))) (s':={ s with heap:=h' }) O S cO keep ?_ (let ⟨mm,n⟩:=S.ns; ⟨mm,n.at' fun o e=>keep _ o (fun q=>cne q.symm) e⟩) ?_ ?_ (let ⟨o,e,_⟩:=hn'; ⟨o,e⟩) rfl rfl rfl
  ·refine mh O S.funs fun L hL o e hd=>⟨o,keep L o ?_ e,hd⟩
   exact fun z=>hL.elim (fun q=>cne ((z.symm.trans q).trans C.frLoc)) fun q=>O.ownOuts _ cO (z ▸ q)
  ·intro y c' hy hc'
   by_cases z:c'=c
   ·subst z; exact ⟨_,hn'⟩
   ·refine cN (S.cells y c' hy hc') fun w o e hd=>?_
    exact ⟨w,o,keep c' o z e,hd⟩
  ·intro j y w hj hy hw
   rcases zR hw with ⟨rfl,rfl⟩ | ⟨hne,hw⟩
   ·have:y=x:=by rw [C.names] at hj; exact Option.some.inj (hj.symm.trans h1)
    subst this
    refine ⟨xv,?_,r⟩
    unfold d6; rw [hk]
    exact ⟨c,hc,hn'⟩
   ·obtain ⟨val,hva,rv⟩:=S.vars j y w hj hy hw
    refine ⟨val,?_,rv⟩
    unfold d6 at hva ⊢
    rcases hy with hy | hy
    ·rw [hy] at hva ⊢
     obtain ⟨m0,hn0,e0⟩:=hva
     exact ⟨m0,hn0.at' fun o e=>keep _ o (fun q=>cne q.symm) e,e0⟩
    ·rw [hy] at hva ⊢
     obtain ⟨c',hc',o,e,hd⟩:=hva
     refine ⟨c',hc',o,keep c' o (fun q=>?_) e,hd⟩
     subst q
     exact other hj hne (O.cellsInj y x _ hy hk hc' hc)
end
end
section
noncomputable def FlR (fm:Fm) (H:MH) (h:Heap) (fl:Fl) (f:Flow):Prop:=match fl with
 | .next=>f=.next
 | .brk=>f=.brk
 | .cont=>f=.cont
 | .ret v=>∃ x,f=.ret x∧fm.R H h v x
 | .ex _ _=>False
noncomputable abbrev QF:=Fl→LV→MH→Prop
inductive PF (fm:Fm) (H:MH) (h:Heap) (Q:QF) (f:Flow) (s':Shared):Prop
 | mk (fl:Fl) (m':LV) (H':MH) (a:Q fl m' H') (b:af fm H h H' s'.heap) (c:Sat fm (ba m') H' s') (d:FlR fm H' s'.heap fl f)
noncomputable abbrev QF.x (Q:QF):QX:=fun ks us H'=>Q (.ex ks us) [] H'
noncomputable def XW (fm:Fm) (st:Stmt) (m:LV) (H:MH) (Q:QF):Prop:=∀ s,Sat fm (ba m) H s→wpAny fm.M fm.A (exec st fm.env) (PF fm H s.heap Q) (PX fm (ba m) H s.heap Q.x) s
noncomputable def BW (fm:Fm) (sts:List Stmt) (m:LV) (H:MH) (Q:QF):Prop:=∀ s,Sat fm (ba m) H s→wpAny fm.M fm.A (execs sts fm.env) (PF fm H s.heap Q) (PX fm (ba m) H s.heap Q.x) s
noncomputable abbrev KF {α:Type} (L:α→Prop) (K:Fl→LV→AH→Tr α) (Q:QF):Prop:=∀ f m' H',(K f m' (aa H')).tt L→Q f m' H'
section
variable {fm:Fm}{H H₁:MH}{h h₁:Heap}{Q:QF}{f:Flow}{s s':Shared}
theorem PF.el {P:Prop}(p:PF fm H h Q f s') (k:∀ fl m' H',Q fl m' H'→af fm H h H' s'.heap→Sat fm (ba m') H' s'→FlR fm H' s'.heap fl f→P):P:=let ⟨fl,m',H',a,b,c,d⟩:=p; k fl m' H' a b c d
theorem PF.back (T:af fm H h H₁ h₁) (p:PF fm H₁ h₁ Q f s'):PF fm H h Q f s':=p.el fun fl m' H' a b c d=>⟨fl,m',H',a,T.trans b,c,d⟩
theorem Sat.weak {m m':Loc}(S:Sat fm m H s) (h:∀ i v,m' i=some v→m i=some v):Sat fm m' H s :=
 ⟨S.base,S.funs,S.ns,S.cells,fun i x v h1 h2 h3=>S.vars i x v h1 h2 (h i v h3),S.objs,S.nodup,S.apart,S.alive,S.gens,S.os,S.drawn⟩
theorem Sat.nil {m:Loc}(S:Sat fm m H s):Sat fm (ba []) H s:=S.weak fun i v h=>nS h
variable {cx:Cx}{n k:Nat}
noncomputable abbrev SX (fm:Fm) (g:SM) (st:Stmt):Prop:=∀ {α:Type}{L:α→Prop}{m:LV}{H:MH}{K:Fl→LV→AH→Tr α}{Q:QF},(g α m (aa H) K).tt L→KF L K Q→XW fm st m H Q
noncomputable abbrev SBk (fm:Fm) (g:Stmt→SM) (sts:List Stmt):Prop:=∀ {α:Type}{L:α→Prop}{m:LV}{H:MH}{K:Fl→LV→AH→Tr α}{Q:QF},(evB g sts m (aa H) K).tt L→KF L K Q→BW fm sts m H Q
noncomputable abbrev PS (n:Nat) (cx:Cx) (k:Nat) (st:Stmt):Prop:=∀ fm,Cs fm cx n→SX fm (evS k cx st) st
noncomputable abbrev PBs (n:Nat) (cx:Cx) (k:Nat) (sts:List Stmt):Prop:=∀ fm,Cs fm cx n→SBk fm (evS k cx) sts
theorem PBs.nil:PBs n cx k []:=fun fm C _ _ m H _ _ h q s S=>wpAny_execs_nil ⟨.next,m,H,q _ _ _ h,af.refl ..,S,rfl⟩
theorem PBs.cons {st:Stmt}{sts:List Stmt}(h1:PS n cx k st) (h2:PBs n cx k sts):PBs n cx k (st::sts):=fun fm C α L m H K Q h q s S =>
 wpAny_execs_cons (wpAny_mono (h1 fm C h (fun f m' H' a=>a) s S) (fun f s1 p=>p.el fun fl m1 H1 a T1 S1 hf=>by
  cases fl with
  | next=>subst hf; exact wpAny_mono (h2 fm C a q s1 S1) (fun _ _ p=>p.back T1) fun _ _ p=>(p.mono fun _ _ _ q=>q).back T1
  | brk=>subst hf; exact ⟨.brk,m1,H1,q _ _ _ a,T1,S1,rfl⟩
  | cont=>subst hf; exact ⟨.cont,m1,H1,q _ _ _ a,T1,S1,rfl⟩
  | ret v=>obtain ⟨x,e,r⟩:=hf; subst e; exact ⟨.ret v,m1,H1,q _ _ _ a,T1,S1,x,rfl,r⟩
  | ex _ _=>exact hf.elim) fun x s1 p=>p.mono fun ks us H' a=>q _ _ _ a)
theorem Cs.more {I:Addr}(C:Cs fm cx n) (hb:fm.base.get? I=none) (ho:I ∉ fm.own) (ho':I ∉ fm.outs):Cs (fm.more I) cx n :=
 ⟨⟨C.O.more hb ho ho',C.names,C.kinds,C.room,C.hh,C.fns,C.cells⟩,C.outer,C.cellIn,C.frLoc⟩
theorem BE (C:Cs fm cx n) {m:Loc}{h:Heap}{QE:QX}{x:Value}(p:PX fm m H h QE x s):notedBy fm.M fm.A fm.env (fun e s''=>cameBackBy fm.M fm.A fm.env (PX fm m H h QE) e s'') x s:=p.el fun e d tb ks vs H' m' ex T₁ S₁ ht q=>by
 subst ex
 refine aj C.outer fun outer hfe=>?_
 unfold notedBy
 refine ku C.O hfe C.O.frEnv ht S₁ fun T₂ s₂ S₂ Tr₂=>?_
 unfold cameBackBy
 refine cz S₂.exc_obj fun fs sl he h1 _=>?_
 refine wpAny_bind (wpAny_field he rfl h1 ?_)
 rw [if_neg (by simp)]
 refine iz C.O S₂ fun s₃ S₃ Tr₃=>?_
 refine ⟨e,d,_,ks,vs,H',m',rfl,(T₁.trans Tr₂).trans Tr₃,S₃,?_,q⟩
 rw [C.O.frEnv]
 exact .inr ⟨_,C.O.frEnv,rfl⟩
noncomputable abbrev AtE (f:Fl) (m':LV) (G':AH):QF:=fun f1 m1 H1=>f1=f∧m1=m'∧aa H1=G'
section
variable {t:Expr}{b:List Stmt}{pos:Pos}{m m':LV}{fl:Fl}{G':AH}
theorem I5 {H0:MH}{h0:Heap}{H':MH}{v:V}{x:Value}(a:fl=.ret v∧m'=[]∧G'=aa H') (T:af fm H0 h0 H' s'.heap) (S:Sat fm (ba m) H' s') (r:fm.R H' s'.heap v x):PF fm H0 h0 (AtE fl m' G') (.ret x) s' :=
 bW a fun e1 e2 e3=>⟨.ret v,[],H',⟨e1.symm,e2.symm,e3.symm⟩,T,S.nil,x,rfl,r⟩
theorem CQ {H0:MH}{h0:Heap}{H':MH}(a:fl=.next∧m'=m∧G'=aa H') (T:af fm H0 h0 H' s'.heap) (S:Sat fm (ba m) H' s'):PF fm H0 h0 (AtE fl m' G') .next s' :=
 bW a fun e1 e2 e3=>⟨.next,m,H',⟨e1.symm,e2.symm,e3.symm⟩,T,S,rfl⟩
theorem CR {H':MH}{ks:List Str}{us:List V}(a:fl=.ex ks us∧m'=[]∧G'=aa H'):(AtE fl m' G').x ks us H':=bW a fun e1 e2 e3=>⟨e1.symm,e2.symm,e3.symm⟩
theorem Gh (C:Cs fm cx n) (ht:PE n cx 24 t) (hb:PBs n cx k b) {j:Nat}(hw:whl (rnd cx (evS k cx) t b) j m (aa H) fl m' G'):XW fm (.While t b [] pos) m H (AtE fl m' G'):=fun s S=>by
 refine wpAny_While (codeAny_whileLoop (fun j s'=>∃ m1 H1,af fm H s.heap H1 s'.heap∧Sat fm (ba m1) H1 s'∧whl (rnd cx (evS k cx) t b) j m1 (aa H1) fl m' G') (fun j s' h=>gg fun T hT=>?_) j ⟨m,H,af.refl ..,S,hw⟩)
 refine cz h fun m1 H1 T1 S1 w=>?_
 cases j with
 | zero=>exact w.elim
 | succ j =>
  have ht':=(ht fm C.toCn).t (Q:=fun c H2=>(cif c (evB (evS k cx) b m1 (aa H2) fun f m G=>.ok (f,m,G)) (.ok (.brk,m1,aa H2))).tt fun p=>aft (whl (rnd cx (evS k cx) t b) j) p fl m' G') (QE:=fun ks us H2=>aft (whl (rnd cx (evS k cx) t b) j) (.ex ks us,[],aa H2) fl m' G') w
   (s5 fun c H2 a=>a) (fun ks us H2 a=>a)
  refine hT (wpAny_mono (ht' s' S1) (fun c s2 p=>gg fun T hT=>?_) fun x s2 p=>BE C ((p.mono fun ks us H2 a=>CR a).back T1))
  obtain ⟨H2,T2,S2,a⟩:=p
  have T2:=T1.trans T2
  cases c with
  | false=>exact hT (wpAny_execs_nil (CQ a T2 S2))
  | true =>
   refine hT (wpAny_mono (hb fm C a (Q:=fun f1 m3 H3=>aft (whl (rnd cx (evS k cx) t b) j) (f1,m3,aa H3) fl m' G') (fun _ _ _ a=>a) s2 S2) (fun f s3 p=>p.el fun f1 m3 H3 a T3 S3 hf=>?_) fun x s3 p=>BE C ((p.mono fun ks us H3 a=>CR a).back T2))
   have T3:=T2.trans T3
   cases f1 with
   | next=>subst hf; exact ⟨j,Nat.lt_succ_self j,m3,H3,T3,S3,a⟩
   | cont=>subst hf; exact ⟨j,Nat.lt_succ_self j,m3,H3,T3,S3,a⟩
   | brk=>subst hf; exact CQ a T3 S3
   | ret v=>obtain ⟨x,e,r⟩:=hf; subst e; exact I5 a T3 S3 r
   | ex _ _=>exact hf.elim
end
end
end
section
section
variable {fm:Fm}{cx:Cx}{n k:Nat}{m m':LV}{H:MH}{s:Shared}{fl:Fl}{G':AH}
noncomputable abbrev NB (cx:Cx) (n:Nat) (t:Expr):Prop:=∀ (fm:Fm),Cs fm cx n→∀ (v:V) (m m':LV) (H:MH) (s:Shared) (y:Value) (E:Value→Shared→Prop) (Q:Unit→Shared→Prop),xq cx t v m=some m'→Sat fm (ba m) H s→fm.R H s.heap v y →
 (∀ s',af fm H s.heap H s'.heap→Sat fm (ba m') H s'→Q () s')→wpAny fm.M fm.A (assign t fm.env y) Q E s
theorem CS {fm:Fm}{I:Addr}{H0 H':MH}{h0 h h':Heap}(Ta:af fm H0 h0 H' h) (hIn:h0.get? I=none) (hout:I ∉ fm.outs) (hk:∀ b o,b ∉ [I]→h.get? b=some o→h'.get? b=some o):af fm H0 h0 H' h' :=
 ⟨fun b ob e nX=>ar (Ta.keep b ob e nX) fun e' nX'=>⟨hk b ob (fun q=>by rw [List.mem_singleton.mp q,hIn] at e; exact nS e) e',nX'⟩,
  fun L hL ob e=>aj (Ta.outs L hL ob e) fun sl e'=>⟨sl,hk L _ (fun q=>hout (List.mem_singleton.mp q ▸ hL)) e'⟩,Ta.pre⟩
theorem vO {I:Addr}{H1 Ha Hb:MH}{s1 sa sb:Shared}{ma:Loc}{xs:List V}{fp:List Addr}{P:Nat→Value→Prop}{St:Nat→Heap→Prop}{i:Nat}(O':ay (fm.more I)) (W:Iw fm H1 s1.heap xs I fp P St) (st:St i sa.heap) (Ta:af fm H1 s1.heap Ha sa.heap)
  (Sa:Sat (fm.more I) ma Ha sa) (Tb:af fm Ha sa.heap Hb sb.heap):St i sb.heap:=W.W.frame i _ _ st fun b hb ob e=>by
 have inI:I∈(fm.more I).int:=List.mem_cons_self
 refine (Tb.keep b ob e fun z=>?_).1
 rcases W.fpX b hb with q | ⟨⟨o',e'⟩,hk⟩
 ·subst q
  rcases ax.mp z with z | z | z
  ·exact O'.ownFm _ z inI
  ·exact O'.outsFm _ z inI
  ·exact (Sa.apart _ z).2.2.1 inI
 ·exact (Ta.keep b o' e' hk.1).2 z
theorem Gi (C:Cs fm cx n) {t it:Expr}{b:List Stmt}{pos:Pos}{Q:QF}(hf:∀ x,foldedSetIterable it fm.env x=pure x) (hset:NB cx n t) (hb:PBs n cx k b)
  (h:EW fm it (ba m) H (fun v H1=>∃ xs,nz v=some xs∧((∃ y p,t=.Name y p)∨zC v=true)∧∃ fl m' G',flr (xq cx t) (bod (evS k cx) b) xs m (aa H1) fl m' G'∧∀ f1 m1 H2,AtE fl m' G' f1 m1 H2→Q f1 m1 H2) Q.x):XW fm (.For t it b [] pos) m H Q:=fun s S=>by
 refine wpAny_For (h.run S (fun x s1 v H1 T1 S1 r1 q=>dA q fun xs hv htg q=>Dz q fun fl m' G' hw hq=>CK hv C.hh S1 r1 fun o St P fp W hlen st0 hgo ho=>?_) fun _ _ p=>p) hf
 generalize hI:s1.heap.objs.size=I at W st0 hgo ho
 have hIn:s1.heap.get? I=none:=by rw [← hI]; exact aV _
 have kp:∀ b ob,s1.heap.get? b=some ob→(s1.heap.push o).get? b=some ob:=fun b ob e=>Heap.get?_push_of_some _ e
 have fr:=S1.fresh_apart hIn
 have C':Cs (fm.more I) cx n:=C.more fr.2.2.2 fr.1 fr.2.1
 have inI:I∈(fm.more I).int:=List.mem_cons_self
 refine codeAny_forLoop_any (fun j s'=>∃ i m1 H',j=xs.length - i∧i≤xs.length∧af fm H1 s1.heap H' s'.heap∧Sat (fm.more I) (ba m1) H' s'∧St i s'.heap∧flr (xq cx t) (bod (evS k cx) b) (xs.drop i) m1 (aa H') fl m' G') (fun j s' hj=>?_) xs.length
  ⟨0,m,H1,rfl,Nat.zero_le _,af.of_keeps kp,S1.more hIn ⟨o,ho⟩ kp rfl rfl rfl,st0,hw⟩
 refine gg fun T hT=>?_
 obtain ⟨i,m1,H',ej,hi,Ta,Sa,st,er⟩:=hj
 rcases Nat.lt_or_eq_of_le hi with hlt | hin
 ·refine hT (W.W.item i s' _ _ hlt st fun y h' tk hP st' hk=>gg fun T hT=>?_)
  have Sb:Sat (fm.more I) (ba m1) H' { s' with heap:=h',toks:=tk }:=Sa.inner C'.O inI (fun b ob hb e=>hk b ob (fun q=>hb (List.mem_singleton.mp q)) e) (W.al _ _ st') rfl rfl rfl
  have Tb:af fm H1 s1.heap H' h':=CS Ta hIn (fun q=>C'.O.outsFm _ q inI) hk
  rw [List.drop_eq_getElem_cons hlt] at er
  refine ae (W.item i y hlt hP) fun v' hv' ry=>ae er fun m2 hm2 er=>?_
  obtain rfl:=sj ((List.getElem?_eq_getElem hlt).symm.trans hv')
  have ry':=ry (fm.more I) H' h' rfl rfl Tb.pre fun b ob e q=>ar (Tb.keep b ob e q.1) fun e' n'=>⟨e',dK.mpr ⟨⟨n',q.2⟩,fun z=>by rw [z,hIn] at e; exact nS e⟩⟩
  have hgo':∀ (Q':Unit→Shared→Prop) (E':Value→Shared→Prop) (s':Shared),St (i+1) s'.heap→Q' () s'→wpAny fm.M fm.A (letOwnedTupleGo t (.ref I) y) Q' E' s':=fun Q' E' s' st hq =>
   htg.elim (fun z=>sf z fun x p e=>by rw [e]; exact wpAny_pure hq) fun z=>hgo z t _ y s' Q' E' st hq
  refine hT (hgo' _ _ _ st' (hset (fm.more I) C' _ _ _ H' _ y _ _ hm2 Sb ry' fun s3 T3 S3=>?_))
  have T3:af fm H' h' H' s3.heap:=T3.less
  have st3:=vO (sa:={ s' with heap:=h',toks:=tk }) C'.O W st' Tb Sb T3
  have Tc:=Tb.trans T3
  refine wpAny_mono (hb (fm.more I) C' er (Q:=fun f1 m3 H3=>aft (flr (xq cx t) (bod (evS k cx) b) (xs.drop (i+1))) (f1,m3,aa H3) fl m' G') (fun _ _ _ a=>a) s3 S3) (fun f s4 p=>p.el fun f1 m4 H4 a T4 S4 hf=>?_) fun x s4 p=>?_
  ·have T4:af fm H' s3.heap H4 s4.heap:=T4.less
   have Td:=Tc.trans T4
   have st4:=vO C'.O W st3 Tc S3 T4
   have go:flr (xq cx t) (bod (evS k cx) b) (xs.drop (i+1)) m4 (aa H4) fl m' G'→∃ j',j'<j∧∃ i m1 H',j'=xs.length - i∧i≤xs.length∧af fm H1 s1.heap H' s4.heap∧Sat (fm.more I) (ba m1) H' s4∧St i s4.heap∧flr (xq cx t) (bod (evS k cx) b) (xs.drop i) m1 (aa H') fl m' G' :=
    fun a=>⟨xs.length - (i+1),ej ▸ Nat.sub_lt_sub_left hlt (Nat.lt_succ_self i),i+1,m4,H4,rfl,hlt,Td,S4,st4,a⟩
   have S4':=S4.less
   cases f1 with
   | next=>subst hf; exact go a
   | cont=>subst hf; exact go a
   | brk=>subst hf; exact bW a fun e1 e2 e3=>⟨.next,m4,H4,hq _ _ _ ⟨e1.symm,e2.symm,e3.symm⟩,T1.trans Td,S4',rfl⟩
   | ret v=>obtain ⟨x,e,r⟩:=hf; subst e; exact bW a fun e1 e2 e3=>⟨.ret v,[],H4,hq _ _ _ ⟨e1.symm,e2.symm,e3.symm⟩,T1.trans Td,S4'.nil,x,rfl,Gg r⟩
   | ex _ _=>exact hf.elim
  ·exact p.el fun e d tb ks vs H' m'' ex T₁ S₁ ht q=>BE C ⟨e,d,tb,ks,vs,H',m'',ex,T1.trans (Tc.trans T₁.less),S₁.less,ht,bW q fun e1 e2 e3=>hq _ _ _ ⟨e1.symm,e2.symm,e3.symm⟩⟩
 ·refine hT (W.W.done s' _ _ (hin ▸ st) fun h' tk hk=>?_)
  rw [hin,List.drop_length] at er
  have Sb:Sat fm (ba m1) H' { s' with heap:=h',toks:=tk }:=Sa.drop C'.O fr.2.2.1 (fun b ob hb e=>hk b ob (fun q=>hb (List.mem_singleton.mp q)) e) rfl rfl rfl
  exact bW er fun e1 e2 e3=>wpAny_execs_nil ⟨.next,m1,H',hq _ _ _ ⟨e1.symm,e2.symm,e3.symm⟩,T1.trans (CS Ta hIn (fun q=>C'.O.outsFm _ q inI) hk),Sb,rfl⟩
end
end
section
noncomputable def Gj {α:Type} (x:Sem α):Option α:=match x with
 | .pure a=>some a
 | _=>none
theorem xx {α:Type}{x:Sem α}{a:α}(h:Gj x=some a):x=pure a:=by cases x <;> first | exact nS h | exact congrArg Sem.pure (sj h)
noncomputable abbrev nH (cx:Cx):Env:={ scope:={ kind:=.function,names:=cx.kinds,isGenerator:=false,isCoroutine:=false },locals:=0,globals:=0,cells:=[] }
noncomputable def o7 (e:Expr):Bool:=match vw e with
 | .no=>false
 | _=>true
theorem mi {iter:Expr}{env:Env}(h:o7 iter=true):∀ x,foldedSetIterable iter env x=pure x:=by
 cases iter <;> first | exact ff h | exact fun x=>rfl
noncomputable def lK (e:Expr):Bool:=match vw e with
 | .name _=>true
 | _=>false
theorem nI {e:Expr}(h:lK e=true):∃ p,e=.Name (bi e) p:=by cases e <;> first | exact ff h | exact ⟨_,rfl⟩
noncomputable def lT (cx:Cx):List Expr→Bool
 | []=>true
 | t::ts=>(lK t&&cx.isVar (bi t))&&lT cx ts
noncomputable def o8 (cx:Cx) (ts:List Expr) (k:Nat) (p:Pos) (v:Expr):Bool:=match Gj (swappedStores [.Tuple ts k p] v (nH cx)) with
 | some r=>match r with
  | some names=>names==ts.map bi
  | none=>true
 | none=>false
noncomputable def eR (cx:Cx) (v:Expr) (t:Option Expr) (line:Nat) (b:Bool):Bool:=match Gj (swapsWith v t line (nH cx)) with
 | some c=>c==b
 | none=>false
section
variable {fm:Fm}{cx:Cx}{n k:Nat}{H:MH}{s:Shared}
theorem Cn.env (C:Cn fm cx n):fm.env.blockKind=(nH cx).blockKind∧fm.env.scope.kind=(nH cx).scope.kind∧fm.env.kindOf=(nH cx).kindOf:=⟨by unfold Env.blockKind; rw [C.O.kind],C.O.kind,funext C.kindOf⟩
theorem i7 (C:Cn fm cx n) {v:Expr}{t:Option Expr}{line:Nat}{b:Bool}(h:eR cx v t line b=true):swapsWith v t line fm.env=pure b:=by
 have e:swapsWith v t line fm.env=swapsWith v t line (nH cx):=by
  delta swapsWith
  rw [C.env.1,C.env.2.1,C.env.2.2]
 rw [e]
 unfold eR at h
 cases q:Gj (swapsWith v t line (nH cx)) with
 | none=>rw [q] at h; exact ff h
 | some c=>rw [q] at h; exact eq_of_beq h ▸ xx q
theorem DX (C:Cn fm cx n) {ts:List Expr}{k:Nat}{p:Pos}{v:Expr}(h:o8 cx ts k p v=true):swappedStores [.Tuple ts k p] v fm.env=pure none∨swappedStores [.Tuple ts k p] v fm.env=pure (some (ts.map bi)):=by
 have e:swappedStores [.Tuple ts k p] v fm.env=swappedStores [.Tuple ts k p] v (nH cx):=by
  delta swappedStores
  rw [C.env.1,C.env.2.2]
 rw [e]
 unfold o8 at h
 cases q:Gj (swappedStores [.Tuple ts k p] v (nH cx)) with
 | none=>rw [q] at h; exact ff h
 | some r=>cases r with
  | none=>exact .inl (xx q)
  | some l=>rw [q] at h; exact .inr (eq_of_beq h ▸ xx q)
theorem vP {E:Value→Shared→Prop}{Q:Unit→Shared→Prop}(C:Cs fm cx n):∀ {ts:List Expr}{vs:List V}{xs:List Value}{m m':LV}{s:Shared},lT cx ts=true→bw (nD cx ts) vs m=some m'→Sat fm (ba m) H s→fm.RL H s.heap vs xs →
  (∀ s',af fm H s.heap H s'.heap→Sat fm (ba m') H s'→Q () s')→wpAny fm.M fm.A (assignInOrder ((assignEach ts fm.env).map (·.2)) xs) Q E s
 | [],[],xs,m,m',s,_,hm,S,r,q=>by
  rw [show xs=[] from r]
  exact assignInOrder_nil (q s (af.refl ..) (sj hm ▸ S))
 | [],_::_,_,_,_,_,_,hm,_,_,_=>nS hm
 | _::_,[],_,_,_,_,_,hm,_,_,_=>nS hm
 | t::ts,v::vs,xs,m,m',s,h,hm,S,r,q=>cz r fun y ys e r1 r2=>by
  refine aj (nI (an (an h).1).1) fun p et=>?_
  have hv:=(an (an h).1).2
  have hm:bw (nD cx ts) vs (m.set (gF cx.names (bi t)) (some v))=some m':=hm
  generalize bi t=x at et hv hm
  subst e et
  exact assignInOrder_cons (wpAny_assign_Name (i6 C hv S r1 fun s1 T1 S1=>vP C (an h).2 hm S1 (T1.repL r2) fun s2 T2 S2=>q s2 (T1.trans T2) S2))
noncomputable abbrev ND (cx:Cx) (l:List Str):Prop:=∀ x∈l,cx.isVar x=true
theorem zS {E:Value→Shared→Prop}{Q:Unit→Shared→Prop}(C:Cs fm cx n):∀ {names:List Str}{vs:List V}{xs:List Value}{m m':LV}{s:Shared},ND cx names→bw (names.map (gF cx.names)) vs m=some m'→Sat fm (ba m) H s→fm.RL H s.heap vs xs →
  (∀ s',af fm H s.heap H s'.heap→Sat fm (ba m') H s'→Q () s')→wpAny fm.M fm.A (assignInOrder (names.map fun n=>bindName fm.env n) xs) Q E s
 | [],[],xs,m,m',s,_,hm,S,r,q=>by
  rw [show xs=[] from r]
  exact assignInOrder_nil (q s (af.refl ..) (sj hm ▸ S))
 | [],_::_,_,_,_,_,_,hm,_,_,_=>nS hm
 | _::_,[],_,_,_,_,_,hm,_,_,_=>nS hm
 | x::ns,v::vs,xs,m,m',s,h,hm,S,r,q=>cz r fun y ys e r1 r2=>by
  subst e
  exact assignInOrder_cons (bindName_ (i6 C (h x (.head _)) S r1 fun s1 T1 S1=>zS C (fun x hx=>h x (.tail _ hx)) hm S1 (T1.repL r2) fun s2 T2 S2=>q s2 (T1.trans T2) S2))
theorem nJ:∀ {is:List Nat}{vs:List V}{m:LV}{i:Nat}{v:V},i ∉ is→bw is vs (m.set i (some v))=(bw is vs m).map (·.set i (some v))
 | [],[],m,i,v,_=>rfl
 | [],_::_,_,_,_,_=>rfl
 | _::_,[],_,_,_,_=>rfl
 | j::is,u::vs,m,i,v,h=>by
  show bw is vs _=(bw is vs _).map _
  rw [List.set_comm _ _ (fun q=>h (List.mem_cons.mpr (.inl q))),nJ fun q=>h (.tail _ q)]
theorem nK:∀ {is:List Nat}{vs:List V}{m:LV}{i:Nat}{v:V},is.length=vs.length→bw (is++[i]) (vs++[v]) m=(bw is vs m).map (·.set i (some v))
 | [],[],m,i,v,_=>rfl
 | [],_::_,_,_,_,h=>nomatch h
 | _::_,[],_,_,_,h=>nomatch h
 | j::is,u::vs,m,i,v,h=>nK (is:=is) (vs:=vs) (Nat.succ.inj h)
theorem iE:∀ {is:List Nat}{vs:List V}{m m':LV},bw is vs m=some m'→is.length=vs.length
 | [],[],_,_,_=>rfl
 | [],_::_,_,_,h=>nS h
 | _::_,[],_,_,h=>nS h
 | j::is,u::vs,m,m',h=>congrArg (·+1) (iE (is:=is) (vs:=vs) h)
theorem qH:∀ {is:List Nat}{vs:List V}{m m':LV},is.Nodup→bw is vs m=some m'→bw is.reverse vs.reverse m=some m'
 | [],[],_,_,_,h=>h
 | [],_::_,_,_,_,h=>nS h
 | _::_,[],_,_,_,h=>nS h
 | j::is,u::vs,m,m',nd,h=>by
  have nd:=List.nodup_cons.mp nd
  have h:bw is vs (m.set j (some u))=some m':=h
  rw [nJ nd.1] at h
  refine gh h fun m0 h0 e=>?_
  rw [List.reverse_cons,List.reverse_cons,nK (by rw [List.length_reverse,List.length_reverse,iE h0]),qH nd.2 h0]
  exact congrArg some e
theorem xy {env:Env}:∀ {ts:List Expr},lT cx ts=true→(assignEach ts env).length=ts.length∧(assignEach ts env).findIdx? (·.1)=none∧nD cx ts=(ts.map bi).map (gF cx.names)∧ND cx (ts.map bi)
 | [],_=>⟨rfl,rfl,rfl,fun _ h=>absurd h List.not_mem_nil⟩
 | t::ts,h=>by
  refine aj (nI (an (an h).1).1) fun p et=>?_
  have hv:=(an (an h).1).2
  refine uO (xy (env:=env) (an h).2) fun l1 l2 l3 l4=>⟨?_,?_,congrArg (_::·) l3,fun x hx=>(List.mem_cons.mp hx).elim (fun q=>q ▸ hv) (l4 x)⟩
  ·rw [et]; exact congrArg (·+1) l1
  ·rw [et]
   show ((false,assign (.Name (bi t) p) env)::assignEach ts env).findIdx? (·.1)=none
   rw [List.findIdx?_cons,if_neg ff,l2]; rfl
theorem af.push_ext {h h':Heap}(e:Heap.ExtBut h.objs.size h h'):∀ b o,h.get? b=some o→h'.get? b=some o:=fun b o x=>e b o (fun q=>by rw [q,aV] at x; exact nS x) x
theorem vQ {v:V}{vs:List V}(h:rR v=some vs):v=.tup vs:=by cases v <;> first | exact nS h | exact congrArg _ (sj h)
theorem vR {E:Value→Shared→Prop}{Q:Unit→Shared→Prop}(C:Cs fm cx n) {ts:List Expr}{k:Nat}{p:Pos}{vs:List V}{x:Value}{m m':LV}{s:Shared}(ht:lT cx ts=true) (hm:bw (nD cx ts) vs m=some m')
  (S:Sat fm (ba m) H s) (r:fm.R H s.heap (.tup vs) x) (q:∀ s',af fm H s.heap H s'.heap→Sat fm (ba m') H s'→Q () s'):wpAny fm.M fm.A (assign (.Tuple ts k p) fm.env x) Q E s:=cP r fun a ys e hok hl r1=>by
 subst e
 refine uO (xy (env:=fm.env) ht) fun l1 l2 l3 _=>?_
 have l4:=iE hm
 rw [l3,List.length_map,List.length_map,← l1] at l4
 refine assign_Tuple_tuple C.hh hl.isTup (l4.trans r1.length) l2 fun h' he=>?_
 have kp:=af.push_ext he
 have T0:af fm H s.heap H h':=af.of_keeps kp
 exact vP C ht hm (S.keeps (s':={ s with heap:=h' }) kp rfl rfl rfl) (T0.repL r1) fun s2 T2 S2=>q s2 (T0.trans T2) S2
end
end
section
noncomputable abbrev PR (n:Nat) (cx:Cx) (y:Str) (e:Expr):Prop:=∀ fm,Cn fm cx n→sZ fm (fun α=>evR (α:=α) cx y e) e
noncomputable def PRs (n:Nat) (cx:Cx):List Expr→List Expr→Prop
 | [],_=>True
 | t::ts,es=>match es with
  | e::es=>PR n cx (bi t) e∧PRs n cx ts es
  | []=>True
section
variable {fm:Fm}{cx:Cx}{n k:Nat}{m:LV}{H:MH}{s:Shared}
theorem XW.mono {st:Stmt}{Q Q':QF}(h:XW fm st m H Q) (k:∀ f m' H',Q f m' H'→Q' f m' H'):XW fm st m H Q':=fun s S=>wpAny_mono (h s S) (fun f s' p=>p.el fun fl m' H' a b c d=>⟨fl,m',H',k _ _ _ a,b,c,d⟩) fun _ _ p=>p.mono fun _ _ _ q=>k _ _ _ q
theorem LG {α:Type}{L:α→Prop}{K:Fl→LV→AH→Tr α}{Q:QF}{fl:Fl}{m':LV}{G':AH}(hk:(K fl m' G').tt L) (q:KF L K Q):∀ f1 m1 H1,AtE fl m' G' f1 m1 H1→Q f1 m1 H1:=fun f1 m1 H1 a=>by
 obtain ⟨e1,e2,e3⟩:=a
 subst e1 e2 e3
 exact q _ _ _ hk
noncomputable def Gk (e:Expr):Bool:=match vw e with
 | .dict ks vs=>ks.isEmpty&&vs.isEmpty
 | _=>false
noncomputable def dOk (e:Expr):Bool:=!dE e
theorem I6 {e:Expr}(h:FX e=true):∃ p,e=.List (zM e) p:=by cases e <;> first | exact ff h | exact ⟨_,rfl⟩
theorem CT {e:Expr}(h:Gk e=true):∃ p,e=.Dict [] [] p:=by
 cases e <;> first | exact ff h | skip
 rename_i ks vs p
 cases ks <;> cases vs <;> first | exact ff h | exact ⟨p,rfl⟩
theorem NE {y:Str}{e:Expr}(h:Gk e=true):PR n cx y e:=fun fm C _ _ _ _ _ _ _ _ h0 q x=>by
 obtain ⟨p,rfl⟩:=CT h
 exact Nx C.O fun H' g=>q _ _ (by rw [g]; exact h0)
theorem XR {y:Str}{e:Expr}(h:PE n cx 24 e) (hd:dOk e=true) (hl:PLs n cx 24 (zM e)) (hlen:Nat.ble (zM e).length 1000=true):PR n cx y e:=fun fm C α L m H K X Q QE h0 q x=>by
 have h0:(cif (FX e&&sV cx.mv y) (evL (ev cx) (zM e) m (aa H) (fun vs G=>K (.ref G.length) (G++[.list vs])) X) (cif (dE e) (K (.ref (aa H).length) (aa H++[.dI []])) (evX cx (ev cx) e m (aa H) K X))).tt L:=h0
 cases hm:FX e&&sV cx.mv y with
 | true =>
  rw [hm] at h0
  refine aj (I6 (an hm).1) fun p he=>?_
  generalize zM e=es at he h0 hl hlen
  subst he
  exact IO C.O (lS x hl.star (hl.g C) h0 fun vs H1 hn hk=>⟨hn ▸ aX hlen,fun H' g=>q _ _ (by rw [g]; exact hk)⟩)
 | false =>
  rw [hm,nt hd] at h0
  exact vL C (h fm C).a h0 q x
theorem Gl {α:Type}{L:α→Prop}{pos:Pos}{X:XT α}{QE:QX}(C:Cn fm cx n) (qx:KX L X QE) {m:LV}:∀ {ts es:List Expr}{H:MH}{K:List V→AH→Tr α}{QL:List V→MH→Prop},bb es=true→PRs n cx ts es→(II cx ts es m (aa H) K X).tt L →
  (∀ vs H',vs.length=es.length→(K vs (aa H')).tt L→QL vs H')→LW fm pos es (ba m) H QL QE
 | [],[],_,_,_,_,_,h,q=>Bg (q _ _ rfl h)
 | [],_::_,_,_,_,_,_,h,_=>h.elim
 | _::_,[],_,_,_,_,_,h,_=>h.elim
 | t::ts,e::r,H,K,QL,hs,hp,h,q=>rO ((ct hs).2 _) (hp.1 fm C (K:=fun v G=>II cx ts r m G (fun vs G=>K (v::vs) G) X) h (fun v H1 h1=>Gl C qx (ct hs).1 hp.2 h1 fun vs H2 hl h2=>q (v::vs) H2 (congrArg (·+1) hl) h2) qx)
theorem I7 {pos}:PS n cx (k+1) (.Pass pos):=fun fm C _ _ m H _ _ h q s S=>wpAny_Pass ⟨.next,m,H,q _ _ _ h,af.refl ..,S,rfl⟩
theorem LH {pos}:PS n cx (k+1) (.Break pos):=fun fm C _ _ m H _ _ h q s S=>wpAny_Break ⟨.brk,m,H,q _ _ _ h,af.refl ..,S,rfl⟩
theorem I8 {pos}:PS n cx (k+1) (.Continue pos):=fun fm C _ _ m H _ _ h q s S=>wpAny_Continue ⟨.cont,m,H,q _ _ _ h,af.refl ..,S,rfl⟩
theorem I9 {pos}:PS n cx (k+1) (.Return none pos):=fun fm C _ _ m H _ _ h q s S=>wpAny_Return_none ⟨.ret .none,m,H,q _ _ _ h,af.refl ..,S,_,rfl,rfl⟩
theorem gi {α:Type}{L:α→Prop}{K:Fl→LV→AH→Tr α}{Q:QF}(q:KF L K Q):KX L (exS K) Q.x:=fun _ _ _ a=>q _ _ _ a
variable {x t o v:Expr}{p pos:Pos}{y:Str}{ts:List Expr}{a:Nat}
theorem LI (h:PR n cx Lp x):PS n cx (k+1) (.Return (some x) pos):=fun fm C α L m H K Q h0 q s S =>
 wpAny_Return_some ((h fm C.toCn h0 (Q:=fun v H1=>Q (.ret v) m H1) (fun v H1 a=>q _ _ _ a) (gi q)).run S (fun y s1 v H1 T1 S1 r1 a=>⟨.ret v,m,H1,a,T1,S1,y,rfl,r1⟩) fun _ _ p=>p)
theorem DY {x:Expr}{pos:Pos}:dropValue x pos .none=pure .next:=by cases x <;> rfl
theorem Gm {α:Type}{L:α→Prop}{v:V}{t:Tr α}{P:Prop}(h:(cif (bg v) t .no).tt L) (k:bg v=true→t.tt L→P):P:=by
 cases e:bg v with
 | false=>rw [e] at h; exact h.elim
 | true=>rw [e] at h; exact k e h
theorem Ja (sw:eR cx x none pos.line false=true) (h:PE n cx 24 x):PS n cx (k+1) (.Expr x pos):=fun fm C α L m H K Q h0 q s S=>by
 rw [exec_Expr fm.env x pos (by unfold interactive; rw [C.O.kind]; rfl) (i7 C.toCn sw)]
 refine wpAny_bind (wpAny_standAt (wpAny_bind (((h fm C.toCn).a (K:=fun v G=>.aC (bg v) fun c=>cif c (K .next m G) .no) h0 (Q:=fun v H1=>bg v=true∧Q .next m H1) (fun v H1 a=>Gm a fun e a=>⟨e,q _ _ _ a⟩) (gi q)).run S (fun y s1 v H1 T1 S1 r1 a=>?_) fun _ _ p=>p)))
 obtain rfl:=CP a.1
 rw [show y=.none from r1,DY]
 exact wpAny_pure ⟨.next,m,H1,a.2,T1,S1,rfl⟩
theorem LJ (h1:cx.isVar y=true) (sw:eR cx v (some (.Name y p)) pos.line false=true) (h:PR n cx y v):PS n cx (k+1) (.Assign [.Name y p] v pos):=fun fm C α L m H K Q h0 q s S =>
 wpAny_Assign_Name ((h fm C.toCn h0 (Q:=fun v H1=>Q .next (m.set (gF cx.names y) (some v)) H1) (fun v H1 a=>q _ _ _ a) (gi q)).run S (fun y s1 v H1 T1 S1 r1 a=>i6 C h1 S1 r1 fun s2 T2 S2=>⟨.next,_,H1,a,T1.trans T2,S2,rfl⟩) fun _ _ p=>p) (i7 C.toCn sw)
theorem vS {Q:QF}(C:Cs fm cx n) (h1:lT cx ts=true) (h2:decide (nD cx ts).Nodup=true) (sw:eR cx v (some (.Tuple ts a p)) pos.line false=true) (h5:o8 cx ts a p v=true)
  (h:EW fm v (ba m) H (fun u H1=>∃ vs m',u=.tup vs∧bw (nD cx ts) vs m=some m'∧Q .next m' H1) Q.x):XW fm (.Assign [.Tuple ts a p] v pos) m H Q:=fun s S=>by
 have sw:=i7 C.toCn sw
 rcases DX C.toCn h5 with hs | hs
 ·exact Assign_Tuple (h.run S (fun y s1 u H1 T1 S1 r1 z=>cz z fun vs m' e1 e2 e3=>by
   subst e1
   exact vR C h1 e2 S1 r1 fun s2 T2 S2=>⟨.next,m',H1,e3,T1.trans T2,S2,rfl⟩) fun _ _ p=>p) sw hs
 ·refine Assign_Tuple_swapped (names:=ts.map bi) (h.run S (fun y s1 u H1 T1 S1 r1 z=>cz z fun vs m' e1 e2 e3=>?_) fun _ _ p=>p) sw hs
  subst e1
  refine cP r1 fun ad ys ey hok hl r9=>uO (xy (env:=fm.env) h1) fun l1 l2 l3 l4=>?_
  subst ey
  have l8:vs.length=ys.size:=r9.length
  have l9:=iE e2
  rw [l3,List.length_map] at l9
  rw [show (ts.map bi).length=ys.size from l9.trans l8]
  refine unpackItems_tuple C.hh hl.isTup fun h' he=>?_
  have kp:=af.push_ext he
  have T0:af fm H1 s1.heap H1 h':=af.of_keeps kp
  exact zS (names:=(ts.map bi).reverse) C (fun x hx=>l4 x (List.mem_reverse.mp hx)) (by rw [List.map_reverse,← l3]; exact qH (of_decide_eq_true h2) e2) (S1.keeps (s':={ s1 with heap:=h' }) kp rfl rfl rfl) (RepL.reverse (T0.repL r9)) fun s2 T2 S2 =>
   ⟨.next,m',H1,e3,(T1.trans T0).trans T2,S2,rfl⟩
theorem Gn {α:Type}{L:α→Prop}{o:Option LV}{t:LV→Tr α}{P:Prop}(h:(match o with | some m=>t m | none=>.no).tt L) (k:∀ m',o=some m'→(t m').tt L→P):P:=by
 cases o with
 | none=>exact h.elim
 | some m'=>exact k m' rfl h
theorem Jb {es:List Expr}{b:Nat}{p':Pos}(h1:lT cx ts=true) (h2:decide (nD cx ts).Nodup=true) (sw:eR cx (.Tuple es b p') (some (.Tuple ts a p)) pos.line false=true) (h5:o8 cx ts a p (.Tuple es b p')=true) (hs:bb es=true) (hl:Nat.ble es.length 1000=true) (h:PRs n cx ts es) :
  PS n cx (k+1) (.Assign [.Tuple ts a p] (.Tuple es b p') pos):=fun fm C α L m H K Q h0 q=>vS C h1 h2 sw h5 (F0 (Gl C.toCn (gi q) hs h h0 fun vs H1 hn z=>⟨hn ▸ aX hl,Gn z fun m' e z=>⟨vs,m',rfl,e,q _ _ _ z⟩⟩))
noncomputable def isTup (e:Expr):Bool:=match vw e with
 | .tup _=>true
 | _=>false
theorem LK {α:Type}{m:LV}{G:AH}{K:Fl→LV→AH→Tr α}(hv:isTup v=false):evS (k+1) cx (.Assign [.Tuple ts a p] v pos) α m G K=ev cx v α m G (fun v G=>.aL (rR v) fun vs=>match bw (nD cx ts) vs m with | some m=>K .next m G | none=>.no) (exS K):=by
 cases v <;> first | exact tf hv | rfl
theorem Jc (hv:isTup v=false) (h1:lT cx ts=true) (h2:decide (nD cx ts).Nodup=true) (sw:eR cx v (some (.Tuple ts a p)) pos.line false=true) (h5:o8 cx ts a p v=true) (h:PE n cx 24 v) :
  PS n cx (k+1) (.Assign [.Tuple ts a p] v pos):=fun fm C α L m H K Q h0 q=>by
 rw [LK hv] at h0
 exact vS C h1 h2 sw h5 ((h fm C.toCn).a h0 (fun v H1 z=>ae z fun vs e z=>Gn z fun m' e2 z=>⟨vs,m',vQ e,e2,q _ _ _ z⟩) (gi q))
theorem Jd {i:Expr}(sw:eR cx v (some (.Subscript o i p)) pos.line false=true) (hs:g7 i=true) (h1:PE n cx 24 v) (h2:PE n cx 24 o) (h3:PE n cx 24 i):PS n cx (k+1) (.Assign [.Subscript o i p] v pos):=fun fm C α L m H K Q h0 q s S=>by
 have h0:(ev cx v α m (aa H) (fun v G=>ev cx o α m G (fun a G=>ev cx i α m G (fun b G=>.aH (j3 G a b v) fun G=>K .next m G) (exS K)) (exS K)) (exS K)).tt L:=by cases i <;> first | exact ff hs | exact h0
 exact wpAny_Assign_Subscript (((h1 fm C.toCn).a h0 (fun v H1 a=>a) (gi q)).run S (fun y s1 v H1 T1 S1 r1 z=>((h2 fm C.toCn).a z (fun v H1 a=>a) (gi q)).run S1 (fun y2 s2 u H2 T2 S2 r2 z=>((h3 fm C.toCn).a z (Q:=fun b H3=>∃ G',j3 (aa H3) u b v=some G'∧(K .next m G').tt L) (fun v H1 a=>a) (gi q)).run S2 (fun y3 s3 w H3 T3 S3 r3 z =>
  ae z fun G' hset z=>ID hset C.O rfl S3 (T3.rep r2) r3 ((T2.trans T3).rep r1) fun H4 s4 g T4 S4=>⟨.next,m,H4,q _ _ _ (by rw [g]; exact z),((T1.trans T2).trans T3).trans T4,S4,rfl⟩) fun _ _ p=>p.back (T1.trans T2)) fun _ _ p=>p.back T1) fun _ _ p=>p) (i7 C.toCn sw)
theorem vT {Q:QF}{nm:Str}(C:Cs fm cx n) (sw:eR cx v (some (.Attribute o nm p)) pos.line false=true) (h:EW fm v (ba m) H (fun v H1=>EW fm o (ba m) H1 (fun u H2=>∃ G',vG (aa H2) u nm v=some G'∧∀ H3,aa H3=G'→Q .next m H3) Q.x) Q.x):XW fm (.Assign [.Attribute o nm p] v pos) m H Q:=fun s S =>
 plainObj_wpAny_Assign_Attribute (h.run S (fun y s1 v H1 T1 S1 r1 z=>EW.run z S1 (fun y2 s2 u H2 T2 S2 r2 z=>ae z fun G' hset z=>IF hset C.O rfl S2 r2 (T2.rep r1) fun H4 s4 g T4 S4=>⟨.next,m,H4,z H4 g,(T1.trans T2).trans T4,S4,rfl⟩) fun _ _ p=>p.back T1) fun _ _ p=>p) (i7 C.toCn sw)
theorem Je {nm:Str}(hv:dOk v=true) (sw:eR cx v (some (.Attribute o nm p)) pos.line false=true) (h1:PE n cx 24 v) (h2:PE n cx 24 o):PS n cx (k+1) (.Assign [.Attribute o nm p] v pos):=fun fm C α L m H K Q h0 q=>by
 have h0:(ev cx v α m (aa H) (fun v G=>ev cx o α m G (fun a G=>.aH (vG G a nm v) fun G=>K .next m G) (exS K)) (exS K)).tt L:=by
  cases v with
  | Dict ks vs pos' =>
   have h0:(cif ks.isEmpty (ev cx o α m (aa H++[.dS [] []]) (fun a G=>.aH (vG G a nm (.ref (aa H).length)) fun G=>K .next m G) (exS K)) .no).tt L:=h0
   rw [show ks.isEmpty=false from nt hv] at h0
   exact h0.elim
  | _=>exact h0
 exact vT C sw ((h1 fm C.toCn).a h0 (fun v H1 z=>(h2 fm C.toCn).a z (fun u H2 z=>ae z fun G' e z=>⟨G',e,fun H3 g=>q _ _ _ (by rw [g]; exact z)⟩) (gi q)) (gi q))
theorem Go {nm:Str}(hv:Gk v=true) (sw:eR cx v (some (.Attribute o nm p)) pos.line false=true) (h2:PE n cx 24 o):PS n cx (k+1) (.Assign [.Attribute o nm p] v pos):=fun fm C α L m H K Q h0 q=>by
 obtain ⟨p',rfl⟩:=CT hv
 exact vT C sw (Ny C.O fun H1 g=>(h2 fm C.toCn).a (K:=fun a G=>.aH (vG G a nm (.ref (aa H).length)) fun G=>K .next m G) (X:=exS K) (L:=L) (by rw [g]; exact h0) (fun u H2 z=>ae z fun G' e z=>⟨G',e,fun H3 g=>q _ _ _ (by rw [g]; exact z)⟩) (gi q))
theorem Jf {x:Str}{v:V}{Q:Value→Shared→Prop}{E:Value→Shared→Prop}(C:Cn fm cx n) (hv:cx.isVar x=true) (S:Sat fm (ba m) H s) (hm:ba m (gF cx.names x)=some v) (q:∀ y,fm.R H s.heap v y→Q y s):wpAny fm.M fm.A (loadName fm.env x) Q E s:=by
 obtain ⟨h1,h2,h3⟩:=gV hv
 have hk:fm.env.kindOf x=some .local∨fm.env.kindOf x=some .cell:=by rw [C.kindOf]; exact h2
 obtain ⟨val,hva,r⟩:=S.vars _ x v (by rw [C.names]; exact h1) hk hm
 unfold d6 at hva
 rcases hk with hk | hk
 ·rw [hk] at hva
  exact ae hva fun mm hn he=>wpAny_loadName_local C.O.kind hk hn he (q val r)
 ·rw [hk] at hva
  exact ae hva fun c hc hx=>wpAny_loadName_cell C.O.kind hk hc hx (q val r)
theorem LL {op} (h1:cx.isVar y=true) (h:PE n cx 24 v):PS n cx (k+1) (.AugAssign (.Name y p) op v pos):=fun fm C α L m H K Q h0 q s S=>ae h0 fun u hu h0 =>
 wpAny_AugAssign_Name (Jf C.toCn h1 S hu fun y0 r0=>((h fm C.toCn).a h0 (Q:=fun b H1=>∃ w,FO op u b=some w∧Q .next (m.set (gF cx.names y) (some w)) H1) (fun b H1 z=>ae z fun w hw z=>⟨w,hw,q _ _ _ z⟩) (gi q)).run S (fun y s1 v H1 T1 S1 r1 z=>ae z fun w hw z =>
  Ln hw S1 (T1.rep r0) r1 fun z' tk rz=>i6 C h1 (S1.toks tk) rz fun s2 T2 S2=>⟨.next,_,H1,z,T1.trans T2,S2,rfl⟩) fun _ _ p=>p)
theorem LM {x y:List Stmt}(h1:PE n cx 24 t) (h2:PBs n cx k x) (h3:PBs n cx k y):PS n cx (k+1) (.If t x y pos):=fun fm C α L m H K Q h0 q s S =>
 wpAny_If (wpAny_mono ((h1 fm C.toCn).t h0 (Q:=fun c H1=>(cif c (evB (evS k cx) x m (aa H1) K) (evB (evS k cx) y m (aa H1) K)).tt L) (s5 fun c H1 z=>z) (gi q) s S) (fun c s1 z=>by
  obtain ⟨H1,T1,S1,z⟩:=z
  cases c with
  | true=>exact wpAny_mono (h2 fm C z q s1 S1) (fun _ _ p=>p.back T1) fun _ _ p=>p.back T1
  | false=>exact wpAny_mono (h3 fm C z q s1 S1) (fun _ _ p=>p.back T1) fun _ _ p=>p.back T1) fun _ _ p=>p)
theorem Gp {b:List Stmt}(h1:PE n cx 24 t) (h2:PBs n cx k b):PS n cx (k+1) (.While t b [] pos):=fun fm C α L m H K Q h0 q=>Dz h0 fun fl m' G' hw z=>hw.elim fun j hw=>(Gh C h1 h2 hw).mono (LG z q)
theorem Jg {it:Expr}{b:List Stmt}(h1:cx.isVar y=true) (h2:o7 it=true) (h3:PE n cx 24 it) (h4:PBs n cx k b):PS n cx (k+1) (.For (.Name y p) it b [] pos):=fun fm C α L m H K Q h0 q =>
 Gi C (mi h2) (fun fm' C' v m m' H s y' E Q hm S r q=>wpAny_assign_Name (i6 C' h1 S r fun s' T S=>q s' T (sj hm ▸ S))) h4 (vL C.toCn (h3 fm C.toCn).a h0 (fun v H1 z=>ae z fun xs hx z=>Dz z fun fl m' G' hw z=>⟨xs,hx,.inl ⟨y,p,rfl⟩,fl,m',G',hw,LG z q⟩) (gi q))
theorem Gq {v:V}{xs:List V}{P:Prop}(h:FM v=some xs) (k:zC v=true→nz v=some xs→P):P:=by
 unfold FM at h
 cases e:zC v with
 | false=>rw [e] at h; exact nS h
 | true=>rw [e] at h; exact k e h
theorem Jh {it:Expr}{b:List Stmt}(h1:lT cx ts=true) (h2:o7 it=true) (h3:PE n cx 24 it) (h4:PBs n cx k b):PS n cx (k+1) (.For (.Tuple ts a p) it b [] pos):=fun fm C α L m H K Q h0 q =>
 Gi C (mi h2) (fun fm' C' v m m' H s y' E Q hm S r q=>cD hm fun vs hvs hm=>vR C' h1 hm S (vQ hvs ▸ r) q) h4 (vL C.toCn (h3 fm C.toCn).a h0 (fun v H1 z=>ae z fun xs hx z=>Dz z fun fl m' G' hw z=>Gq hx fun e1 e2=>⟨xs,e2,.inr e1,fl,m',G',hw,LG z q⟩) (gi q))
end
end
end Mine
end
section
open PySem PySem.W PyProof.Rows Builtin.Str Builtin Builtin.ObjectAttr
set_option maxRecDepth 100000
set_option genSizeOf false
set_option genInjectivity false
namespace Mine
section
noncomputable def nL:Str:=⟨⟨[82,97,105,115,101,100]⟩⟩
theorem s6:nL=("Raised":Str):=by decide +kernel
section
variable {prog:Program}{w:World}{A:Around}{E:Value→Shared→Prop}{s:Shared}{K:Frag}
theorem BF {env:Env}{x:Sem Value}{Q:Flow→Shared→Prop}(hh:A.handled=none)
  (h:wpAny (model prog w) A x (fun v s₁=>∃ e dd fs sl,v=.ref e∧de s₁.heap∧s₁.heap.get? e=some ⟨.ref ai,dd,.fields fs,sl⟩∧fs[1]? = some .none∧E (.ref e) s₁) E s) :
  wpAny (model prog w) A (raiseStmt env (some x) none) Q E s:=by
 have hcB:(Value.ref ai::oJ).contains (.type "BaseException")=true:=by decide +kernel
 unfold raiseStmt
 refine wpAny_bind (wpAny_mono h (fun v s₁ h₁=>?_) fun _ _ x=>x)
 refine DB h₁ fun e dd fs sl ev Y he hf1 hE=>?_
 subst ev
 refine Y.el fun nm qq N bs hdct sn sub ab col dd' k0 k1 k2 k3 k5 hC=>?_
 obtain ⟨hp,g,d,tk,os⟩:=s₁
 repeat (first | with_reducible refine wpAny_loadPart_at he ?_ | with_reducible refine wpAny_loadPart_at hC ?_ | (with_reducible refine wpAny_isSubtype_exc hC ?_; rw [hcB]) | wp_step)
 rw [hf1]
 refine wpAny_pure ?_
 rw [if_neg (by decide)]
 exact wpAny_pure (wpAny_raiseNew_none hh hE)
end
section
variable {fm:Fm}{m:Loc}{H:MH}{s:Shared}
theorem vU {pre post:MH}{a d:Addr}{ks:List Str}{us:List V}{b:Addr}:b∈aW ((a,MO.exc d none ks us)::(pre++(a,MO.dead)::post))↔b∈aW (pre++(a,MO.made (some d) ks us)::post):=by
 rw [jm,cg,cg]
 simp only [MO.addrs,Option.toList_some,List.mem_append,List.mem_cons,List.not_mem_nil,or_false,List.nil_append]
 constructor
 ·rintro (h | h | h)
  ·exact .inr (.inl h)
  ·exact .inl h
  ·exact .inr (.inr h)
 ·rintro (h | h | h)
  ·exact .inr (.inl h)
  ·exact .inl h
  ·exact .inr (.inr h)
theorem Sat.fly {pre post:MH}{a d:Addr}{ks:List Str}{us:List V}(O:ay fm) (S:Sat fm m (pre++(a,.made (some d) ks us)::post) s) :
  Sat fm m ((a,.exc d none ks us)::(pre++(a,.dead)::post)) s∧af fm (pre++(a,.made (some d) ks us)::post) s.heap ((a,.exc d none ks us)::(pre++(a,.dead)::post)) s.heap:=by
 have memX:∀ b,b∈fm.X ((a,MO.exc d none ks us)::(pre++(a,MO.dead)::post))↔b∈fm.X (pre++(a,MO.made (some d) ks us)::post):=fun b=>by
  rw [ax,ax,vU]
 have hal:bC ((a,MO.exc d none ks us)::(pre++(a,MO.dead)::post))=bC (pre++(a,MO.made (some d) ks us)::post):=by simp [bC,MO.isFly]
 have pre':∀ (i:Nat) (x:Addr),(bC (pre++(a,MO.made (some d) ks us)::post))[i]? = some x→(bC ((a,MO.exc d none ks us)::(pre++(a,MO.dead)::post)))[i]? = some x:=fun i x e=>by rw [hal]; exact e
 have conv:∀ {vs:List V}{xs:List Value},fm.RL (pre++(a,MO.made (some d) ks us)::post) s.heap vs xs→fm.RL ((a,MO.exc d none ks us)::(pre++(a,MO.dead)::post)) s.heap vs xs:=fun r =>
  RepL.mono pre' (fun b o e q=>⟨e,fun z=>q.1 ((memX b).mp z),q.2⟩) r
 have hM:dC fm _ s.heap a (.made (some d) ks us):=S.objs (a,.made (some d) ks us) (by simp)
 refine Sat.upd O S (fun b o e nX=>⟨e,fun z=>nX ((memX b).mp z)⟩) (fun L _ o e=>⟨o.slots,e⟩) (fun p hp=>?_) ?_ (fun b hb=>S.apart b (vU.mp hb)) rfl rfl rfl pre'
 ·rcases List.mem_cons.mp hp with rfl | hp
  ·obtain ⟨⟨fs,sl,h0,h1⟩,xs,ep,h2,h3,h4⟩:=hM
   exact ⟨⟨fs,sl,h0,h1⟩,xs,ep,h2,h3,conv h4⟩
  ·rcases List.mem_append.mp hp with hp | hp
   ·exact dC.conv rfl rfl conv (fun b _ o e=>e) (S.objs p (List.mem_append_left _ hp))
   ·rcases List.mem_cons.mp hp with rfl | hp
    ·trivial
    ·exact dC.conv rfl rfl conv (fun b _ o e=>e) (S.objs p (List.mem_append_right _ (List.mem_cons_of_mem _ hp)))
 ·have nd:=S.nodup
  rw [cg] at nd
  rw [jm,cg]
  simp only [MO.addrs,Option.toList_some,List.nil_append] at nd ⊢
  refine List.Perm.nodup ?_ nd
  rw [← List.append_assoc,← List.append_assoc]
  exact List.Perm.append_right _ List.perm_append_comm
end
section
variable {fm:Fm}{cx:Cx}{n k:Nat}{m:Loc}{H:MH}{s:Shared}
theorem zT {prog:Program}{w:World}{A:Around}{E:Value→Shared→Prop}{s:Shared}{env:Env}{e:Addr}{t:Expr}{nm:Str}{b₀:Stmt}{suite:List Stmt}{pos:Pos}{rest:List ExceptHandler}{Q:Flow→Shared→Prop}
  (h:wpAny (model prog w) (A.mark (some (.ref e))) (eval t env) (fun c s₁=>c=.ref ai∧de s₁.heap∧(∃ oe,s₁.heap.get? e=some oe∧oe.cls=.ref ai) ∧
   wpAny (model prog w) (A.mark (some (.ref e))) (setFlight (.ref e) none) (fun _ s₂ =>
     wpAny (model prog w) (A.mark (some (.ref e))) (storeName env nm (.ref e)) (fun _ s₃ =>
      wpAny (model prog w) (A.mark (some (.ref e))) (execs (b₀::suite) env)
       (fun f s₄=>wpAny (model prog w) A (do bindName env nm .none; unbindBehindTheSuite env nm pos) (fun _ s₅=>Q f s₅) E s₄)
       (AsSuiteRaised (model prog w) (A.mark (some (.ref e))) env nm pos (notedBy (model prog w) (A.mark (some (.ref e))) env (cameBackBy (model prog w) A env E))) s₃) (notedBy (model prog w) (A.mark (some (.ref e))) env (cameBackBy (model prog w) A env E)) s₂) (notedBy (model prog w) (A.mark (some (.ref e))) env (cameBackBy (model prog w) A env E)) s₁) (notedBy (model prog w) (A.mark (some (.ref e))) env (cameBackBy (model prog w) A env E)) s) :
  wpAny (model prog w) A (handleBy (.ref e) env (.ExceptHandler (some t) (some nm) (b₀::suite) pos::rest)) Q E s:=by
 refine wpAny_handleBy_cons (codeAny_handlers_test (wpAny_mono h (fun c s₁ h₁=>?_) fun _ _ y=>y)) (by intro q; cases q)
 refine uO h₁ fun ec Y ho hk=>?_
 subst ec
 refine gg fun T hT=>ae ho fun oe he hcls=>Y.el fun nm' qq N bs hdct sn sub ab col dd k0 k1 k2 k3 k5 hC=>hT ?_
 obtain ⟨hh,g,d,tk,os⟩:=s₁
 exact wpAny_excMatches_sub_self hC he hcls (by decide +kernel) (codeAny_handlers_suite_as hk)
theorem s7 {s':Shared}(O:ay fm) (hfr:fm.fr=fm.env.locals) (S:Sat fm m H s) (hns:∃ mm,s'.heap.Ns fm.env.locals mm) (hs:∀ b,b≠fm.env.locals→s'.heap.get? b=s.heap.get? b)
  (hg:s'.gens=s.gens) (ho:s'.os=s.os) (hd:s'.drawn=s.drawn):Sat fm (fun _=>none) H s'∧af fm H s.heap H s'.heap:=by
 have keep:∀ b o,b≠fm.env.locals→s.heap.get? b=some o→s'.heap.get? b=some o:=fun b o h e=>(hs b h).trans e
 refine Sat.own O S O.locals keep ?_ hns ?_ (fun i x v _ _ h=>by exact nS h) (let ⟨mm,o,_,_,e,_⟩:=hns; ⟨o,e⟩) hg ho hd
 ·refine mh O S.funs fun L hL o e hd=>?_
  by_cases z:L=fm.env.locals
  ·subst z
   refine E2 hns fun mm o' es ep e' hd' _=>?_
   exact ⟨o',e',fun vs q=>by rw [hd'] at q; cases q⟩
  ·exact ⟨o,keep L o z e,hd⟩
 ·intro y c hy hc
  refine cN (S.cells y c hy hc) fun w o e hd=>?_
  exact ⟨w,o,keep c o (O.cellsOwn y c hy hc).2 e,hd⟩
theorem LN {G:AH}{v:V}{p:Nat × List Str × List V}(h:IG G v=some p):v=.ref p.1∧G[p.1]? = some (.exc p.2.1 p.2.2)∧p.2.1.isEmpty=false:=by
 unfold IG at h
 cases v with
 | ref i =>
  cases e:G[i]? with
  | none=>simp only [e] at h; exact nS h
  | some a=>cases a with
   | exc ks us =>
    simp only [e] at h
    cases e2:ks.isEmpty with
    | true=>rw [e2] at h; exact nS h
    | false=>rw [e2] at h; obtain rfl:=sj h; exact ⟨rfl,e,e2⟩
   | _=>simp only [e] at h; exact nS h
 | _=>exact nS h
theorem LP {α:Type}{L:α→Prop}{o:Option (Nat × List Str × List V)}{t:Nat × List Str × List V→Tr α}(h:(match o with | some p=>t p | none=>.no).tt L):∃ p,o=some p∧(t p).tt L:=by
 cases o with
 | none=>exact h.elim
 | some p=>exact ⟨p,rfl,h⟩
theorem Gr {x:Expr}{pos:Pos}(h:PE n cx 24 x):PS n cx (k+1) (.Raise (some x) none pos):=fun fm C α L m H K Q h0 q s S=>by
 refine ae C.O.wd.cls fun K0 hK hf=>?_
 rw [arm_exec_Raise]
 refine wpAny_bind (wpAny_standAt ?_)
 show wpAny _ _ (raiseStmt fm.env (some (do let v ← eval x fm.env; standAt pos; pure v)) none) _ _ _
 refine BF C.hh (wpAny_bind (((h fm C.toCn).a (K:=fun v G=>match IG G v with | some p=>K (.ex p.2.1 p.2.2) [] (G.set p.1 .dead) | none=>.no) h0 (Q:=fun v H1=>∃ i ks us,v=.ref i∧(aa H1)[i]? = some (.exc ks us)∧ks.isEmpty=false∧∀ H2,aa H2=(aa H1).set i .dead→Q (.ex ks us) [] H2)
  (fun v H1 z=>ae (LP (t:=fun p=>K (.ex p.2.1 p.2.2) [] ((aa H1).set p.1 .dead)) z) fun p e z=>bW (LN e) fun e1 e2 e3=>⟨p.1,p.2.1,p.2.2,e1,e2,e3,fun H2 g=>q _ _ _ (by rw [g]; exact z)⟩) (gi q)).run S (fun y s1 v H1 T1 S1 r1 z=>Pb z fun i ks us e1 hg hne hq=>wpAny_bind (wpAny_standAt (wpAny_pure ?_))) fun _ _ p=>p))
 subst e1
 refine ae r1 fun ad had ey=>?_
 subst ey
 obtain ⟨pre,b,mo,post,rfl,g2,g3,g4,g5⟩:=di hg
 obtain rfl:=sj (g4.symm.trans had)
 refine aj (nq g2 g3) fun dd ed=>?_
 subst ed
 refine ar (S1.objs (_,.made dd ks us) (List.mem_append_right _ (.head _))) fun h0 rr=>cN h0 fun fs sl h0 hf1=>?_
 cases dd with
 | none=>rw [rr.1] at hne; exact tf hne
 | some d =>
  refine ⟨b,some d,fs,sl,rfl,hf.r1 _ (hK.keeps S1.base),h0,hf1,?_⟩
  refine ar (S1.fly C.O) fun S2 T2=>⟨b,d,none,ks,us,pre++(b,.dead)::post,ba m,rfl,T1.trans T2,S2,trivial,hq _ (g5 .dead rfl).1⟩
noncomputable abbrev nM (y:Str) (e:Expr):Prop:=(∃ n p p',e=.Attribute (.Name y p) n p'∧n∈aU∧∀ ks us r,lR y ks us (e::r)=((ks.zip us).lookup n).bind fun v=>(lR y ks us r).map (v::·)) ∨
 ∃ s k p,e=.Constant (.str s) k p∧s.length≤big∧∀ ks us r,lR y ks us (e::r)=(lR y ks us r).map (V.str s::·)
theorem Gu {y z n:Str}{p p':Pos}(h1:cU y z=true) (h2:aU.contains n=true):nM y (.Attribute (.Name z p) n p'):=by
 obtain rfl:=dh h1
 refine .inl ⟨n,p,p',rfl,List.contains_iff_mem.mp h2,fun ks us r=>?_⟩
 show (cif (cU y y&&aU.contains n) _ none).bind _=_
 rw [h1,h2]
 rfl
theorem Gv {y s:Str}{k:Nat}{p:Pos}(h:Nat.ble s.length big=true):nM y (.Constant (.str s) k p):=.inr ⟨s,k,p,rfl,aX h,fun _ _ _=>rfl⟩
theorem o9 (O:ay fm) {A:Around}(hA:A.frames=fm.A.frames) {nm:Str}(hk:fm.env.kindOf nm=some .local) (hdb:(nm==("__debug__":Str))=false) {e d:Addr}{tb:Option (Addr × Value)}{ks:List Str}{us:List V}{E:Value→Shared→Prop}{pos:Pos} :
  ∀ {xs:List Expr}{vs:List V}{s:Shared}{K:List Value→Shared→Prop},(∀ x∈xs,nM nm x)→lR nm ks us xs=some vs→Sat fm m ((e,.exc d tb ks us)::H) s→(∃ mm,s.heap.Ns fm.env.locals mm∧mm nm=some (.ref e)) →
   (∀ ys tk,vs.length=xs.length→fm.RL ((e,.exc d tb ks us)::H) s.heap vs ys→K ys { s with toks:=tk })→wpAny fm.M A (spliced (backTo pos (starEach xs fm.env))) K E s
 | [],vs,s,K,_,h,S,hv,q=>by
  obtain rfl:=sj h
  exact wpAny_items_nil (q [] s.toks rfl RepL.nil)
 | x::xs,vs,s,K,ho,h,S,hv,q=>by
  rcases ho x (.head _) with ⟨n,p,p',ex,hn,hh⟩ | ⟨c,k,p,ex,hl,hh⟩
  ·rw [hh] at h
   refine cD h fun v hl h=>gh h fun ws hw ev=>?_
   subst ex ev
   refine ae hv fun mm hns hmm=>ar (S.objs (e,.exc d tb ks us) (.head _)) fun h0 rr=>cN h0 fun fs sl h0 _=>cz rr fun zs ep hd hlen rl=>ae (i3 rl hl) fun z hz rz=>?_
   refine wpAny_items_cons (Attribute_any_ (wpAny_Name (wpAny_loadName_local O.kind hk hns hmm ?_) hdb) rfl) rfl
   exact qz (fm:=fm.up A) (m:=m) (H:=(e,.exc d tb ks us)::H) (O.up hA) S.up rfl hn h0 rfl rfl rfl hd hz (gU (fm:=fm) rz).handed
    fun tk=>o9 O hA hk hdb (fun x hx=>ho x (.tail _ hx)) hw (S.toks tk) ⟨mm,hns,hmm⟩ fun ys tk' hl r=>q _ tk' (congrArg (·+1) hl) (RepL.cons rz r)
  ·rw [hh] at h
   refine gh h fun ws hw ev=>?_
   subst ex ev
   exact wpAny_items_cons (wpAny_Constant_str (o9 O hA hk hdb (fun x hx=>ho x (.tail _ hx)) hw (S.toks _) hv fun ys tk hl' r=>q _ tk (congrArg (·+1) hl') (RepL.cons (iy hl) r))) rfl
theorem LR {x:Expr}{p1 p2 p3 p4 p5 tp:Pos}{nm g:Str}{xs:List Expr}{kk} (h1:PE n cx 24 x) (hg:cU g nL=true) (h2:cx.isGlob g=true) (h3:cx.isVar nm=true) (h4:cx.kinds.lookup nm=some .local) (h5:∀ x∈xs,nM nm x) (h6:Nat.ble xs.length 1000=true) :
  PS n cx (k+1) (.Try [.Return (some x) p1] [.ExceptHandler (some (.Name g p2)) (some nm) [.Return (some (.Tuple xs kk tp)) p3] p4] [] [] p5):=fun fm C α L m H K Q h0 q s S=>by
 have hk:fm.env.kindOf nm=some .local:=(C.kindOf nm).trans h4
 refine ae C.O.wd.cls fun K0 hK hf=>aj C.outer fun outer hfe=>?_
 have h0:(ev cx x α m (aa H) (fun v G=>K (.ret v) m G) (fun ks us G=>match lR nm ks us xs with | some ws=>K (.ret (.tup ws)) [] G | none=>.no)).tt L:=h0
 refine wpAny_Try_except (wpAny_execs_cons (wpAny_Return_some (((h1 fm C.toCn).a h0 (Q:=fun v H1=>Q (.ret v) m H1) (QE:=fun ks us H1=>∃ ws,lR nm ks us xs=some ws∧∀ H2,aa H2=aa H1→Q (.ret (.tup ws)) [] H2) (fun v H1 z=>q _ _ _ z) (fun ks us H1 z=>by
  cases e:lR nm ks us xs with
  | none=>simp only [e] at z; exact z.elim
  | some ws=>simp only [e] at z; exact ⟨ws,e,fun H2 g=>q _ _ _ (by rw [g]; exact z)⟩)).run S (fun y s1 v H1 T1 S1 r1 a=>⟨.ret v,m,H1,a,T1,S1,y,rfl,r1⟩) fun ex s1 p=>p.el fun a d tb ks us H' m' ea T1 S1 ht z=>ae z fun ws hw hq=>?_)))
 subst ea
 refine ku C.O hfe C.O.frEnv ht S1 fun T2 s2 S2 Tr2=>iz C.O S2 fun s3 S3 Tr3=>?_
 have nmR:gu (fm.up (fm.A.mark (some (.ref a)))) g (.ref ai):=mf (C.O.up (A:=fm.A.mark (some (.ref a))) rfl) hK (fun mg h _=>dh hg ▸ s6 ▸ h) hf.r2 (bj C.toCn h2).1 (bj C.toCn h2).2
 refine zT (nmR.read m' _ s3 p2 _ _ S3.up ⟨rfl,hf.r1 _ (hK.keeps S3.base),cN S3.exc_obj fun fs sl h0 _=>⟨_,h0,rfl⟩,?_⟩)
 refine iz (fm:=fm) (A:=fm.A.mark (some (.ref a))) C.O S3 fun s4 S4 Tr4=>aj S4.ns fun mm hns=>?_
 refine wpAny_storeName_local hk hns (fun h' hn' hs'=>?_) (by rw [C.O.kind]; rfl)
 refine ar (s7 (s':={ s4 with heap:=h',toks:=s4.toks+1 }) C.O C.frLoc S4 ⟨_,hn'⟩ (fun b hb=>hs'.2 b hb) rfl rfl rfl) fun S5 Tr5=>?_
 refine wpAny_execs_cons (wpAny_Return_some (wpAny_Tuple (o9 (A:=fm.A.mark (some (.ref a))) C.O rfl hk (gV h3).2.2 h5 hw S5 ⟨_,hn',if_pos rfl⟩ fun ys tk hly rl=>?_)))
 have hly:ys.length≤1000:=by rw [← rl.length,hly]; exact aX h6
 refine ⟨bX (Nat.le_trans hly (by decide)),?_⟩
 dsimp only
 obtain ⟨v0,H6,T6,S6,r6,q6⟩:=lZ (Q:=fun v H6=>v=.tup ws∧H6=_) (xs:=ys.toArray) (by rw [List.size_toArray]; exact few hly) (S5.toks tk) rl ⟨rfl,rfl⟩
 obtain ⟨e6,e7⟩:=q6
 subst e6 e7
 refine aj S6.ns fun mm6 hns6=>?_
 refine wpAny_nameGoes hk hns6 (by rw [C.O.kind]; rfl) fun h7 m7 hn7 hs7=>?_
 refine ar (s7 (s':=⟨h7,s4.gens,s4.drawn,tk+1,s4.os⟩) C.O C.frLoc S6 ⟨_,hn7⟩ (fun b hb=>hs7.2 b hb) rfl rfl rfl) fun S7 T7=>?_
 exact ⟨.ret (.tup ws),[],(a,MO.exc d (some (T2,none.elim Value.none fun f=>rawInt f)) ks us)  ::H',hq _ rfl,(((((T1.trans Tr2).trans Tr3).trans Tr4).trans Tr5).trans T6).trans T7,S7.weak fun i v h=>nS h,_,rfl,T7.rep r6⟩
set_option backward.match.sparseCases false in
theorem Ji {b:List Stmt}{h0:ExceptHandler}{hs:List ExceptHandler}{pos:Pos}(hr:(FY b).isNone=true) (h:PBs n cx k b):PS n cx (k+1) (.Try b (h0::hs) [] [] pos):=fun fm C α L m H K Q h1 q s S=>by
 have h1:(match FY b with
  | some e=>ev cx e α m (aa H) (fun v G=>K (.ret v) m G) (evH (h0::hs) K)
  | none=>evB (evS k cx) b m (aa H) fun f m G=>match f with
   | .ex _ _=>.no
   | f=>K f m G).tt L:=h1
 rw [Option.isNone_iff_eq_none.mp hr] at h1
 refine wpAny_Try_except (wpAny_mono (h fm C h1 (Q:=fun f m1 H1=>(∀ ks us,f≠.ex ks us)∧Q f m1 H1) (fun f m1 H1 z=>?_) s S) (fun f s1 p=>p.el fun fl m1 H1 a T1 S1 hf=>?_) fun x s1 p=>p.el fun e d tb ks vs H' m' ex T₁ S₁ ht z=>absurd rfl (z.1 ks vs))
 ·cases f with
  | ex _ _=>exact z.elim
  | _=>exact ⟨fun _ _ e=>by injection e,q _ _ _ z⟩
 ·cases fl with
  | next=>subst hf; exact wpAny_execs_nil ⟨.next,m1,H1,a.2,T1,S1,rfl⟩
  | brk=>subst hf; exact ⟨.brk,m1,H1,a.2,T1,S1,rfl⟩
  | cont=>subst hf; exact ⟨.cont,m1,H1,a.2,T1,S1,rfl⟩
  | ret v=>obtain ⟨x,e,r⟩:=hf; subst e; exact ⟨.ret v,m1,H1,a.2,T1,S1,x,rfl,r⟩
  | ex _ _=>exact hf.elim
end
end
end Mine
end
section
open PySem PySem.W PyProof.Rows Builtin.Str
set_option maxRecDepth 20000
set_option genSizeOf false
set_option genInjectivity false
namespace Mine
section
noncomputable def iF (p:Arguments) (ps:List Str):Bool:=match p with
 | ⟨[],args,none,[],_,none,_⟩=>args.map (·.arg)==ps
 | _=>false
theorem s8 {p:Arguments}{ps:List Str}{G:Prop}(h:iF p ps=true) (k:∀ args kd df,p=⟨[],args,none,[],kd,none,df⟩→args.map (·.arg)=ps→G):G:=by
 obtain ⟨po,ag,va,ko,kd,kw,df⟩:=p
 cases po with
 | cons=>exact ff h
 | nil=>cases va with
  | some=>exact ff h
  | none=>cases ko with
   | cons=>exact ff h
   | nil=>cases kw with
    | some=>exact ff h
    | none=>exact k ag kd df rfl (eq_of_beq h)
theorem s9 {T:List Str}{x:Str}:∀ {L:List Str}{xs:List Value},x∈L→L.length≤xs.length→(((L++T).zip xs).lookup x).isSome=true
 | [],_,h,_=>nomatch h
 | p::L,[],_,h=>absurd h (Nat.not_succ_le_zero _)
 | p::L,y::xs,h,hl=>by
  rw [List.cons_append,List.zip_cons_cons,List.lookup_cons]
  cases e:x==p with
  | true=>rfl
  | false=>exact s9 ((List.mem_cons.mp h).elim (fun q=>tf ((beq_iff_eq.mpr q).symm.trans e)) id) (Nat.le_of_succ_le_succ hl)
theorem xz {T:List Str}:∀ {L:List Str}{xs:List Value},xs.length≤L.length→(L++T).zip xs=L.zip xs
 | _,[],_=>by rw [List.zip_nil_right,List.zip_nil_right]
 | [],_::_,h=>absurd h (Nat.not_succ_le_zero _)
 | p::L,y::xs,h=>congrArg ((p,y)::·) (xz (L:=L) (Nat.le_of_succ_le_succ h))
theorem Gw {L:List Str}{xs:List Value}{x:Str}(h:x ∉ L):(L.zip xs).lookup x=none:=by
 cases q:List.lookup x (L.zip xs) with
 | none=>rfl
 | some v=>exact absurd (List.of_mem_zip (mem_of_lookup q)).1 h
theorem ta:∀ {ps:List Str}{ys:List Value},ps.Nodup→ps.length=ys.length→∀ (pre:List (Str × Value)),(∀ x∈ps,pre.lookup x=none)→ps.filterMap (fun n=>((pre++ps.zip ys).lookup n).map (n,·))=ps.zip ys
 | [],[],_,_,_,_=>rfl
 | [],_::_,_,h,_,_=>by simp at h
 | _::_,[],_,h,_,_=>by simp at h
 | p::ps,y::ys,nd,hl,pre,hpre=>by
  obtain ⟨n1,n2⟩:=List.nodup_cons.mp nd
  simp only [List.zip_cons_cons,List.filterMap_cons]
  have h1:(pre++(p,y)::ps.zip ys).lookup p=some y:=by
   rw [List.lookup_append,hpre p (.head _)]; simp
  rw [h1]
  simp only [Option.map_some]
  have:=ta (ps:=ps) (ys:=ys) n2 (by simpa using hl) (pre++[(p,y)]) (fun x hx=>by
   rw [List.lookup_append,hpre x (.tail _ hx)]
   have:(x==p)=false:=by simpa using fun q=>n1 (by rw [← q]; exact hx)
   simp [List.lookup_cons,this])
  rw [show pre++[(p,y)]++ps.zip ys=pre++(p,y)::ps.zip ys by simp] at this
  rw [this]
theorem BG {α β:Type} (a:α) (f:α→Sem β):(pure a >>= f:Sem β)=f a:=rfl
noncomputable abbrev vV (x:Str × Value) (z:List (Str × Value)):Sem (ForInStep (List (Str × Value))):=if (List.lookup x.fst z).isNone=true then pure (ForInStep.yield (z++[(x.fst,x.snd)])) else pure (ForInStep.yield z)
theorem CU:∀ {L acc:List (Str × Value)},(L.map (·.1)).Nodup→(∀ p∈L,acc.lookup p.1=none)→(forIn L acc vV:Sem (List (Str × Value)))=pure (acc++L)
 | [],acc,_,_=>by rw [List.append_nil]; rfl
 | p::L,acc,h2,h3=>by
  obtain ⟨n1,n2⟩:=List.nodup_cons.mp h2
  rw [List.forIn_cons,vV,if_pos (by rw [h3 p (.head _)]; rfl),BG]
  refine (CU n2 fun q hq=>?_).trans (congrArg pure (List.append_assoc acc [(p.1,p.2)] L))
  have:(q.1==p.1)=false:=beq_eq_false_iff_ne.mpr fun e=>n1 (List.mem_map.mpr ⟨q,hq,e⟩)
  rw [List.lookup_append,h3 q (.tail _ hq),List.lookup_cons,this]
  rfl
theorem vW {L₂ acc:List (Str × Value)}(h2:(L₂.map (·.1)).Nodup) (h3:∀ p∈L₂,acc.lookup p.1=none):∀ {L₁:List (Str × Value)},(∀ p∈L₁,(acc.lookup p.1).isSome=true)→(forIn (L₁++L₂) acc vV:Sem (List (Str × Value)))=pure (acc++L₂)
 | [],_=>CU h2 h3
 | p::L₁,h1=>by
  rw [List.cons_append,List.forIn_cons,vV,if_neg fun q=>ff ((congrArg Option.isSome (Option.isNone_iff_eq_none.mp q)).symm.trans (h1 p (.head _))),BG]
  exact vW h2 h3 fun q hq=>h1 q (.tail _ hq)
section
variable {A B C:List Str}{xs d1 d2:List Value}
theorem Jj (h1:A.length≤xs.length):((A.filter fun n=>(((A++B).zip xs).lookup n).isNone).isEmpty)=true:=by
 rw [List.isEmpty_iff,List.filter_eq_nil_iff]
 intro x hx
 rw [Option.isNone_iff_eq_none]
 exact fun e=>ff ((congrArg Option.isSome e).symm.trans (s9 hx h1))
theorem Gx (nd:(A++(B++C)).Nodup) (h1:xs.length=(A++B).length) (h2:B.length=d1.length) (h3:C.length=d2.length) :
  (forIn ((B++C).zip (d1++d2)) ((A++(B++C)).zip xs) vV:Sem (List (Str × Value)))=pure ((A++(B++C)).zip (xs++d2)):=by
 rw [← List.append_assoc] at nd ⊢
 rw [List.zip_append h2,List.zip_append (l₁:=A++B) h1.symm,← xz (T:=C) (Nat.le_of_eq h1)]
 refine vW ?_ (fun p hp=>?_) fun p hp=>s9 (List.mem_append_right _ (List.of_mem_zip hp).1) (Nat.le_of_eq h1.symm)
 ·rw [List.map_fst_zip (Nat.le_of_eq h3)]
  exact nd.sublist (List.sublist_append_right ..)
 ·rw [xz (Nat.le_of_eq h1)]
  exact Gw fun q=>(List.nodup_append.mp nd).2.2 _ q _ (List.of_mem_zip hp).1 rfl
end
theorem NF {p d n:Nat}(h1:n≤p) (h2:p≤n+d) (h3:d≤p):d - (n+d - p)=p - n:=by
 have q:=Nat.sub_le_iff_le_add.mpr h2
 rw [← Nat.sub_sub_right n h3,← Nat.add_sub_add_left (p - d) d,Nat.sub_add_cancel h3,Nat.add_sub_cancel' q]
theorem LS {ps:List Str}{ds:List Value}{n:Nat}(h1:n≤ps.length) (h2:ps.length≤n+ds.length) (h3:ds.length≤ps.length) :
  ∃ A B C d1 d2,ps=A++(B++C)∧ds=d1++d2∧n=(A++B).length∧B.length=d1.length∧C.length=d2.length:=by
 have q:=Nat.sub_le_iff_le_add.mpr h2
 have e:n - (ps.length - ds.length)=n+ds.length - ps.length:=by rw [Nat.sub_sub_right n h3]
 have e1:=(NF h1 h2 h3).symm
 refine ⟨ps.take (ps.length - ds.length),(ps.take n).drop (ps.length - ds.length),ps.drop n,ds.take (n+ds.length - ps.length),ds.drop (n+ds.length - ps.length),?_,(List.take_append_drop ..).symm,?_,?_,?_⟩
 ·have:ps.take (ps.length - ds.length)=(ps.take n).take (ps.length - ds.length):=by rw [List.take_take,Nat.min_eq_left q]
  rw [this,← List.append_assoc,List.take_append_drop,List.take_append_drop]
 ·rw [List.length_append,List.length_drop,List.length_take,List.length_take,Nat.min_eq_left h1,Nat.min_eq_left (Nat.sub_le ..)]
  exact (Nat.add_sub_cancel' q).symm
 ·rw [List.length_drop,List.length_take,List.length_take,Nat.min_eq_left h1,e]
  exact (Nat.min_eq_left (Nat.sub_le_iff_le_add'.mpr (Nat.add_le_add_right h1 _))).symm
 ·rw [List.length_drop,List.length_drop,e1]
section
variable {M:Model}{Ar:Around}{E:Value→Shared→Prop}{s:Shared}{α β:Type}{Q:α→Shared→Prop}
theorem Ko {m:Sem β}{b:β}{f:β→Sem α}(e:m=pure b) (k:wpAny M Ar (f b) Q E s):wpAny M Ar (m >>= f) Q E s:=by
 subst e
 exact wpAny_bind (wpAny_pure k)
theorem zU {dV:Value}{ds:List Value}(hd:(dV=.none∧ds=[])∨∃ t,dV=.ref t∧IsTup s.heap t ds.toArray) {f:Option (Array Value)→Sem α}(k:∀ D:Option (Array Value),(D.getD #[]).toList=ds→wpAny M Ar (f D) Q E s):wpAny M Ar (seqItems? dV >>= f) Q E s:=by
 rcases hd with ⟨rfl,z⟩ | ⟨t,rfl,o,ho,hoc,nn,hdd⟩
 ·exact k none z.symm
 ·exact wpAny_bind (wpAny_seqItems ho hdd (k (some ds.toArray) rfl))
end
section
variable {ps:List Str}{xs ds:List Value}
theorem kC {A B C:List Str}{d1 d2:List Value}(l1:xs.length=(A++B).length) (l2:B.length=d1.length) (l3:C.length=d2.length) :
  (A++(B++C)).length - ((d1++d2).drop ((d1++d2).length - (A++(B++C)).length)).length=A.length∧(d1++d2).drop ((d1++d2).length - (A++(B++C)).length)=d1++d2∧(d1++d2).drop (xs.length+(d1++d2).length - (A++(B++C)).length)=d2:=by
 have L:(A++(B++C)).length=(A++B).length+C.length:=by rw [← List.append_assoc,List.length_append]
 have L':(d1++d2).length=B.length+C.length:=by rw [List.length_append,l2,l3]
 have e2:(d1++d2).drop ((d1++d2).length - (A++(B++C)).length)=d1++d2:=by
  rw [L',List.length_append,List.length_append,Nat.sub_eq_zero_of_le (Nat.le_add_left ..),List.drop_zero]
 refine ⟨?_,e2,?_⟩
 ·rw [e2,L',List.length_append,List.length_append,Nat.add_sub_cancel]
 ·rw [L',L,l1,Nat.add_sub_add_left,Nat.add_sub_cancel,l2,List.drop_left]
theorem DZ (h1:xs.length≤ps.length) (h2:ps.length≤xs.length+ds.length) (h3:ds.length≤ps.length) :
  ((ps.take (ps.length - (ds.drop (ds.length - ps.length)).length)).filter fun n=>((ps.zip xs).lookup n).isNone).isEmpty=true:=by
 refine aj (LS h1 h2 h3) fun A h=>DB h fun B C d1 d2 e1 e2 l1 l2 l3=>?_
 rw [e1,e2,(kC l1 l2 l3).1,List.take_left]
 exact Jj (by rw [l1,List.length_append]; exact Nat.le_add_right ..)
theorem Gy (nd:ps.Nodup) (h1:xs.length≤ps.length) (h2:ps.length≤xs.length+ds.length) (h3:ds.length≤ps.length) :
  (forIn ((ps.drop (ps.length - (ds.drop (ds.length - ps.length)).length)).zip (ds.drop (ds.length - ps.length))) (ps.zip xs) vV:Sem (List (Str × Value)))=pure (ps.zip (xs++ds.drop (xs.length+ds.length - ps.length))):=by
 refine aj (LS h1 h2 h3) fun A h=>DB h fun B C d1 d2 e1 e2 l1 l2 l3=>?_
 rw [e1] at nd
 rw [e1,e2,(kC l1 l2 l3).1,(kC l1 l2 l3).2.1,(kC l1 l2 l3).2.2,List.drop_left]
 exact Gx nd l1 l2 l3
theorem Gz (nd:ps.Nodup) (h1:xs.length≤ps.length) (h2:ps.length≤xs.length+ds.length) (h3:ds.length≤ps.length) :
  (ps++[]).filterMap (fun n=>((ps.zip (xs++ds.drop (xs.length+ds.length - ps.length))).lookup n).map (n,·))=ps.zip (xs++ds.drop (xs.length+ds.length - ps.length)):=by
 refine (congrArg _ (List.append_nil ps)).trans (ta nd ?_ [] fun _ _=>rfl)
 refine aj (LS h1 h2 h3) fun A h=>DB h fun B C d1 d2 e1 e2 l1 l2 l3=>?_
 rw [e1,e2,(kC l1 l2 l3).2.2,← List.append_assoc,List.length_append,List.length_append (as:=xs),l1,l3]
end
theorem vX {F:Fn}{ps:List Str}{n:Nat}(hp:iF F.params ps=true) (nd:ps.Nodup) (h1:n≤ps.length) (h2:ps.length≤n+F.dfl.length) (h3:F.dfl.length≤ps.length):wZ F n ps:=by
 intro s dV pm cd ds xs hx hd hdl M Ar E Q hq
 rw [← hdl] at h2 h3 hq
 clear hdl
 subst hx
 refine s8 hp fun args kd' df' hP hps=>?_
 clear hp
 obtain ⟨_,b1,b2,b3,b4,b5,b6⟩:=F
 replace hP:b3=_:=hP
 subst hP
 replace hps:List.map (fun x:Arg=>x.arg) []++List.map (fun x:Arg=>x.arg) args=ps:=hps
 subst hps
 dsimp only [Fn.data,fnOf,bindArgs,List.forIn_nil,BG]
 refine zU hd fun D hD=>?_
 clear hd
 subst hD
 refine sK (fun q=>Nat.not_lt.mpr h1 (of_decide_eq_true (an q).1)) (sK (fun q=>?_) (Ko (Gy nd h1 h2 h3) (Ko rfl (sK ff (wpAny_pure ?_)))))
 ·rw [DZ h1 h2 h3] at q
  exact ff q
 ·exact (Gz nd h1 h2 h3).symm ▸ hq
end
section
theorem CV:∀ {ps:List Str}{vs:List V}{i:Nat}{x:Str}{v:V},ps.Nodup→ps[i]? = some x→vs[i]? = some v→(ps.zip vs).lookup x=some v
 | [],_,_,_,_,_,h,_=>nS h
 | p::ps,[],i,x,v,_,_,h=>nS h
 | p::ps,u::vs,0,x,v,_,h,h2=>by
  obtain rfl:=sj h
  obtain rfl:=sj h2
  exact List.lookup_cons_self
 | p::ps,u::vs,i+1,x,v,nd,h,h2=>by
  have nd:=List.nodup_cons.mp nd
  rw [List.zip_cons_cons,List.lookup_cons,beq_eq_false_iff_ne.mpr fun (e:x=p)=>nd.1 (by rw [← e]; exact List.mem_of_getElem? (i:=i) h)]
  exact CV nd.2 h h2
noncomputable def CW (F:Fn) (names:List Str) (np:Nat):Bool :=
 (((((m9 F names&&oO F (names.take np))&&Nat.ble np names.length)&&iF F.params (names.take np))&&Nat.ble F.dfl.length np) &&
 F.scope.names.all (fun y=>y.2 != .cell||((cellsFrom 0 F.scope.names []).lookup y.1).isSome))
structure FnF (F:Fn) (names:List Str) (np:Nat):Prop where
 c1:m9 F names=true
 c2:oO F (names.take np)=true
 c4:iF F.params (names.take np)=true
 c5:F.dfl.length≤np
 hnp:np≤names.length
 hlen:(names.take np).length=np
 ndp:(names.take np).Nodup
 cells:∀ x,F.scope.names.lookup x=some .cell→∀ L,∃ c,(cellsFrom (L+1) F.scope.names []).lookup x=some c
theorem fnF {F:Fn}{names:List Str}{np:Nat}(hc:CW F names np=true):FnF F names np:=by
 have h5:=an hc; have h4:=an h5.1; have h3:=an h4.1; have h2:=an h3.1; have h1:=an h2.1
 have hnp:=aX h2.2
 have nd:names.Nodup:=of_decide_eq_true (an (show (_&&decide names.Nodup)=true from h1.1)).2
 refine ⟨h1.1,h1.2,h3.2,aX h4.2,hnp,(List.length_take ..).trans (Nat.min_eq_left hnp),nd.sublist (List.take_sublist _ _),fun x hx L=>?_⟩
 have:=List.all_eq_true.mp h5.2 _ (mem_of_lookup hx)
 rw [bne_self_eq_false,Bool.false_or] at this
 rw [jn _ 0 (L+1)] at this
 exact Option.isSome_iff_exists.mp this
section
variable {n:Nat}{cx:Cx}{d:Fd}{vs:List V}{H:MH}
theorem Jk {fm:Fm}{names:List Str}{np:Nat}{args:List V}{s:Shared}(hnp:np≤names.length) (ndp:(names.take np).Nodup) (hal:args.length=np) (S:Sat fm (g0 names (names.take np) args) H s):Sat fm (ba (args.map some++List.replicate (names.length - np) none)) H s :=
 S.weak fun i v hi=>by
  unfold ba at hi
  have hl:(args.map some).length=np:=(List.length_map _).trans hal
  rcases Nat.lt_or_ge i np with hlt | hge
  ·rw [List.getElem?_append_left (hl.symm ▸ hlt),List.getElem?_map] at hi
   cases e:args[i]? with
   | none=>rw [e] at hi; exact nS hi
   | some u =>
    rw [e] at hi
    obtain rfl:=sj hi
    have hn:names[i]? = some (names[i]'(Nat.lt_of_lt_of_le hlt hnp)):=List.getElem?_eq_getElem _
    unfold g0
    rw [hn]
    exact CV ndp (by rw [List.getElem?_take,if_pos hlt]; exact hn) e
  ·rw [List.getElem?_append_right (hl.symm ▸ hge),List.getElem?_replicate] at hi
   split at hi <;> exact nS hi
theorem xA {fm:Fm}{args:List V}{Q:QV}{QE:QX}(C:Cs fm cx n) (hb:PBs n cx SN d.body) (hnp:d.np≤d.names.length) (ndp:(d.names.take d.np).Nodup) (hal:args.length=d.np)
  (h:(evB (evS SN cx) d.body (args.map some++List.replicate (d.names.length - d.np) none) (aa H) fun f _ G=>.ok (f,G)).tt fun p=>∀ H',aa H'=p.2→match p.1 with
   | .ret v=>Q v H'
   | .next=>Q .none H'
   | .ex ks us=>QE ks us H'
   | _=>False):qv fm d.body (g0 d.names (d.names.take d.np) args) H Q QE:=fun s S =>
 wpAny_mono (hb fm C h (Q:=fun f m' H'=>match f with
   | .ret v=>Q v H'
   | .next=>Q .none H'
   | .ex ks us=>QE ks us H'
   | _=>False) (fun f m' H' z=>z H' rfl) s (Jk hnp ndp hal S)) (fun f s' p=>p.el fun fl m1 H1 a T1 S1 hf=>by
  cases fl with
  | next=>subst hf; exact ⟨_,.none,H1,T1,S1,rfl,a⟩
  | ret v=>obtain ⟨x,e,r⟩:=hf; subst e; exact ⟨_,v,H1,T1,S1,r,a⟩
  | ex _ _=>exact hf.elim
  | _=>exact a.elim) fun x s' p=>p.mono fun ks us H' a=>a
end
end
section
noncomputable def Fm.hide (fm:Fm) (H:MH):Fm:={ fm with int:=aW H++fm.int }
section
variable {fm:Fm}{m m':Loc}{H H':MH}{s s':Shared}
theorem CX {b:Addr}(h:b ∉ fm.X H):b ∉ (fm.hide H).X []:=fun q=>h (ax.mpr ((ax.mp q).imp id (.imp id fun z=>nomatch z)))
theorem kD {b:Addr}(h:(fm.hide H).ok H' b):fm.ok H b :=
 ⟨fun q=>(ax.mp q).elim (fun z=>h.1 (ax.mpr (.inl z))) fun z=>z.elim (fun z=>h.1 (ax.mpr (.inr (.inl z)))) fun z=>h.2 (List.mem_append_left _ z),fun z=>h.2 (List.mem_append_right _ z)⟩
theorem Sat.hide (S:Sat fm m H s) (hm:∀ i v,m i=some v→v.pu=true):Sat (fm.hide H) m [] s :=
 ⟨S.base,S.funs,S.ns,S.cells,fun i x v h1 h2 h3=>let ⟨val,a,r⟩:=S.vars i x v h1 h2 h3
  ⟨val,a,Rep.mono0 (fun b o e q=>⟨e,CX q.1,fun z=>(List.mem_append.mp z).elim (fun z=>q.1 (ax.mpr (.inr (.inr z)))) q.2⟩) _ _ (.inl (hm i v h3)) r⟩,
  fun p hp=>(nomatch hp),List.nodup_nil,fun a ha=>(nomatch ha),fun a ha=>ha.elim (fun z=>S.alive a (.inl z)) fun z=>z.elim (fun z=>S.alive a (.inr (.inl z))) fun z=>(List.mem_append.mp z).elim (fun z=>by
  cases e:s.heap.get? a with
  | none=>exact absurd z (S.fresh_owned e)
  | some o=>exact ⟨o,rfl⟩) fun z=>S.alive a (.inr (.inr z)),S.gens,S.os,S.drawn⟩
theorem ay.hide (O:ay fm) (S:Sat fm m H s):ay (fm.hide H) :=
 {O with
  ownBase:=fun a h=>h.elim (fun z=>O.ownBase a (.inl z)) fun z=>z.elim (fun z=>O.ownBase a (.inr (.inl z))) fun z=>(List.mem_append.mp z).elim (fun z=>(S.apart a z).2.2.2) fun z=>O.ownBase a (.inr (.inr z))
  ownFm:=fun a h z=>(List.mem_append.mp z).elim (fun z=>(S.apart a z).1 h) (O.ownFm a h)
  outsFm:=fun a h z=>(List.mem_append.mp z).elim (fun z=>(S.apart a z).2.1 h) (O.outsFm a h) }
theorem D0 (S:Sat fm m H s) (T:af (fm.hide H) [] s.heap H' s'.heap) {a:Addr}(h:a∈aW H) {o:Obj}(e:s.heap.get? a=some o):s'.heap.get? a=some o :=
 (T.keep a o e fun q=>(ax.mp q).elim (S.apart a h).1 fun z=>z.elim (S.apart a h).2.1 fun z=>nomatch z).1
theorem tc (S':Sat (fm.hide H) m' H' s') (a:Addr) (h:a∈fm.own∨a∈fm.outs∨a∈fm.int):∃ o,s'.heap.get? a=some o:=S'.alive a (h.imp id (.imp id (List.mem_append_right _)))
theorem vY (S:Sat fm m H s) (T:af (fm.hide H) [] s.heap H' s'.heap) {H₁:MH}(pre:∀ (i:Nat) (a:Addr),(bC H)[i]? = some a→(bC H₁)[i]? = some a) (k:∀ b,b ∉ fm.X H→b ∉ (fm.hide H).X H'→b ∉ fm.X H₁) (p:Addr × MO) (hp:p∈H):dC fm H₁ s'.heap p.1 p.2 :=
 dC.mono pre (fun b o e q=>let z:=T.keep b o e (CX q.1); ⟨z.1,k b q.1 z.2,q.2⟩) (fun b hb o e=>D0 S T (List.mem_flatMap.mpr ⟨p,hp,hb⟩) e) (S.objs p hp)
theorem D1 (S:Sat fm m H s) (T:af (fm.hide H) [] s.heap H' s'.heap) (S':Sat (fm.hide H) m' H' s'):af fm H s.heap H s'.heap∧Sat fm (fun _=>none) H s' :=
 ⟨⟨fun b o e n=>⟨(T.keep b o e (CX n)).1,n⟩,T.outs,fun _ _ e=>e⟩,S'.base,S'.funs,S'.ns,S'.cells,fun _ _ _ _ _ h=>(nomatch h),vY S T (fun _ _ e=>e) fun _ h _=>h,S.nodup,S.apart,tc S',S'.gens,S'.os,S'.drawn⟩
theorem BH {e d:Addr}{tb:Option (Addr × Value)}{ks:List Str}{vs:List V}(S:Sat fm m H s) (T:af (fm.hide H) [] s.heap ((e,.exc d tb ks vs)::H') s'.heap) (S':Sat (fm.hide H) m' ((e,.exc d tb ks vs)::H') s') (hv:V.puL vs=true) :
  af fm H s.heap ((e,.exc d tb ks vs)::H) s'.heap∧Sat fm (fun _=>none) ((e,.exc d tb ks vs)::H) s':=by
 have ap:=fun a ha=>S'.apart a (List.mem_append_left _ ha)
 have mem:∀ {b},b∈fm.X ((e,.exc d tb ks vs)::H)→b∈fm.X H∨b∈MO.addrs e (.exc d tb ks vs):=fun {b} q=>(ax.mp q).elim (fun z=>.inl (ax.mpr (.inl z))) fun z=>z.elim (fun z=>.inl (ax.mpr (.inr (.inl z)))) fun z=>(List.mem_append.mp z).elim .inr fun z=>.inl (ax.mpr (.inr (.inr z)))
 have kk:∀ b,b ∉ fm.X H→b ∉ (fm.hide H).X ((e,.exc d tb ks vs)::H')→b ∉ fm.X ((e,.exc d tb ks vs)::H):=fun b h1 h2 q=>(mem q).elim h1 fun z=>h2 (ax.mpr (.inr (.inr (List.mem_append_left _ z))))
 have nd:=List.nodup_append.mp S'.nodup
 refine ⟨⟨fun b o eb n=>let z:=T.keep b o eb (CX n); ⟨z.1,kk b n z.2⟩,T.outs,fun _ _ q=>q⟩,S'.base,S'.funs,S'.ns,S'.cells,fun _ _ _ _ _ h=>(nomatch h),fun p hp=>?_,?_,fun a ha=>?_,tc S',S'.gens,S'.os,S'.drawn⟩
 ·rcases List.mem_cons.mp hp with z | hp
  ·subst z
   obtain ⟨h1,xs,ep,h2,h3,h4⟩:=S'.objs _ (.head _)
   exact ⟨h1,xs,ep,h2,h3,RepL.mono0 (fun b o eb q=>⟨eb,kk b (kD q).1 q.1,(kD q).2⟩) (.inl hv) h4⟩
  ·exact vY S T (H₁:=(e,.exc d tb ks vs)::H) (fun _ _ q=>q) kk p hp
 ·exact List.nodup_append.mpr ⟨nd.1,S.nodup,fun a ha b hb q=>(ap a ha).2.2.1 (List.mem_append_left _ (q ▸ hb))⟩
 ·rcases List.mem_append.mp ha with z | z
  ·have:=ap a z
   exact ⟨this.1,this.2.1,fun q=>this.2.2.1 (List.mem_append_right _ q),this.2.2.2⟩
  ·exact S.apart a z
theorem Cs.hide {cx:Cx}{n:Nat}(C:Cs fm cx n) (S:Sat fm m H s):Cs (fm.hide H) cx n:=⟨⟨C.O.hide S,C.names,C.kinds,C.room,C.hh,C.fns,C.cells⟩,C.outer,C.cellIn,C.frLoc⟩
theorem kE (S':Sat (fm.hide H) m' H' s') {b:Addr}(h:b∈aW H'):fm.ok H b:=by
 obtain ⟨h1,h2,h3,h4⟩:=S'.apart b h
 exact ⟨fun q=>(ax.mp q).elim h1 fun q=>q.elim h2 fun q=>h3 (List.mem_append_left _ q),fun q=>h3 (List.mem_append_right _ q)⟩
theorem xD {v:V}{x:Value}{h:Heap}(hv:v.pu=true) (r:(fm.hide H).R H' h v x):fm.R H h v x:=Rep.mono0 (fun b o e q=>⟨e,kD q⟩) v x (.inl hv) r
theorem zV {v:List V}{x:List Value}{h:Heap}(hv:V.puL v=true) (r:(fm.hide H).RL H' h v x):fm.RL H h v x:=RepL.mono0 (fun b o e q=>⟨e,kD q⟩) (.inl hv) r
theorem vZ (O':ay (fm.hide H)) (S':Sat (fm.hide H) m' H' s') {i:Nat}{x:Value}(r:(fm.hide H).R H' s'.heap (.ref i) x) (hp:(i5 (aa H') (.ref i)).pu=true):fm.R H s'.heap (i5 (aa H') (.ref i)) x:=by
 unfold i5 at hp ⊢
 cases e:(aa H')[i]? with
 | none=>simp only [e] at hp; exact ff hp
 | some ao=>cases ao with
  | list vs =>
   simp only [e] at hp ⊢
   exact cP (g6 S' e r) fun a xs ex hm hl r1=>⟨a,xs,ex,kE S' (bm hm (.head _)),hl,zV hp r1⟩
  | dS ks vs =>
   simp only [e] at hp ⊢
   exact DA (Bl O' S' e r) fun a xs ep ex hm hz hd hl r1=>⟨a,xs,ep,ex,kE S' (bm hm (.head _)),hz,hd,hl,zV hp r1⟩
  | dI ks =>
   simp only [e] at hp ⊢
   exact mQ (w6 O' S' e r) fun a ep ex hm hz hd hl=>⟨a,ep,ex,kE S' (bm hm (.head _)),hz,hd,hl⟩
  | _=>simp only [e] at hp; exact ff hp
theorem D2 (O':ay (fm.hide H)) (S':Sat (fm.hide H) m' H' s') {v:V}{x:Value}(r:(fm.hide H).R H' s'.heap v x) (hp:(i5 (aa H') v).pu=true):fm.R H s'.heap (i5 (aa H') v) x:=by
 cases v with
 | ref i=>exact vZ O' S' r hp
 | _=>exact xD hp r
theorem v1 (O':ay (fm.hide H)) (S':Sat (fm.hide H) m' H' s') {vs:List V}{xs:List Value}(r:(fm.hide H).RL H' s'.heap vs xs):V.puL (vs.map (i5 (aa H')))=true→fm.RL H s'.heap (vs.map (i5 (aa H'))) xs :=
 r.ind (P:=fun vs xs=>V.puL (vs.map (i5 (aa H')))=true→fm.RL H s'.heap (vs.map (i5 (aa H'))) xs) (fun _=>.nil) fun v x vs xs r1 _ ih hp=>.cons (D2 O' S' r1 (an hp).1) (ih (an hp).2)
theorem GA (O':ay (fm.hide H)) (S':Sat (fm.hide H) m' H' s') {th:Bool}{v:V}{x:Value}(r:(fm.hide H).R H' s'.heap v x) (hp:(xr th (aa H') v).pu=true):fm.R H s'.heap (xr th (aa H') v) x:=by
 cases v with
 | ref i =>
  cases e:(aa H')[i]? with
  | none=>unfold xr at hp; simp only [e] at hp; exact ff hp
  | some ao=>cases ao with
   | inst C ks vs =>
    unfold xr at hp ⊢
    simp only [e] at hp ⊢
    refine mQ (lC S' e r) fun a mo ex hm h2 _ q=>aj (nk h2) fun d ed=>?_
    subst ed
    exact ar q fun h0 q=>cz q fun xs ep hd hl r1=>⟨a,d,xs,ep,ex,kE S' (bm hm (.head _)),kE S' (bm hm (.tail _ (.head _))),h0,hd,hl,v1 O' S' r1 hp⟩
   | _ =>
    have e':xr th (aa H') (.ref i)=i5 (aa H') (.ref i):=by unfold xr i5; simp only [e]
    rw [e'] at hp ⊢
    exact vZ O' S' r hp
 | tup vs =>
  cases th with
  | false=>exact xD hp r
  | true=>exact cP r fun a xs ex ok hl r1=>⟨a,xs,ex,kD ok,hl,v1 O' S' r1 hp⟩
 | _=>exact xD hp r
theorem qv.plain {body:List Stmt}{r:Res}{th:Bool}(O:ay fm) (hm:∀ i v,m i=some v→v.pu=true) (hr:r.pu=true) (h:∀ s,Sat fm m H s→qv (fm.hide H) body m [] (fun v H'=>Res.ok (xr th (aa H') v)=r) (fun ks us _=>Res.ex ks us=r)) :
  qv fm body m H (fun v H'=>r=.ok v∧aa H'=aa H) (fun ks us H'=>r=.ex ks us∧aa H'=aa H):=fun s S =>
 wpAny_mono (h s S s (S.hide hm)) (fun f s' p=>p.elim fun m' p=>p.el fun v H' T S' rv q=>by
  subst q
  exact ar (D1 S T S') fun T1 S1=>⟨_,_,H,T1,S1,GA (O.hide S) S' rv hr,rfl,rfl⟩) fun x s' p=>p.el fun e d tb ks vs H' m' ex T S' f q=>by
  subst q
  exact ar (BH S T S' hr) fun T1 S1=>⟨e,d,tb,ks,vs,H,_,ex,T1,S1,f,rfl,rfl⟩
end
structure D3 (F:Fn) (d:Fd) (cx:Cx):Prop where
 body:F.body=d.body:=by kernel_rfl
 dfl:F.dfl=d.dfl:=by kernel_rfl
 names:cx.names=d.names:=by kernel_rfl
 kinds:F.scope.names=cx.kinds:=by kernel_rfl
section
variable {n:Nat}{cx:Cx}{d:Fd}{F:Fn}
theorem v2 (D:D3 F d cx) (hF:F∈av::au::TAB) (f:FnF F d.names d.np) (hT:∀ g k,lkF cx.fns g=some k→uT n g k) {vs:List V}{H:MH}{Q:QV}{QE:QX}(hv:bo d vs=true)
  (hb:∀ fm',Cs fm' cx n→qv fm' d.body (g0 d.names (d.names.take d.np) (vs++d.dfl.drop (vs.length+d.dfl.length - d.np))) H Q QE):j1 (n+1) F.addr vs H Q QE:=by
 have h1:=aX (an hv).1
 have h2:=aX (an hv).2
 have f5:=f.c5
 rw [D.dfl] at f5
 have hl:=f.hlen
 refine Fp (names:=d.names) (ps:=d.names.take d.np) hF f.c1 f.c2 f.ndp (vX f.c4 f.ndp (by rw [hl]; exact h1) (by rw [hl,D.dfl]; exact h2) (by rw [hl,D.dfl]; exact f5)) fun fm' dV pm cd L fm hfm O' hh' R'=>?_
 rw [hl,D.body,D.dfl]
 refine hb fm' ⟨⟨O',by rw [hfm,D.names]; rfl,by rw [hfm,← D.kinds]; rfl,R',hh',hT,fun x hx=>by rw [hfm] at hx ⊢; exact f.cells x hx L⟩,by rw [hfm]; exact ⟨fm.fenvs,rfl⟩,fun x c hx hc=>by
  rw [hfm] at hc ⊢
  exact List.mem_cons_of_mem _ (List.mem_filterMap.mpr ⟨(x,c),mem_of_lookup hc,hc⟩),by rw [hfm]; rfl⟩
theorem td {vs:List V}(hv:bo d vs=true) (h5:d.dfl.length≤d.np):(vs++d.dfl.drop (vs.length+d.dfl.length - d.np)).length=d.np:=by
 have h1:=aX (an hv).1
 have h2:=aX (an hv).2
 rw [List.length_append,List.length_drop,NF h1 h2 h5,Nat.add_sub_cancel' h1]
theorem NG (D:D3 F d cx) (hF:F∈av::au::TAB) (hc:CW F d.names d.np=true) (hT:∀ g k,lkF cx.fns g=some k→uT n g k) (hb:PBs n cx SN d.body):d9 (n+1) F (fnH cx d):=fun vs H r G' h =>
 have f:=fnF hc
 v2 D hF f hT h.1 fun fm' C=>xA C hb f.hnp f.ndp (td h.1 (D.dfl ▸ f.c5)) ((fnT cx d vs (aa H)).tt_mono (fun p z H' g=>by
  obtain ⟨fl,G⟩:=p
  subst g
  cases fl with
  | ret v=>exact ⟨z.1,z.2.symm⟩
  | next=>exact ⟨z.1,z.2.symm⟩
  | ex ks us=>exact ⟨z.1,z.2.symm⟩
  | _=>exact z.elim) h.2)
theorem BI:∀ {vs:List V}{v:V},V.puL vs=true→v∈vs→v.pu=true
 | _::_,_,h,.head _=>(an h).1
 | _::_,_,h,.tail _ q=>BI (an h).2 q
theorem NH {th:Bool}(D:D3 F d cx) (hF:F∈av::au::TAB) (hc:CW F d.names d.np=true) (hd:V.puL d.dfl=true) (hT:∀ g k,lkF cx.fns g=some k→uT n g k) (hb:PBs n cx SN d.body):aw (n+1) F (fnP th cx d):=fun vs H r h=>by
 have f:=fnF hc
 have hv:=(an h.2.1).2
 refine v2 D hF f hT hv fun fm' C=>qv.plain C.O (fun i v hi=>?_) h.1 fun s S=>xA (C.hide S) hb f.hnp f.ndp (td hv (D.dfl ▸ f.c5)) ((fnT cx d vs []).tt_mono (fun p z H' g=>by
  obtain ⟨fl,G⟩:=p
  subst g
  cases fl with
  | ret v=>exact z
  | next=>exact z
  | ex ks us=>exact z
  | _=>exact z.elim) h.2.2)
 unfold g0 at hi
 refine cD hi fun x _ hi=>(List.mem_append.mp (List.of_mem_zip (mem_of_lookup hi)).2).elim (BI (an h.2.1).1) fun q=>BI hd (List.mem_of_mem_drop q)
end
end
section
theorem jr {env:Env}:∀ {names:List (Str × NameKind)}{acc:List (Str × Addr)},(∀ x,(x,NameKind.free)∈names→∃ c,env.cells.lookup x=some c) →
  ∃ cl,(forIn names acc (fun p r=>if p.2==.free then (do let c ← cellOf env p.1; pure (ForInStep.yield ((p.1,c)::r))) else pure (ForInStep.yield r)):Sem (List (Str × Addr)))=pure cl ∧
   (∀ x c,(x,c)∈cl→(x,c)∈acc∨(env.cells.lookup x=some c∧(x,NameKind.free)∈names))∧(∀ x,((x,NameKind.free)∈names∨∃ c,(x,c)∈acc)→∃ c,(x,c)∈cl)
 | [],acc,_=>⟨acc,rfl,fun x c h=>.inl h,fun x h=>h.elim (fun q=>by simp at q) id⟩
 | (n,k)::names,acc,h=>by
  cases hk:k==NameKind.free with
  | false =>
   refine dA (jr (env:=env) (names:=names) (acc:=acc) (fun x hx=>h x (.tail _ hx))) fun cl e h1 h2=>?_
   refine ⟨cl,?_,fun x c hx=>(h1 x c hx).imp id fun q=>⟨q.1,.tail _ q.2⟩,fun x hx=>h2 x (hx.imp (fun q=>?_) id)⟩
   ·rw [List.forIn_cons]
    simp only [hk,Bool.false_eq_true,if_false,pure_bind]
    exact e
   ·rcases List.mem_cons.mp q with q | q
    ·cases q; simp at hk
    ·exact q
  | true =>
   obtain rfl:=beq_iff_eq.mp hk
   refine aj (h n (.head _)) fun c0 hc0=>?_
   refine dA (jr (env:=env) (names:=names) (acc:=(n,c0)::acc) (fun x hx=>h x (.tail _ hx))) fun cl e h1 h2=>?_
   refine ⟨cl,?_,fun x c hx=>?_,fun x hx=>h2 x ?_⟩
   ·rw [List.forIn_cons]
    have:cellOf env n=pure c0:=by unfold cellOf; rw [hc0]
    simp only [this,beq_self_eq_true,if_true,pure_bind]
    exact e
   ·rcases h1 x c hx with q | q
    ·rcases List.mem_cons.mp q with q | q
     ·cases q; exact .inr ⟨hc0,.head _⟩
     ·exact .inl q
    ·exact .inr ⟨q.1,.tail _ q.2⟩
   ·rcases hx with q | ⟨c,q⟩
    ·rcases List.mem_cons.mp q with q | q
     ·cases q; exact .inr ⟨c0,.head _⟩
     ·exact .inl q
    ·exact .inr ⟨c,.tail _ q⟩
theorem BJ {scope:Scope}{env:Env}(h:∀ x,(x,NameKind.free)∈scope.names→∃ c,env.cells.lookup x=some c) :
  ∃ cl,closureFor scope env=pure cl∧(∀ x c,cl.lookup x=some c→env.cells.lookup x=some c∧(x,NameKind.free)∈scope.names)∧(∀ x,(x,NameKind.free)∈scope.names→∃ c,cl.lookup x=some c):=by
 refine dA (jr (env:=env) (names:=scope.names) (acc:=[]) h) fun cl e h1 h2=>?_
 refine ⟨cl,?_,fun x c hx=>?_,fun x hx=>?_⟩
 ·unfold closureFor
  show (forIn scope.names ([]:List (Str × Addr)) _ >>= fun r=>pure r)=_
  rw [bind_pure]
  exact e
 ·rcases h1 x c (mem_of_lookup hx) with q | q
  ·simp at q
  ·exact q
 ·refine aj (h2 x (.inl hx)) fun c hc=>?_
  cases q:cl.lookup x with
  | some c=>exact ⟨c,rfl⟩
  | none=>exact absurd hc (by rw [List.lookup_eq_none_iff] at q; exact fun hc=>by have:=q _ hc; simp at this)
noncomputable def Fm.comp (fm:Fm) (env':Env) (names':List Str) (C I D:Addr):Fm:={ fm with env:=env',names:=names',own:=[C],outs:=fm.own++fm.outs,int:=I::D::fm.int }
structure zW (fm:Fm) (scope:Scope) (cl:List (Str × Addr)):Prop where
 kind:scope.kind=.function
 look:∀ x c,cl.lookup x=some c→fm.env.cells.lookup x=some c∧(x,NameKind.free)∈scope.names
 free:∀ x,(x,NameKind.free)∈scope.names→(∃ c,cl.lookup x=some c)∧fm.env.kindOf x=some .cell
 nocell:∀ y∈scope.names,y.2≠.cell
 loc:∀ y∈scope.names,y.2=.local→scope.names.lookup y.1=some .local
section
variable {fm:Fm}{cx:Cx}{n:Nat}{m:Loc}{H:MH}{s s':Shared}{C I D:Addr}{scope:Scope}{cl:List (Str × Addr)}{names':List Str}
theorem js (X:zW fm scope cl) (O:ay fm) {x:Str}:(compEnvC scope cl C fm.env).kindOf x=(scope.names.lookup x).map fun k=>if k=.free then .cell else k:=by
 show ((scope.names.map fun (n,k)=>if (k==NameKind.free&&fm.env.scope.kind==.function&&fm.env.kindOf n==some .cell) then (n,NameKind.cell) else (n,k))).lookup x=_
 have hfree:=X.free
 generalize scope.names=l at hfree
 induction l with
 | nil=>rfl
 | cons p l ih =>
  obtain ⟨a,k⟩:=p
  have ih:=ih fun x hx=>hfree x (.tail _ hx)
  by_cases hk:k=.free
  ·subst hk
   have:=(hfree a (.head _)).2
   simp only [List.map_cons,beq_self_eq_true,O.kind,this,Bool.and_self,if_true,List.lookup_cons]
   cases x==a with
   | true=>rfl
   | false=>simpa [O.kind] using ih
  ·have hk':(k==NameKind.free)=false:=by simpa using hk
   simp only [List.map_cons,hk',Bool.false_and,Bool.false_eq_true,if_false,List.lookup_cons]
   cases x==a with
   | true=>simp [hk]
   | false=>exact ih
theorem D4 (X:zW fm scope cl) (O:ay fm) {x:Str}(h:(compEnvC scope cl C fm.env).kindOf x=some .cell):(x,NameKind.free)∈scope.names:=by
 rw [js X O] at h
 refine ae (Option.map_eq_some_iff.mp h) fun k hk e=>?_
 have hm:=mem_of_lookup hk
 by_cases q:k=.free
 ·subst q; exact hm
 ·rw [if_neg q] at e
  exact absurd e (X.nocell _ hm)
theorem ay.comp (O:ay fm) (S:Sat fm m H s) (X:zW fm scope cl) (hn:names'.Nodup) (hC:s.heap.get? C=none) (hI:s.heap.get? I=none) (hD:s.heap.get? D=none) (hCI:C≠I) (hCD:C≠D) :
  ay (fm.comp (compEnvC scope cl C fm.env) names' C I D):=by
 have fC:=S.fresh_apart hC
 have fI:=S.fresh_apart hI
 have fD:=S.fresh_apart hD
 refine ⟨O.frames,?_,O.glob,O.blt,List.mem_singleton.mpr rfl,?_,?_,hn,?_,?_,?_,?_,?_,O.frEnv,O.wd,?_⟩
 ·exact X.kind
 ·intro x c hx hc
  refine ar (X.look x c hc) fun h1 h2=>?_
  refine ar (O.cellsOwn x c (X.free x h2).2 h1) fun h3 h4=>?_
  refine ⟨.inr (List.mem_append.mpr h3),?_⟩
  exact fun (z:c=C)=>h3.elim (fun q=>fC.1 (z ▸ q)) fun q=>fC.2.1 (z ▸ q)
 ·intro x y c hx hy hcx hcy
  refine ar (X.look x c hcx) fun h1 h2=>?_
  refine ar (X.look y c hcy) fun h3 h4=>?_
  exact O.cellsInj x y c (X.free x h2).2 (X.free y h4).2 h1 h3
 ·intro a ha
  rcases ha with ha | ha | ha
  ·rw [List.mem_singleton.mp ha]; exact fC.2.2.2
  ·rcases List.mem_append.mp ha with q | q
   ·exact O.ownBase a (.inl q)
   ·exact O.ownBase a (.inr (.inl q))
  ·rcases List.mem_cons.mp ha with rfl | ha
   ·exact fI.2.2.2
   ·rcases List.mem_cons.mp ha with rfl | ha
    ·exact fD.2.2.2
    ·exact O.ownBase a (.inr (.inr ha))
 ·intro a ha q
  rw [List.mem_singleton.mp ha] at q
  rcases List.mem_cons.mp q with q | q
  ·exact hCI q
  ·rcases List.mem_cons.mp q with q | q
   ·exact hCD q
   ·exact fC.2.2.1 q
 ·intro a ha q
  rcases List.mem_cons.mp q with rfl | q
  ·rcases List.mem_append.mp ha with z | z
   ·exact fI.1 z
   ·exact fI.2.1 z
  ·rcases List.mem_cons.mp q with rfl | q
   ·rcases List.mem_append.mp ha with z | z
    ·exact fD.1 z
    ·exact fD.2.1 z
   ·rcases List.mem_append.mp ha with z | z
    ·exact O.ownFm a z q
    ·exact O.outsFm a z q
 ·intro a ha q
  rw [List.mem_singleton.mp ha] at q
  rcases List.mem_append.mp q with z | z
  ·exact fC.1 z
  ·exact fC.2.1 z
 ·exact .inr (List.mem_append.mpr O.frIn)
 ·intro e he L hL
  rcases O.fenvsIn e he L hL with q | q
  ·exact .inl q
  ·exact .inr (List.mem_append_right _ q)
theorem xE {b:Addr}{env':Env}:(fm.comp env' names' C I D).ok H b↔fm.ok H b∧b≠C∧b≠I∧b≠D:=by
 unfold Fm.ok Fm.comp Fm.X
 simp only [List.mem_cons,List.mem_append,List.not_mem_nil,or_false,not_or]
 constructor
 ·rintro ⟨⟨⟨a,b,c⟩,d⟩,e,f,g⟩; exact ⟨⟨⟨⟨b,c⟩,d⟩,g⟩,a,e,f⟩
 ·rintro ⟨⟨⟨⟨b,c⟩,d⟩,g⟩,a,e,f⟩; exact ⟨⟨⟨a,b,c⟩,d⟩,e,f,g⟩
theorem Sat.comp {m':Loc}(O:ay fm) (S:Sat fm m H s) (X:zW fm scope cl) (hC:s.heap.get? C=none) (hI:s.heap.get? I=none) (hD:s.heap.get? D=none)
  (k:∀ b o,s.heap.get? b=some o→s'.heap.get? b=some o) (hC':∃ mm,s'.heap.Ns C mm) (hI':∃ o,s'.heap.get? I=some o) (hD':∃ o,s'.heap.get? D=some o)
  (hm:∀ i x v,names'[i]? = some x→m' i=some v→scope.names.lookup x=some NameKind.free∧∃ j,fm.names[j]? = some x∧m j=some v)
  (hg:s'.gens=s.gens) (ho:s'.os=s.os) (hd:s'.drawn=s.drawn):Sat (fm.comp (compEnvC scope cl C fm.env) names' C I D) m' H s':=by
 have fC:=S.fresh_apart hC
 have fI:=S.fresh_apart hI
 have fD:=S.fresh_apart hD
 have kR:∀ b o,s.heap.get? b=some o→fm.ok H b→s'.heap.get? b=some o∧(fm.comp (compEnvC scope cl C fm.env) names' C I D).ok H b:=fun b o e q =>
  ⟨k b o e,xE.mpr ⟨q,fun z=>(by rw [z,hC] at e; exact nS e),fun z=>(by rw [z,hI] at e; exact nS e),fun z=>(by rw [z,hD] at e; exact nS e)⟩⟩
 refine ⟨fun b o e=>k b o (S.base b o e),S.funs.of_keeps fun b o e _=>⟨o,k b o e,rfl⟩,hC',?_,?_,?_,S.nodup,?_,?_,hg.trans S.gens,ho.trans S.os,hd.trans S.drawn⟩
 ·intro x c hx hc
  refine ar (X.look x c hc) fun h1 h2=>?_
  refine cN (S.cells x c (X.free x h2).2 h1) fun v o h3 h4=>?_
  exact ⟨v,o,k _ _ h3,h4⟩
 ·intro i x v hi hx hv
  obtain ⟨hf,j,hj,hmj⟩:=hm i x v hi hv
  refine ar (X.free x (mem_of_lookup hf)) fun z8=>?_; obtain ⟨c,hc⟩:=z8; intro hkc
  refine ae (S.vars j x v hj (.inr hkc) hmj) fun val hva r=>?_
  refine ⟨val,?_,Rep.mono (fun _ _ e=>e) kR r⟩
  unfold d6 at hva ⊢
  rw [hkc] at hva
  obtain ⟨c',hc',o,h3,h4⟩:=hva
  have hcell:(compEnvC scope cl C fm.env).kindOf x=some .cell:=by rw [js X O,hf]; rfl
  show match (compEnvC scope cl C fm.env).kindOf x with | some .local=>_ | some .cell=>∃ c,cl.lookup x=some c∧s'.heap.IsCell c (some val) | _=>False
  rw [hcell]
  have:=(X.look x c hc).1
  obtain rfl:c'=c:=Option.some.inj (hc'.symm.trans this)
  exact ⟨c',hc,o,k _ _ h3,h4⟩
 ·exact fun p hp=>dC.conv (fm:=fm) rfl rfl (fun r=>RepL.mono (fun _ _ e=>e) kR r) (fun b _ o e=>k b o e) (S.objs p hp)
 ·intro a ha
  refine uO (S.apart a ha) fun h1 h2 h3 h4=>?_
  refine ⟨fun q=>?_,fun q=>?_,fun q=>?_,h4⟩
  ·rw [List.mem_singleton.mp q] at ha; exact S.fresh_owned hC ha
  ·rcases List.mem_append.mp q with z | z
   ·exact h1 z
   ·exact h2 z
  ·rcases List.mem_cons.mp q with rfl | q
   ·exact S.fresh_owned hI ha
   ·rcases List.mem_cons.mp q with rfl | q
    ·exact S.fresh_owned hD ha
    ·exact h3 q
 ·intro a ha
  rcases ha with ha | ha | ha
  ·rw [List.mem_singleton.mp ha]
   refine za hC' fun mm o es ep h _=>?_
   exact ⟨o,h⟩
  ·refine aj (S.alive a (by rcases List.mem_append.mp ha with z | z; exact .inl z; exact .inr (.inl z))) fun o h=>?_
   exact ⟨o,k a o h⟩
  ·rcases List.mem_cons.mp ha with rfl | ha
   ·exact hI'
   ·rcases List.mem_cons.mp ha with rfl | ha
    ·exact hD'
    ·refine aj (S.alive a (.inr (.inr ha))) fun o h=>?_; exact ⟨o,k a o h⟩
end
end
end Mine
end
section
open PySem PySem.W PyProof.Rows Builtin.Str
set_option maxRecDepth 20000
set_option genSizeOf false
set_option genInjectivity false
set_option backward.match.sparseCases false
namespace Mine
section
structure pb (fm fm2:Fm) (H1:MH) (s1:Shared) (St:Nat→Heap→Prop) (D:Addr) (inner:LV) (i:Nat) (acc:List V) (H':MH) (s':Shared):Prop where
 tr:af fm H1 s1.heap H' s'.heap
 kf:∀ L,L∈fm.own∨L∈fm.outs→∀ o,s1.heap.get? L=some o→∃ sl,s'.heap.get? L=some { o with slots:=sl }
 sat:∃ v0,Sat fm2 (ba (v0::inner)) H' s'
 st:St i s'.heap
 lst:∃ ys nn,s'.heap.get? D=some { cls:=.type "list",dict:=none,data:=.seq ys nn,slots:=#[] }∧fm2.RL H' s'.heap acc ys.toList∧ys.size≤big
section
variable {fm:Fm}{cx cx':Cx}{n:Nat}{H1:MH}{s1:Shared}{C I D:Addr}{scope:Scope}{cl:List (Str × Addr)}{names':List Str}{m0:Loc}
 {xs:List V}{fp:List Addr}{P:Nat→Value→Prop}{St:Nat→Heap→Prop}{inner:LV}{env':Env}
theorem pb.step {i:Nat}{acc:List V}{Ha Hb:MH}{sa sb:Shared}(O2:ay (fm.comp env' names' C I D)) (K:Iw fm H1 s1.heap xs I fp P St) (hC:s1.heap.get? C=none)
  (inv:pb fm (fm.comp env' names' C I D) H1 s1 St D inner i acc Ha sa) (T2:af (fm.comp env' names' C I D) Ha sa.heap Hb sb.heap) (hS:∃ v0,Sat (fm.comp env' names' C I D) (ba (v0::inner)) Hb sb) :
  pb fm (fm.comp env' names' C I D) H1 s1 St D inner i acc Hb sb:=by
 refine aj inv.sat fun v0 Sa=>?_
 have notX2:∀ (b:Addr) (o:Obj),s1.heap.get? b=some o→b ∉ fm.X Ha→b ∉ (fm.comp env' names' C I D).X Ha:=fun b o e nX q=>by
  rcases ax.mp q with q | q | q
  ·rw [List.mem_singleton.mp q] at e; rw [hC] at e; exact nS e
  ·rcases List.mem_append.mp q with z | z
   ·exact nX (ax.mpr (.inl z))
   ·exact nX (ax.mpr (.inr (.inl z)))
  ·exact nX (ax.mpr (.inr (.inr q)))
 have intX:∀ b,b∈(fm.comp env' names' C I D).int→b ∉ (fm.comp env' names' C I D).X Ha:=fun b hb q=>by
  rcases ax.mp q with q | q | q
  ·exact O2.ownFm b q hb
  ·exact O2.outsFm b q hb
  ·exact (Sa.apart b q).2.2.1 hb
 have sub:∀ b,b ∉ (fm.comp env' names' C I D).X Hb→b ∉ fm.X Hb:=fun b h q=>h (by
  rcases ax.mp q with q | q | q
  ·exact ax.mpr (.inr (.inl (List.mem_append_left _ q)))
  ·exact ax.mpr (.inr (.inl (List.mem_append_right _ q)))
  ·exact ax.mpr (.inr (.inr q)))
 refine ⟨⟨fun b o e nX=>?_,fun L hL o e=>?_,fun i a e=>T2.pre i a (inv.tr.pre i a e)⟩,fun L hL o e=>?_,hS,?_,?_⟩
 ·refine ar (inv.tr.keep b o e nX) fun e1 n1=>?_
  refine ar (T2.keep b o e1 (notX2 b o e n1)) fun e2 n2=>?_
  exact ⟨e2,sub b n2⟩
 ·refine aj (inv.tr.outs L hL o e) fun sl e1=>?_
  refine aj (T2.outs L (List.mem_append_right _ hL) _ e1) fun sl2 e2=>?_
  exact ⟨sl2,e2⟩
 ·refine aj (inv.kf L hL o e) fun sl e1=>?_
  refine aj (T2.outs L (by rcases hL with z | z; exact List.mem_append_left _ z; exact List.mem_append_right _ z) _ e1) fun sl2 e2=>?_
  exact ⟨sl2,e2⟩
 ·refine K.W.frame i _ _ inv.st fun b hb o e=>?_
  rcases K.fpX b hb with rfl | ⟨⟨o',e'⟩,hk⟩
  ·exact (T2.keep b o e (intX b (List.mem_cons_self))).1
  ·exact (T2.keep b o e (notX2 b o' e' (inv.tr.keep b o' e' hk.1).2)).1
 ·exact cz inv.lst fun ys nn e r z=>⟨ys,nn,(T2.keep D _ e (intX D (List.mem_cons_of_mem _ List.mem_cons_self))).1,T2.repL r,z⟩
theorem pb.put {i j:Nat}{acc acc':List V}{Ha:MH}{sa sb:Shared}{B:Addr}(O2:ay (fm.comp env' names' C I D)) (hB1:s1.heap.get? B=none) (hB:B∈(fm.comp env' names' C I D).int)
  (inv:pb fm (fm.comp env' names' C I D) H1 s1 St D inner i acc Ha sa) (k:∀ b o,b≠B→sa.heap.get? b=some o→sb.heap.get? b=some o) (hB':∃ o,sb.heap.get? B=some o)
  (hg:sb.gens=sa.gens) (ho:sb.os=sa.os) (hd:sb.drawn=sa.drawn) (st:St j sb.heap)
  (hl:∃ ys nn,sb.heap.get? D=some { cls:=.type "list",dict:=none,data:=.seq ys nn,slots:=#[] }∧(fm.comp env' names' C I D).RL Ha sb.heap acc' ys.toList∧ys.size≤big) :
  pb fm (fm.comp env' names' C I D) H1 s1 St D inner j acc' Ha sb:=by
 refine aj inv.sat fun v0 Sa=>?_
 have ne:∀ (b:Addr) (o:Obj),s1.heap.get? b=some o→b≠B:=fun b o e z=>by rw [z,hB1] at e; exact nS e
 refine ⟨⟨fun b o e nX=>?_,fun L hL o e=>?_,inv.tr.pre⟩,fun L hL o e=>?_,⟨v0,Sat.inner O2 Sa hB k hB' hg ho hd⟩,st,hl⟩
 ·refine ar (inv.tr.keep b o e nX) fun e1 n1=>?_
  exact ⟨k b o (ne b o e) e1,n1⟩
 ·refine aj (inv.tr.outs L hL o e) fun sl e1=>?_
  exact ⟨sl,k L _ (ne L o e) e1⟩
 ·refine aj (inv.kf L hL o e) fun sl e1=>?_
  exact ⟨sl,k L _ (ne L o e) e1⟩
theorem CY {env':Env}{H:MH}{h h':Heap}{B:Addr}(hB:B∈(fm.comp env' names' C I D).int) (k:∀ b o,b≠B→h.get? b=some o→h'.get? b=some o) {vs:List V}{ys:List Value}(r:(fm.comp env' names' C I D).RL H h vs ys) :
  (fm.comp env' names' C I D).RL H h' vs ys:=RepL.mono (fun _ _ e=>e) (fun b o e q=>⟨k b o (fun z=>q.2 (z ▸ hB)) e,q⟩) r
theorem GB {env':Env}{H:MH}{h h':Heap}{B:Addr}(hB:B∈(fm.comp env' names' C I D).int) (k:∀ b o,b≠B→h.get? b=some o→h'.get? b=some o) {v:V}{y:Value}(r:(fm.comp env' names' C I D).R H h v y) :
  (fm.comp env' names' C I D).R H h' v y:=Rep.mono (fun _ _ e=>e) (fun b o e q=>⟨k b o (fun z=>q.2 (z ▸ hB)) e,q⟩) r
structure LT (fm:Fm) (m:Loc) (H1:MH) (s1:Shared) (C D:Addr) (vs:List V) (H':MH) (s':Shared):Prop where
 tr:af fm H1 s1.heap H' s'.heap
 sat:Sat (fm.more C) m H' s'
 ns:∃ mm,s'.heap.Ns C mm
 rep:(fm.more C).R H' s'.heap (.lst vs) (.ref D)
theorem GC {m:Loc}{i:Nat}{acc:List V}{H':MH}{sa s':Shared}(O1:ay fm) (S1:Sat fm m H1 s1) (O2:ay (fm.comp env' names' C I D)) (hloc:env'.locals=C) (hC:s1.heap.get? C=none) (hI:s1.heap.get? I=none) (hD:s1.heap.get? D=none) (hID:I≠D) (hCI:C≠I) (hCD:C≠D)
  (inv:pb fm (fm.comp env' names' C I D) H1 s1 St D inner i acc H' sa) (k:∀ b o,b≠I→sa.heap.get? b=some o→s'.heap.get? b=some o) (hg:s'.gens=sa.gens) (ho:s'.os=sa.os) (hd:s'.drawn=sa.drawn) :
  LT fm m H1 s1 C D acc H' s':=by
 obtain ⟨v0,S2⟩:=inv.sat
 have ne:∀ (b:Addr) (o:Obj),s1.heap.get? b=some o→b≠I∧b≠C∧b≠D:=fun b o e=>⟨fun z=>(by rw [z,hI] at e; exact nS e),fun z=>(by rw [z,hC] at e; exact nS e),fun z=>(by rw [z,hD] at e; exact nS e)⟩
 have inI:I∈(fm.comp env' names' C I D).int:=List.mem_cons_self
 have inD:D∈(fm.comp env' names' C I D).int:=List.mem_cons_of_mem _ List.mem_cons_self
 have keep:∀ b o,s1.heap.get? b=some o→b ∉ fm.X H1→s'.heap.get? b=some o∧b ∉ fm.X H':=fun b o e nX=>by
  obtain ⟨e1,n1⟩:=inv.tr.keep b o e nX
  exact ⟨k b o (ne b o e).1 e1,n1⟩
 have kf:∀ L,L∈fm.own∨L∈fm.outs→∀ o,s1.heap.get? L=some o→∃ sl,s'.heap.get? L=some { o with slots:=sl }:=fun L hL o e=>by
  obtain ⟨sl,e1⟩:=inv.kf L hL o e
  exact ⟨sl,k L _ (ne L o e).1 e1⟩
 have T:af fm H1 s1.heap H' s'.heap:=⟨keep,fun L hL o e=>kf L (.inr hL) o e,inv.tr.pre⟩
 have kR:∀ b o,s1.heap.get? b=some o→fm.ok H1 b→s'.heap.get? b=some o∧(fm.more C).ok H' b:=fun b o e q=>by
  obtain ⟨e1,n1⟩:=keep b o e q.1
  exact ⟨e1,dK.mpr ⟨⟨n1,q.2⟩,(ne b o e).2.1⟩⟩
 have kR2:∀ b o,sa.heap.get? b=some o→(fm.comp env' names' C I D).ok H' b→s'.heap.get? b=some o∧(fm.more C).ok H' b:=fun b o e q=>by
  refine uO (xE.mp q) fun q1 q2 q3 q4=>?_
  exact ⟨k b o q3 e,dK.mpr ⟨q1,q2⟩⟩
 have ns:∃ mm,s'.heap.Ns C mm:=by
  obtain ⟨mm,hn⟩:=S2.ns
  have hn:sa.heap.Ns env'.locals mm:=hn
  rw [hloc] at hn
  exact ⟨mm,hn.at' fun o e=>k C o hCI e⟩
 refine ⟨T,⟨fun b o (e:fm.base.get? b=some o)=>(keep b o (S1.base b o e) fun q=>by rw [Bd O1 S1 q] at e; exact nS e).1,(o0 O1 S1.funs kf:s'.heap.FunFrames fm.base fm.fenvs),?_,?_,?_,?_,S2.nodup,?_,?_,(hg.trans (S2.gens:sa.gens=_)),(ho.trans (S2.os:sa.os=_)),(hd.trans (S2.drawn:sa.drawn=_))⟩,ns,?_⟩
 ·refine za S1.ns fun mm o es ep h1 h2=>?_
  obtain ⟨sl,hs⟩:=kf _ (.inl O1.locals) o h1
  exact ⟨mm,_,es,ep,hs,h2⟩
 ·intro x c h1 h2
  obtain ⟨v,o,h3,h4⟩:=S1.cells x c h1 h2
  obtain ⟨sl,hs⟩:=kf c (O1.cellsOwn x c h1 h2).1 o h3
  exact ⟨v,_,hs,h4⟩
 ·intro j x v h1 h2 h3
  obtain ⟨val,h4,h5⟩:=S1.vars j x v h1 h2 h3
  refine ⟨val,d6.slots (h:=s1.heap) (h':=s'.heap) (env:=fm.env) (fun b o hb e=>?_) h4,Rep.mono inv.tr.pre kR h5⟩
  rcases hb with rfl | ⟨c,hc,hk,rfl⟩
  ·exact kf _ (.inl O1.locals) o e
  ·exact kf _ (O1.cellsOwn x _ hk hc).1 o e
 ·exact fun p hp=>dC.conv (fm:=fm.comp env' names' C I D) (fm':=fm.more C) rfl rfl (fun r=>RepL.mono (fun _ _ e=>e) kR2 r) (fun b hb o e=>k b o (fun z=>(S2.apart b (bm hp hb)).2.2.1 (z ▸ inI)) e) (S2.objs p hp)
 ·intro a ha
  refine uO (S2.apart a ha) fun h1 h2 h3 h4=>?_
  refine ⟨fun q=>h2 (List.mem_append_left _ q),fun q=>h2 (List.mem_append_right _ q),fun q=>?_,h4⟩
  rcases List.mem_cons.mp q with rfl | q
  ·exact h1 (List.mem_singleton.mpr rfl)
  ·exact h3 (List.mem_cons_of_mem _ (List.mem_cons_of_mem _ q))
 ·intro a ha
  rcases ha with ha | ha | ha
  ·obtain ⟨o,e⟩:=S1.alive a (.inl ha); obtain ⟨sl,e'⟩:=kf a (.inl ha) o e; exact ⟨_,e'⟩
  ·obtain ⟨o,e⟩:=S1.alive a (.inr (.inl ha)); obtain ⟨sl,e'⟩:=kf a (.inr ha) o e; exact ⟨_,e'⟩
  ·rcases List.mem_cons.mp ha with rfl | ha
   ·refine za ns fun mm o es ep h _=>?_; exact ⟨o,h⟩
   ·obtain ⟨o,e⟩:=S1.alive a (.inr (.inr ha))
    refine ⟨o,(keep a o e fun q=>?_).1⟩
    rcases ax.mp q with q | q | q
    ·exact O1.ownFm a q ha
    ·exact O1.outsFm a q ha
    ·exact (S1.apart a q).2.2.1 ha
 ·obtain ⟨ys,nn,eD,rD,hz⟩:=inv.lst
  refine ⟨D,ys,rfl,dK.mpr ⟨⟨fun q=>?_,fun q=>?_⟩,fun z=>hCD z.symm⟩,⟨hz,nn,k D _ (fun z=>hID z.symm) eD⟩,RepL.mono (fun _ _ e=>e) kR2 rD⟩
  ·rcases ax.mp q with q | q | q
   ·exact (S1.fresh_apart hD).1 q
   ·exact (S1.fresh_apart hD).2.1 q
   ·exact (S2.apart D q).2.2.1 inD
  ·exact (S1.fresh_apart hD).2.2.1 q
theorem D5 {elt:Expr}{x:Str}{px pos:Pos}{ifs:List Expr}{vs:List V}{G:AH}{RR:Result→Shared→Prop}{E:V→AH→Tr (Option V × AH)}(O1:ay fm) (hh:fm.A.handled=none)
  (C2:Cn (fm.comp env' names' C I D) cx' n) (W:Iw fm H1 s1.heap xs I fp P St) (hlen:xs.length≤big) (hC:s1.heap.get? C=none) (hI:s1.heap.get? I=none) (hD:s1.heap.get? D=none) (hID:I≠D)
  (hx:cx'.names[0]? = some x) (hkx:env'.kindOf x=some .local) {fin:LV→AH→Tr (Option V × AH)}
  (hc:∀ {L:Option V × AH→Prop}{v0:V}{Ha:MH}{Q:Bool→Shared→Prop}{X:Value→Shared→Prop}{s:Shared},(E v0 (aa Ha)).tt L→Sat (fm.comp env' names' C I D) (ba (some v0::inner)) Ha s →
   (∀ b Hb sb,(cif b (fin (some v0::inner) (aa Hb)) (.ok (none,aa Hb))).tt L→af (fm.comp env' names' C I D) Ha s.heap Hb sb.heap→Sat (fm.comp env' names' C I D) (ba (some v0::inner)) Hb sb→Q b sb) →
   wpAny fm.M fm.A (forIn ifs true fun c r=>if r=true then do let ok ← isTrue c env' (eval c env'); pure (ForInStep.yield ok) else pure (ForInStep.yield r)) Q X s)
  (he:∀ {L:Option V × AH→Prop}{v0:V}{Ha:MH}{Q:Value→Shared→Prop}{X:Value→Shared→Prop}{s:Shared},(fin (some v0::inner) (aa Ha)).tt L→Sat (fm.comp env' names' C I D) (ba (some v0::inner)) Ha s →
   (∀ c Hb sb y,L (some c,aa Hb)→af (fm.comp env' names' C I D) Ha s.heap Hb sb.heap→Sat (fm.comp env' names' C I D) (ba (some v0::inner)) Hb sb→(fm.comp env' names' C I D).R Hb sb.heap c y→Q y sb) →
   wpAny fm.M fm.A (eval elt env') Q X s)
  (htot:cQ E xs (aa H1) vs G) {s:Shared}(inv0:pb fm (fm.comp env' names' C I D) H1 s1 St D inner 0 [] H1 s)
  {m:Loc}(S1:Sat fm m H1 s1) (hloc:env'.locals=C) (hCI:C≠I) (hCD:C≠D) (hR:∀ H' s',G=aa H'→LT fm m H1 s1 C D vs H' s'→RR (.ok .next) s') :
  codeAny fm.M fm.A (.compLoop (.ListComp elt [⟨.Name x px,iter,ifs,0⟩] scope pos) 0 (.ref I) (.ref D) env') RR s:=by
 have O2:=C2.O
 have inI:I∈(fm.comp env' names' C I D).int:=List.mem_cons_self
 have inD:D∈(fm.comp env' names' C I D).int:=List.mem_cons_of_mem _ List.mem_cons_self
 refine codeAny_compLoop_tests (fun k s'=>∃ i acc ws H',k=xs.length+1 - i∧i≤xs.length∧acc.length≤i∧pb fm (fm.comp env' names' C I D) H1 s1 St D inner i acc H' s'∧cQ E (xs.drop i) (aa H') ws G∧acc++ws=vs) ?_ (xs.length+1)
  ⟨0,[],vs,H1,rfl,Nat.zero_le _,Nat.zero_le _,inv0,htot,rfl⟩
 intro k s' h
 refine za h fun i acc ws H' ek h'=>?_
 clear h
 subst ek
 refine gg fun T hT=>O9 h' fun hi hacc inv hrun hvs=>?_
 have go:∀ {acc' us:List V}{Hc:MH}{s4:Shared},i<xs.length→acc'.length≤i+1→pb fm (fm.comp env' names' C I D) H1 s1 St D inner (i+1) acc' Hc s4→cQ E (xs.drop (i+1)) (aa Hc) us G→acc'++us=vs→∃ k',k'<xs.length+1 - i∧∃ i acc ws H',k'=xs.length+1 - i∧i≤xs.length∧acc.length≤i∧pb fm (fm.comp env' names' C I D) H1 s1 St D inner i acc H' s4∧cQ E (xs.drop i) (aa H') ws G∧acc++ws=vs :=
  fun hlt hl inv' h e=>⟨xs.length+1 - (i+1),Nat.sub_lt_sub_left (Nat.lt_succ_of_lt hlt) (Nat.lt_succ_self i),i+1,_,_,_,rfl,hlt,hl,inv',h,e⟩
 rcases Nat.lt_or_eq_of_le hi with hlt | hin
 ·refine hT (W.W.item i s' _ _ hlt inv.st fun y h' tk hP st' hk=>gg fun T hT=>?_)
  have hk':∀ b o,b≠I→s'.heap.get? b=some o→h'.get? b=some o:=fun b o hb e=>hk b o (fun q=>hb (List.mem_singleton.mp q)) e
  refine cz inv.lst fun ys nn eD rD hz=>?_
  have inv1:pb fm (fm.comp env' names' C I D) H1 s1 St D inner (i+1) acc H' { s' with heap:=h',toks:=tk } :=
   inv.put O2 hI inI hk' (W.al _ _ st') rfl rfl rfl st' ⟨ys,nn,hk' D _ (fun q=>hID q.symm) eD,CY inI hk' rD,hz⟩
  rw [List.drop_eq_getElem_cons hlt] at hrun
  obtain ⟨v',hv',ry⟩:=W.item i y hlt hP
  obtain rfl:=sj ((List.getElem?_eq_getElem hlt).symm.trans hv')
  have ry2:(fm.comp env' names' C I D).R H' h' xs[i] y:=ry (fm.comp env' names' C I D) H' h' rfl rfl inv1.tr.pre (fun b ob e q=>by
   refine ar (inv1.tr.keep b ob e q.1) fun e' n'=>?_
   exact ⟨e',xE.mpr ⟨⟨n',q.2⟩,fun z=>(by rw [z,hC] at e; exact nS e),fun z=>(by rw [z,hI] at e; exact nS e),fun z=>(by rw [z,hD] at e; exact nS e)⟩⟩)
  refine aj inv1.sat fun v0 S1=>?_
  refine hT (wpAny_assign_Name (vN C2 hx hkx S1 ry2 fun s2 T2 S2=>?_))
  have inv2:=inv1.step O2 W hC T2 ⟨_,S2⟩
  have hrun:(E xs[i] (aa H')).tt fun p=>match p.1 with
   | none=>cQ E (xs.drop (i+1)) p.2 ws G
   | some v=>∃ us,ws=v::us∧cQ E (xs.drop (i+1)) p.2 us G:=hrun
  refine hc hrun S2 fun b Hb s3 hb T3 S3=>gg fun T hT=>?_
  have inv3:=inv2.step O2 W hC T3 ⟨_,S3⟩
  cases b with
  | false=>exact hT <| go hlt (Nat.le_succ_of_le hacc) inv3 hb hvs
  | true =>
   refine hT <| he hb S3 fun c Hc s4 z hq T4 S4 rz=>gg fun T hT=>ae hq fun us ew hq=>?_
   have inv4:=inv3.step O2 W hC T4 ⟨_,S4⟩
   refine cz inv4.lst fun ys nn eD rD hz=>?_
   have hsz:ys.size<big:=by
    have e:acc.length=ys.size:=rD.length
    exact Nat.lt_of_lt_of_le (Nat.lt_of_le_of_lt (e ▸ hacc) hlt) hlen
   refine hT <| append_at eD (fun h5 hs5 hn5=>?_) (bX (Nat.le_trans hz (by decide)))
   have k5:∀ b o,b≠D→s4.heap.get? b=some o→h5.get? b=some o:=fun b o hb e=>(hs5.2 b hb).trans e
   have inv5:pb fm (fm.comp env' names' C I D) H1 s1 St D inner (i+1) (acc++[c]) Hc { s4 with heap:=h5 } :=
    inv4.put O2 hD inD k5 ⟨_,hn5⟩ rfl rfl rfl (W.W.frame _ _ _ inv4.st fun b hb o e=>k5 b o (by
     exact fun z=>(W.fpX b hb).elim (fun q=>hID (q.symm.trans z)) fun q=>q.1.elim fun o' e'=>nS (hD.symm.trans (z ▸ e'))) e) ⟨_,_,hn5,by rw [Array.toList_push]; exact RepL.append (CY inD k5 rD) (RepL.cons (GB inD k5 rz) RepL.nil),by rw [Array.size_push]; exact hsz⟩
   exact go hlt (by rw [List.length_append]; exact Nat.succ_le_succ hacc) inv5 hq (by rw [← hvs,ew,List.append_assoc]; rfl)
 ·subst hin
  refine hT <| W.W.done s' _ _ inv.st fun h' tk hk=>?_
  rw [List.drop_length] at hrun
  obtain ⟨e1,e2⟩:=hrun
  subst e1
  rw [List.append_nil] at hvs
  subst hvs
  exact hR H' _ e2 (GC O1 S1 O2 hloc hC hI hD hID hCI hCD inv (fun b o hb e=>hk b o (fun q=>hb (List.mem_singleton.mp q)) e) rfl rfl rfl)
end
end
section
noncomputable abbrev PIf (n:Nat) (cx:Cx) (k:Nat):List Expr→Prop
 | []=>True
 | [c]=>PE n cx k c
 | _=>False
structure kG (n:Nat) (cx:Cx) (k:Nat) (e iter:Expr) (x:Str) (ifs:List Expr) (scope:Scope):Prop where
 nset:o7 iter=true
 hit:PE n cx k iter
 hifs:PIf n (cx.inner x scope) k ifs
 helt:PE n (cx.inner x scope) k e
 kind:scope.kind=.function
 names:∀ y∈scope.names,y.2≠.cell∧(y.2=.local→scope.names.lookup y.1=some .local)∧(y.2=.free→cx.kinds.lookup y.1=some .cell)
 hx:scope.names.lookup x=some .local
 nodup:(cx.inner x scope).names.Nodup
 hcaps:∀ y∈qD scope.names,cx.names[gF cx.names y]? = some y∧scope.names.lookup y=some .free
noncomputable def GD (cx:Cx) (x:Str) (iter:Expr) (scope:Scope):Bool:=((((o7 iter&&scope.kind==.function) &&
 scope.names.all fun y=>(y.2 != .cell&&(y.2 != .local||scope.names.lookup y.1==some .local))&&(y.2 != .free||cx.kinds.lookup y.1==some .cell))&&scope.names.lookup x==some .local) &&
 decide (cx.inner x scope).names.Nodup)&&(qD scope.names).all fun y=>cx.names[gF cx.names y]?==some y&&scope.names.lookup y==some .free
theorem GE {α:Type} [DecidableEq α] {a b:α}{c:Bool}(h:(a != b||c)=true) (e:a=b):c=true:=by
 rw [e,bne_self_eq_false,Bool.false_or] at h
 exact h
theorem D6 {n:Nat}{cx:Cx}{k:Nat}{e iter:Expr}{x:Str}{ifs:List Expr}{scope:Scope}(h:GD cx x iter scope=true) (h1:PE n cx k iter) (h2:PIf n (cx.inner x scope) k ifs) (h3:PE n (cx.inner x scope) k e):kG n cx k e iter x ifs scope :=
 have a5:=an h; have a4:=an a5.1; have a3:=an a4.1; have a2:=an a3.1; have a1:=an a2.1
 ⟨a1.1,h1,h2,h3,eq_of_beq a1.2,fun y hy=>have z:=an (List.all_eq_true.mp a2.2 y hy)
  ⟨fun q=>ff (bne_self_eq_false (a:=NameKind.cell) ▸ q ▸ (an z.1).1),fun q=>eq_of_beq (GE (an z.1).2 q),fun q=>eq_of_beq (GE z.2 q)⟩,eq_of_beq a3.2,of_decide_eq_true a4.2,fun y hy=>have z:=an (List.all_eq_true.mp a5.2 y hy); ⟨eq_of_beq z.1,eq_of_beq z.2⟩⟩
section
variable {fm:Fm}{cx:Cx}{n k:Nat}{m:LV}{H:MH}{s:Shared}
theorem v3 (C0:Cn fm cx n) {elt' iter:Expr}{x:Str}{px pos p0:Pos}{ifs:List Expr}{scope:Scope}(X:kG n cx k elt' iter x ifs scope) {QV1:List V→MH→Prop}{QE:QX}
  (h:EW fm iter (ba m) H (fun v H1=>∃ xs vs G,nz v=some xs∧cQ (zL (fun cx=>evE k cx) cx elt' (.Name x px) ifs scope m) xs (aa H1) vs G∧∀ H2,aa H2=G→QV1 vs H2) QE)
  (S:Sat fm (ba m) H s) {use:Option (Value→Sem Unit)}{Q:Value→Shared→Prop}{E:Value→Shared→Prop}(hE:∀ x s',PX fm (ba m) H s.heap QE x s'→E x s')
  (hK:∀ H1 s1 vs C D H' s',af fm H s.heap H1 s1.heap→Sat fm (ba m) H1 s1→s1.heap.get? C=none→QV1 vs H'→LT fm (ba m) H1 s1 C D vs H' s'→compPost fm.M fm.A E use Q (.ref D) C (.ok .next) s') :
  wpAny fm.M fm.A (comprehension (.ListComp elt' [⟨.Name x px,iter,ifs,0⟩] scope pos) scope fm.env p0 (newList []) false (eval iter fm.env) use) Q E s:=by
 refine dA (BJ (scope:=scope) (env:=fm.env) fun y hy=>C0.cells y (by rw [C0.kindOf]; exact (X.names _ hy).2.2 rfl)) fun cl hcl cl1 cl2=>?_
 have XI:zW fm scope cl:=⟨X.kind,cl1,fun y hy=>⟨cl2 y hy,by rw [C0.kindOf]; exact (X.names _ hy).2.2 rfl⟩,fun y hy=>(X.names y hy).1,fun y hy=>(X.names y hy).2.1⟩
 refine wpAny_comprehension_free (cl:=cl) rfl (mi X.nset) hcl X.kind XI.loc ?_
 refine h.run S (fun xv s1 v H1 T1 S1 r1 q=>lX q fun xs vs G hv hrun hq=>?_) fun y s' p=>hE y s' p
 refine CK hv C0.hh S1 r1 fun o Sti P fp W hlen st0 hgo ho=>?_
 refine wpAny_newObj_type (wpAny_newFunctionEnv XI.nocell (fun y hy=>absurd hy List.not_mem_nil) (fun h₁ hns₁ hsb₁=>?_) X.kind)
 dsimp only at hns₁ hsb₁ ⊢
 generalize hI:s1.heap.objs.size=I at W st0 hgo ho
 have sz1:(s1.heap.push o).objs.size=I+1:=by rw [Heap.size_push,hI]
 generalize hH2:(s1.heap.push o).push { cls:=.type "list",dict:=none,data:=.seq ([]:List Value).toArray }=H2 at hns₁ hsb₁ ⊢
 have sz2:H2.objs.size=I+2:=by rw [← hH2,Heap.size_push,sz1]
 rw [sz1]
 rw [sz2] at hns₁ hsb₁ ⊢
 have fresh:∀ a,I≤a→s1.heap.get? a=none:=fun a ha=>by
  cases e:s1.heap.get? a with
  | none=>rfl
  | some o'=>exact absurd (Nat.lt_of_lt_of_le (Heap.lt_size e) (hI ▸ ha)) (Nat.lt_irrefl _)
 have up1:∀ b ob,(s1.heap.push o).get? b=some ob→h₁.get? b=some ob:=fun b ob e=>by
  have lt:Nat.lt b (I+1):=by have lt:=Heap.lt_size e; rw [sz1] at lt; exact lt
  exact hsb₁.extBut b ob (Nat.ne_of_lt (Nat.lt_succ_of_lt lt)) (Heap.get?_push_of_some _ (hH2 ▸ Heap.get?_push_of_some _ e))
 have up:∀ b ob,s1.heap.get? b=some ob→h₁.get? b=some ob:=fun b ob e=>up1 b ob (Heap.get?_push_of_some _ e)
 have hD1:h₁.get? (I+1)=some { cls:=.type "list",dict:=none,data:=.seq ([]:List Value).toArray }:=by
  refine hsb₁.extBut _ _ (Nat.ne_of_lt (Nat.lt_succ_self _)) (Heap.get?_push_of_some _ ?_)
  rw [← hH2,← sz1]; exact Heap.get?_push_size _ rfl
 have lI1:I≠I+1:=Nat.ne_of_lt (Nat.lt_succ_self _)
 have lI2:I+2≠I:=Nat.ne_of_gt (Nat.lt_succ_of_lt (Nat.lt_succ_self _))
 have lI3:I+2≠I+1:=Nat.ne_of_gt (Nat.lt_succ_self _)
 have hC:s1.heap.get? (I+2)=none:=fresh _ (Nat.le_add_right _ _)
 have hI0:s1.heap.get? I=none:=fresh _ (Nat.le_refl _)
 have hD0:s1.heap.get? (I+1)=none:=fresh _ (Nat.le_add_right _ _)
 have O2:ay (fm.comp (compEnvC scope cl (I+2) fm.env) (cx.inner x scope).names (I+2) I (I+1)):=C0.O.comp S1 XI X.nodup hC hI0 hD0 lI2 lI3
 have C2:Cn (fm.comp (compEnvC scope cl (I+2) fm.env) (cx.inner x scope).names (I+2) I (I+1)) (cx.inner x scope) n:=by
  refine ⟨O2,rfl,?_,C0.room,C0.hh,C0.fns,fun y hy=>cl2 y (D4 XI C0.O hy)⟩
  show (scope.names.map fun (n,k)=>if (k==NameKind.free&&fm.env.scope.kind==.function&&fm.env.kindOf n==some .cell) then (n,NameKind.cell) else (n,k))=oZ cx.kinds scope
  unfold oZ
  refine List.map_congr_left fun y _=>?_
  obtain ⟨a,k⟩:=y
  simp only [C0.O.kind,C0.kindOf,beq_self_eq_true,Bool.and_true]
 have S2:∀ s₃:Shared,s₃.heap=h₁→s₃.gens=s1.gens→s₃.os=s1.os→s₃.drawn=s1.drawn→Sat (fm.comp (compEnvC scope cl (I+2) fm.env) (cx.inner x scope).names (I+2) I (I+1)) (ba (none::IH cx scope m)) H1 s₃:=by
  intro s₃ eh eg eo ed
  refine Sat.comp C0.O S1 XI hC hI0 hD0 (by rw [eh]; exact up) ⟨_,by rw [eh]; exact hns₁⟩ ⟨o,by rw [eh]; exact up1 _ _ ho⟩ ⟨_,by rw [eh]; exact hD1⟩ (fun i y u hi hu=>?_) eg eo ed
  cases i with
  | zero=>exact nS hu
  | succ j =>
   have hi:(qD scope.names)[j]? = some y:=hi
   have hu:((qD scope.names).map fun x=>ba m (gF cx.names x))[j]?.join=some u:=hu
   rw [List.getElem?_map,hi] at hu
   refine ar (X.hcaps y (List.mem_of_getElem? hi)) fun c1 c2=>⟨c2,_,?_,hu⟩
   rw [C0.names]; exact c1
 have loop:∀ s₃:Shared,s₃.heap=h₁→s₃.gens=s1.gens→s₃.os=s1.os→s₃.drawn=s1.drawn →
   codeAny fm.M fm.A (.compLoop (.ListComp elt' [⟨.Name x px,iter,ifs,0⟩] scope pos) 0 (.ref I) (.ref (I+1)) (compEnvC scope cl (I+2) fm.env)) (compPost fm.M fm.A E use Q (.ref (I+1)) (I+2)) s₃:=by
  intro s₃ eh eg eo ed
  refine D5 (fin:=fun m G=>evE k (cx.inner x scope) elt' (Option V × AH) m G (fun v G=>.ok (some v,G)) noX) C0.O C0.hh C2 W hlen hC hI0 hD0 lI1 rfl (by rw [js XI C0.O,X.hx]; rfl) ?_ ?_ hrun ⟨af.of_keeps (by rw [eh]; exact up),fun L _ ob e=>⟨ob.slots,by rw [eh]; exact up L ob e⟩,⟨none,S2 s₃ eh eg eo ed⟩,by rw [eh]; exact W.W.frame 0 _ _ st0 fun b _ ob e=>up1 b ob e,⟨_,0,by rw [eh]; exact hD1,RepL.nil,Nat.zero_le _⟩⟩ S1 rfl lI2 lI3 ?_
  ·intro L v0 Ha Q' E' sa hcf SS kk
   have hi:=X.hifs
   obtain _ | ⟨ce,_ | _⟩:=ifs
   rotate_right
   ·exact hi.elim
   ·exact wpAny_pure (kk true Ha sa hcf (af.refl ..) SS)
   ·rw [List.forIn_cons,if_pos rfl]
    refine wpAny_bind (wpAny_bind (wpAny_mono ((hi _ C2).t hcf (Q:=fun b Hb=>(cif b (evE k (cx.inner x scope) elt' (Option V × AH) (some v0::IH cx scope m) (aa Hb) (fun v G=>.ok (some v,G)) noX) (.ok (none,aa Hb))).tt L) (QE:=fun _ _ _=>False) (s5 fun b Hb z=>z) (fun _ _ _ z=>z) sa SS) (fun b s' p=>?_) fun y s' p=>p.el fun _ _ _ _ _ _ _ _ _ _ _ z=>z.elim))
    obtain ⟨Hb,T',S',z⟩:=p
    exact wpAny_pure (wpAny_pure (kk b Hb s' z T' S'))
  ·intro L v0 Ha Q' E' sa hcf SS kk
   exact ((X.helt _ C2).a hcf (Q:=fun v Hb=>L (some v,aa Hb)) (QE:=fun _ _ _=>False) (fun _ _ z=>z) (fun _ _ _ z=>z)).run SS (fun y s' u Hb T' S' r' z=>kk u Hb s' y z T' S' r') fun y s' p=>p.el fun _ _ _ _ _ _ _ _ _ _ _ z=>z.elim
  ·intro H' s' g ce
   exact hK H1 s1 vs (I+2) (I+1) H' s' T1 S1 hC (hq H' g.symm) ce
 exact codeAny_compStart_list (loop _ rfl rfl rfl rfl) (W.W.self 0 _ _ _ (W.W.frame 0 _ _ st0 fun b _ ob e=>up1 b ob e) (loop _ rfl rfl rfl rfl))
theorem GF {m:Loc}{H H1 H':MH}{h0:Heap}{s1 s' s'':Shared}{C:Addr}(O:ay fm) (S1:∃ m1,Sat fm m1 H1 s1) (hC:s1.heap.get? C=none) (T1:af fm H h0 H1 s1.heap) (T2:af fm H1 s1.heap H' s'.heap) (S:Sat (fm.more C) m H' s')
  (k:∀ b o,b≠C→s'.heap.get? b=some o→s''.heap.get? b=some o) (hg:s''.gens=s'.gens) (ho:s''.os=s'.os) (hd:s''.drawn=s'.drawn) :
  Sat fm m H' s''∧af fm H h0 H' s''.heap:=by
 refine aj S1 fun m1 S1=>?_
 have f:=S1.fresh_apart hC
 refine ⟨S.drop (O.more f.2.2.2 f.1 f.2.1) f.2.2.1 k hg ho hd,T1.trans ⟨fun b o e nX=>?_,fun L hL o e=>?_,T2.pre⟩⟩
 ·refine ar (T2.keep b o e nX) fun e1 n1=>?_
  exact ⟨k b o (fun z=>by rw [z,hC] at e; exact nS e) e1,n1⟩
 ·refine aj (T2.outs L hL o e) fun sl e1=>?_
  exact ⟨sl,k L _ (fun z=>by rw [z,hC] at e; exact nS e) e1⟩
theorem GG (C0:Cn fm cx n) {elt' iter:Expr}{x:Str}{px pos:Pos}{ifs:List Expr}{scope:Scope}(X:kG n cx k elt' iter x ifs scope) {α:Type}{L:α→Prop}{K:V→AH→Tr α}{X':XT α}{QV1:List V→MH→Prop}{QE:QX}
  (h0:(evE (k+1) cx (.ListComp elt' [⟨.Name x px,iter,ifs,0⟩] scope pos) α m (aa H) K X').tt L) (q:∀ vs H',(K (.lst vs) (aa H')).tt L→QV1 vs H') (x':KX L X' QE) :
  EW fm iter (ba m) H (fun v H1=>∃ xs vs G,nz v=some xs∧cQ (zL (fun cx=>evE k cx) cx elt' (.Name x px) ifs scope m) xs (aa H1) vs G∧∀ H2,aa H2=G→QV1 vs H2) QE :=
 vL C0 (X.hit fm C0).a h0 (fun v H1 z=>ae z fun xs e z=>cN z fun vs G e2 z=>⟨xs,vs,G,e,e2,fun H2 g=>q _ _ (by rw [g]; exact z)⟩) x'
theorem Jl {elt' iter:Expr}{x:Str}{px pos:Pos}{ifs:List Expr}{scope:Scope}(X:kG n cx k elt' iter x ifs scope):PE n cx (k+1) (.ListComp elt' [⟨.Name x px,iter,ifs,0⟩] scope pos):=.of (fun _=>rfl) fun fm C0 α L m H K X' Q QE h0 q x' s S=>by
 rw [eval_ListComp]
 refine v3 C0 X (use:=none) (QV1:=fun vs H2=>Q (.lst vs) H2) (GG C0 X h0 (fun vs H' z=>q _ _ z) x') S (fun _ _ p=>p) fun H1 s1 vs C D H' s' T1 S1 hC hq ce=>?_
 refine aj ce.ns fun mm hn=>⟨mm,hn,fun h' hs'=>?_⟩
 have kk:∀ b o,b≠C→s'.heap.get? b=some o→h'.get? b=some o:=fun b o hb e=>hs'.extBut b o hb e
 refine ar (GF (s'':={ s' with heap:=h' }) C0.O ⟨_,S1⟩ hC T1 ce.tr ce.sat kk rfl rfl rfl) fun S3 T3=>?_
 exact ⟨_,H',T3,S3,Rep.mono (fun _ _ e=>e) (fun b o e q=>⟨kk b o (dK.mp q).2 e,(dK.mp q).1⟩) ce.rep,hq⟩
theorem GH {α:Type}{e a:Expr}{b:List Comprehension}{c:Scope}{y:Str}{G:AH}{K:V→AH→Tr α}{X:XT α}(h:vw e=.comp a b c):evR cx y e m G K X=ev cx e α m G K X:=by
 unfold evR FX dE evX
 rw [h]
 rfl
theorem GI {α:Type}{L:α→Prop}{e a:Expr}{b:List Comprehension}{c:Scope}{y:Str}{p pos:Pos}{G:AH}{K:Fl→LV→AH→Tr α}(h:vw e=.comp a b c) (h0:(evS (k+1) cx (.Assign [.Name y p] e pos) α m G K).tt L):(ev cx e α m G (fun v G=>K .next (m.set (gF cx.names y) (some v)) G) (exS K)).tt L:=by
 have h1:(evR cx y e m G (fun v G=>K .next (m.set (gF cx.names y) (some v)) G) (exS K)).tt L:=h0
 rw [GH h] at h1
 exact h1
theorem Jm {elt' iter:Expr}{x y:Str}{px py cpos pos:Pos}{ifs:List Expr}{scope:Scope}(hv:cx.isVar y=true) (sw:eR cx (.ListComp elt' [⟨.Name x px,iter,ifs,0⟩] scope cpos) (some (.Name y py)) pos.line true=true) (X:kG n cx 23 elt' iter x ifs scope) :
  PS n cx (k+1) (.Assign [.Name y py] (.ListComp elt' [⟨.Name x px,iter,ifs,0⟩] scope cpos) pos):=fun fm C0 α L m H K Q h0 q s S=>by
 have h1:=GI (e:=.ListComp elt' [⟨.Name x px,iter,ifs,0⟩] scope cpos) rfl h0
 clear h0
 rw [exec_Assign_Name_used _ _ _ _ (i7 C0.toCn sw)]
 refine wpAny_bind (wpAny_standAt (wpAny_bind ?_))
 show wpAny fm.M fm.A (do let _ ← comprehension (.ListComp elt' [⟨.Name x px,iter,ifs,0⟩] scope cpos) scope fm.env _ (newList []) false (eval iter fm.env) (some (assign (.Name y py) fm.env))) _ _ s
 refine wpAny_bind (wpAny_mono (v3 C0.toCn X (use:=some (assign (.Name y py) fm.env)) (QV1:=fun vs H2=>Q .next (m.set (gF cx.names y) (some (.lst vs))) H2)
  (GG C0.toCn X h1 (fun vs H' z=>q _ _ _ z) (gi q)) S
  (Q:=fun _ s'=>PF fm H s.heap Q .next s') (fun _ _ p=>p) fun H1 s1 vs C D H' s' T1 S1 hC hq ce=>?_) (fun _ s' hq=>wpAny_pure (wpAny_pure hq)) fun _ _ e=>e)
 have f:=S1.fresh_apart hC
 have C':Cs (fm.more C) cx n:=C0.more f.2.2.2 f.1 f.2.1
 show wpAny fm.M fm.A (assign (.Name y py) fm.env (.ref D)) _ _ s'
 refine wpAny_assign_Name (i6 (fm:=fm.more C) C' hv ce.sat ce.rep fun s2 T2 S2=>?_)
 have inC:C∈(fm.more C).int:=List.mem_cons_self
 have nX:C ∉ (fm.more C).X H':=fun q=>by
  rcases ax.mp q with q | q | q
  ·exact C'.O.ownFm _ q inC
  ·exact C'.O.outsFm _ q inC
  ·exact (ce.sat.apart _ q).2.2.1 inC
 have T2':af fm H' s'.heap H' s2.heap:=T2.less
 refine aj ce.ns fun mm hn=>⟨mm,hn.at' fun o e=>(T2.keep C o e nX).1,fun h' hs'=>?_⟩
 have kk:∀ b o,b≠C→s2.heap.get? b=some o→h'.get? b=some o:=fun b o hb e=>hs'.extBut b o hb e
 refine ar (GF (s'':={ s2 with heap:=h' }) C0.O ⟨_,S1⟩ hC T1 (ce.tr.trans T2') S2 kk rfl rfl rfl) fun S3 T3=>?_
 exact ⟨.next,_,H',hq,T3,S3,rfl⟩
end
end
section
noncomputable def orC {P:Prop}(c d:Ck P):Ck P:=match c with
 | some u=>some u
 | none=>d
noncomputable def ifC {P:Prop}(c:Bool) (f:c=true→Ck P) (g:c=false→Ck P):Ck P:=match c,f,g with
 | true,f,_=>f rfl
 | false,_,g=>g rfl
section
variable {n k:Nat}{cx:Cx}
theorem isD {e:Expr}(h:lK e=true) {P:Expr→Prop}(f:∀ p,P (.Name (bi e) p)):P e:=aj (nI h) fun p q=>q ▸ f p
noncomputable def uU (c:∀ e,Ck (PE n cx k e)):∀ es,Ck (PLs n cx k es)
 | []=>ys PLs.nil
 | e::r=>wh (bb [e]) fun h0=>bd (c e) fun h1=>bd (uU c r) fun h2=>ys (PLs.cons h0 h1 h2)
noncomputable def LU (c:∀ e,Ck (PE n cx k e)) (x:Option Expr):Ck (PP n cx k x):=match x with
 | none=>ys trivial
 | some e=>bd (c e) fun h=>ys h
noncomputable def NI (c:∀ e,Ck (PE n cx k e)) (x:List Expr):Ck (PIf n cx k x):=match x with
 | []=>ys trivial
 | [e]=>bd (c e) fun h=>ys h
 | _=>none
theorem Jn {g:Str}{l t:Expr}{p pos:Pos}(hl:lkF cx.fns g=none) (hg:cU g aI=true) (ht:lK t=true) (hs:cU (bi t) sW=true) (h1:cx.isGlob aI=true) (h2:cx.isGlob sW=true) (h3:bb [l]=true) (h:PE n cx k l):PE n cx (k+1) (.Call (.Name g p) [l,t] [] pos):=by
 obtain rfl:=dh hg
 refine isD ht (P:=fun t=>PE n cx (k+1) (.Call (.Name aI p) [l,t] [] pos)) fun p'=>?_
 rw [dh hs]
 exact F7 hl h1 h2 h3 h
theorem Kq {g:Str}{args:List Expr}{p pos:Pos}(hl:lkF cx.fns g=none) (h1:cU g aI=false) (h2:sV FT g=false) {α:Type}{L:α→Prop}{m:LV}{G:AH}{K:V→AH→Tr α}{X:XT α}(h:(evE (k+1) cx (.Call (.Name g p) args [] pos) α m G K X).tt L):False:=by
 have h:(uS (lkF cx.fns g) cx (evE k cx) g args m G K X).tt L:=h
 rw [hl] at h
 simp only [uS,h1,h2,cif] at h
 exact h
theorem NJ {g:Str}{args:List Expr}{p pos:Pos}(hl:lkF cx.fns g=none) (h1:cU g aI=false) (h2:sV FT g=false):PE n cx (k+1) (.Call (.Name g p) args [] pos):=fun fm C=>⟨fun h _ _=>(Kq hl h1 h2 h).elim,fun h _ _=>(Kq hl h1 h2 h).elim⟩
noncomputable def PO (c:∀ e,Ck (PE n cx k e)) (g:Str) (p:Pos) (args:List Expr) (pos:Pos):Ck (PE n cx (k+1) (.Call (.Name g p) args [] pos)):=wh (cx.isGlob g) fun hg=>match h:lkF cx.fns g with
 | some o=>match o,h with
  | .h f _,h=>bd (uU c args) fun ha=>ys (PJ h hg ha)
  | .p f _,h=>bd (uU c args) fun ha=>ys (PK h hg ha)
  | .r f _,h=>wh (Nat.ble args.length 20) fun hl=>bd (uU c args) fun ha=>ys (PN h hg hl ha)
  | .o f _,h=>match args with
   | []=>ys (PM h hg)
   | _=>none
 | none=>ifC (cU g aI) (fun h1=>match args with
  | [a,t]=>wh (lK t) fun h2=>wh (cU (bi t) sW) fun h3=>wh (cx.isGlob aI) fun h4=>wh (cx.isGlob sW) fun h5=>wh (bb [a]) fun h6=>bd (c a) fun h7=>ys (Jn h h1 h2 h3 h4 h5 h6 h7)
  | _=>none) fun h1=>ifC (sV FT g) (fun h3=>wh (fZ.contains g) fun h2=>bd (uU c args) fun ha=>ys (LD h h2 h3 h1 hg ha)) fun h3=>ys (NJ h h1 h3)
theorem LX {o x y:Expr}{nm:Str}{apos pos:Pos}(hn:cU nm qE=true) (ho:lK o=true) (hs:cU (bi o) xp=true) (h1:cx.isGlob xp=true) (h2:(apos.endLine==pos.line)=true) (h3:bb [x]=true) (h4:bb [y]=true) (h5:PE n cx k x) (h6:PE n cx k y) :
  PE n cx (k+1) (.Call (.Attribute o nm apos) [x,y] [] pos):=by
 obtain rfl:=dh hn
 refine isD ho (P:=fun o=>PE n cx (k+1) (.Call (.Attribute o qE apos) [x,y] [] pos)) fun p=>?_
 rw [dh hs]
 exact BD h1 h2 h3 h4 h5 h6
noncomputable def PQ (c:∀ e,Ck (PE n cx k e)) (o:Expr) (nm:Str) (apos:Pos) (args:List Expr) (pos:Pos):Ck (PE n cx (k+1) (.Call (.Attribute o nm apos) args [] pos)):=wh (apos.endLine==pos.line) fun h2=>ifC (cU nm qE) (fun hn=>match args with
 | [x,y]=>wh (lK o) fun ho=>wh (cU (bi o) xp) fun hs=>wh (cx.isGlob xp) fun h1=>wh (bb [x]) fun h3=>wh (bb [y]) fun h4=>bd (c x) fun h5=>bd (c y) fun h6=>ys (LX hn ho hs h1 h2 h3 h4 h5 h6)
 | _=>none) fun hn=>wh (fA o) fun h0=>wh (Nat.blt args.length 20) fun h3=>bd (c o) fun h4=>bd (uU c args) fun h5=>ys (I1 h0 hn h2 h3 h4 h5)
noncomputable def NK (c:∀ e,Ck (PE n cx k e)) (ci:∀ cx e,Ck (PE n cx k e)) (e iter:Expr) (x:Str) (ifs:List Expr) (sc:Scope):Ck (kG n cx k e iter x ifs sc) :=
 wh (GD cx x iter sc) fun h=>bd (c iter) fun h1=>bd (NI (ci (cx.inner x sc)) ifs) fun h2=>bd (ci (cx.inner x sc) e) fun h3=>ys (D6 h h1 h2 h3)
theorem Jo {e iter t:Expr}{ifs:List Expr}{sc:Scope}{pos:Pos}{a:Int}(ht:lK t=true) (ha:(a==0)=true) (h:kG n cx k e iter (bi t) ifs sc):PE n cx (k+1) (.ListComp e [⟨t,iter,ifs,a⟩] sc pos):=by
 rw [eq_of_beq ha]
 exact isD ht (P:=fun t'=>PE n cx (k+1) (.ListComp e [⟨t',iter,ifs,0⟩] sc pos)) fun p=>Jl h
noncomputable def NL (ci:∀ cx e,Ck (PE n cx k e)) (cx:Cx) (e:Expr):Ck (PE n cx (k+1) e):=match e with
 | .Constant c _ _=>match c with
  | .none=>ys IS
  | .bool b=>ys IT
  | .int i=>ys Lu
  | .str s=>wh (Nat.ble s.length big) fun h=>ys (Lv h)
  | _=>none
 | .Name y _=>wh (cx.isVar y) fun h=>ys (IU h)
 | .BinOp l op r _=>bd (ci cx l) fun h1=>bd (ci cx r) fun h2=>ys (Lw h1 h2)
 | .UnaryOp op a _=>bd (ci cx a) fun h1=>ys (NA h1)
 | .BoolOp op es _=>bd (uU (ci cx) es) fun h=>ys (LC h)
 | .Compare l ops rs _=>match ops,rs with
  | [o],[r]=>wh (!behindInMarks o r) fun h0=>bd (ci cx l) fun h1=>bd (ci cx r) fun h2=>ys (Ly (nt h0) h1 h2)
  | [o,o₂],[r,t]=>wh (!behindInMarks o₂ t) fun h0=>bd (ci cx l) fun h1=>bd (ci cx r) fun h2=>bd (ci cx t) fun h3=>ys (IV (nt h0) h1 h2 h3)
  | _,_=>none
 | .IfExp t a b _=>bd (ci cx t) fun h1=>bd (ci cx a) fun h2=>bd (ci cx b) fun h3=>ys (Lz h1 h2 h3)
 | .Subscript o s _=>match s with
  | .Slice l u st _=>bd (ci cx o) fun h=>bd (LU (ci cx) l) fun h1=>bd (LU (ci cx) u) fun h2=>bd (LU (ci cx) st) fun h3=>ys (F4 h h1 h2 h3)
  | s=>wh (g7 s) fun h0=>bd (ci cx o) fun h1=>bd (ci cx s) fun h2=>ys (IW h0 h1 h2)
 | .Attribute o nm _=>wh (fA o) fun h0=>bd (ci cx o) fun h1=>ys (IX h0 h1)
 | .Tuple es _ _=>wh (Nat.ble es.length 1000) fun h0=>bd (uU (ci cx) es) fun h=>ys (LA h0 h)
 | .List es _=>wh (Nat.ble es.length 1000) fun h0=>bd (uU (ci cx) es) fun h=>ys (LB h0 h)
 | .Dict ks vs _=>match ks with
  | e::es=>match hd:f9 (e::es) vs with
   | some kv=>wh (kv.2.all (fun x=>Nat.ble x.length big)) fun h1=>wh (decide kv.1.Nodup) fun h2=>wh (Nat.ble kv.1.length 15) fun h3=>ys (IY hd h1 h2 h3)
   | none=>none
  | []=>none
 | .ListComp e gs sc _=>match gs with
  | [g]=>match g with
   | ⟨t,iter,ifs,a⟩=>wh (lK t) fun h1=>wh (a==0) fun h2=>bd (NK (ci cx) ci e iter (bi t) ifs sc) fun h=>ys (Jo h1 h2 h)
  | _=>none
 | .Call f args kws pos=>match kws with
  | []=>match f with
   | .Name g p=>PO (ci cx) g p args pos
   | .Attribute o nm apos=>PQ (ci cx) o nm apos args pos
   | _=>none
  | _=>none
 | _=>none
noncomputable def Jp:∀ (k:Nat) (cx:Cx) (e:Expr),Ck (PE n cx k e)
 | 0,_,_=>none
 | k+1,cx,e=>NL (Jp k) cx e
end
end
section
section
variable {n k:Nat}
noncomputable abbrev chE (cx:Cx) (e:Expr):Ck (PE n cx 24 e):=Jp 24 cx e
noncomputable def LY (cx:Cx) (y:Str) (e:Expr):Ck (PR n cx y e):=ifC (Gk e) (fun h=>ys (NE h)) fun _=>wh (dOk e) fun h2=>wh (Nat.ble (zM e).length 1000) fun h4=>bd (chE cx e) fun h1=>bd (uU (chE cx) (zM e)) fun h3=>ys (XR h1 h2 h3 h4)
noncomputable def Kr (cx:Cx):∀ ts es,Ck (PRs n cx ts es)
 | [],_=>ys trivial
 | t::ts,es=>match es with
  | e::es=>bd (LY cx (bi t) e) fun h1=>bd (Kr cx ts es) fun h2=>ys ⟨h1,h2⟩
  | []=>ys trivial
variable {cx:Cx}{pos:Pos}
theorem tsd {t:Expr}(h:lK t=true) {P:Expr→Prop}(f:∀ p,P (.Name (bi t) p)):P t:=isD h f
theorem ac {y:Str}{py:Pos}{t v e iter:Expr}{ifs:List Expr}{sc:Scope}{a:Int}{cp:Pos}(ev:v=.ListComp e [⟨t,iter,ifs,a⟩] sc cp) (ht:lK t=true) (ha:(a==0)=true) (hv:cx.isVar y=true) (sw:eR cx v (some (.Name y py)) pos.line true=true) (h:kG n cx 23 e iter (bi t) ifs sc):PS n cx (k+1) (.Assign [.Name y py] v pos):=by
 subst ev
 obtain rfl:=eq_of_beq ha
 obtain ⟨p,e⟩:=nI ht
 generalize bi t=x at e h
 subst e
 exact Jm hv sw h
noncomputable def NM (cx:Cx) (y:Str) (py:Pos) (v:Expr) (pos:Pos) (hv:cx.isVar y=true):Ck (PS n cx (k+1) (.Assign [.Name y py] v pos)):=match h:v with
 | .ListComp e gs sc cp=>match gs,h with
  | [g],h=>match g,h with
   | ⟨t,iter,ifs,a⟩,h=>wh (lK t) fun h1=>wh (a==0) fun h2=>wh (eR cx v (some (.Name y py)) pos.line true) fun h3=>bd (NK (Jp 23 cx) (Jp 23) e iter (bi t) ifs sc) fun h4=>ys (h ▸ ac h h1 h2 hv h3 h4)
  | _,_=>none
 | _=>none
noncomputable def NN (cx:Cx) (ts:List Expr) (a:Nat) (p:Pos) (v:Expr) (pos:Pos):Ck (PS n cx (k+1) (.Assign [.Tuple ts a p] v pos)):=wh (lT cx ts) fun h1=>wh (decide (nD cx ts).Nodup) fun h2=>wh (eR cx v (some (.Tuple ts a p)) pos.line false) fun h3=>wh (o8 cx ts a p v) fun h4=>match v,h3,h4 with
 | .Tuple es b p',h3,h4=>wh (bb es) fun h5=>wh (Nat.ble es.length 1000) fun h6=>bd (Kr cx ts es) fun h7=>ys (Jb h1 h2 h3 h4 h5 h6 h7)
 | v,h3,h4=>wh (!isTup v) fun h5=>bd (chE cx v) fun h6=>ys (Jc (nt h5) h1 h2 h3 h4 h6)
noncomputable def PT (cx:Cx) (t v:Expr) (pos:Pos):Ck (PS n cx (k+1) (.Assign [t] v pos)):=match t with
 | .Name y p=>wh (cx.isVar y) fun h1=>ifC (eR cx v (some (.Name y p)) pos.line false) (fun h2=>bd (LY cx y v) fun h3=>ys (LJ h1 h2 h3)) fun _=>NM cx y p v pos h1
 | .Tuple ts a p=>NN cx ts a p v pos
 | .Subscript o i p=>wh (eR cx v (some (.Subscript o i p)) pos.line false) fun h1=>wh (g7 i) fun h2=>bd (chE cx v) fun h3=>bd (chE cx o) fun h4=>bd (chE cx i) fun h5=>ys (Jd h1 h2 h3 h4 h5)
 | .Attribute o nm p=>wh (eR cx v (some (.Attribute o nm p)) pos.line false) fun h1=>bd (chE cx o) fun h2=>ifC (Gk v) (fun h3=>ys (Go h3 h1 h2)) fun _=>wh (dOk v) fun h3=>bd (chE cx v) fun h4=>ys (Je h3 h1 h4 h2)
 | _=>none
noncomputable def PU (cx:Cx) (t it:Expr) (b:List Stmt) (pos:Pos) (hb:PBs n cx k b):Ck (PS n cx (k+1) (.For t it b [] pos)):=wh (o7 it) fun h1=>bd (chE cx it) fun h2=>match t with
 | .Name y p=>wh (cx.isVar y) fun h3=>ys (Jg h3 h1 h2 hb)
 | .Tuple ts a p=>wh (lT cx ts) fun h3=>ys (Jh h3 h1 h2 hb)
 | _=>none
theorem LZ {y n:Str}{o:Expr}{p':Pos}(ho:lK o=true) (h1:cU y (bi o)=true) (h2:aU.contains n=true):nM y (.Attribute o n p'):=isD ho (P:=fun o=>nM y (.Attribute o n p')) fun p=>Gu h1 h2
noncomputable def NO (y:Str) (x:Expr):Ck (nM y x):=match x with
 | .Attribute o n _=>wh (lK o) fun h0=>wh (cU y (bi o)) fun h1=>wh (aU.contains n) fun h2=>ys (LZ h0 h1 h2)
 | .Constant c _ _=>match c with
  | .str s=>wh (Nat.ble s.length big) fun h=>ys (Gv h)
  | _=>none
 | _=>none
noncomputable def NP (y:Str):∀ xs:List Expr,Ck (∀ x∈xs,nM y x)
 | []=>ys fun _ h=>absurd h List.not_mem_nil
 | x::xs=>bd (NO y x) fun h1=>bd (NP y xs) fun h2=>ys fun z hz=>(List.mem_cons.mp hz).elim (fun e=>e ▸ h1) (h2 z)
theorem Jq {x t:Expr}{p1 p3 p4 p5 tp:Pos}{nm:Str}{xs:List Expr}{kk} (ht:lK t=true) (hg:cU (bi t) nL=true) (h1:PE n cx 24 x) (h2:cx.isGlob (bi t)=true) (h3:cx.isVar nm=true) (h4:(cx.kinds.lookup nm==some .local)=true) (h5:∀ x∈xs,nM nm x) (h6:Nat.ble xs.length 1000=true) :
  PS n cx (k+1) (.Try [.Return (some x) p1] [.ExceptHandler (some t) (some nm) [.Return (some (.Tuple xs kk tp)) p3] p4] [] [] p5):=by
 obtain ⟨p2,e⟩:=nI ht
 generalize bi t=g at e hg h2
 subst e
 exact LR h1 hg h2 h3 (eq_of_beq h4) h5 h6
noncomputable def PW (cb:∀ sts,Ck (PBs n cx k sts)) (b:List Stmt) (hs:List ExceptHandler) (pos:Pos):Ck (PS n cx (k+1) (.Try b hs [] [] pos)):=match hs with
 | h0::hs=>ifC (FY b).isNone (fun hr=>bd (cb b) fun h=>ys (Ji hr h)) fun _=>match b,hs,h0 with
  | [.Return (some x) p1],[],.ExceptHandler (some t) (some nm) [.Return (some (.Tuple xs kk tp)) p3] p4 =>
   wh (lK t) fun ht=>wh (cU (bi t) nL) fun hg=>bd (chE cx x) fun h1=>wh (cx.isGlob (bi t)) fun h2=>wh (cx.isVar nm) fun h3=>wh (cx.kinds.lookup nm==some .local) fun h4=>bd (NP nm xs) fun h5=>wh (Nat.ble xs.length 1000) fun h6=>ys (Jq ht hg h1 h2 h3 h4 h5 h6)
  | _,_,_=>none
 | []=>none
noncomputable def stepT (cx:Cx) (cb:∀ sts,Ck (PBs n cx k sts)) (s:Stmt):Ck (PS n cx (k+1) s):=match s with
 | .Return e _=>match e with
  | none=>ys I9
  | some e=>bd (LY cx Lp e) fun h=>ys (LI h)
 | .Expr e pos=>wh (eR cx e none pos.line false) fun h1=>bd (chE cx e) fun h2=>ys (Ja h1 h2)
 | .Assign ts v pos=>match ts with
  | [t]=>PT cx t v pos
  | _=>none
 | .AugAssign t op v _=>match t with
  | .Name y _=>wh (cx.isVar y) fun h1=>bd (chE cx v) fun h2=>ys (LL h1 h2)
  | _=>none
 | .If t a b _=>bd (chE cx t) fun h1=>bd (cb a) fun h2=>bd (cb b) fun h3=>ys (LM h1 h2 h3)
 | .While t b el _=>match el with
  | []=>bd (chE cx t) fun h1=>bd (cb b) fun h2=>ys (Gp h1 h2)
  | _=>none
 | .For t it b el pos=>match el with
  | []=>bd (cb b) fun hb=>PU cx t it b pos hb
  | _=>none
 | .Raise e c _=>match e,c with
  | some e,none=>bd (chE cx e) fun h=>ys (Gr h)
  | _,_=>none
 | .Try b hs el fin pos=>match el,fin with
  | [],[]=>PW cb b hs pos
  | _,_=>none
 | .Pass _=>ys I7
 | .Break _=>ys LH
 | .Continue _=>ys I8
 | _=>none
noncomputable def L4 (c:∀ s,Ck (PS n cx k s)):∀ sts,Ck (PBs n cx k sts)
 | []=>ys PBs.nil
 | s::r=>bd (c s) fun h1=>bd (L4 c r) fun h2=>ys (PBs.cons h1 h2)
noncomputable def NQ:∀ (k:Nat) (cx:Cx) (s:Stmt),Ck (PS n cx k s)
 | 0,_,_=>none
 | k+1,cx,s=>stepT cx (L4 (NQ k cx)) s
end
theorem j1.less {k n:Nat}{a:Addr}{vs:List V}{H:MH}{Q:QV}{QE:QX}(h:j1 k a vs H Q QE) (hk:k≤n):j1 n a vs H Q QE:=fun fm m s xs O hh R S r=>h fm m s xs O hh (R.less hk) S r
noncomputable abbrev FOk (n:Nat) (l:List (Str × FK)):Prop:=∀ g k,lkF l g=some k→uT n g k
theorem FOk.nil {n:Nat}:FOk n []:=fun _ _ h=>nS h
theorem FOk.cons {n:Nat}{y:Str}{f:FK}{l:List (Str × FK)}(h:uT n y f) (t:FOk n l):FOk n ((y,f)::l):=fun g k e=>by
 have e:cif (cU y g) (some f) (lkF l g)=some k:=e
 cases q:cU y g with
 | true=>rw [q] at e; exact sj e ▸ dh q ▸ h
 | false=>rw [q] at e; exact t g k e
theorem iM {k n:Nat}{F:Fn}{g:Str}{f:FS}{c:HC f}(i:Nat) (hF:TAB[i]? = some F) (hn:cU F.name g=true) (h:d9 k F f) (hk:k≤n):uT n g (.h f c):=⟨F,List.mem_of_getElem? hF,dh hn,fun vs H r G' z=>(h vs H r G' z).less hk⟩
theorem az {k n:Nat}{F:Fn}{g:Str}{f:FP}{c:PC f}(i:Nat) (hF:TAB[i]? = some F) (hn:cU F.name g=true) (h:aw k F f) (hk:k≤n):uT n g (.p f c):=⟨F,List.mem_of_getElem? hF,dh hn,fun vs H r z=>(h vs H r z).less hk⟩
theorem PY {k n:Nat}{g:Str}{f:FS}{c:HC f}(hn:cU g nL=true) (h:d9 k av f) (hk:k≤n):uT n g (.r f c):=⟨(dh hn).trans s6,fun vs H r G' z=>(h vs H r G' z).less hk⟩
noncomputable def PZ:Str:=⟨⟨[79,112,116,105,111,110,115]⟩⟩
theorem P0 {k n:Nat}{g:Str}{f:FS}{c:HC f}(hn:cU g PZ=true) (h:d9 k au f) (hk:k≤n):uT n g (.o f c):=⟨(dh hn).trans (by decide +kernel),fun vs H r G' z=>(h vs H r G' z).less hk⟩
noncomputable abbrev BK:List Fn:=av::au::TAB
noncomputable def GJ (n:Nat) (F:Fn) (cx:Cx) (d:Fd):Bool:=(CW F d.names d.np&&V.puL d.dfl)&&(L4 (n:=n) (NQ SN cx) d.body).isSome
theorem okH {n:Nat}{F:Fn}{cx:Cx}{d:Fd}(i:Nat) (hF:BK[i]? = some F) (D:D3 F d cx) (hT:FOk n cx.fns) (h:GJ n F cx d=true:=by kernel_rfl):d9 (n+1) F (fnH cx d):=NG D (List.mem_of_getElem? hF) (an (an h).1).1 hT (cvT (an h).2)
theorem okP {n:Nat}{F:Fn}{cx:Cx}{d:Fd}{th:Bool}(i:Nat) (hF:BK[i]? = some F) (D:D3 F d cx) (hT:FOk n cx.fns) (h:GJ n F cx d=true:=by kernel_rfl):aw (n+1) F (fnP th cx d):=NH D (List.mem_of_getElem? hF) (an (an h).1).1 (an (an h).1).2 hT (cvT (an h).2)
end
end Mine
end
section
open PySem PySem.W PyProof.Rows Builtin.Str
set_option maxRecDepth 100000
set_option backward.match.sparseCases false
set_option genSizeOf false
namespace Mine
section
section
variable {α β γ δ:Type}
theorem uV {p q:α→Prop}(h:∃ a,p a) (k:∀ a,p a→q a):∃ a,q a:=h.imp k
theorem Q0 {p q r r':α→Prop}(h:∃ a,p a∧q a∧r a) (k:∀ a,r a→r' a):∃ a,p a∧q a∧r' a:=h.imp fun a h=>⟨h.1,h.2.1,k a h.2.2⟩
theorem P1 {p q:α→β→Prop}(h:∃ a b,p a b) (k:∀ a b,p a b→q a b):∃ a b,q a b:=h.imp fun a h=>h.imp (k a)
theorem P2 {p q r:α→β→Prop}(h:∃ a b,p a b∧q a b) (k:∀ a b,q a b→r a b):∃ a b,p a b∧r a b:=h.imp fun a h=>h.imp fun b h=>⟨h.1,k a b h.2⟩
theorem P3 {p q r r':α→β→Prop}(h:∃ a b,p a b∧q a b∧r a b) (k:∀ a b,r a b→r' a b):∃ a b,p a b∧q a b∧r' a b:=h.imp fun a h=>h.imp fun b h=>⟨h.1,h.2.1,k a b h.2.2⟩
theorem L5 {p q r r':α→β→γ→Prop}(h:∃ a b c,p a b c∧q a b c∧r a b c) (k:∀ a b c,r a b c→r' a b c):∃ a b c,p a b c∧q a b c∧r' a b c:=h.imp fun a h=>h.imp fun b h=>h.imp fun c h=>⟨h.1,h.2.1,k a b c h.2.2⟩
theorem NR {p q r r':α→β→γ→δ→Prop}(h:∃ a b c d,p a b c d∧q a b c d∧r a b c d) (k:∀ a b c d,r a b c d→r' a b c d):∃ a b c d,p a b c d∧q a b c d∧r' a b c d:=h.imp fun a h=>h.imp fun b h=>h.imp fun c h=>h.imp fun d h=>⟨h.1,h.2.1,k a b c d h.2.2⟩
end
set_option genCtorIdx false in
inductive Ans where
 | v (x:V) | b (c:Bool) | l (xs:List V) | h (G:AH) | p (r:Res) | r (r:Res) (G:AH) | s (f:Fl) (m:LV) (G:AH) | q (xs:List V) (G:AH) | m (x:Mth)
structure Ob where
 n:Nat
 a:Ans
 P:Prop
 h:P
noncomputable abbrev Or:=List (Nat × Ans)
noncomputable def nxt:Or→Option Ans × Or
 | []=>(none,[])
 | p::o=>match p.1 with
  | 0=>(some p.2,o)
  | n+1=>(none,(n,p.2)::o)
noncomputable def go1 {β:Type} (q:Option β) (k:β→Prop):Prop:=match q with
 | some x=>k x
 | none=>False
section
variable {α:Type}
noncomputable def gO {β:Type} (un:Ans→Option β) (q:Option β) (k:β→Or→Prop) (o:Or):Prop:=match nxt o with
 | (a,o)=>match a with
  | some a=>go1 (un a) fun x=>q=some x∧k x o
  | none=>go1 q fun x=>k x o
noncomputable def usV:Ans→Option V
 | .v x=>some x
 | _=>none
noncomputable def usB:Ans→Option Bool
 | .b x=>some x
 | _=>none
noncomputable def usL:Ans→Option (List V)
 | .l x=>some x
 | _=>none
noncomputable def usH:Ans→Option AH
 | .h x=>some x
 | _=>none
noncomputable def usP:Ans→Option Res
 | .p r=>some r
 | _=>none
noncomputable def usR:Ans→Option (Res × AH)
 | .r r G=>some (r,G)
 | _=>none
noncomputable def usS:Ans→Option (Fl × LV × AH)
 | .s f m G=>some (f,m,G)
 | _=>none
noncomputable def usQ:Ans→Option (List V × AH)
 | .q vs G=>some (vs,G)
 | _=>none
noncomputable def gX {β:Type} (un:Ans→Option β) (q:β→Prop) (c:Option β) (k:β→Or→Prop) (o:Or):Prop:=match nxt o with
 | (a,o)=>match a with
  | some a=>go1 (un a) fun x=>q x∧k x o
  | none=>go1 c fun x=>k x o
noncomputable def gC (q:Bool) (k:Bool→Or→Prop) (o:Or):Prop:=match nxt o with
 | (a,o)=>match a with
  | some a=>go1 (usB a) fun x=>q=x∧k x o
  | none=>k q o
noncomputable def gM (q:Option Mth) (k:Mth→Or→Prop) (o:Or):Prop:=match o with
 | p::o'=>match p.1,p.2 with
  | 0,.m x=>q=some x∧k x o'
  | _,_=>go1 q fun x=>k x o
 | []=>go1 q fun x=>k x o
noncomputable def Tr.pth (L:α→Prop):Tr α→Or→Prop
 | .ok a,_=>L a
 | .no,_=>False
 | .aO q k,o=>gO usV q (fun x=>(k x).pth L) o
 | .aB q k,o=>gO usB q (fun x=>(k x).pth L) o
 | .aC q k,o=>gC q (fun x=>(k x).pth L) o
 | .aL q k,o=>gO usL q (fun x=>(k x).pth L) o
 | .aH q k,o=>gO usH q (fun x=>(k x).pth L) o
 | .aM q k,o=>gM q (fun x=>(k x).pth L) o
 | .aP q c _ k,o=>gX usP q c (fun r=>(k r).pth L) o
 | .aR q c _ k,o=>gX usR (fun p=>q p.1 p.2) c (fun p=>(k p.1 p.2).pth L) o
 | .aS q c _ k,o=>gX usS (fun p=>q p.1 p.2.1 p.2.2) c (fun p=>(k p.1 p.2.1 p.2.2).pth L) o
 | .aQ q c _ k,o=>gX usQ (fun p=>q p.1 p.2) c (fun p=>(k p.1 p.2).pth L) o
theorem mj {β:Type}{q:Option β}{k:β→Prop}(h:go1 q k):∃ x,q=some x∧k x:=by
 cases q with
 | none=>exact h.elim
 | some x=>exact ⟨x,rfl,h⟩
theorem qI {β:Type}{un:Ans→Option β}{q:Option β}{k:β→Or→Prop}{K:β→Prop}{o:Or}(h:gO un q k o) (i:∀ x o,k x o→K x):∃ x,q=some x∧K x:=by
 unfold gO at h
 generalize nxt o=p at h
 obtain ⟨_ | a,o⟩:=p
 ·obtain ⟨x,e,h⟩:=mj h; exact ⟨x,e,i x o h⟩
 ·obtain ⟨x,e,h⟩:=mj h; exact ⟨x,h.1,i x o h.2⟩
theorem qJ {β:Type}{un:Ans→Option β}{q:β→Prop}{c:Option β}{k:β→Or→Prop}{K:β→Prop}{o:Or}(g:∀ x,c=some x→q x) (h:gX un q c k o) (i:∀ x o,k x o→K x):∃ x,q x∧K x:=by
 unfold gX at h
 generalize nxt o=p at h
 obtain ⟨_ | a,o⟩:=p
 ·obtain ⟨x,e,h⟩:=mj h; exact ⟨x,g x e,i x o h⟩
 ·obtain ⟨x,e,h⟩:=mj h; exact ⟨x,h.1,i x o h.2⟩
theorem Kt {q:Bool}{k:Bool→Or→Prop}{K:Bool→Prop}{o:Or}(h:gC q k o) (i:∀ x o,k x o→K x):K q:=by
 unfold gC at h
 generalize nxt o=p at h
 obtain ⟨_ | a,o⟩:=p
 ·exact i q o h
 ·obtain ⟨x,e,h⟩:=mj h; obtain ⟨rfl,h⟩:=h; exact i _ o h
theorem Ku {q:Option Mth}{k:Mth→Or→Prop}{K:Mth→Prop}{o:Or}(h:gM q k o) (i:∀ x o,k x o→K x):∃ x,q=some x∧K x:=by
 have g:go1 q (fun x=>k x o)→∃ x,q=some x∧K x:=fun h=>(mj h).elim fun x h=>⟨x,h.1,i x o h.2⟩
 unfold gM at h
 cases o with
 | nil=>exact g h
 | cons p o =>
  obtain ⟨n,a⟩:=p
  cases n with
  | zero=>cases a with
   | m x=>exact ⟨x,h.1,i x o h.2⟩
   | _=>exact g h
  | succ=>exact g h
theorem Tr.pth_ok {L:α→Prop}(t:Tr α):∀ {o:Or},t.pth L o→t.tt L:=by
 induction t with
 | ok a=>exact fun h=>h
 | no=>exact fun h=>h
 | aO q k ih=>exact fun h=>qI h fun x o h=>ih x h
 | aB q k ih=>exact fun h=>qI h fun x o h=>ih x h
 | aL q k ih=>exact fun h=>qI h fun x o h=>ih x h
 | aH q k ih=>exact fun h=>qI h fun x o h=>ih x h
 | aM q k ih=>exact fun h=>Ku h fun x o h=>ih x h
 | aC q k ih=>exact fun h=>Kt h fun x o h=>ih x h
 | aP q c g k ih=>exact fun h=>qJ g h fun x o h=>ih x h
 | aR q c g k ih=>exact fun h=>let ⟨p,a,b⟩:=qJ g h fun x o h=>ih x.1 x.2 h; ⟨p.1,p.2,a,b⟩
 | aS q c g k ih=>exact fun h=>let ⟨p,a,b⟩:=qJ g h fun x o h=>ih x.1 x.2.1 x.2.2 h; ⟨p.1,p.2.1,p.2.2,a,b⟩
 | aQ q c g k ih=>exact fun h=>let ⟨p,a,b⟩:=qJ g h fun x o h=>ih x.1 x.2 h; ⟨p.1,p.2,a,b⟩
theorem Tr.tt_ex {β:Type}{L:β→α→Prop}(t:Tr α):t.tt (fun a=>∃ j,L j a)→∃ j,t.tt (L j):=by
 induction t with
 | ok a=>exact id
 | no=>exact fun h=>h.elim
 | aO q k ih=>exact fun ⟨x,e,h⟩=>let ⟨j,h⟩:=ih x h; ⟨j,x,e,h⟩
 | aB q k ih=>exact fun ⟨x,e,h⟩=>let ⟨j,h⟩:=ih x h; ⟨j,x,e,h⟩
 | aL q k ih=>exact fun ⟨x,e,h⟩=>let ⟨j,h⟩:=ih x h; ⟨j,x,e,h⟩
 | aH q k ih=>exact fun ⟨x,e,h⟩=>let ⟨j,h⟩:=ih x h; ⟨j,x,e,h⟩
 | aM q k ih=>exact fun ⟨x,e,h⟩=>let ⟨j,h⟩:=ih x h; ⟨j,x,e,h⟩
 | aC q k ih=>exact ih q
 | aP q _ _ k ih=>exact fun ⟨r,e,h⟩=>let ⟨j,h⟩:=ih _ h; ⟨j,r,e,h⟩
 | aR q _ _ k ih=>exact fun ⟨r,G,e,h⟩=>let ⟨j,h⟩:=ih _ _ h; ⟨j,r,G,e,h⟩
 | aS q _ _ k ih=>exact fun ⟨f,m,G,e,h⟩=>let ⟨j,h⟩:=ih _ _ _ h; ⟨j,f,m,G,e,h⟩
 | aQ q _ _ k ih=>exact fun ⟨r,G,e,h⟩=>let ⟨j,h⟩:=ih _ _ h; ⟨j,r,G,e,h⟩
end
noncomputable def obs:List Ob→Or
 | []=>[]
 | o::os=>(o.n,o.a)::obs os
noncomputable def te (Q:Prop):List Ob→Prop
 | []=>Q
 | o::os=>o.P∧te Q os
theorem rS {Q:Prop}(q:Q):∀ os:List Ob,te Q os
 | []=>q
 | o::os=>⟨o.h,rS q os⟩
noncomputable abbrev xV {q:Option V}{x:V}(n:Nat) (h:q=some x):Ob:=⟨n,.v x,_,h⟩
noncomputable abbrev xB {q:Option Bool}{x:Bool}(n:Nat) (h:q=some x):Ob:=⟨n,.b x,_,h⟩
noncomputable abbrev xC {q:Bool}{x:Bool}(n:Nat) (h:q=x):Ob:=⟨n,.b x,_,h⟩
noncomputable abbrev xL {q:Option (List V)}{x:List V}(n:Nat) (h:q=some x):Ob:=⟨n,.l x,_,h⟩
noncomputable abbrev xH {q:Option AH}{x:AH}(n:Nat) (h:q=some x):Ob:=⟨n,.h x,_,h⟩
noncomputable abbrev xM {q:Option Mth}{x:Mth}(n:Nat) (h:q=some x):Ob:=⟨n,.m x,_,h⟩
noncomputable abbrev xP {q:Res→Prop}{r:Res}(n:Nat) (h:q r):Ob:=⟨n,.p r,_,h⟩
noncomputable abbrev xR {q:Res→AH→Prop}{r:Res}{G:AH}(n:Nat) (h:q r G):Ob:=⟨n,.r r G,_,h⟩
noncomputable abbrev xS {q:Fl→LV→AH→Prop}{f:Fl}{m:LV}{G:AH}(n:Nat) (h:q f m G):Ob:=⟨n,.s f m G,_,h⟩
noncomputable abbrev xQ {q:List V→AH→Prop}{vs:List V}{G:AH}(n:Nat) (h:q vs G):Ob:=⟨n,.q vs G,_,h⟩
section
variable {α:Type}{Q:Prop}{cx:Cx}{d:Fd}{vs:List V}{G G':AH}{r:Res}{R:LV→AH→Tr Rd}{S:V→LV→Option LV}{m m1 m':LV}{f:Fl}{x:V}{xs:List V}{th:Bool}
theorem goT {L:α→Prop}{t:Tr α}(q:Q) (os:List Ob) (h:te Q os=t.pth L (obs os):=by kernel_rfl):t.tt L:=t.pth_ok (h ▸ rS q os)
theorem goP (os:List Ob) (hp:(V.puL vs&&bo d vs)=true) (hr:r.pu=true) (h:te (r=r) os=(fnT cx d vs []).pth (fF th r) (obs os):=by kernel_rfl):fnP th cx d vs r :=
 ⟨hr,hp,goT rfl os h⟩
theorem goH (os:List Ob) (hp:bo d vs=true) (h:te (r=r∧G'=G') os=(fnT cx d vs G).pth (fun p=>FZ p r G') (obs os):=by kernel_rfl):fnH cx d vs G r G' :=
 ⟨hp,goT ⟨rfl,rfl⟩ os h⟩
theorem GK {N:Nat→LV→AH→Fl→LV→AH→Prop}{p:Rd}(h:aft (fun m G f m' G'=>∃ j,N j m G f m' G') p f m' G'):∃ j,aft (N j) p f m' G':=by
 obtain ⟨g,m,G⟩:=p
 cases g with
 | next=>exact h
 | cont=>exact h
 | _=>exact ⟨0,h⟩
theorem wI (q:Q) (os:List Ob) (h:te Q os=(R m G).pth (fun p=>aft (Wh R) p f m' G') (obs os):=by kernel_rfl):Wh R m G f m' G':=by
 have k:=goT q os h
 obtain ⟨j,k⟩:=(R m G).tt_ex ((R m G).tt_mono (fun p h=>GK h) k)
 exact ⟨j+1,k⟩
theorem wE (os:List Ob) (h:te (f=f∧m'=m'∧G'=G') os=(R m G).pth (fun p=>aft (Wh R) p f m' G') (obs os):=by kernel_rfl):Wh R m G f m' G':=wI ⟨rfl,rfl,rfl⟩ os h
theorem fI {B:LV→AH→Tr Rd}(q:Q) (os:List Ob) (h:te Q os=go1 (S x m) fun m1=>(B m1 G).pth (fun p=>aft (flr S B xs) p f m' G') (obs os):=by kernel_rfl):flr S B (x::xs) m G f m' G':=by
 have k:=h ▸ rS q os
 obtain ⟨m1,e,k⟩:=mj k
 exact ⟨m1,e,(B m1 G).pth_ok k⟩
theorem fE {B:LV→AH→Tr Rd}(os:List Ob) (h:te (f=f∧m'=m'∧G'=G') os=go1 (S x m) fun m1=>(B m1 G).pth (fun p=>aft (flr S B xs) p f m' G') (obs os):=by kernel_rfl):flr S B (x::xs) m G f m' G':=fI ⟨rfl,rfl,rfl⟩ os h
theorem fN {B:LV→AH→Tr Rd}:flr S B [] m G .next m G:=⟨rfl,rfl,rfl⟩
end
noncomputable def wR (cx:Cx) (n:Nat) (s:Stmt):LV→AH→Tr Rd:=match s with
 | .While t b _ _=>rnd cx (evS n cx) t b
 | _=>fun _ _=>.no
noncomputable def fS (cx:Cx) (s:Stmt):V→LV→Option LV:=match s with
 | .For t _ _ _ _=>xq cx t
 | _=>fun _ _=>none
noncomputable def fB (cx:Cx) (n:Nat) (s:Stmt):LV→AH→Tr Rd:=match s with
 | .For _ _ b _ _=>bod (evS n cx) b
 | _=>fun _ _=>.no
noncomputable abbrev fR (cx:Cx) (n:Nat) (s:Stmt):=flr (fS cx s) (fB cx n s)
noncomputable def at_ (b:List Stmt) (i:Nat):Stmt:=(b[i]?).getD (.Pass ⟨0,0,0,0⟩)
noncomputable def blk (s:Stmt):List Stmt:=match s with
 | .While _ b _ _=>b
 | .For _ _ b _ _=>b
 | .If _ b _ _=>b
 | _=>[]
noncomputable def sE:Stmt→Expr
 | .Return e _=>e.getD (.Constant .none 0 ⟨0,0,0,0⟩)
 | .Assign _ e _=>e
 | .If e _ _ _=>e
 | .For _ e _ _ _=>e
 | .Expr e _=>e
 | _=>.Constant .none 0 ⟨0,0,0,0⟩
noncomputable def aE (e:Expr) (i:Nat):Expr:=(match vw e with
 | .call _ es=>es[i]?
 | .bin l _ r=>[l,r][i]?
 | .ife t a b=>[t,a,b][i]?
 | .tup es=>es[i]?
 | .lst es=>es[i]?
 | .sub o s=>[o,s][i]?
 | .cmp l _ rs=>(l::rs)[i]?
 | .bop _ es=>es[i]?
 | .un _ e=>some e
 | .comp e _ _=>some e
 | _=>none).getD e
noncomputable def cR (cx:Cx) (n:Nat) (e:Expr) (m:LV):V→AH→Tr (Option V × AH):=match vw e with
 | .comp e gs sc=>match gs with
  | g::_=>zL (evE n) cx e g.target g.ifs sc m
  | []=>fun _ _=>.no
 | _=>fun _ _=>.no
theorem goC {α:Type}{t:Tr α}{p:α}(os:List Ob) (h:te (p=p) os=t.pth (fun x=>x=p) (obs os):=by kernel_rfl):t.tt fun x=>x=p:=goT rfl os h
theorem dj {β:Type}{E:V→AH→Tr (Option V × AH)}{G:AH}{g f:β→V}:∀ ws:List β,(∀ w∈ws,(E (g w) G).tt fun x=>x=(some (f w),G))→cQ E (ws.map g) G (ws.map f) G
 | [],_=>⟨rfl,rfl⟩
 | w::ws,h=>Tr.tt_mono (fun p e=>by subst e; exact ⟨_,rfl,dj ws fun v hv=>h v (.tail _ hv)⟩) _ (h w (.head _))
noncomputable def sT (i:Nat):Stmt:=at_ pwL.main.body i
end
end Mine
end
section
open PySem PySem.W PyProof.Rows Builtin.Str
set_option maxRecDepth 20000
namespace Mine
noncomputable def Kv (s:Stmt):Stmt:=match s with
 | .ClassDef _ _ _ b _ _ _ _ _ _ _=>at_ b 0
 | _=>s
noncomputable def mq:Fd:=aZ (sT 70) []
noncomputable def tg:Cx:=aY mq [] []
noncomputable def g8:FP:=fnP false tg mq
noncomputable def BL:PC g8:=pcP false tg mq
noncomputable def mr:Fd:=aZ (sT 72) []
noncomputable def ti:Cx:=aY mr [] []
noncomputable def fH:FS:=fnH ti mr
noncomputable def tj:HC fH:=pcH ti mr
noncomputable def gw:Fd:=aZ (sT 68) []
noncomputable def j4:Cx:=aY gw [] []
noncomputable def dL:FP:=fnP false j4 gw
noncomputable def rm:PC dL:=pcP false j4 gw
noncomputable def ju:Fd:=aZ (sT 74) []
noncomputable def ms:Cx:=aY ju [(⟨⟨[95,108,97,119,95,100,114,97,119]⟩⟩,.h fH tj),(⟨⟨[95,108,97,119,95,115,112,101,108,108,105,110,103,115]⟩⟩,.p dL rm)] []
noncomputable def bp:FS:=fnH ms ju
noncomputable def BM:HC bp:=pcH ms ju
noncomputable def gG:Fd:=aZ (sT 75) []
noncomputable def jv:Cx:=aY gG [] []
noncomputable def bH:FP:=fnP false jv gG
noncomputable def jw:PC bH:=pcP false jv gG
noncomputable def jx:Fd:=aZ (sT 87) []
noncomputable def mu:Cx:=aY jx [(⟨⟨[95,108,97,119,95,108,105,115,116,101,100]⟩⟩,.p bH jw)] []
noncomputable def fJ:FP:=fnP false mu jx
noncomputable def tm:PC fJ:=pcP false mu jx
noncomputable def mw:Fd:=aZ (sT 16) []
noncomputable def tn:Cx:=aY mw [] []
noncomputable def bZ:FP:=fnP false tn mw
noncomputable def fK:PC bZ:=pcP false tn mw
noncomputable def pd:Fd:=aZ (sT 19) []
noncomputable def v4:Cx:=aY pd [] []
noncomputable def pe:FP:=fnP false v4 pd
noncomputable def D7:PC pe:=pcP false v4 pd
noncomputable def xF:Fd:=aZ (sT 17) []
noncomputable def CZ:Cx:=aY xF [] []
noncomputable def xG:FP:=fnP false CZ xF
noncomputable def Jr:PC xG:=pcP false CZ xF
noncomputable def g9:Fd:=aZ (sT 18) []
noncomputable def kH:Cx:=aY g9 [(⟨⟨[100,105,103,105,116]⟩⟩,.p xG Jr)] []
noncomputable def eU:FP:=fnP false kH g9
noncomputable def kI:PC eU:=pcP false kH g9
noncomputable def my:Fd:=aZ (sT 20) []
noncomputable def tq:Cx:=aY my [(⟨⟨[105,115,95,98,108,97,110,107]⟩⟩,.p bZ fK),(⟨⟨[98,97,115,101,95,111,102]⟩⟩,.p pe D7),(⟨⟨[100,105,103,105,116,115,95,118,97,108,117,101]⟩⟩,.p eU kI)] []
noncomputable def jy:FP:=fnP false tq my
noncomputable def tu:PC jy:=pcP false tq my
noncomputable def iO:Fd:=aZ (Kv (sT 1)) [.tup [.str ⟨⟨[78,79,78,69]⟩⟩],.int 0,.int 0]
noncomputable def lU:Cx:=aY iO [] []
noncomputable def iP:FS:=fnH lU iO
noncomputable def uW:HC iP:=pcH lU iO
noncomputable def xI:Fd:=aZ (sT 2) [.tup [.str ⟨⟨[78,79,78,69]⟩⟩]]
noncomputable def C1:Cx:=aY xI [(⟨⟨[82,97,105,115,101,100]⟩⟩,.r iP uW)] []
noncomputable def dO:FS:=fnH C1 xI
noncomputable def gb:HC dO:=pcH C1 xI
noncomputable def jz:Fd:=aZ (sT 21) []
noncomputable def nN:Cx:=aY jz [(⟨⟨[119,104,111,108,101,95,111,102]⟩⟩,.p jy tu),(⟨⟨[101,114,114,111,114]⟩⟩,.h dO gb)] []
noncomputable def jA:FP:=fnP false nN jz
noncomputable def xJ:PC jA:=pcP false nN jz
noncomputable def nO:Fd:=aZ (sT 47) []
noncomputable def tw:Cx:=aY nO [(⟨⟨[110,101,101,100,95,119,104,111,108,101]⟩⟩,.p jA xJ)] []
noncomputable def cE:FP:=fnP false tw nO
noncomputable def nP:PC cE:=pcP false tw nO
noncomputable def hG:Fd:=aZ (sT 29) []
noncomputable def kJ:Cx:=aY hG [(⟨⟨[105,115,95,98,108,97,110,107]⟩⟩,.p bZ fK),(⟨⟨[101,114,114,111,114]⟩⟩,.h dO gb)] []
noncomputable def eV:FP:=fnP false kJ hG
noncomputable def tx:PC eV:=pcP false kJ hG
noncomputable def dk:Fd:=aZ (sT 30) []
noncomputable def fL:Cx:=aY dk [(⟨⟨[99,104,101,99,107,95,98,101,104,105,110,100]⟩⟩,.p eV tx),(⟨⟨[101,114,114,111,114]⟩⟩,.h dO gb)] []
noncomputable def dl:FP:=fnP false fL dk
noncomputable def pg:PC dl:=pcP false fL dk
noncomputable def eW:Fd:=aZ (sT 32) []
noncomputable def hH:Cx:=aY eW [(⟨⟨[105,115,95,98,108,97,110,107]⟩⟩,.p bZ fK)] [⟨⟨[111,117,116]⟩⟩]
noncomputable def eY:FP:=fnP false hH eW
noncomputable def tz:PC eY:=pcP false hH eW
noncomputable def eZ:Fd:=aZ (sT 33) []
noncomputable def hJ:Cx:=aY eZ [(⟨⟨[105,115,95,98,108,97,110,107]⟩⟩,.p bZ fK),(⟨⟨[98,114,97,99,101,100,95,101,108,101,109,101,110,116]⟩⟩,.p dl pg),(⟨⟨[98,97,114,101,95,101,108,101,109,101,110,116]⟩⟩,.p eY tz)] []
noncomputable def cX:FP:=fnP false hJ eZ
noncomputable def tF:PC cX:=pcP false hJ eZ
noncomputable def gH:Fd:=aZ (sT 34) []
noncomputable def jB:Cx:=aY gH [(⟨⟨[102,105,110,100,95,101,108,101,109,101,110,116]⟩⟩,.p cX tF)] [⟨⟨[105,116,101,109,115]⟩⟩]
noncomputable def bY:FP:=fnP false jB gH
noncomputable def jC:PC bY:=pcP false jB gH
noncomputable def xK:Fd:=aZ (sT 22) []
noncomputable def C3:Cx:=aY xK [(⟨⟨[100,105,103,105,116,115,95,118,97,108,117,101]⟩⟩,.p eU kI)] []
noncomputable def xN:FP:=fnP false C3 xK
noncomputable def Js:PC xN:=pcP false C3 xK
noncomputable def mz:Fd:=aZ (sT 23) []
noncomputable def tG:Cx:=aY mz [(⟨⟨[119,104,111,108,101,95,111,102]⟩⟩,.p jy tu),(⟨⟨[109,111,118,101,100]⟩⟩,.p xN Js),(⟨⟨[105,115,95,98,108,97,110,107]⟩⟩,.p bZ fK),(⟨⟨[101,114,114,111,114]⟩⟩,.h dO gb)] []
noncomputable def bO:FP:=fnP false tG mz
noncomputable def mA:PC bO:=pcP false tG mz
noncomputable def i8:Fd:=aZ (sT 51) []
noncomputable def lD:Cx:=aY i8 [(⟨⟨[115,112,108,105,116,95,108,105,115,116]⟩⟩,.p bY jC),(⟨⟨[105,110,100,101,120,95,111,102]⟩⟩,.p bO mA),(⟨⟨[101,114,114,111,114]⟩⟩,.h dO gb)] []
noncomputable def eq:FP:=fnP false lD i8
noncomputable def ph:PC eq:=pcP false lD i8
noncomputable def dP:Fd:=aZ (sT 43) []
noncomputable def gx:Cx:=aY dP [] []
noncomputable def bk:FP:=fnP false gx dP
noncomputable def rp:PC bk:=pcP false gx dP
noncomputable def dm:Fd:=aZ (sT 44) []
noncomputable def fM:Cx:=aY dm [] []
noncomputable def bK:FP:=fnP false fM dm
noncomputable def pj:PC bK:=pcP false fM dm
noncomputable def kK:Fd:=aZ (sT 42) []
noncomputable def qK:Cx:=aY kK [] []
noncomputable def bJ:FP:=fnP false qK kK
noncomputable def qL:PC bJ:=pcP false qK kK
noncomputable def jD:Fd:=aZ (sT 45) []
noncomputable def nQ:Cx:=aY jD [] []
noncomputable def fb:FP:=fnP false nQ jD
noncomputable def xO:PC fb:=pcP false nQ jD
noncomputable def dn:Fd:=aZ (sT 46) []
noncomputable def fc:Cx:=aY dn [(⟨⟨[100,105,103,105,116,115,95,98,101,104,105,110,100]⟩⟩,.p bk rp),(⟨⟨[110,111,117,103,104,116,115,95,98,101,104,105,110,100]⟩⟩,.p bK pj),(⟨⟨[116,104,114,101,101,95,119,97,121]⟩⟩,.p bJ qL),(⟨⟨[99,97,115,101,95,111,114,100,101,114]⟩⟩,.p fb xO)] []
noncomputable def gI:FP:=fnP false fc dn
noncomputable def xT:PC gI:=pcP false fc dn
noncomputable def nR:Fd:=aZ (sT 13) []
noncomputable def tH:Cx:=aY nR [] []
noncomputable def kL:FP:=fnP false tH nR
noncomputable def zX:PC kL:=pcP false tH nR
noncomputable def pq:Fd:=aZ (sT 40) []
noncomputable def v5:Cx:=aY pq [(⟨⟨[102,111,108,100,101,100]⟩⟩,.p kL zX)] []
noncomputable def lE:FP:=fnP false v5 pq
noncomputable def D8:PC lE:=pcP false v5 pq
noncomputable def hV:Fd:=aZ (sT 48) []
noncomputable def kM:Cx:=aY hV [(⟨⟨[100,105,99,116,105,111,110,97,114,121]⟩⟩,.p gI xT),(⟨⟨[99,111,109,112,97,114,101]⟩⟩,.p lE D8),(⟨⟨[116,104,114,101,101,95,119,97,121]⟩⟩,.p bJ qL)] []
noncomputable def bP:FP:=fnP false kM hV
noncomputable def hX:PC bP:=pcP false kM hV
noncomputable def jE:Fd:=aZ (sT 58) []
noncomputable def tI:Cx:=aY jE [(⟨⟨[99,111,109,112,97,114,101,95,107,101,121,115]⟩⟩,.p bP hX)] []
noncomputable def hY:FP:=fnP false tI jE
noncomputable def BN:PC hY:=pcP false tI jE
noncomputable def kN:Fd:=aZ (sT 59) []
noncomputable def tJ:Cx:=aY kN [(⟨⟨[111,114,100,101,114,95,111,102]⟩⟩,.p hY BN)] [⟨⟨[111,117,116]⟩⟩]
noncomputable def nU:FP:=fnP false tJ kN
noncomputable def GL:PC nU:=pcP false tJ kN
noncomputable def bt:Fd:=aZ (sT 60) []
noncomputable def b7:Cx:=aY bt [(⟨⟨[107,101,121,95,98,121]⟩⟩,.p cE nP),(⟨⟨[112,97,114,116,95,97,116]⟩⟩,.p eq ph),(⟨⟨[109,101,114,103,101,100]⟩⟩,.p nU GL)] [⟨⟨[112,108,97,99,101,115]⟩⟩,⟨⟨[114,117,110,115]⟩⟩]
noncomputable def gc:FP:=fnP false b7 bt
noncomputable def uX:PC gc:=pcP false b7 bt
noncomputable def fg:Fd:=aZ (sT 61) [.bool false]
noncomputable def jF:Cx:=aY fg [(⟨⟨[115,111,114,116,95,112,108,97,99,101,115]⟩⟩,.p gc uX)] [⟨⟨[111,117,116]⟩⟩]
noncomputable def gJ:FP:=fnP false jF fg
noncomputable def xU:PC gJ:=pcP false jF fg
noncomputable def dp:Fd:=aZ (sT 76) []
noncomputable def fO:Cx:=aY dp [] []
noncomputable def dq:FP:=fnP false fO dp
noncomputable def pw:PC dq:=pcP false fO dp
noncomputable def i9:Fd:=aZ (sT 77) []
noncomputable def pz:Cx:=aY i9 [(⟨⟨[95,108,97,119,95,100,105,99,116,105,111,110,97,114,121]⟩⟩,.p dq pw)] []
noncomputable def ch:FP:=fnP false pz i9
noncomputable def pC:PC ch:=pcP false pz i9
noncomputable def gj:Fd:=aZ (sT 78) []
noncomputable def kO:Cx:=aY gj [] []
noncomputable def eu:FP:=fnP false kO gj
noncomputable def qM:PC eu:=pcP false kO gj
noncomputable def cj:Fd:=aZ (sT 88) []
noncomputable def ck:Cx:=aY cj [(⟨⟨[95,108,97,119,95,105,116,101,109]⟩⟩,.p fJ tm),(⟨⟨[109,101,114,103,101,95,115,111,114,116]⟩⟩,.p gJ xU),(⟨⟨[95,108,97,119,95,107,101,121]⟩⟩,.p ch pC),(⟨⟨[95,108,97,119,95,111,114,100,101,114]⟩⟩,.p eu qM)] []
noncomputable def cY:FP:=fnP false ck cj
noncomputable def tK:PC cY:=pcP false ck cj
noncomputable def jG:Fd:=aZ (sT 69) []
noncomputable def nV:Cx:=aY jG [] []
noncomputable def gK:FP:=fnP false nV jG
noncomputable def xW:PC gK:=pcP false nV jG
noncomputable def b8:Fd:=aZ (sT 81) []
noncomputable def b9:Cx:=aY b8 [] [⟨⟨[111,112,116,105,111,110,115]⟩⟩]
noncomputable def dG:FP:=fnP false b9 b8
noncomputable def uY:PC dG:=pcP false b9 b8
noncomputable def kP:Fd:=aZ (sT 80) []
noncomputable def qO:Cx:=aY kP [] []
noncomputable def cu:FP:=fnP false qO kP
noncomputable def qP:PC cu:=pcP false qO kP
noncomputable def jH:Fd:=aZ (sT 3) []
noncomputable def nW:Cx:=aY jH [(⟨⟨[101,114,114,111,114]⟩⟩,.h dO gb)] []
noncomputable def jI:FS:=fnH nW jH
noncomputable def xX:HC jI:=pcH nW jH
noncomputable def ia:Fd:=aZ (Kv (sT 53)) []
noncomputable def kQ:Cx:=aY ia [] []
noncomputable def ic:FS:=fnH kQ ia
noncomputable def tL:HC ic:=pcH kQ ia
noncomputable def pD:Fd:=aZ (sT 4) []
noncomputable def v6:Cx:=aY pD [] []
noncomputable def pE:FP:=fnP false v6 pD
noncomputable def D9:PC pE:=pcP false v6 pD
noncomputable def tM:Fd:=aZ (sT 5) []
noncomputable def xY:Cx:=aY tM [(⟨⟨[101,114,114,111,114]⟩⟩,.h dO gb),(⟨⟨[108,105,115,116,105,110,103]⟩⟩,.p pE D9)] [⟨⟨[98,101,103,117,110]⟩⟩]
noncomputable def xZ:FP:=fnP false xY tM
noncomputable def L6:PC xZ:=pcP false xY tM
noncomputable def iQ:Fd:=aZ (sT 49) []
noncomputable def lV:Cx:=aY iQ [(⟨⟨[105,110,100,101,120,95,111,102]⟩⟩,.p bO mA),(⟨⟨[101,114,114,111,114]⟩⟩,.h dO gb)] []
noncomputable def iR:FP:=fnP false lV iQ
noncomputable def uZ:PC iR:=pcP false lV iQ
noncomputable def pF:Fd:=aZ (sT 50) []
noncomputable def v7:Cx:=aY pF [(⟨⟨[115,112,108,105,116,95,108,105,115,116]⟩⟩,.p bY jC),(⟨⟨[99,104,101,99,107,95,105,110,100,101,120]⟩⟩,.p iR uZ)] []
noncomputable def pG:FP:=fnP false v7 pF
noncomputable def Ea:PC pG:=pcP false v7 pF
noncomputable def kS:Fd:=aZ (sT 55) []
noncomputable def qQ:Cx:=aY kS [(⟨⟨[112,97,116,104,95,111,102]⟩⟩,.p pG Ea)] []
noncomputable def ez:FS:=fnH qQ kS
noncomputable def zY:HC ez:=pcH qQ kS
noncomputable def mB:Fd:=aZ (sT 54) []
noncomputable def tN:Cx:=aY mB [] []
noncomputable def cA:FS:=fnH tN mB
noncomputable def BO:HC cA:=pcH tN mB
noncomputable def cZ:Fd:=aZ (sT 56) []
noncomputable def ie:Cx:=aY cZ [(⟨⟨[79,112,116,105,111,110,115]⟩⟩,.o ic tL),(⟨⟨[112,105,99,107]⟩⟩,.p xZ L6),(⟨⟨[101,114,114,111,114]⟩⟩,.h dO gb),(⟨⟨[112,117,116,95,118,97,108,117,101]⟩⟩,.h ez zY),(⟨⟨[112,117,116,95,102,108,97,103]⟩⟩,.h cA BO)] []
noncomputable def bQ:FP:=fnP false ie cZ
noncomputable def tO:PC bQ:=pcP false ie cZ
noncomputable def cn:Fd:=aZ (sT 62) []
noncomputable def ja:Cx:=aY cn [(⟨⟨[114,101,97,100,95,111,112,116,105,111,110,115]⟩⟩,.p bQ tO),(⟨⟨[101,114,114,111,114]⟩⟩,.h dO gb)] []
noncomputable def bq:FP:=fnP false ja cn
noncomputable def pH:PC bq:=pcP false ja cn
noncomputable def cG:Fd:=aZ (sT 65) []
noncomputable def gy:Cx:=aY cG [(⟨⟨[107,101,121,95,98,121]⟩⟩,.p cE nP),(⟨⟨[112,97,114,116,95,97,116]⟩⟩,.p eq ph),(⟨⟨[99,111,109,112,97,114,101,95,107,101,121,115]⟩⟩,.p bP hX)] []
noncomputable def cH:FP:=fnP false gy cG
noncomputable def rq:PC cH:=pcP false gy cG
noncomputable def gL:Fd:=aZ (sT 12) []
noncomputable def jJ:Cx:=aY gL [] []
noncomputable def fh:FS:=fnH jJ gL
noncomputable def x0:HC fh:=pcH jJ gL
noncomputable def nY:Fd:=aZ (sT 10) []
noncomputable def tP:Cx:=aY nY [] []
noncomputable def kT:FP:=fnP false tP nY
noncomputable def GM:PC kT:=pcP false tP nY
noncomputable def jK:Fd:=aZ (sT 11) []
noncomputable def nZ:Cx:=aY jK [(⟨⟨[105,110,95,115,101,116]⟩⟩,.p kT GM)] []
noncomputable def fi:FP:=fnP false nZ jK
noncomputable def ya:PC fi:=pcP false nZ jK
noncomputable def tQ:Fd:=aZ (sT 14) [.bool false]
noncomputable def yb:Cx:=aY tQ [(⟨⟨[102,111,108,100,101,100]⟩⟩,.p kL zX),(⟨⟨[112,117,116,95,112,108,97,99,101,115]⟩⟩,.h fh x0),(⟨⟨[98,101,104,105,110,100,95,111,110,101]⟩⟩,.p fi ya)] [⟨⟨[97,102,116,101,114]⟩⟩,⟨⟨[112,108,97,99,101,115]⟩⟩]
noncomputable def yc:FP:=fnP false yb tQ
noncomputable def L7:PC yc:=pcP false yb tQ
noncomputable def n0:Fd:=aZ (sT 63) []
noncomputable def zZ:Cx:=aY n0 [(⟨⟨[112,97,114,116,95,97,116]⟩⟩,.p eq ph),(⟨⟨[102,105,116,115]⟩⟩,.p yc L7),(⟨⟨[99,111,109,112,97,114,101,95,107,101,121,115]⟩⟩,.p bP hX),(⟨⟨[107,101,121,95,98,121]⟩⟩,.p cE nP)] []
noncomputable def kU:FP:=fnP false zZ n0
noncomputable def GN:PC kU:=pcP false zZ n0
noncomputable def cI:Fd:=aZ (sT 64) []
noncomputable def gz:Cx:=aY cI [(⟨⟨[105,115,95,104,105,116]⟩⟩,.p kU GN)] [⟨⟨[112,108,97,99,101,115]⟩⟩]
noncomputable def bz:FP:=fnP false gz cI
noncomputable def rx:PC bz:=pcP false gz cI
noncomputable def lF:Fd:=aZ (sT 35) []
noncomputable def pI:Cx:=aY lF [(⟨⟨[105,115,95,98,108,97,110,107]⟩⟩,.p bZ fK)] []
noncomputable def lG:FP:=fnP false pI lF
noncomputable def Eb:PC lG:=pcP false pI lF
noncomputable def yd:Fd:=aZ (sT 37) [.bool false]
noncomputable def C4:Cx:=aY yd [(⟨⟨[109,111,100,101,95,111,102]⟩⟩,.p lG Eb)] [⟨⟨[111,117,116]⟩⟩]
noncomputable def rT:FP:=fnP false C4 yd
noncomputable def Jt:PC rT:=pcP false C4 yd
noncomputable def iG:Fd:=aZ (sT 38) []
noncomputable def kW:Cx:=aY iG [(⟨⟨[113,117,111,116,101]⟩⟩,.p rT Jt)] [⟨⟨[111,117,116]⟩⟩]
noncomputable def iH:FP:=fnP false kW iG
noncomputable def z0:PC iH:=pcP false kW iG
noncomputable def bL:Fd:=aZ (sT 66) []
noncomputable def du:Cx:=aY bL [(⟨⟨[119,114,111,110,103,95,97,114,103,115]⟩⟩,.h jI xX),(⟨⟨[115,101,97,114,99,104,95,111,112,116,105,111,110,115]⟩⟩,.p bq pH),(⟨⟨[115,112,108,105,116,95,108,105,115,116]⟩⟩,.p bY jC),(⟨⟨[105,110,100,101,120,95,111,102]⟩⟩,.p bO mA),(⟨⟨[107,101,121,95,98,121]⟩⟩,.p cE nP),(⟨⟨[115,101,97,114,99,104,95,115,111,114,116,101,100]⟩⟩,.p cH rq),(⟨⟨[115,101,97,114,99,104,95,108,105,110,101,97,114]⟩⟩,.p bz rx),(⟨⟨[106,111,105,110,95,108,105,115,116]⟩⟩,.p iH z0)] [⟨⟨[111,117,116]⟩⟩]
noncomputable def bM:FP:=fnP false du bL
noncomputable def pJ:PC bM:=pcP false du bL
noncomputable def gk:Fd:=aZ (sT 86) []
noncomputable def qR:Cx:=aY gk [(⟨⟨[108,115,101,97,114,99,104,95,97,99,116,105,111,110]⟩⟩,.p bM pJ)] []
noncomputable def cv:FP:=fnP false qR gk
noncomputable def qS:PC cv:=pcP false qR gk
noncomputable def gA:Fd:=aZ (sT 82) []
noncomputable def j5:Cx:=aY gA [] []
noncomputable def bA:FP:=fnP false j5 gA
noncomputable def j6:PC bA:=pcP false j5 gA
noncomputable def fj:Fd:=aZ (sT 84) []
noncomputable def jL:Cx:=aY fj [(⟨⟨[95,108,97,119,95,107,101,121]⟩⟩,.p ch pC),(⟨⟨[95,108,97,119,95,111,114,100,101,114]⟩⟩,.p eu qM)] [⟨⟨[115,97,109,101]⟩⟩]
noncomputable def fk:FP:=fnP false jL fj
noncomputable def ye:PC fk:=pcP false jL fj
noncomputable def fP:Fd:=aZ (sT 79) []
noncomputable def ig:Cx:=aY fP [] [⟨⟨[97,102,116,101,114]⟩⟩]
noncomputable def ii:FP:=fnP false ig fP
noncomputable def BP:PC ii:=pcP false ig fP
noncomputable def dv:Fd:=aZ (sT 83) []
noncomputable def gN:Cx:=aY dv [(⟨⟨[95,108,97,119,95,102,105,116,115]⟩⟩,.p ii BP),(⟨⟨[95,108,97,119,95,110,111,95,110,117,109,98,101,114]⟩⟩,.p bA j6),(⟨⟨[95,108,97,119,95,107,101,121]⟩⟩,.p ch pC)] [⟨⟨[112,108,97,99,101,115]⟩⟩]
noncomputable def dw:FP:=fnP true gN dv
noncomputable def yf:PC dw:=pcP true gN dv
noncomputable def gW:Fd:=aZ (sT 85) []
noncomputable def jb:Cx:=aY gW [(⟨⟨[95,108,97,119,95,115,116,97,114,116]⟩⟩,.p cu qP),(⟨⟨[95,108,97,119,95,110,111,95,110,117,109,98,101,114]⟩⟩,.p bA j6),(⟨⟨[95,108,97,119,95,115,111,114,116,101,100]⟩⟩,.p fk ye),(⟨⟨[95,108,97,119,95,108,105,110,101,97,114]⟩⟩,.p dw yf),(⟨⟨[95,108,97,119,95,108,105,115,116,101,100]⟩⟩,.p bH jw)] []
noncomputable def jc:FP:=fnP false jb gW
noncomputable def Ec:PC jc:=pcP false jb gW
noncomputable def bB:Fd:=aZ (sT 89) []
noncomputable def bU:Cx:=aY bB [(⟨⟨[95,108,97,119,95,100,114,97,119]⟩⟩,.h fH tj),(⟨⟨[95,108,97,119,95,119,111,114,100]⟩⟩,.h bp BM),(⟨⟨[95,108,97,119,95,105,110,95,111,114,100,101,114]⟩⟩,.p cY tK),(⟨⟨[95,108,97,119,95,112,105,101,99,101,115]⟩⟩,.p gK xW),(⟨⟨[95,108,97,119,95,105,116,101,109]⟩⟩,.p fJ tm),(⟨⟨[95,108,97,119,95,111,112,116,105,111,110,115]⟩⟩,.p dG uY),(⟨⟨[95,108,97,119,95,115,116,97,114,116]⟩⟩,.p cu qP),(⟨⟨[95,108,97,119,95,108,105,115,116,101,100]⟩⟩,.p bH jw),(⟨⟨[95,108,97,119,95,104,101,97,114,100]⟩⟩,.p cv qS),(⟨⟨[95,108,97,119,95,100,117,101]⟩⟩,.p jc Ec)] []
noncomputable def cJ:FS:=fnH bU bB
noncomputable def rA:HC cJ:=pcH bU bB
noncomputable def pK:Fd:=aZ (sT 73) []
noncomputable def v8:Cx:=aY pK [] [⟨⟨[]⟩⟩]
noncomputable def fQ:FS:=fnH v8 pK
noncomputable def Ed:HC fQ:=pcH v8 pK
noncomputable def ij:Fd:=aZ (sT 71) []
noncomputable def kY:Cx:=aY ij [] []
noncomputable def il:FP:=fnP false kY ij
noncomputable def tR:PC il:=pcP false kY ij
noncomputable def z6:Fd:=aZ (sT 90) []
noncomputable def z7:Cx:=aY z6 [(⟨⟨[95,108,97,119,95,116,111,108,100]⟩⟩,.p g8 BL),(⟨⟨[95,108,97,119,95,114,111,119,95,114,105,103,104,116]⟩⟩,.h cJ rA),(⟨⟨[95,108,97,119,95,112,101,110]⟩⟩,.h fQ Ed),(⟨⟨[95,108,97,119,95,114,101,102,117,115,97,108,115]⟩⟩,.p il tR),(⟨⟨[95,108,97,119,95,104,101,97,114,100]⟩⟩,.p cv qS)] []
noncomputable def v9:FS:=fnH z7 z6
noncomputable def QH:HC v9:=pcH z7 z6
end Mine
end
section
open PySem PySem.W PyProof.Rows Builtin.Str
set_option maxRecDepth 100000
namespace Mine
theorem tS:aw 1 sB g8:=okP (n:=0) 62 rfl {} FOk.nil
theorem tU:d9 1 sC fH:=okH (n:=0) 64 rfl {} FOk.nil
theorem rF:aw 1 jY dL:=okP (n:=0) 60 rfl {} FOk.nil
theorem BQ:d9 2 sD bp:=okH (n:=1) 66 rfl {} (FOk.cons (iM 62 rfl (by kernel_rfl) tU (by decide)) (FOk.cons (az 58 rfl (by kernel_rfl) rF (by decide)) FOk.nil))
theorem jM:aw 1 m5 bH:=okP (n:=0) 67 rfl {} FOk.nil
theorem tV:aw 2 sG fJ:=okP (n:=1) 79 rfl {} (FOk.cons (az 65 rfl (by kernel_rfl) jM (by decide)) FOk.nil)
theorem fT:aw 1 sk bZ:=okP (n:=0) 14 rfl {} FOk.nil
theorem Ee:aw 1 vn pe:=okP (n:=0) 17 rfl {} FOk.nil
theorem Ju:aw 1 Cu xG:=okP (n:=0) 15 rfl {} FOk.nil
theorem kZ:aw 2 kg eU:=okP (n:=1) 16 rfl {} (FOk.cons (az 13 rfl (by kernel_rfl) Ju (by decide)) FOk.nil)
theorem tW:aw 3 sq jy:=okP (n:=2) 18 rfl {} (FOk.cons (az 12 rfl (by kernel_rfl) fT (by decide)) (FOk.cons (az 15 rfl (by kernel_rfl) Ee (by decide)) (FOk.cons (az 14 rfl (by kernel_rfl) kZ (by decide)) FOk.nil)))
theorem u0:d9 1 av iP:=okH (n:=0) 0 rfl {} FOk.nil
theorem gd:d9 2 Ct dO:=okH (n:=1) 2 rfl {} (FOk.cons (PY (by kernel_rfl) u0 (by decide)) FOk.nil)
theorem yg:aw 4 mU jA:=okP (n:=3) 19 rfl {} (FOk.cons (az 16 rfl (by kernel_rfl) tW (by decide)) (FOk.cons (iM 0 rfl (by kernel_rfl) gd (by decide)) FOk.nil))
theorem n7:aw 5 zg cE:=okP (n:=4) 41 rfl {} (FOk.cons (az 17 rfl (by kernel_rfl) yg (by decide)) FOk.nil)
theorem tX:aw 3 kh eV:=okP (n:=2) 25 rfl {} (FOk.cons (az 12 rfl (by kernel_rfl) fT (by decide)) (FOk.cons (iM 0 rfl (by kernel_rfl) gd (by decide)) FOk.nil))
theorem pL:aw 4 iV dl:=okP (n:=3) 26 rfl {} (FOk.cons (az 23 rfl (by kernel_rfl) tX (by decide)) (FOk.cons (iM 0 rfl (by kernel_rfl) gd (by decide)) FOk.nil))
theorem tY:aw 2 ki eY:=okP (n:=1) 28 rfl {} (FOk.cons (az 12 rfl (by kernel_rfl) fT (by decide)) FOk.nil)
theorem tZ:aw 5 kj cX:=okP (n:=4) 29 rfl {} (FOk.cons (az 12 rfl (by kernel_rfl) fT (by decide)) (FOk.cons (az 24 rfl (by kernel_rfl) pL (by decide)) (FOk.cons (az 26 rfl (by kernel_rfl) tY (by decide)) FOk.nil)))
theorem jN:aw 6 mV bY:=okP (n:=5) 30 rfl {} (FOk.cons (az 27 rfl (by kernel_rfl) tZ (by decide)) FOk.nil)
theorem Jv:aw 3 Cw xN:=okP (n:=2) 20 rfl {} (FOk.cons (az 14 rfl (by kernel_rfl) kZ (by decide)) FOk.nil)
theorem mC:aw 4 su bO:=okP (n:=3) 21 rfl {} (FOk.cons (az 16 rfl (by kernel_rfl) tW (by decide)) (FOk.cons (az 18 rfl (by kernel_rfl) Jv (by decide)) (FOk.cons (az 12 rfl (by kernel_rfl) fT (by decide)) (FOk.cons (iM 0 rfl (by kernel_rfl) gd (by decide)) FOk.nil))))
theorem pM:aw 7 vr eq:=okP (n:=6) 45 rfl {} (FOk.cons (az 28 rfl (by kernel_rfl) jN (by decide)) (FOk.cons (az 19 rfl (by kernel_rfl) mC (by decide)) (FOk.cons (iM 0 rfl (by kernel_rfl) gd (by decide)) FOk.nil)))
theorem rG:aw 1 jV bk:=okP (n:=0) 37 rfl {} FOk.nil
theorem pN:aw 1 iW bK:=okP (n:=0) 38 rfl {} FOk.nil
theorem qU:aw 1 qo bJ:=okP (n:=0) 36 rfl {} FOk.nil
theorem yh:aw 1 mW fb:=okP (n:=0) 39 rfl {} FOk.nil
theorem yi:aw 2 mX gI:=okP (n:=1) 40 rfl {} (FOk.cons (az 35 rfl (by kernel_rfl) rG (by decide)) (FOk.cons (az 36 rfl (by kernel_rfl) pN (by decide)) (FOk.cons (az 34 rfl (by kernel_rfl) qU (by decide)) (FOk.cons (az 37 rfl (by kernel_rfl) yh (by decide)) FOk.nil))))
theorem Aa:aw 1 ze kL:=okP (n:=0) 12 rfl {} FOk.nil
theorem Ef:aw 2 vp lE:=okP (n:=1) 35 rfl {} (FOk.cons (az 10 rfl (by kernel_rfl) Aa (by decide)) FOk.nil)
theorem im:aw 3 kl bP:=okP (n:=2) 42 rfl {} (FOk.cons (az 38 rfl (by kernel_rfl) yi (by decide)) (FOk.cons (az 33 rfl (by kernel_rfl) Ef (by decide)) (FOk.cons (az 34 rfl (by kernel_rfl) qU (by decide)) FOk.nil)))
theorem BR:aw 4 sA hY:=okP (n:=3) 51 rfl {} (FOk.cons (az 40 rfl (by kernel_rfl) im (by decide)) FOk.nil)
theorem GO:aw 5 zi nU:=okP (n:=4) 52 rfl {} (FOk.cons (az 49 rfl (by kernel_rfl) BR (by decide)) FOk.nil)
theorem u5:aw 8 lN gc:=okP (n:=7) 53 rfl {} (FOk.cons (az 39 rfl (by kernel_rfl) n7 (by decide)) (FOk.cons (az 43 rfl (by kernel_rfl) pM (by decide)) (FOk.cons (az 50 rfl (by kernel_rfl) GO (by decide)) FOk.nil)))
theorem yj:aw 9 mY gJ:=okP (n:=8) 54 rfl {} (FOk.cons (az 51 rfl (by kernel_rfl) u5 (by decide)) FOk.nil)
theorem pO:aw 1 iZ dq:=okP (n:=0) 68 rfl {} FOk.nil
theorem pP:aw 2 vv ch:=okP (n:=1) 69 rfl {} (FOk.cons (az 66 rfl (by kernel_rfl) pO (by decide)) FOk.nil)
theorem qV:aw 1 qr eu:=okP (n:=0) 70 rfl {} FOk.nil
theorem t0:aw 10 kr cY:=okP (n:=9) 80 rfl {} (FOk.cons (az 77 rfl (by kernel_rfl) tV (by decide)) (FOk.cons (az 52 rfl (by kernel_rfl) yj (by decide)) (FOk.cons (az 67 rfl (by kernel_rfl) pP (by decide)) (FOk.cons (az 68 rfl (by kernel_rfl) qV (by decide)) FOk.nil))))
theorem yk:aw 1 mZ gK:=okP (n:=0) 61 rfl {} FOk.nil
theorem u6:aw 1 lO dG:=okP (n:=0) 73 rfl {} FOk.nil
theorem qW:aw 1 qs cu:=okP (n:=0) 72 rfl {} FOk.nil
theorem yl:d9 3 mR jI:=okH (n:=2) 3 rfl {} (FOk.cons (iM 0 rfl (by kernel_rfl) gd (by decide)) FOk.nil)
theorem t5:d9 1 au ic:=okH (n:=0) 1 rfl {} FOk.nil
theorem Eg:aw 1 vm pE:=okP (n:=0) 4 rfl {} FOk.nil
theorem L8:aw 3 E5 xZ:=okP (n:=2) 5 rfl {} (FOk.cons (iM 0 rfl (by kernel_rfl) gd (by decide)) (FOk.cons (az 2 rfl (by kernel_rfl) Eg (by decide)) FOk.nil))
theorem u7:aw 5 lL iR:=okP (n:=4) 43 rfl {} (FOk.cons (az 19 rfl (by kernel_rfl) mC (by decide)) (FOk.cons (iM 0 rfl (by kernel_rfl) gd (by decide)) FOk.nil))
theorem Eh:aw 7 vq pG:=okP (n:=6) 44 rfl {} (FOk.cons (az 28 rfl (by kernel_rfl) jN (by decide)) (FOk.cons (az 41 rfl (by kernel_rfl) u7 (by decide)) FOk.nil))
theorem Ab:d9 8 qp ez:=okH (n:=7) 48 rfl {} (FOk.cons (az 42 rfl (by kernel_rfl) Eh (by decide)) FOk.nil)
theorem BS:d9 1 sx cA:=okH (n:=0) 47 rfl {} FOk.nil
theorem t6:aw 9 km bQ:=okP (n:=8) 49 rfl {} (FOk.cons (P0 (by kernel_rfl) t5 (by decide)) (FOk.cons (az 3 rfl (by kernel_rfl) L8 (by decide)) (FOk.cons (iM 0 rfl (by kernel_rfl) gd (by decide)) (FOk.cons (iM 46 rfl (by kernel_rfl) Ab (by decide)) (FOk.cons (iM 45 rfl (by kernel_rfl) BS (by decide)) FOk.nil)))))
theorem pQ:aw 10 iX bq:=okP (n:=9) 55 rfl {} (FOk.cons (az 47 rfl (by kernel_rfl) t6 (by decide)) (FOk.cons (iM 0 rfl (by kernel_rfl) gd (by decide)) FOk.nil))
theorem rI:aw 8 jX cH:=okP (n:=7) 58 rfl {} (FOk.cons (az 39 rfl (by kernel_rfl) n7 (by decide)) (FOk.cons (az 43 rfl (by kernel_rfl) pM (by decide)) (FOk.cons (az 40 rfl (by kernel_rfl) im (by decide)) FOk.nil)))
theorem ym:d9 1 mT fh:=okH (n:=0) 11 rfl {} FOk.nil
theorem GP:aw 1 zd kT:=okP (n:=0) 9 rfl {} FOk.nil
theorem yn:aw 2 mS fi:=okP (n:=1) 10 rfl {} (FOk.cons (az 7 rfl (by kernel_rfl) GP (by decide)) FOk.nil)
theorem L9:aw 3 E6 yc:=okP (n:=2) 13 rfl {} (FOk.cons (az 10 rfl (by kernel_rfl) Aa (by decide)) (FOk.cons (iM 9 rfl (by kernel_rfl) ym (by decide)) (FOk.cons (az 8 rfl (by kernel_rfl) yn (by decide)) FOk.nil)))
theorem GQ:aw 8 zj kU:=okP (n:=7) 56 rfl {} (FOk.cons (az 43 rfl (by kernel_rfl) pM (by decide)) (FOk.cons (az 11 rfl (by kernel_rfl) L9 (by decide)) (FOk.cons (az 40 rfl (by kernel_rfl) im (by decide)) (FOk.cons (az 39 rfl (by kernel_rfl) n7 (by decide)) FOk.nil))))
theorem rJ:aw 9 jW bz:=okP (n:=8) 57 rfl {} (FOk.cons (az 54 rfl (by kernel_rfl) GQ (by decide)) FOk.nil)
theorem Ei:aw 2 vo lG:=okP (n:=1) 31 rfl {} (FOk.cons (az 12 rfl (by kernel_rfl) fT (by decide)) FOk.nil)
theorem Jw:aw 3 Cy rT:=okP (n:=2) 33 rfl {} (FOk.cons (az 29 rfl (by kernel_rfl) Ei (by decide)) FOk.nil)
theorem Ac:aw 4 qm iH:=okP (n:=3) 34 rfl {} (FOk.cons (az 31 rfl (by kernel_rfl) Jw (by decide)) FOk.nil)
theorem pR:aw 11 iY bM:=okP (n:=10) 59 rfl {} (FOk.cons (iM 1 rfl (by kernel_rfl) yl (by decide)) (FOk.cons (az 53 rfl (by kernel_rfl) pQ (by decide)) (FOk.cons (az 28 rfl (by kernel_rfl) jN (by decide)) (FOk.cons (az 19 rfl (by kernel_rfl) mC (by decide)) (FOk.cons (az 39 rfl (by kernel_rfl) n7 (by decide)) (FOk.cons (az 56 rfl (by kernel_rfl) rI (by decide)) (FOk.cons (az 55 rfl (by kernel_rfl) rJ (by decide)) (FOk.cons (az 32 rfl (by kernel_rfl) Ac (by decide)) FOk.nil))))))))
theorem lc:aw 12 qt cv:=okP (n:=11) 78 rfl {} (FOk.cons (az 57 rfl (by kernel_rfl) pR (by decide)) FOk.nil)
theorem j7:aw 1 jZ bA:=okP (n:=0) 74 rfl {} FOk.nil
theorem yo:aw 3 m8 fk:=okP (n:=2) 76 rfl {} (FOk.cons (az 67 rfl (by kernel_rfl) pP (by decide)) (FOk.cons (az 68 rfl (by kernel_rfl) qV (by decide)) FOk.nil))
theorem BU:aw 1 sF ii:=okP (n:=0) 71 rfl {} FOk.nil
theorem yp:aw 3 m6 dw:=okP (n:=2) 75 rfl {} (FOk.cons (az 69 rfl (by kernel_rfl) BU (by decide)) (FOk.cons (az 72 rfl (by kernel_rfl) j7 (by decide)) (FOk.cons (az 67 rfl (by kernel_rfl) pP (by decide)) FOk.nil)))
theorem Ej:aw 4 vz jc:=okP (n:=3) 77 rfl {} (FOk.cons (az 70 rfl (by kernel_rfl) qW (by decide)) (FOk.cons (az 72 rfl (by kernel_rfl) j7 (by decide)) (FOk.cons (az 74 rfl (by kernel_rfl) yo (by decide)) (FOk.cons (az 73 rfl (by kernel_rfl) yp (by decide)) (FOk.cons (az 65 rfl (by kernel_rfl) jM (by decide)) FOk.nil)))))
theorem j8:d9 13 j0 cJ:=okH (n:=12) 81 rfl {} (FOk.cons (iM 62 rfl (by kernel_rfl) tU (by decide)) (FOk.cons (iM 64 rfl (by kernel_rfl) BQ (by decide)) (FOk.cons (az 78 rfl (by kernel_rfl) t0 (by decide)) (FOk.cons (az 59 rfl (by kernel_rfl) yk (by decide)) (FOk.cons (az 77 rfl (by kernel_rfl) tV (by decide)) (FOk.cons (az 71 rfl (by kernel_rfl) u6 (by decide)) (FOk.cons (az 70 rfl (by kernel_rfl) qW (by decide)) (FOk.cons (az 65 rfl (by kernel_rfl) jM (by decide)) (FOk.cons (az 76 rfl (by kernel_rfl) lc (by decide)) (FOk.cons (az 75 rfl (by kernel_rfl) Ej (by decide)) FOk.nil))))))))))
theorem wa:d9 1 vt fQ:=okH (n:=0) 65 rfl {} FOk.nil
theorem lf:aw 1 kq il:=okP (n:=0) 63 rfl {} FOk.nil
theorem QI:d9 14 zk v9:=okH (n:=13) 82 rfl {} (FOk.cons (az 60 rfl (by kernel_rfl) tS (by decide)) (FOk.cons (iM 79 rfl (by kernel_rfl) j8 (by decide)) (FOk.cons (iM 63 rfl (by kernel_rfl) wa (by decide)) (FOk.cons (az 61 rfl (by kernel_rfl) lf (by decide)) (FOk.cons (az 76 rfl (by kernel_rfl) lc (by decide)) FOk.nil)))))
end Mine
end
section
open PySem PySem.W PyProof.Rows Builtin.Str
set_option maxRecDepth 20000
namespace Mine
noncomputable abbrev Ma (prog:Program) (w:World) (s:Shared) (F:Fn):Fm :=
 {prog,w,base:=s.heap,A:=callerA,env:=nuE F .none .none .none s,fenvs:=[],names:=[],own:=[],outs:=[],int:=[],gens:=s.gens,os:=s.os,drawn:=s.drawn,fr:=0 }
theorem Jx {n:Nat}{prog:Program}{w:World}{s:Shared}{F:Fn}{names ps:List Str}{vs:List V}{xs:List Value}{Q:QV}(hn:n<100) (W:Wd prog w s.heap) (hF:F∈av::au::TAB) (hk:m9 F names=true) (ha:oO F ps=true) (hp:ps.Nodup)
  (hb:wZ F vs.length ps) (r:RepL prog w s.heap (fun _=>True) [] vs xs)
  (body:∀ fm' dV pm cd L,fm'=CC (Ma prog w s F) F names dV pm cd L→ay fm'→fm'.A.handled=none→qu n fm'.A→qv fm' F.body (g0 names ps (vs++F.dfl.drop (vs.length+F.dfl.length - ps.length))) [] Q fun _ _ _=>False) :
  codeAny (model prog w) callerA (.call (.ref F.addr) ⟨xs,[]⟩) (fun res s'=>∃ v u ok al H',res=.ok (.ret v)∧Q u H'∧Rep prog w s'.heap ok al u v∧(∀ b o,s.heap.get? b=some o→s'.heap.get? b=some o)∧s'.gens=s.gens∧s'.os=s.os) s:=by
 have hroom:callerA.depth<recursionLimit:=by decide
 refine sM (p:=Ma prog w s F) (H:=[]) hF hk ha hp hb W rfl hroom (fun b o e=>⟨e,trivial⟩) (fun a q=>q.elim (fun q=>nomatch q) fun q=>nomatch q) (fun a q=>nomatch q) (fun e q=>nomatch q) trivial (fun b _=>⟨fun q=>(nomatch q),fun q=>(nomatch q),fun q=>(nomatch q)⟩) (fun q h=>nomatch h) List.nodup_nil (fun a q=>nomatch q) rfl rfl rfl r fun dV pm cd h₁ tk keep fresh O' S'=>?_
 have R':qu n (CC (Ma prog w s F) F names dV pm cd s.heap.objs.size).A:=by
  refine uQ.deeper ⟨?_,?_⟩
  ·exact Nat.lt_of_lt_of_le (Nat.add_lt_add_of_le_of_lt (show callerA.depth≤400 by decide) (Nat.mul_lt_mul_of_pos_left (Nat.succ_lt_succ hn) (by decide:0<4))) (by decide)
  ·exact Nat.lt_of_lt_of_le (Nat.add_lt_add_left (Nat.mul_lt_mul_of_pos_left (Nat.succ_lt_succ hn) (by decide:0<16)) 4) (by decide)
 refine codeAny_func (wpAny_mono (body _ dV pm cd _ rfl O' rfl R' _ S') (fun f s' hq=>?_) fun x s' hq=>?_)
 ·obtain ⟨m',v,H',T₂,S₂,r₂,q₂⟩:=hq
  refine ⟨_,_,_,_,_,rfl,q₂,r₂,fun b o hb=>(T₂.keep b o (keep b o hb) fun q=>?_).1,S₂.gens,S₂.os⟩
  rcases ax.mp q with q | q | q
  ·exact nS ((fresh b q).symm.trans hb)
  ·nomatch q
  ·nomatch q
 ·obtain ⟨e,d,tb,ks,us,H',m',rfl,T₂,S₂,ht,q₂⟩:=hq
  exact q₂.elim
theorem NS {n:Nat}{F:Fn}{cx:Cx}{d:Fd}(i:Nat) (hF:BK[i]? = some F) (D:D3 F d cx) (hT:FOk n cx.fns) (h:GJ n F cx d=true) (hn:n<100) {prog:Program}{w:World}{s:Shared}(W:Wd prog w s.heap) {vs:List V}{xs:List Value}{u:V}{G:AH}
  (e:fnH cx d vs [] (.ok u) G) (r:RepL prog w s.heap (fun _=>True) [] vs xs) :
  codeAny (model prog w) callerA (.call (.ref F.addr) ⟨xs,[]⟩) (fun res s'=>∃ v ok al,res=.ok (.ret v)∧Rep prog w s'.heap ok al u v∧(∀ b o,s.heap.get? b=some o→s'.heap.get? b=some o)∧s'.gens=s.gens∧s'.os=s.os) s:=by
 have f:=fnF (an (an h).1).1
 have hb:PBs n cx SN d.body:=cvT (an h).2
 have h1:=aX (an e.1).1
 have h2:=aX (an e.1).2
 have f5:=f.c5
 rw [D.dfl] at f5
 have hl:=f.hlen
 have key:=Jx (n:=n) (Q:=fun v H'=>Res.ok u=.ok v∧aa H'=G) hn W (List.mem_of_getElem? hF) (names:=d.names) (ps:=d.names.take d.np) (vs:=vs) f.c1 f.c2 f.ndp (vX f.c4 f.ndp (by rw [hl]; exact h1) (by rw [hl,D.dfl]; exact h2) (by rw [hl,D.dfl]; exact f5)) r ?_
 ·exact codeAny_mono key fun res s' h=>KK h fun v u' ok al h=>A7 h fun H' a b c d=>⟨v,ok,al,a,by cases b.1; exact c,d⟩
 intro fm' dV pm cd L hfm O' hh' R'
 rw [hl,D.body,D.dfl]
 refine xA ⟨⟨O',by rw [hfm,D.names]; rfl,by rw [hfm,← D.kinds]; rfl,R',hh',hT,fun x hx=>by rw [hfm] at hx ⊢; exact f.cells x hx L⟩,by rw [hfm]; exact ⟨[],rfl⟩,fun x c hx hc=>by
  rw [hfm] at hc ⊢
  exact List.mem_cons_of_mem _ (List.mem_filterMap.mpr ⟨(x,c),mem_of_lookup hc,hc⟩),by rw [hfm]; rfl⟩ hb f.hnp f.ndp (td e.1 f5) ((fnT cx d vs []).tt_mono (fun p z H' g=>by
  obtain ⟨fl,G2⟩:=p
  subst g
  cases fl with
  | ret v=>exact ⟨z.1,z.2.symm⟩
  | next=>exact ⟨z.1,z.2.symm⟩
  | ex ks us=>cases z.1
  | _=>exact z.elim) e.2)
end Mine
end
section
open PySem PySem.W PyProof.Rows
set_option maxRecDepth 1000000
namespace Mine.Z
theorem Ek {R:WRecords}{w:World}{s₀ s₁:Shared}{xs:List WData}{a:Addr}{as:List Addr}(L:Laid R w s₀ s₁ [.list xs] [.ref a] as):∃ vs,s₁.heap.get? a=some { cls:=.type "list",dict:=none,data:=.seq vs 0,slots:=#[] }:=by
 refine ae L.laid fun ord _ h=>?_
 simp only [layAllW,layW] at h
 cases e:layAllW R (classAt s₀.heap) w.params ord xs s₀ with
 | none=>rw [e] at h; exact nS h
 | some r =>
  rw [e] at h
  simp only [Option.some.injEq,Prod.mk.injEq,List.cons.injEq,Value.ref.injEq,and_true] at h
  refine ar h fun z9=>?_; subst z9; intro z9; subst z9
  exact ⟨_,Heap.get?_push_size _ rfl⟩
theorem Ad {prog:Program}{w:World}{h:Heap}:∀ {vs:List Value}{ns:List Int},IntsAre vs ns→RepL prog w h (fun _=>True) [] (ns.map V.int) vs
 | _,_,x=>by
  induction x with
  | nil=>exact RepL.nil
  | cons _ _ _ ih=>exact RepL.cons ⟨_,rfl⟩ ih
theorem tT:FOk 13 z7.fns:=(FOk.cons (az 60 rfl (by kernel_rfl) tS (by decide)) (FOk.cons (iM 79 rfl (by kernel_rfl) j8 (by decide)) (FOk.cons (iM 63 rfl (by kernel_rfl) wa (by decide)) (FOk.cons (az 61 rfl (by kernel_rfl) lf (by decide)) (FOk.cons (az 76 rfl (by kernel_rfl) lc (by decide)) FOk.nil)))))
theorem O5:zk∈av::au::TAB:=List.mem_of_getElem? (i:=82) rfl
theorem holds_of (hp:∀ l:List Int,l.length≤63→(∀ x∈l,Builtin.Int.intBits x≤1048576)→∃ G,v9 [.lst (l.map .int)] [] (.ok (.bool true)) G):PySem.Challenge.rw_np0151_01.Holds:=by
 rw [M5]
 refine holds_law Na fun said=>?_
 refine holds_openX (r:=rwN.row) Ph Ff sI.keeps M6 hpN hkN (fun s _=>⟨fun x hx=>(nomatch hx),fun x hx=>(nomatch hx),?_,?_⟩) (by decide) said okN M8 M9 ?_
 ·intro c c' a h; cases h
 ·intro c fs h; cases h
 ·intro w s₀ s₁ mg mb G Y fa o pm cd doc dV kV ho hd hcd hD hmg hg args vals as L hpre hlay hrd hwl hlo
  have T:=G.T
  have X:=G.X
  wrow_args hpre hlay hrd hwl hlo
  rename_i ns _ _ _ _ _ _ _ la vs _ hL _ _ _ hI _ hlen _
  refine enter_call ?_
  refine aj (Ek L) fun us hl=>?_
  refine KJ X fun x1 x2 x3 x4 x5 x6 x7=>?_
  have W:Wd pwS.1 w s₁.heap:=⟨T.nolimit,x5,⟨mg,T.g,x1,x2,x3,x4⟩,⟨mb,T.b,fun x hx=>T.builtins x (fun q=>by rw [q] at hx; revert hx; decide)⟩,ae x6 fun K a b=>⟨K,a,KO b⟩,fun F hF=>x7 _ _ F hF⟩
  rw [M7,x1 zk (List.mem_of_getElem? (i:=80) rfl)] at hmg
  cases hmg
  obtain ⟨_,ol,hol,_,nn,hdl⟩:=(⟨trivial,hL⟩:True∧s₁.heap.IsList la vs.toArray)
  rw [hl] at hol
  obtain rfl:=sj hol
  cases hdl
  have r:RepL pwS.1 w s₁.heap (fun _=>True) [] [.lst (ns.map .int)] [.ref la]:=by
   have el:=(Ad (prog:=pwS.1) (w:=w) (h:=s₁.heap) hI).length
   rw [List.length_map] at el
   exact RepL.cons ⟨_,_,rfl,trivial,⟨by rw [List.size_toArray,← el]; exact Nat.le_trans (show ns.length≤63 by omega) (by decide),_,hl⟩,Ad hI⟩ RepL.nil
  have hla:PyData.layable0 (.list (ns.map .int))=true:=by assumption
  refine aj (hp ns (by omega) (fun x hx=>PyData.bits_item_of_ints hla hx)) fun G' e=>?_
  have key:=NS (n:=13) (d:=z6) (cx:=z7) 82 rfl {} tT (by kernel_rfl) (by decide) W e r
  refine codeAny_mono key fun res s' ⟨v,ok,al,a,b,c,d,f⟩=>?_
  subst a
  obtain rfl:v=.bool true:=b
  exact ⟨.inl ⟨_,_,[],rfl,fun _=>rfl,ReadsW.bool true,by first | kernel_rfl | wrow_post,fun _=>⟨List.nodup_nil,fun _ hm=>(nomatch hm)⟩⟩,.of_keep c,f,.of_eq (d.trans hg)⟩
end Mine.Z
end
section
open PySem PySem.W PyProof.Rows Builtin.Str
set_option maxRecDepth 20000
set_option backward.match.sparseCases false
namespace Mine
section
noncomputable def stp (T:Prop) (p:Or→Prop):Or→Prop
 | []=>p []
 | q::o=>match q.1,o with
  | 0,[]=>T
  | _,_=>p (q::o)
section
variable {α:Type}{L:α→Prop}
noncomputable def Tr.ptk (L:α→Prop):Tr α→Or→Prop
 | .ok a,_=>L a
 | .no,_=>False
 | .aO q k,o=>gO usV q (fun x=>stp ((k x).tt L) ((k x).ptk L)) o
 | .aB q k,o=>gO usB q (fun x=>stp ((k x).tt L) ((k x).ptk L)) o
 | .aC q k,o=>gC q (fun x=>stp ((k x).tt L) ((k x).ptk L)) o
 | .aL q k,o=>gO usL q (fun x=>stp ((k x).tt L) ((k x).ptk L)) o
 | .aH q k,o=>gO usH q (fun x=>stp ((k x).tt L) ((k x).ptk L)) o
 | .aM q k,o=>gM q (fun x=>stp ((k x).tt L) ((k x).ptk L)) o
 | .aP q c _ k,o=>gX usP q c (fun r=>stp ((k r).tt L) ((k r).ptk L)) o
 | .aR q c _ k,o=>gX usR (fun p=>q p.1 p.2) c (fun p=>stp ((k p.1 p.2).tt L) ((k p.1 p.2).ptk L)) o
 | .aS q c _ k,o=>gX usS (fun p=>q p.1 p.2.1 p.2.2) c (fun p=>stp ((k p.1 p.2.1 p.2.2).tt L) ((k p.1 p.2.1 p.2.2).ptk L)) o
 | .aQ q c _ k,o=>gX usQ (fun p=>q p.1 p.2) c (fun p=>stp ((k p.1 p.2).tt L) ((k p.1 p.2).ptk L)) o
theorem iS {T:Prop}{p:Or→Prop}{o:Or}(h:stp T p o) (i:∀ o,p o→T):T:=by
 cases o with
 | nil=>exact i _ h
 | cons q o =>
  obtain ⟨n,a⟩:=q
  cases n with
  | zero=>cases o with
   | nil=>exact h
   | cons=>exact i _ h
  | succ n=>exact i _ h
theorem Tr.ptk_ok (t:Tr α):∀ {o:Or},t.ptk L o→t.tt L:=by
 induction t with
 | ok a=>exact fun h=>h
 | no=>exact fun h=>h
 | aO q k ih=>exact fun h=>qI h fun x o h=>iS h fun o=>ih x
 | aB q k ih=>exact fun h=>qI h fun x o h=>iS h fun o=>ih x
 | aL q k ih=>exact fun h=>qI h fun x o h=>iS h fun o=>ih x
 | aH q k ih=>exact fun h=>qI h fun x o h=>iS h fun o=>ih x
 | aM q k ih=>exact fun h=>Ku h fun x o h=>iS h fun o=>ih x
 | aC q k ih=>exact fun h=>Kt h fun x o h=>iS h fun o=>ih x
 | aP q c g k ih=>exact fun h=>qJ g h fun x o h=>iS h fun o=>ih x
 | aR q c g k ih=>exact fun h=>let ⟨p,a,b⟩:=qJ (K:=fun x=>(k x.1 x.2).tt L) g h fun x o h=>iS h fun o=>ih x.1 x.2; ⟨p.1,p.2,a,b⟩
 | aS q c g k ih=>exact fun h=>let ⟨p,a,b⟩:=qJ (K:=fun x=>(k x.1 x.2.1 x.2.2).tt L) g h fun x o h=>iS h fun o=>ih x.1 x.2.1 x.2.2; ⟨p.1,p.2.1,p.2.2,a,b⟩
 | aQ q c g k ih=>exact fun h=>let ⟨p,a,b⟩:=qJ (K:=fun x=>(k x.1 x.2).tt L) g h fun x o h=>iS h fun o=>ih x.1 x.2; ⟨p.1,p.2,a,b⟩
noncomputable def NT (n:Nat):List Ob→Or
 | []=>[(n,.b true)]
 | o::os=>(o.n,o.a)::NT n os
theorem goK {t:Tr α}{R:Prop}(q:R) (n:Nat) (os:List Ob) (h:te R os=t.ptk L (NT n os):=by kernel_rfl):t.tt L:=t.ptk_ok (h ▸ rS q os)
end
theorem NU {S:V→LV→Option LV}{B:LV→AH→Tr Rd}{xs:List V}{x:V}{m m1:LV}{G:AH}{t:Tr Rd}{P:Fl × LV × AH→Prop}(e:S x m=some m1) (ht:B m1 G=t) (h:t.tt fun p=>∃ j:{z // P z},aft (flr S B xs) p j.1.1 j.1.2.1 j.1.2.2) :
  ∃ j:{z // P z},flr S B (x::xs) m G j.1.1 j.1.2.1 j.1.2.2:=(Tr.tt_ex (L:=fun (j:{z // P z}) p=>aft (flr S B xs) p j.1.1 j.1.2.1 j.1.2.2) _ (ht ▸ h)).imp fun j h=>⟨m1,e,h⟩
theorem P4 {R:LV→AH→Tr Rd}{m:LV}{G:AH}{P:Fl × LV × AH→Prop}(h:(R m G).tt fun p=>∃ j:{z // P z},aft (Wh R) p j.1.1 j.1.2.1 j.1.2.2) :
  ∃ j:{z // P z},Wh R m G j.1.1 j.1.2.1 j.1.2.2:=by
 refine (Tr.tt_ex (L:=fun (j:{z // P z}) p=>aft (Wh R) p j.1.1 j.1.2.1 j.1.2.2) _ h).imp fun j h=>?_
 exact ((R m G).tt_ex ((R m G).tt_mono (fun p h=>GK h) h)).elim fun j' k=>⟨j'+1,k⟩
theorem je {P:Fl × LV × AH→Prop}{N:Fl→LV→AH→Prop}{X:Prop}(h:∃ j:{z // P z},N j.1.1 j.1.2.1 j.1.2.2) (k:∀ f m G,P (f,m,G)→N f m G→X):X:=h.elim fun j n=>k _ _ _ j.2 n
end
end Mine
end
section
open PySem.StrLaws PySem PySem.W PyProof.Rows Builtin.Str
set_option maxRecDepth 20000
set_option backward.match.sparseCases false
namespace Mine
section
noncomputable abbrev S (l:List Nat):V:=.str ⟨⟨l⟩⟩
theorem dT {p:Prop} [Decidable p] (h:p):decide p=true:=decide_eq_true h
theorem dF {p:Prop} [Decidable p] (h:¬ p):decide p=false:=decide_eq_false h
theorem nB {b x:Bool}(h:b=x):(!b)=!x:=congrArg _ h
section
variable {a b:Nat}{i j:Int}
theorem cT (h:a=b):((⟨⟨[a]⟩⟩:Str)==⟨⟨[b]⟩⟩)=true:=beq_iff_eq.mpr (by rw [h])
theorem cF (h:¬ a=b):((⟨⟨[a]⟩⟩:Str)==⟨⟨[b]⟩⟩)=false:=beq_eq_false_iff_ne.mpr fun q=>h (by cases q; rfl)
theorem ltT (h:a<b):decide ((a:Int)<(b:Int))=true:=dT (Int.ofNat_lt.mpr h)
theorem ltF (h:b≤a):decide ((a:Int)<(b:Int))=false:=dF (Int.not_lt.mpr (Int.ofNat_le.mpr h))
theorem leT (h:a≤b):decide ((a:Int)≤(b:Int))=true:=dT (Int.ofNat_le.mpr h)
theorem leF (h:b<a):decide ((a:Int)≤(b:Int))=false:=dF (Int.not_le.mpr (Int.ofNat_lt.mpr h))
theorem qT (h:i=j):(i==j)=true:=beq_iff_eq.mpr h
theorem qF (h:¬ i=j):(i==j)=false:=beq_eq_false_iff_ne.mpr h
theorem nT (h:a=b):((a:Int)==(b:Int))=true:=qT (congrArg _ h)
theorem nF (h:¬ a=b):((a:Int)==(b:Int))=false:=qF fun q=>h (Int.ofNat_inj.mp q)
end
section
variable {G:AH}{l a b:List Nat}{k c:Nat}{vs us:List V}{v:V}
theorem Ae {α:Type}{l:List α}(hk:0<l.length):cS l (-1)=l[l.length - 1]?:=fu (Nat.ble_eq_true_of_le hk)
@[simp] theorem El (a b:List Nat):((⟨⟨a⟩⟩:Str)==⟨⟨b⟩⟩)=decide (a=b):=by
 rw [Bool.eq_iff_iff]; simp
theorem QJ (l:List Nat):(⟨⟨l⟩⟩:Str).length=l.length:=rfl
theorem C5 (a b:List Nat):(⟨⟨a⟩⟩:Str)++⟨⟨b⟩⟩=⟨⟨a++b⟩⟩:=by
 apply Str.ext'
 rw [Str.cps_append]
 simp
@[simp] theorem O6:d8 ⟨⟨a⟩⟩ ⟨⟨b⟩⟩=decide (a<b):=rfl
theorem lh (G:AH) (e:l[k]? = some c):aF G (S l) (.int (k:Int))=some (S [c]):=congrArg Cv.v (cB (o:=cS l (k:Int)) e)
theorem bS (G:AH) (e:vs[k]? = some v):aF G (.lst vs) (.int (k:Int))=some v:=congrArg Cv.v (cB (o:=cS vs (k:Int)) e)
theorem Mb (G:AH) (e:vs[k]? = some v):aF G (.tup vs) (.int (k:Int))=some v:=congrArg Cv.v (cB (o:=cS vs (k:Int)) e)
theorem am (e:l[k]? = some c):aF [] (S l) (.int (k:Int))=some (S [c]):=lh [] e
theorem t7 (e:vs[k]? = some v):aF [] (.lst vs) (.int (k:Int))=some v:=bS [] e
theorem P5 (e:vs[k]? = some v):aF [] (.tup vs) (.int (k:Int))=some v:=Mb [] e
theorem Em (e:vs.getLast? = some v):aF [] (.lst vs) (.int (-1))=some v:=congrArg Cv.v (cB (o:=cS vs (-1)) (by
 rw [Ae (by cases vs <;> simp at e ⊢),← List.getLast?_eq_getElem?,e]))
theorem QK:aG [] .Eq (S a) (S b)=some (decide (a=b)):=congrArg some (El a b)
theorem QM:aG [] .NotEq (S a) (S b)=some (!decide (a=b)):=congrArg (fun b=>some (!b)) (El a b)
theorem QN:aG [] .Lt (S a) (S b)=some (decide (a<b)):=rfl
theorem QO:aG [] .Gt (S a) (S b)=some (decide (b<a)):=rfl
theorem QP:aG [] .LtE (S a) (S b)=some (!decide (b<a)):=rfl
theorem NV {x y:Nat}:([x]<[y])↔x<y:=by
 constructor
 ·intro h; cases h with
  | rel h=>exact h
  | cons h=>cases h
 ·exact fun h=>.rel h
theorem eH {a b:Nat}(h:a≤b):Nat.ble a b=true:=Nat.ble_eq_true_of_le h
theorem t8 (h:a.length+b.length≤big):cC .Add (S a) (S b)=some (S (a++b)):=(congrArg Cv.v (fu (eH h))).trans (congrArg (fun x=>some (V.str x)) (C5 a b))
theorem Jy (h:a.length+b.length≤big):FO .Add (S a) (S b)=some (S (a++b)):=(congrArg Cv.v (fu (eH h))).trans (congrArg (fun x=>some (V.str x)) (C5 a b))
theorem yq (h:vs.length+us.length≤big):cC .Add (.lst vs) (.lst us)=some (.lst (vs++us)):=congrArg Cv.v (fu (eH h))
theorem P6 {i j:Int}:cC .Add (.int i) (.int j)=some (.int (i+j)):=rfl
theorem t9 {α:Type}{l:List α}{a:Nat}:l.drop (min a l.length)=l.drop a:=by
 rcases Nat.lt_or_ge a l.length with q | q
 ·rw [Nat.min_eq_left (Nat.le_of_lt q)]
 ·rw [Nat.min_eq_right q,List.drop_of_length_le (Nat.le_refl _),List.drop_of_length_le q]
theorem Af {a n:Nat}:max 0 (min (if (a:Int)<0 then (a:Int)+n else a) (n:Int))=(min a n:Nat):=by
 rw [if_neg (Int.not_lt.mpr (Int.natCast_nonneg a))]
 rcases Nat.le_total a n with h | h
 ·rw [Int.min_eq_left (Int.ofNat_le.mpr h),Nat.min_eq_left h,Int.max_eq_right (Int.natCast_nonneg _)]
 ·rw [Int.min_eq_right (Int.ofNat_le.mpr h),Nat.min_eq_right h,Int.max_eq_right (Int.natCast_nonneg _)]
theorem yr {a b n:Nat}:strSliceIndices (some (a:Int)) (some (b:Int)) 1 n=sliceRange (min a n:Nat) (min b n:Nat) 1:=by
 rw [← Af (a:=a) (n:=n),← Af (a:=b) (n:=n)]
 rfl
theorem mD (l:List Nat) (a b:Nat):fx ⟨⟨l⟩⟩ (some a) (some b)=⟨⟨(l.drop a).take (b - a)⟩⟩:=by
 have e:fx ⟨⟨l⟩⟩ (some (a:Int)) (some (b:Int))=fx ⟨⟨l⟩⟩ (some ((min a l.length:Nat):Int)) (some ((min b l.length:Nat):Int)):=by
  unfold fx
  rw [show (⟨⟨l⟩⟩:Str).length=l.length from rfl,yr,yr,Nat.min_assoc,Nat.min_assoc,Nat.min_self]
 have ha:min a l.length≤l.length:=Nat.min_le_right ..
 have hb:min b l.length≤l.length:=Nat.min_le_right ..
 rw [e]
 rcases Nat.le_total (min a l.length) (min b l.length) with h | h
 ·refine (sliceText_nat ⟨⟨l⟩⟩ h hb).trans (congrArg (fun l=>(⟨⟨l⟩⟩:Str)) ?_)
  show (l.drop (min a l.length)).take _=_
  rw [t9]
  rcases Nat.le_total b l.length with q | q
  ·rw [Nat.min_eq_left q]
   rcases Nat.le_total a l.length with q2 | q2
   ·rw [Nat.min_eq_left q2]
   ·rw [List.drop_of_length_le q2,List.take_nil,List.take_nil]
  ·rw [Nat.min_eq_right q,List.take_of_length_le (by rw [List.length_drop]; exact Nat.sub_le_sub_left (Nat.min_le_left ..) _),List.take_of_length_le (by rw [List.length_drop]; exact Nat.sub_le_sub_right q _)]
 ·have k:(l.drop a).take (b - a)=[]:=by
   rcases Nat.le_total b a with q | q
   ·rw [Nat.sub_eq_zero_of_le q,List.take_zero]
   ·rcases Nat.le_total l.length a with q2 | q2
    ·rw [List.drop_of_length_le q2,List.take_nil]
    ·rw [Nat.min_eq_left q2] at h
     rcases Nat.le_total b l.length with q3 | q3
     ·rw [Nat.min_eq_left q3] at h
      rw [Nat.sub_eq_zero_of_le h,List.take_zero]
     ·rw [Nat.min_eq_right q3] at h
      rw [List.drop_of_length_le h,List.take_nil]
  have r:strSliceIndices (some ((min a l.length:Nat):Int)) (some ((min b l.length:Nat):Int)) 1 l.length=[]:=by
   rw [yr,Nat.min_assoc,Nat.min_assoc,Nat.min_self]
   show (List.range (if ((min a l.length:Nat):Int)<(min b l.length:Nat) then _ else 0:Int).toNat).map _=[]
   rw [if_neg (Int.not_lt.mpr (Int.ofNat_le.mpr h))]
   rfl
  rw [k]
  unfold fx
  rw [show (⟨⟨l⟩⟩:Str).length=l.length from rfl,r]
  cases l with
  | nil=>rfl
  | cons=>rfl
theorem Ag {l:List Nat}:fx ⟨⟨l⟩⟩ (some (-1)) none=⟨⟨l.drop (l.length - 1)⟩⟩:=by
 cases l with
 | nil=>rfl
 | cons c l =>
  have h:=sliceText_from_neg (x:=⟨⟨c::l⟩⟩) (i:=-1) (by decide) (Int.neg_le_neg (Int.ofNat_le.mpr (Nat.succ_pos l.length)))
  have e:((-1:Int)+(⟨⟨c::l⟩⟩:Str).length)=(l.length:Nat):=by
   show (-1:Int)+((l.length+1:Nat):Int)=_
   rw [Int.natCast_add,Int.add_comm,Int.natCast_one,Int.add_neg_cancel_right]
  rw [e] at h
  refine h.trans (congrArg (fun l=>(⟨⟨l⟩⟩:Str)) ?_)
  exact List.take_of_length_le (by
   rw [List.length_drop]
   show (l.length+1) - l.length≤((((l.length+1:Nat):Int)) - (l.length:Nat)).toNat
   rw [Int.toNat_sub]
   exact Nat.le_refl _)
theorem Ah (l:List Nat) (a:Nat):fx ⟨⟨l⟩⟩ (some a) none=⟨⟨l.drop a⟩⟩:=by
 have:=mD l a l.length
 rw [List.take_of_length_le (by simp)] at this
 rw [← this]
 unfold fx
 rw [sliceIdx_none_hi]; rfl
theorem En (l:List Nat) (b:Nat):fx ⟨⟨l⟩⟩ none (some b)=⟨⟨l.take b⟩⟩:=by
 have:=mD l 0 b
 rw [List.drop_zero,Nat.sub_zero] at this
 rw [← this]
 unfold fx
 rw [sliceIdx_none_lo]; rfl
theorem li {i j:Nat}:bG (S l) (some (.int i)) (some (.int j)) none=some (S ((l.drop i).take (j - i))):=congrArg (fun x=>some (V.str x)) (mD l i j)
theorem fU:bG (S l) (some (.int (-1))) none none=some (S (l.drop (l.length - 1))):=congrArg (fun x=>some (V.str x)) Ag
theorem NW {i:Nat}:bG (S l) (some (.int i)) none none=some (S (l.drop i)):=congrArg (fun x=>some (V.str x)) (Ah l i)
theorem ua {i:Nat}:bG (S l) none (some (.int i)) none=some (S (l.take i)):=congrArg (fun x=>some (V.str x)) (En l i)
end
end
end Mine
end
section
open PySem.StrLaws PySem PySem.W PyProof.Rows Builtin.Str
set_option maxRecDepth 20000
namespace Mine
noncomputable def c6 (c:Nat):Bool:=c==32||c==9||c==10||c==11||c==12||c==13
theorem NX (c d:Nat):((⟨⟨[d]⟩⟩:Str)==⟨⟨[c]⟩⟩)=(c==d):=by
 rw [El,Bool.eq_iff_iff]; simp; exact eq_comm
theorem ca {c:Nat}:bZ [S [c]] (.ok (.bool (c6 c))):=by
 have h:bZ [S [c]] (.ok (.bool ([32,9,10,11,12,13].foldr (fun d x=>((⟨⟨[d]⟩⟩:Str)==⟨⟨[c]⟩⟩)||x) false))):=goP [] rfl rfl
 simpa only [List.foldr,NX,Bool.or_false,c6,Bool.or_assoc] using h
theorem n8 {t w:List Nat}{k:Nat}(hl:t.length≤1000000) (h:∀ c,t[k]? = some c→c6 c=true) :
  eV [S t,.int (k:Int),S w] (.ok .none):=by
 rcases Nat.lt_or_ge k t.length with q | q
 ·have e:t[k]? = some t[k]:=List.getElem?_eq_getElem q
  exact goP [xC 5 (dF (Int.not_le.mpr (Int.ofNat_lt.mpr q))),xV 2 (am e),xP 0 (ca (c:=t[k])),xC 1 (h _ e)] rfl rfl
 ·exact goP [xC 5 (leT q),xC 1 (leT q)] rfl rfl
theorem aJ {t r:List Nat}{k c:Nat}(h:t.drop k=c::r):t[k]? = some c∧k<t.length∧t.drop (k+1)=r:=by
 have h1:t[k]? = some c:=by
  have:=congrArg List.head? h
  rw [List.head?_drop] at this
  exact this
 refine ⟨h1,?_,?_⟩
 ·rcases Nat.lt_or_ge k t.length with q | q
  ·exact q
  ·rw [List.drop_of_length_le q] at h; cases h
 ·rw [← List.drop_drop,h]; rfl
theorem drop_nil {t:List Nat}{k:Nat}(h:t.drop k=[]):t.length≤k:=by simpa using h
theorem Eo {t r:List Nat}{k c:Nat}(h:t.drop k=r) (e:t[k]? = some c):r.head? = some c:=by
 rw [← h,List.head?_drop]; exact e
noncomputable def iu:Nat→List Nat→Bool
 | d,[]=>d==0
 | d,c::r=>if c=92 then false else if c=123 then iu (d+1) r else if c=125 then (match d with | 0=>false | d+1=>iu d r) else iu d r
theorem Ai {d:Nat}:FO .Sub (.int ((d+1:Nat):Int)) (.int 1)=some (.int (d:Nat)):=congrArg (fun i=>some (V.int i)) (by lia:((d+1:Nat):Int) - 1=d)
noncomputable abbrev brW:=wR fL 7 (at_ dk.body 1)
theorem iI {t rest:List Nat}{f:Nat}(hl:t.length≤1000000) (hr:∀ c,rest.head? = some c→c6 c=true):∀ (u:List Nat) (d k:Nat) (x:Option V),t.drop k=u++125::rest→iu d u=true →
  Wh brW [some (S t),some (.int f),some (.int (d+1:Nat)),some (.int k),x] [] (.ret (.tup [S ((t.drop f).take (k+u.length - f)),.int (k+u.length+1:Nat)])) [] []
 | [],d,k,x,h,hs=>by
  refine bW (aJ h) fun h1 h2 h3=>?_
  obtain rfl:d=0:=by simpa [iu] using hs
  have hc:=n8 (k:=k+1) (w:=[98,114,97,99,101,115]) hl fun c e=>hr c (Eo h3 e)
  exact wE [xC 5 (ltT h2),xV 2 (am h1),xP 21 hc,xV 4 (li (l:=t) (i:=f) (j:=k))]
 | c::u,d,k,x,h,hs=>by
  refine bW (aJ h) fun h1 h2 h3=>?_
  rw [show k+(c::u).length=k+1+u.length by simp; lia]
  unfold iu at hs
  split at hs
  ·exact ff hs
  rename_i c1
  split at hs
  ·rename_i c2
   exact wI (iI (f:=f) hl hr u (d+1) (k+1) (some (S [c])) h3 hs) [xC 5 (ltT h2),xV 2 (am h1),xC 3 (cF c1),xC 3 (cT c2)]
  rename_i c2
  split at hs
  ·rename_i c3
   split at hs
   ·exact ff hs
   ·rename_i d
    exact wI (iI (f:=f) hl hr u d (k+1) (some (S [c])) h3 hs) [xC 5 (ltT h2),xV 2 (am h1),xC 3 (cF c1),xC 3 (cF c2),xC 3 (cT c3),xV 1 (Ai (d:=d+1))]
  ·rename_i c3
   exact wI (iI (f:=f) hl hr u d (k+1) (some (S [c])) h3 hs) [xC 5 (ltT h2),xV 2 (am h1),xC 3 (cF c1),xC 3 (cF c2),xC 3 (cF c3)]
theorem Aj {t u rest:List Nat}{k:Nat}(hl:t.length≤1000000) (h:t.drop k=u++125::rest) (hs:iu 0 u=true) (hr:∀ c,rest.head? = some c→c6 c=true) :
  dl [S t,.int (k:Int)] (.ok (.tup [S u,.int (k+u.length+1:Nat)])):=by
 have w:=iI (f:=k) hl hr u 0 k none h hs
 rw [show (t.drop k).take (k+u.length - k)=u by rw [h,Nat.add_sub_cancel_left]; simp] at w
 exact goP [xS 1 w] rfl rfl
end Mine
end
section
open PySem.StrLaws PySem PySem.W PyProof.Rows Builtin.Str
set_option maxRecDepth 20000
set_option backward.match.sparseCases false
namespace Mine
theorem a8 {α:Type}{f:α→V}(h:∀ a,(f a).pu=true):∀ l:List α,V.puL (l.map f)=true
 | []=>rfl
 | a::l=>by rw [List.map_cons,V.puL,h a,a8 h l]; rfl
theorem bf {G:AH}{i:Nat}{l:List V}{v:V}(e:G[i]? = some (.list l)) (h:l.length+1≤big):nC G (.ref i) (oX .append) [v]=some (G.set i (.list (l++[v]))):=by
 have k:oX .append l [v]=some (l++[v]):=congrArg Cv.v (fu (eH h))
 unfold nC
 dsimp only
 rw [e]
 dsimp only
 rw [k]
theorem n9:∀ us:List (List Nat),fy (us.map S)=some (us.map fun u=>⟨⟨u⟩⟩)
 | []=>rfl
 | u::us=>by simp only [List.map_cons,fy,n9 us,Option.map_some]
noncomputable def cf (sep:List Nat):List (List Nat)→List Nat
 | []=>[]
 | [x]=>x
 | x::y::r=>x++sep++cf sep (y::r)
theorem GR (sep:List Nat):∀ us:List (List Nat),Str.join ⟨⟨sep⟩⟩ (us.map fun u=>⟨⟨u⟩⟩)=⟨⟨cf sep us⟩⟩
 | []=>rfl
 | [x]=>rfl
 | x::y::r=>by
  show (⟨⟨x⟩⟩:Str)++⟨⟨sep⟩⟩++Str.join ⟨⟨sep⟩⟩ ((y::r).map fun u=>⟨⟨u⟩⟩)=_
  rw [GR sep (y::r),C5,C5]
  rfl
theorem Ak (sep:List Nat) (us:List (List Nat)):Txt.join ⟨⟨sep⟩⟩ (us.map fun u=>⟨⟨u⟩⟩)=⟨⟨cf sep us⟩⟩:=by
 rw [← GR]
 exact StrLaws.glued_eq_join _ _
theorem pS (sep:List Nat):∀ us:List (List Nat),(cf sep us).length≤(us.map (·.length)).sum+us.length*sep.length
 | []=>Nat.zero_le _
 | [x]=>by simp [cf]
 | x::y::r=>by
  have:=pS sep (y::r)
  simp only [cf,List.length_append,List.map_cons,List.sum_cons,List.length_cons,Nat.add_mul,Nat.one_mul] at this ⊢
  exact Nat.le_trans (Nat.add_le_add_left this _) (Nat.le_of_eq (by rw [Nat.add_assoc x.length,Nat.add_left_comm sep.length,← Nat.add_assoc x.length,Nat.add_comm sep.length (_+_)]))
theorem pT {sep:List Nat}{us:List (List Nat)}(h:(us.map (·.length)).sum+us.length*sep.length≤big):eQ .join (S sep) [.lst (us.map S)]=some (S (cf sep us)):=by
 have h1:oW ⟨⟨sep⟩⟩ (us.map fun u=>⟨⟨u⟩⟩)=true:=by
  rw [oW,Ak,List.map_map,List.length_map]
  exact Bool.and_eq_true_iff.mpr ⟨eH h,eH (Nat.le_trans (pS sep us) h)⟩
 have q:eQ .join (S sep) [.lst (us.map S)]=_:=congrArg Cv.v ((cB (n9 us)).trans (fu h1))
 exact q.trans (congrArg (fun x=>some (V.str x)) (Ak sep us))
theorem qX:∀ us:List Nat,cf [] (us.map fun c=>[c])=us
 | []=>rfl
 | [x]=>rfl
 | x::y::r=>congrArg (x::·) (qX (y::r))
noncomputable def BV (u:List Nat):Prop:=∀ c∈u,c6 c=false∧c≠92
noncomputable abbrev baW:=wR hH 7 (at_ eW.body 1)
theorem wc {t rest:List Nat}(hr:∀ c,rest.head? = some c→c6 c=true) {O:List V}{E:Nat}:∀ (u:List Nat) (o:List V) (k:Nat) (x:Option V),t.drop k=u++rest→BV u→o.length+u.length≤big →
  o++(u.map fun c=>[c]).map S=O→k+u.length=E→∃ x',Wh baW [some (S t),some (.int k),some (.ref 0),x] [.list o] .next [some (S t),some (.int E),some (.ref 0),x'] [.list O]
 | [],o,k,x,h,hb,hO,h1,h2=>by
  rw [List.map_nil,List.map_nil,List.append_nil] at h1
  subst h1 h2
  refine ⟨x,?_⟩
  cases rest with
  | nil =>
   have q:=drop_nil h
   exact wE [xC 5 (ltF q),xC 1 (ltF q)]
  | cons c r =>
   refine bW (aJ (t:=t) (r:=r) h) fun g1 g2 g3=>?_
   exact wE [xC 5 (ltT g2),xV 2 (lh [.list o] g1),xP 0 (ca (c:=c)),xC 2 (nB (hr c rfl))]
 | c::u,o,k,x,h,hb,hO,h1,h2=>by
  refine bW (aJ h) fun g1 g2 g3=>?_
  refine ar (hb c (.head _)) fun b1 b2=>?_
  rw [List.length_cons,← Nat.add_assoc,Nat.add_right_comm] at hO
  refine uV (wc (O:=O) (E:=E) hr u (o++[S [c]]) (k+1) (some (S [c])) g3 (fun c hc=>hb c (.tail _ hc)) (by simpa using hO) (by rw [← h1,List.append_assoc]; rfl) (by rw [← h2,List.length_cons,Nat.add_assoc,Nat.add_comm 1])) fun x' w=>?_
  exact wI w [xC 5 (ltT g2),xV 2 (lh [.list o] g1),xP 0 (ca (c:=c)),xC 2 (nB b1),xV 2 (lh [.list o] g1),xC 3 (cF b2),xH 4 (bf (G:=[.list o]) (i:=0) (v:=S [c]) rfl (Nat.le_trans (Nat.le_add_right ..) hO))]
theorem Al:∀ u:List Nat,((u.map fun c=>[c]).map (·.length)).sum=u.length
 | []=>rfl
 | c::u=>by rw [List.map_cons,List.map_cons,List.sum_cons,Al u]; exact Nat.add_comm ..
theorem Ep {t u rest:List Nat}{k:Nat}(hl:t.length≤big) (h:t.drop k=u++rest) (hb:BV u) (hr:∀ c,rest.head? = some c→c6 c=true) :
  eY [S t,.int (k:Int)] (.ok (.tup [S u,.int (k+u.length:Nat)])):=by
 have hu:u.length≤big:=by
  have:=congrArg List.length h
  rw [List.length_drop,List.length_append] at this
  exact Nat.le_trans (Nat.le_add_right ..) (this ▸ Nat.le_trans (Nat.sub_le ..) hl)
 refine aj (wc hr u [] k none h hb (by simpa using hu) rfl rfl) fun x' w=>?_
 have hj:=pT (sep:=[]) (us:=u.map fun c=>[c]) (by rw [Al]; exact hu)
 rw [qX] at hj
 exact goP [xS 0 w,xV 2 hj] rfl rfl
noncomputable def enc (w:List Nat):List Nat:=if w=[]∨32∈w then 123::(w++[125]) else w
structure yt (w:List Nat):Prop where
 sc:iu 0 w=true
 br:32 ∉ w→BV w∧∀ c∈w,c≠123∧c≠34
noncomputable abbrev fiW:=wR hJ 7 (at_ eZ.body 0)
theorem pU {t r:List Nat}{E:Nat}(hr:∀ c,r.head? = some c→c6 c=false):∀ (sp:List Nat) (k:Nat),t.drop k=sp++r→(∀ c∈sp,c6 c=true)→k+sp.length=E →
  Wh fiW [some (S t),some (.int k)] [] .next [some (S t),some (.int E)] []
 | [],k,h,hs,e=>by
  subst e
  cases r with
  | nil =>
   have q:=drop_nil h
   exact wE [xC 5 (ltF q),xC 1 (ltF q)]
  | cons c r =>
   refine bW (aJ (t:=t) (r:=r) h) fun h1 h2 h3=>?_
   exact wE [xC 5 (ltT h2),xV 2 (am h1),xP 0 (ca (c:=c)),xC 1 (hr c rfl)]
 | c::sp,k,h,hs,e=>by
  refine bW (aJ h) fun h1 h2 h3=>?_
  have ih:=pU (E:=E) hr sp (k+1) h3 (fun c hc=>hs c (.tail _ hc)) (by rw [← e,List.length_cons,Nat.add_assoc,Nat.add_comm 1])
  exact wI ih [xC 5 (ltT h2),xV 2 (am h1),xP 0 (ca (c:=c)),xC 1 (hs c (.head _))]
theorem we {t sp:List Nat}{k:Nat}(h:t.drop k=sp) (hs:∀ c∈sp,c6 c=true):cX [S t,.int (k:Int)] (.ok .none):=by
 have w:=pU (t:=t) (r:=[]) nofun sp k (by rw [h,List.append_nil]) hs rfl
 have he:t.length≤k+sp.length:=by have:=congrArg List.length h; rw [List.length_drop] at this; exact Nat.sub_le_iff_le_add'.mp (Nat.le_of_eq this)
 exact goP [xS 0 w,xC 5 (leT he)] rfl rfl
theorem wf {t sp w rest:List Nat}{k:Nat}(hl:t.length≤big) (h:t.drop k=sp++(enc w++rest)) (hs:∀ c∈sp,c6 c=true) (ok:yt w)
  (hr:∀ c,rest.head? = some c→c6 c=true):cX [S t,.int (k:Int)] (.ok (.tup [S w,.int (k+sp.length+(enc w).length:Nat)])):=by
 have hd:t.drop (k+sp.length)=enc w++rest:=by rw [← List.drop_drop,h,List.drop_left]
 have wl:=fun q=>pU (r:=enc w++rest) q sp k h hs rfl
 by_cases e:w=[]∨32∈w
 ·have en:enc w=123::(w++[125]):=if_pos e
  rw [en] at wl hd ⊢
  refine bW (aJ hd) fun g1 g2 g3=>?_
  have hb:=Aj (k:=k+sp.length+1) (u:=w) hl (rest:=rest) (g3.trans (List.append_assoc ..)) ok.sc hr
  rw [show k+sp.length+(123::(w++[125])).length=k+sp.length+1+w.length+1 by rw [List.length_cons,List.length_append]; exact congrArg (·+1) (Nat.add_right_comm _ w.length 1)]
  have wl:=wl fun d hd=>sj hd ▸ rfl
  exact goP [xS 0 wl,xC 5 (leF g2),xV 2 (am g1),xP 6 hb] rfl rfl
 ·have en:enc w=w:=if_neg e
  rw [en] at wl hd ⊢
  refine ar (not_or.mp e) fun e1 e2=>ar (ok.br e2) fun b1 b2=>?_
  have hb:=Ep (k:=k+sp.length) hl (rest:=rest) hd b1 hr
  cases w with
  | nil=>exact absurd rfl e1
  | cons c w =>
   refine bW (aJ hd) fun g1 g2 g3=>?_
   have wl:=wl fun d hd=>sj hd ▸ (b1 c (.head _)).1
   exact goP [xS 0 wl,xC 5 (leF g2),xV 2 (am g1),xC 2 (cF (b2 c (.head _)).1),xV 2 (am g1),xC 2 (cF (b2 c (.head _)).2),xP 2 hb] rfl rfl
noncomputable def oa:List (List Nat)→List Nat
 | []=>[]
 | w::ws=>32::(enc w++oa ws)
theorem ub:∀ (ws:List (List Nat)) (c:Nat),(oa ws).head? = some c→c6 c=true
 | [],_,h=>nS h
 | _::_,_,h=>sj h ▸ rfl
theorem uc (w:List Nat):∀ ws:List (List Nat),cf [32] ((w::ws).map enc)=enc w++oa ws
 | []=>(List.append_nil _).symm
 | v::ws=>by
  rw [List.map_cons,List.map_cons,cf,← List.map_cons,uc v ws,List.append_assoc]; rfl
noncomputable abbrev spW:=wR jB 7 (at_ gH.body 2)
theorem Am:∀ ws:List (List Nat),ws.length≤(oa ws).length
 | []=>Nat.le_refl _
 | w::ws=>by have:=Am ws; simp [oa]; exact Nat.le_trans this (Nat.le_add_left ..)
theorem wg {t:List Nat}{o:List V}:Wh spW [some (S t),some (.ref 0),some .none] [.list o] .next [some (S t),some (.ref 0),some .none] [.list o]:=by exact wE []
theorem ud {t:List Nat}{O:List V}(hl:t.length≤big):∀ (ws:List (List Nat)) (w:List Nat) (o:List V) (k:Nat),t.drop k=oa ws→(∀ w∈ws,yt w)→o.length+ws.length<big→o++S w::ws.map S=O →
  Wh spW [some (S t),some (.ref 0),some (.tup [S w,.int k])] [.list o] .next [some (S t),some (.ref 0),some .none] [.list O]
 | [],w,o,k,h,ok,hO,e=>by
  subst e
  have w0:=wg (t:=t) (o:=o++[S w])
  exact wI w0 [xH 7 (bf (G:=[.list o]) (i:=0) (v:=S w) rfl hO),xP 4 (we (k:=k) (sp:=[]) h nofun)]
 | v::ws,w,o,k,h,ok,hO,e=>by
  rw [List.length_cons] at hO
  have hf:=wf (k:=k) (sp:=[32]) (w:=v) (rest:=oa ws) hl h (fun c hc=>List.mem_singleton.mp hc ▸ rfl) (ok v (.head _)) (ub ws)
  have ih:=ud (O:=O) hl ws v (o++[S w]) (k+1+(enc v).length) (by rw [Nat.add_assoc,← List.drop_drop,h,oa,Nat.add_comm 1]; exact List.drop_left) (fun w hw=>ok w (.tail _ hw)) (by rw [List.length_append]; exact Nat.lt_of_le_of_lt (Nat.le_of_eq (by rw [Nat.add_assoc,Nat.add_comm ws.length]; rfl)) hO) (by rw [← e,List.append_assoc]; rfl)
  exact wI ih [xH 7 (bf (G:=[.list o]) (i:=0) (v:=S w) rfl (Nat.le_trans (Nat.succ_le_succ (Nat.le_add_right ..)) hO)),xP 4 hf]
theorem ue {t:List Nat}(ws:List (List Nat)) (hl:t.length≤big) (e:t=cf [32] (ws.map enc)) (ok:∀ w∈ws,yt w):bY [S t] (.ok (.lst (ws.map S))):=by
 cases ws with
 | nil =>
  have w:=wg (t:=t) (o:=[])
  exact goP [xP 1 (we (k:=0) (sp:=[]) e nofun),xS 0 w] rfl rfl
 | cons v ws =>
  rw [uc] at e
  have hn:ws.length<t.length:=by
   have h1:=Am ws
   have h3:1≤(enc v).length:=by
    unfold enc
    split
    ·exact Nat.succ_pos _
    ·rename_i q; cases v with
     | nil=>exact absurd (Or.inl rfl) q
     | cons=>exact Nat.succ_pos _
   rw [e,List.length_append]; exact Nat.lt_of_le_of_lt h1 (Nat.lt_add_of_pos_left h3)
  have w:=ud (t:=t) hl ws v [] (0+0+(enc v).length) (by rw [e]; simp) (fun w hw=>ok w (.tail _ hw)) (by rw [List.length_nil,Nat.zero_add]; exact Nat.lt_of_lt_of_le hn hl) rfl
  exact goP [xP 1 (wf (k:=0) (sp:=[]) (w:=v) (rest:=oa ws) hl e nofun (ok v (.head _)) (ub ws)),xS 0 w] rfl (a8 (fun _=>rfl) _)
theorem Er {a b:Nat}(h:¬ a=b):((⟨⟨[b]⟩⟩:Str)==⟨⟨[a]⟩⟩)=false:=cF fun q=>h q.symm
theorem orF {a b:Bool}(h:a=false) (k:b=false):(a||b)=false:=by rw [h,k]; rfl
theorem eqF {a b:Nat}(h:¬ a=b):aG [] .Eq (S [a]) (S [b])=some false:=congrArg some (cF h)
theorem GS {a b c:Nat}(h1:¬ c=a) (h2:¬ c=b):aG [] .In (S [c]) (.tup [S [a],S [b]])=some false:=congrArg some (orF (Er h1) (orF (Er h2) rfl))
theorem P7 {a b d e c:Nat}(h1:¬ c=a) (h2:¬ c=b) (h3:¬ c=d) (h4:¬ c=e):aG [] .In (S [c]) (.tup [S [a],S [b],S [d],S [e]])=some false:=congrArg some (orF (Er h1) (orF (Er h2) (orF (Er h3) (orF (Er h4) rfl))))
structure wi (c:Nat):Prop where
 a:c≠93∧c≠34∧c≠91∧c≠36∧c≠59∧c≠92∧c≠35
 b:c6 c=true→c=32
noncomputable abbrev moW:=wR pI 7 (at_ lF.body 7)
theorem bF {b:Bool}(h:¬ b=true):b=false:=Bool.eq_false_iff.mpr h
theorem jd {t b:List Nat}{h ih I W:Bool}{E:Nat}:∀ (u:List Nat) (d k:Nat) (ib wb:Bool) (x:Option V),t.drop k=u→iu d u=true→(∀ c∈u,wi c)→(ib||u.contains 32)=I→(wb||u.contains 32)=W→k+u.length=E →
  ∃ x',Wh moW [some (S t),some (.bool h),some (S b),some (.bool ib),some (.bool ih),some (.bool wb),some (.bool false),some (.int d),some (.int k),x] []
   .next [some (S t),some (.bool h),some (S b),some (.bool I),some (.bool ih),some (.bool W),some (.bool false),some (.int 0),some (.int E),x'] []
 | [],d,k,ib,wb,x,e,hs,hp,hI,hW,hE=>by
  obtain rfl:d=0:=of_decide_eq_true hs
  have q:=drop_nil e
  have hI:=(Bool.or_false ib).symm.trans hI
  have hW:=(Bool.or_false wb).symm.trans hW
  subst hI hW hE
  refine ⟨x,?_⟩
  exact wE [xC 5 (ltF q)]
 | c::u,d,k,ib,wb,x,e,hs,hp,hI,hW,hE=>by
  refine bW (aJ e) fun h1 h2 h3=>?_
  obtain ⟨⟨p1,p2,p3,p4,p5,p6,p7⟩,p8⟩:=hp c (.head _)
  have hq:∀ c∈u,wi c:=fun c hc=>hp c (.tail _ hc)
  rw [List.length_cons,← Nat.add_assoc,Nat.add_right_comm] at hE
  have hu:¬ c=32→(c::u).contains 32=u.contains 32:=fun q=>by rw [List.contains_cons,beq_eq_false_iff_ne.mpr (Ne.symm q),Bool.false_or]
  unfold iu at hs
  rw [if_neg p6] at hs
  split at hs
  ·rename_i c2
   subst c2
   rw [hu (by decide)] at hI hW
   refine uV (jd (b:=b) (h:=h) (ih:=ih) (I:=I) (W:=W) u (d+1) (k+1) ib wb (some (S [123])) h3 hs hq hI hW hE) fun x' w=>?_
   exact wI w [xC 5 (ltT h2),xV 2 (am h1)]
  rename_i c2
  split at hs
  ·rename_i c3
   subst c3
   rw [hu (by decide)] at hI hW
   split at hs
   ·exact ff hs
   rename_i d
   refine uV (jd (b:=b) (h:=h) (ih:=ih) (I:=I) (W:=W) u d (k+1) ib wb (some (S [125])) h3 hs hq hI hW hE) fun x' w=>?_
   exact wI w [xC 5 (ltT h2),xV 2 (am h1),xV 11 (Ai (d:=d))]
  rename_i c3
  by_cases c4:c=32
  ·subst c4
   rw [List.contains_cons,beq_self_eq_true,Bool.true_or,Bool.or_true] at hI hW
   refine uV (jd (b:=b) (h:=h) (ih:=ih) (I:=I) (W:=W) u d (k+1) true true (some (S [32])) h3 hs hq hI hW hE) fun x' w=>?_
   exact wI w [xC 5 (ltT h2),xV 2 (am h1),xP 19 (ca (c:=32))]
  ·rw [hu c4] at hI hW
   refine uV (jd (b:=b) (h:=h) (ih:=ih) (I:=I) (W:=W) u d (k+1) ib wb (some (S [c])) h3 hs hq hI hW hE) fun x' w=>?_
   exact wI w [xC 5 (ltT h2),xV 2 (am h1),xC 5 (cF c2),xC 3 (cF c3),xB 1 (GS p1 p2),xB 3 (P7 p3 p4 p5 p6),xP 3 (ca (c:=c)),xC 1 (bF fun q=>c4 (p8 q))]
noncomputable def fV (w:List Nat):Prop:=yt w∧∀ c∈w,wi c
noncomputable def wj (w:List Nat):List Nat:=if w=[]∨32∈w then [98,114,97,99,101] else [110,111,110,101]
theorem Es {w:List Nat}{h:Bool}(ok:fV w):lG [S w,.bool h] (.ok (S (wj w))):=by
 cases w with
 | nil =>
  have q:wj []=[98,114,97,99,101]:=if_pos (.inl rfl)
  rw [q]
  exact goP [] rfl rfl
 | cons c u =>
  obtain ⟨⟨p1,p2,p3,p4,p5,p6,p7⟩,p8⟩:=ok.2 c (.head _)
  have ml:=fun I ib (e:(ib||(c::u).contains 32)=I)=>jd (b:=[c]) (h:=h) (ih:=false) (t:=c::u) (c::u) 0 0 ib ib none rfl ok.1.sc ok.2 e e rfl
  by_cases q:c=123
  ·subst q
   have e:wj (123::u)=[98,114,97,99,101]:=if_pos (.inr (Classical.byContradiction fun n=>((ok.1.br n).2 123 (.head _)).1 rfl))
   rw [e]
   refine aj (ml true true rfl) fun x' w=>?_
   cases h with
   | true=>exact goP [xS 16 w] rfl rfl
   | false=>exact goP [xS 14 w] rfl rfl
  ·by_cases q2:32∈c::u
   ·have e:wj (c::u)=[98,114,97,99,101]:=if_pos (.inr q2)
    rw [e]
    refine aj (ml true false (List.contains_iff_mem.mpr q2)) fun x' w=>?_
    cases h with
    | true=>exact goP [xB 7 (GS q p2),xB 4 (eqF p7),xS 4 w] rfl rfl
    | false=>exact goP [xB 7 (GS q p2),xS 7 w] rfl rfl
   ·have e:wj (c::u)=[110,111,110,101]:=if_neg (not_or.mpr ⟨nofun,q2⟩)
    rw [e]
    refine aj (ml false false (bF fun k=>q2 (List.contains_iff_mem.mp k))) fun x' w=>?_
    cases h with
    | true=>exact goP [xB 7 (GS q p2),xB 4 (eqF p7),xS 4 w] rfl rfl
    | false=>exact goP [xB 7 (GS q p2),xS 7 w] rfl rfl
theorem BX {w:List Nat}{h:Bool}(hl:w.length≤1000) (ok:fV w):rT [S w,.bool h] (.ok (S (enc w))):=by
 have hm:=Es (h:=h) ok
 unfold wj at hm
 unfold enc
 split <;> rename_i q
 ·rw [if_pos q] at hm
  have a1:=t8 (a:=[123]) (b:=w) (Nat.le_trans (Nat.add_le_add_left hl 1) (by decide))
  have a2:=t8 (a:=[123]++w) (b:=[125]) (Nat.le_trans (Nat.add_le_add_right (Nat.le_trans (Nat.le_of_eq (List.length_append)) (Nat.add_le_add_left hl 1)) 1) (by decide))
  exact goP [xP 2 hm,xV 9 a1,xV 0 a2] rfl rfl
 ·rw [if_neg q] at hm
  exact goP [xP 2 hm] rfl rfl
theorem yu (w:List Nat):(enc w).length≤w.length+2:=by
 unfold enc
 split
 ·rw [List.length_cons,List.length_append]; exact Nat.le_refl _
 ·exact Nat.le_add_right ..
theorem yv:∀ {ws:List (List Nat)},((ws.map enc).map (·.length)).sum≤((ws.map (·.length)).sum+2*ws.length)
 | []=>Nat.le_refl _
 | w::ws=>by
  have h1:=yv (ws:=ws)
  have h2:=yu w
  simp only [List.map_cons,List.sum_cons,List.length_cons] at h1 ⊢
  exact Nat.le_trans (Nat.add_le_add h2 h1) (Nat.le_of_eq (by rw [Nat.mul_succ,Nat.add_add_add_comm,Nat.add_comm 2]))
theorem An {ws:List (List Nat)}(hn:ws.length≤1000) (hs:(ws.map (·.length)).sum≤10000):eQ .join (S [32]) [.lst ((ws.map enc).map S)]=some (S (cf [32] (ws.map enc))):=pT (by
 have h1:=yv (ws:=ws)
 rw [List.length_map,List.length_singleton,Nat.mul_one]
 exact Nat.le_trans (Nat.add_le_add h1 hn) (Nat.le_trans (Nat.add_le_add_right (Nat.add_le_add hs (Nat.mul_le_mul_left 2 hn)) 1000) (by decide)))
noncomputable abbrev joF:=fR kW 7 (at_ iG.body 1)
theorem wm {L:V}:∀ (ws o:List (List Nat)) (x:Option V),(∀ w∈ws,fV w∧w.length≤1000)→o.length+ws.length≤big →
  ∃ x',joF (ws.map S) [some L,some (.ref 0),x] [.list (o.map S)] .next [some L,some (.ref 0),x'] [.list ((o++ws.map enc).map S)]
 | [],o,x,h,hO=>⟨x,by rw [List.map_nil (f:=enc),List.append_nil]; exact fN⟩
 | w::ws,o,x,h,hO=>by
  rw [List.length_cons,← Nat.add_assoc,Nat.add_right_comm] at hO
  have ih:=wm (L:=L) ws (o++[enc w]) (some (S w)) (fun w hw=>h w (.tail _ hw)) (by rw [List.length_append]; exact hO)
  rw [List.append_assoc,List.map_append] at ih
  refine aj ih fun x' ih=>ar (h w (.head _)) fun h1 h2=>⟨x',?_⟩
  have ap:=bf (G:=[.list (o.map S)]) (i:=0) (v:=S (enc w)) rfl (by rw [List.length_map]; exact Nat.le_trans (Nat.le_add_right ..) hO)
  exact fI ih [xP 5 (BX h2 h1 (h:=((o.map S).length:Int)==0)),xH 0 ap]
theorem uf {ws:List (List Nat)}(h:∀ w∈ws,fV w∧w.length≤1000) (hn:ws.length≤1000) (hs:(ws.map (·.length)).sum≤10000) :
  iH [.lst (ws.map S)] (.ok (S (cf [32] (ws.map enc)))):=by
 refine aj (wm (L:=.lst (ws.map S)) ws [] none h (by rw [List.length_nil,Nat.zero_add]; exact Nat.le_trans hn (by decide))) fun x' ih=>?_
 have pv:=a8 (f:=S) (fun _=>rfl) ws
 exact goP [xS 2 ih,xV 2 (An hn hs)] (by rw [V.puL,V.pu,pv]; rfl) rfl
theorem Kw {c:Nat}{l:List Nat}:aG [] .In (S [c]) (S l)=some (decide (c∈l)):=congrArg some (found_one ⟨⟨l⟩⟩ c)
theorem NY {c:Nat}{l:List Nat}:aG [] .NotIn (S [c]) (S l)=some (!decide (c∈l)):=congrArg (fun b=>some (!b)) (found_one ⟨⟨l⟩⟩ c)
noncomputable abbrev liE:=aE (sE (at_ gG.body 0)) 0
theorem lj {ws:List (List Nat)}(h:∀ w∈ws,w.length≤1000) (hn:ws.length≤1000) (hs:(ws.map (·.length)).sum≤10000) :
  bH [.lst (ws.map S)] (.ok (S (cf [32] (ws.map enc)))):=by
 have hc:cQ (cR jv 22 liE [some (.lst (ws.map S))]) (ws.map S) [] (ws.map fun w=>S (enc w)) []:=dj ws fun w hw=>by
  have hl:=h w hw
  have a1:=t8 (a:=[123]) (b:=w) (Nat.le_trans (Nat.add_le_add_left hl 1) (by decide))
  have a2:=t8 (a:=[123]++w) (b:=[125]) (Nat.le_trans (Nat.add_le_add_right (Nat.le_trans (Nat.le_of_eq (List.length_append)) (Nat.add_le_add_left hl 1)) 1) (by decide))
  unfold enc
  generalize (ws.map S)=L
  by_cases q:w=[]
  ·subst q
   rw [if_pos (.inl rfl)]
   exact goC []
  ·have e1:=(El w []).trans (decide_eq_false q)
   by_cases q2:32∈w
   ·rw [if_pos (.inr q2)]
    exact goC [xC 3 e1,xB 1 (Kw (c:=32) (l:=w)),xC 1 (dT q2),xV 1 a1,xV 0 a2]
   ·rw [if_neg (not_or.mpr ⟨q,q2⟩)]
    exact goC [xC 3 e1,xB 1 (Kw (c:=32) (l:=w)),xC 1 (dF q2)]
 have hj:=An hn hs
 rw [List.map_map] at hj
 have pv:=a8 (f:=S) (fun _=>rfl) ws
 exact goP [xQ 2 hc,xV 0 hj] (by rw [V.puL,V.pu,pv]; rfl) rfl
structure Wo where
 t:List Nat
 n:Option Int
noncomputable def mE:Option Int→V
 | none=>.none
 | some i=>.int i
noncomputable def Wo.v (w:Wo):V:=.tup [S w.t,mE w.n]
noncomputable def bl (g:List Wo):List Nat:=if g.length=1 then (g.headD ⟨[],none⟩).t else cf [32] (g.map fun w=>enc w.t)
theorem pV {α:Type}{f:α→Nat}{B:Nat}:∀ {l:List α},(∀ x∈l,f x≤B)→(l.map f).sum≤l.length*B
 | [],_=>Nat.zero_le _
 | a::l,h=>by
  rw [List.map_cons,List.sum_cons,List.length_cons,Nat.add_mul,Nat.one_mul,Nat.add_comm]
  exact Nat.add_le_add (pV fun x hx=>h x (.tail _ hx)) (h a (.head _))
theorem GT (n:Option Int):(mE n).pu=true:=by cases n <;> rfl
theorem og (w:Wo):w.v.pu=true:=by rw [Wo.v,V.pu,V.puL,V.puL,GT]; rfl
noncomputable abbrev itE:=aE (aE (sE (at_ jx.body 0)) 2) 0
theorem wn {g:List Wo}(h:∀ w∈g,w.t.length≤1000) (hn:g.length≤5):fJ [.lst (g.map Wo.v)] (.ok (S (bl g))):=by
 have pv:=a8 og g
 by_cases q:g.length=1
 ·obtain ⟨w,rfl⟩:=List.length_eq_one_iff.mp q
  exact goP [] (by rw [V.puL,V.pu,pv]; rfl) rfl
 ·have hl:=lj (ws:=g.map (·.t)) (by intro w hw; exact ae (List.mem_map.mp hw) fun a ha e=>e ▸ h a ha) (by rw [List.length_map]; exact Nat.le_trans hn (by decide)) (by
   rw [List.map_map]; exact Nat.le_trans (pV h) (Nat.le_trans (Nat.mul_le_mul_right _ hn) (by decide)))
  rw [List.map_map,List.map_map] at hl
  have hc:cQ (cR mu 21 itE [some (.lst (g.map Wo.v))]) (g.map Wo.v) [] (g.map fun w=>S w.t) []:=dj g fun w hw=>by
   generalize (g.map Wo.v)=L
   exact goC []
  have e:bl g=cf [32] (g.map fun w=>enc w.t):=if_neg q
  rw [e]
  have q':=nF (b:=1) (mt (List.length_map (as:=g) Wo.v).symm.trans q)
  exact goP [xC 4 q',xQ 2 hc,xP 0 hl] (by rw [V.puL,V.pu,pv]; rfl) rfl
theorem gR {th:Bool}{cx:Cx}{d:Fd}{vs:List V}{r:Res}(e:zN th cx d vs=some r:=by kernel_rfl):fnP th cx d vs r:=CN vs r e
noncomputable def BY (c:Nat):Bool:=c != 93&&c != 34&&c != 91&&c != 36&&c != 59&&c != 92&&c != 35&&(!c6 c||c==32)
theorem bN {b:Bool}(h:(!b)=true):b=false:=by cases b <;> first | rfl | exact h.symm
theorem neB {a b:Nat}(h:(a != b)=true):a≠b:=bne_iff_ne.mp h
theorem oh {c:Nat}(h:BY c=true):wi c:=by
 simp only [BY,Bool.and_eq_true] at h
 obtain ⟨⟨⟨⟨⟨⟨⟨a,b⟩,d⟩,e⟩,f⟩,g⟩,i⟩,k⟩:=h
 exact ⟨⟨neB a,neB b,neB d,neB e,neB f,neB g,neB i⟩,fun q=>by rw [q] at k; exact eq_of_beq k⟩
noncomputable def NZ (w:List Nat):Bool:=w.all fun c=>(!c6 c&&c != 92)&&(c != 123&&c != 34)
noncomputable def yw (w:List Nat):Bool:=(iu 0 w&&w.all BY)&&(w.contains 32||NZ w)
theorem wo {w:List Nat}(h:yw w=true):fV w:=by
 obtain ⟨h,c⟩:=an h
 refine ⟨⟨(an h).1,fun q=>?_⟩,fun c hc=>oh (List.all_eq_true.mp (an h).2 c hc)⟩
 rw [bF fun k=>q (List.contains_iff_mem.mp k)] at c
 have c:=List.all_eq_true.mp c
 exact ⟨fun d hd=>ar (an (an (c d hd)).1) fun a b=>⟨bN a,neB b⟩,fun d hd=>ar (an (an (c d hd)).2) fun a b=>⟨neB a,neB b⟩⟩
noncomputable def bv:List Nat:=[97,65,98,66,49,57,233,201,95,42]
noncomputable def bV:List (List Nat):=[]::(bv.map fun a=>[a])++bv.flatMap fun a=>bv.map fun b=>[a,b]
noncomputable def bT:List Wo:=[⟨[49],some 1⟩,⟨[48,49],some 1⟩,⟨[48,120,49],some 1⟩,⟨[45,49],some (-1)⟩,⟨[49,48],some 10⟩,⟨[57],some 9⟩,⟨[32,57],some 9⟩,⟨[48,66,49,49],some 3⟩,⟨[43,51],some 3⟩,⟨[45,48,111,55],some (-7)⟩,
 ⟨[49,49,56,48,53,57,49,54,50,48,55,49,55,52,49,49,51,48,51,52,50,52],some 1180591620717411303424⟩,⟨[48,88,102,70],some 255⟩,⟨[49,120],none⟩]
noncomputable def dom (mode:Nat):List Wo:=if mode=2 then bT else bV.map fun t=>⟨t,none⟩
noncomputable def GU:List (List Nat):=bT.map (·.t)++bV
theorem BZ:GU.all (fun w=>yw w&&Nat.ble w.length 22)=true:=by kernel_rfl
theorem lH {mode:Nat}{w:Wo}(h:w∈dom mode):w.t∈GU:=by
 unfold dom at h
 split at h
 ·exact List.mem_append_left _ (List.mem_map_of_mem h)
 ·exact ae (List.mem_map.mp h) fun t ht e=>e ▸ List.mem_append_right _ ht
theorem dx {mode:Nat}{w:Wo}(h:w∈dom mode):fV w.t∧w.t.length≤22:=ar (an (List.all_eq_true.mp BZ _ (lH h))) fun a b=>⟨wo a,aX b⟩
theorem wp (d c:Nat) (r:List Nat):iu d (c::r)=if c=92 then false else if c=123 then iu (d+1) r else if c=125 then (match d with | 0=>false | d+1=>iu d r) else iu d r:=rfl
theorem gl {b:List Nat}{d:Nat}:∀ {a:List Nat}{e:Nat},iu e a=true→iu (e+d) (a++b)=iu d b
 | [],e,h=>by
  obtain rfl:e=0:=of_decide_eq_true h
  rw [Nat.zero_add]; rfl
 | c::a,e,h=>by
  rw [wp] at h
  rw [List.cons_append,wp]
  split at h
  ·exact ff h
  rename_i c1
  rw [if_neg c1]
  split at h
  ·rename_i c2
   rw [if_pos c2,Nat.add_right_comm]
   exact gl h
  ·rename_i c2
   rw [if_neg c2]
   split at h
   ·rename_i c3
    rw [if_pos c3]
    cases e with
    | zero=>exact ff h
    | succ e =>
     rw [Nat.add_right_comm]
     exact gl h
   ·rename_i c3
    rw [if_neg c3,gl h]
theorem Ao {w r:List Nat}(h:iu 0 w=true):iu 0 (enc w++r)=iu 0 r:=by
 unfold enc
 split
 ·have:=gl (a:=w) (e:=0) (d:=1) (b:=125::r) h
  rw [Nat.zero_add] at this
  show iu 1 (w++[125]++r)=_
  rw [List.append_assoc]
  exact this
 ·exact gl (a:=w) (e:=0) (d:=0) (b:=r) h
theorem wq {w:List Nat}(h:∀ c∈w,wi c):∀ c∈enc w,wi c:=by
 intro c hc
 unfold enc at hc
 split at hc
 ·rcases List.mem_cons.mp hc with e | hc
  ·exact e ▸ oh rfl
  ·rcases List.mem_append.mp hc with hc | hc
   ·exact h c hc
   ·exact List.mem_singleton.mp hc ▸ oh rfl
 ·exact h c hc
theorem B0 {a b:List Nat}(ha:fV a) (hb:fV b):fV (enc a++[32]++enc b):=by
 have h2:=Ao (r:=[]) hb.1.sc
 rw [List.append_nil] at h2
 rw [List.append_assoc]
 refine ⟨⟨(Ao ha.1.sc).trans h2,fun h=>absurd (List.mem_append_right _ (.head _)) h⟩,fun c hc=>?_⟩
 rcases List.mem_append.mp hc with hc | hc
 ·exact wq ha.2 c hc
 ·rcases List.mem_cons.mp hc with e | hc
  ·exact e ▸ oh rfl
  ·exact wq hb.2 c hc
noncomputable def io (sh:Nat):V:=.lst (if sh=0 then [] else if sh=1 then [S [48]] else [S [101,110,100]])
noncomputable def aN (sh:Nat) (g:List Wo):Wo:=if sh=2 then g.getLastD ⟨[],none⟩ else g.headD ⟨[],none⟩
structure Grp (mode sh:Nat) (g:List Wo):Prop where
 w:∀ x∈g,x∈dom mode
 n:g.length=if sh=0 then 1 else 2
theorem Grp.el {mode sh:Nat}{g:List Wo}{P:Prop}(h:Grp mode sh g) (k1:∀ a,sh=0→a∈dom mode→g=[a]→P) (k2:∀ a b,sh≠0→a∈dom mode→b∈dom mode→g=[a,b]→P):P:=by
 obtain ⟨w,n⟩:=h
 by_cases q:sh=0
 ·rw [if_pos q] at n
  exact aj (List.length_eq_one_iff.mp n) fun a e=>k1 a q (w a (e ▸ .head _)) e
 ·rw [if_neg q] at n
  refine sf (List.exists_cons_of_length_eq_add_one n) fun a t e=>?_
  subst e
  refine aj (List.length_eq_one_iff.mp (Nat.succ.inj n)) fun b e=>?_
  subst e
  exact k2 a b q (w a (.head _)) (w b (.tail _ (.head _))) rfl
theorem Grp.plain {mode sh:Nat}{g:List Wo}(h:Grp mode sh g):fV (bl g)∧(bl g).length≤100 :=
 h.el (fun a _ ha e=>by subst e; exact ar (dx ha) fun h1 h2=>⟨h1,Nat.le_trans h2 (by decide)⟩) fun a b _ ha hb e=>by
  subst e
  refine ar (dx ha) fun h1 h2=>ar (dx hb) fun h3 h4=>⟨B0 h1 h3,?_⟩
  show (enc a.t++[32]++enc b.t).length≤100
  rw [List.length_append,List.length_append]
  exact Nat.le_trans (Nat.add_le_add (Nat.add_le_add (Nat.le_trans (yu _) (Nat.add_le_add_right h2 2)) (Nat.le_refl 1)) (Nat.le_trans (yu _) (Nat.add_le_add_right h4 2))) (by decide)
theorem jf {mode sh:Nat}{g:List Wo}(h:Grp mode sh g) (hs:sh<3):eq [S (bl g),io sh] (.ok (S (aN sh g).t)) :=
 h.el (fun a q ha e=>by
  subst q e
  exact goP [] rfl rfl (by kernel_rfl)) fun a b q ha hb e=>by
  have hsp:=ue (t:=bl g) [a.t,b.t] (Nat.le_trans h.plain.2 (by decide)) (by subst e; rfl) fun w hw=>(List.mem_cons.mp hw).elim (fun e=>e ▸ (dx ha).1.1) fun hw=>List.mem_singleton.mp hw ▸ (dx hb).1.1
  subst e
  rcases Nat.lt_or_ge sh 2 with q2 | q2
  ·obtain rfl:sh=1:=Nat.le_antisymm (Nat.le_of_lt_succ q2) (Nat.pos_of_ne_zero q)
   have f:fR lD 7 (at_ i8.body 0) [S [48]] [some (S (bl [a,b])),some (io 1),none,none,none,none,none] [] .next [some (S a.t),some (io 1),some (S [48]),some (.lst [S a.t,S b.t]),some (.int 1),some (.int 0),none] []:=by
    exact fE [xP 1 hsp]
   exact goP [xS 2 f] rfl rfl
  ·obtain rfl:sh=2:=Nat.le_antisymm (Nat.le_of_lt_succ hs) q2
   have f:fR lD 7 (at_ i8.body 0) [S [101,110,100]] [some (S (bl [a,b])),some (io 2),none,none,none,none,none] [] .next [some (S b.t),some (io 2),some (S [101,110,100]),some (.lst [S a.t,S b.t]),some (.int 1),some (.int 1),none] []:=by
    exact fE [xP 1 hsp]
   exact goP [xS 2 f] rfl rfl
noncomputable def Ap (a b:Int):Int:=if a<b then -1 else if b<a then 1 else 0
noncomputable def u8 (a b:List Nat):Int:=if a<b then -1 else if b<a then 1 else 0
theorem yx {a b:Int}:bJ [.int a,.int b] (.ok (.int (Ap a b))):=by
 unfold Ap
 split <;> rename_i h
 ·exact goP [xC 4 (dT h)] rfl rfl
 ·split <;> rename_i h'
  ·exact goP [xC 4 (dF h),xC 4 (dT h')] rfl rfl
  ·exact goP [xC 4 (dF h),xC 4 (dF h')] rfl rfl
theorem yy {a b:List Nat}:bJ [S a,S b] (.ok (.int (u8 a b))):=by
 unfold u8
 split <;> rename_i h
 ·exact goP [xC 4 (dT h)] rfl rfl
 ·split <;> rename_i h'
  ·exact goP [xC 4 (dF h),xC 4 (dT h')] rfl rfl
  ·exact goP [xC 4 (dF h),xC 4 (dF h')] rfl rfl
theorem seT {a b:List Nat}(h:a=b):((⟨⟨a⟩⟩:Str)==⟨⟨b⟩⟩)=true:=(El a b).trans (dT h)
theorem seF {a b:List Nat}(h:¬ a=b):((⟨⟨a⟩⟩:Str)==⟨⟨b⟩⟩)=false:=(El a b).trans (dF h)
noncomputable def lo (c:Nat):Nat:=if c=201 then 233 else if 65≤c∧c≤90 then c+32 else c
noncomputable def upN (c:Nat):Bool:=c==201||(Nat.ble 65 c&&Nat.ble c 90)
noncomputable def lwN (c:Nat):Bool:=c==233||(Nat.ble 97 c&&Nat.ble c 122)
noncomputable def chs:List Nat:=[32,42,43,45,48,49,50,51,52,53,54,55,56,57,63,65,66,70,88,91,92,93,95,97,98,102,111,120,201,233]
theorem Jz:chs.all (fun c=>(Txt.lower ⟨⟨[c]⟩⟩==⟨⟨[lo c]⟩⟩)&&((Txt.isupper ⟨⟨[c]⟩⟩==upN c)&&(Txt.islower ⟨⟨[c]⟩⟩==lwN c)))=true:=by kernel_rfl
theorem ug {c:Nat}(h:c∈chs):Txt.lower ⟨⟨[c]⟩⟩=⟨⟨[lo c]⟩⟩∧Txt.isupper ⟨⟨[c]⟩⟩=upN c∧Txt.islower ⟨⟨[c]⟩⟩=lwN c :=
 ar (an (List.all_eq_true.mp Jz c h)) fun a b=>⟨eq_of_beq a,eq_of_beq (an b).1,eq_of_beq (an b).2⟩
theorem rU {c:Nat}(h:c∈chs):eQ .lower (S [c]) []=some (S [lo c]) :=
 have e:=(ug h).1
 (congrArg Cv.v (fu (by rw [e]; rfl))).trans (congrArg (fun x=>some (V.str x)) e)
theorem P8 {c:Nat}(h:c∈chs):eQ .isupper (S [c]) []=some (.bool (upN c)):=congrArg (fun x=>some (V.bool x)) (ug h).2.1
theorem O7 {c:Nat}(h:c∈chs):eQ .islower (S [c]) []=some (.bool (lwN c)):=congrArg (fun x=>some (V.bool x)) (ug h).2.2
noncomputable abbrev foF:=fR tH 7 (at_ nR.body 1)
theorem wr {L:V}{O:List Nat}:∀ (l o:List Nat) (x y:Option V),(∀ c∈l,c∈chs)→o.length+l.length≤big→o++l.map lo=O →
  ∃ x' y',foF (l.map fun c=>S [c]) [some L,some (S o),x,y] [] .next [some L,some (S O),x',y'] []
 | [],o,x,y,hc,h,e=>⟨x,y,by rw [← e,List.map_nil (f:=lo),List.append_nil]; exact fN⟩
 | c::l,o,x,y,hc,h,e=>by
  rw [List.length_cons,← Nat.add_assoc,Nat.add_right_comm] at h
  refine P1 (wr (L:=L) (O:=O) l (o++[lo c]) (some (S [c])) (some (S [lo c])) (fun c h=>hc c (.tail _ h)) (by rw [List.length_append]; exact h) (by rw [List.append_assoc]; exact e)) fun x' y' ih=>?_
  exact fI ih [xV 1 (rU (hc c (.head _))),xV 7 (Jy (a:=o) (b:=[lo c]) (Nat.le_trans (Nat.le_add_right ..) h))]
theorem iJ {l:List Nat}(hc:∀ c∈l,c∈chs) (h:l.length≤big):kL [S l] (.ok (S (l.map lo))):=by
 refine sf (wr (L:=S l) (O:=l.map lo) l [] none none hc (by rw [List.length_nil,Nat.zero_add]; exact h) rfl) fun x' y' ih=>?_
 exact goP [xS 2 ih] rfl rfl
theorem yz {a b:List Nat}(ha:∀ c∈a,c∈chs) (hb:∀ c∈b,c∈chs) (la:a.length≤big) (lb:b.length≤big) :
  lE [S a,S b,.bool true,.int (a.length+b.length:Nat)] (.ok (.int (u8 (a.map lo) (b.map lo)))):=by
 have t1:=ua (l:=a) (i:=a.length+b.length)
 have t2:=ua (l:=b) (i:=a.length+b.length)
 rw [List.take_of_length_le (Nat.le_add_right ..)] at t1
 rw [List.take_of_length_le (Nat.le_add_left ..)] at t2
 have f1:=iJ ha la
 have f2:=iJ hb lb
 generalize a.length+b.length=n at *
 generalize a.map lo=a' at *
 generalize b.map lo=b' at *
 unfold u8
 split <;> rename_i q
 ·exact goP [xV 6 t1,xV 2 t2,xP 4 f1,xP 1 f2,xC 4 (seF fun e:a'=b'=>List.lt_irrefl b' (e ▸ q)),xC 4 (dT q)] rfl rfl
 ·split <;> rename_i q2
  ·exact goP [xV 6 t1,xV 2 t2,xP 4 f1,xP 1 f2,xC 4 (seF fun e:a'=b'=>List.lt_irrefl b' (e ▸ q2)),xC 4 (dF q)] rfl rfl
  ·obtain rfl:=List.le_antisymm (List.not_lt.mp q2) (List.not_lt.mp q)
   exact goP [xV 6 t1,xV 2 t2,xP 4 f1,xP 1 f2,xC 4 (seT (a:=a') rfl)] rfl rfl
noncomputable def B1 (c:Nat):Bool:=Nat.ble 48 c&&Nat.ble c 57
noncomputable def GV (c d:Nat):Int:=if upN c&&lwN d then -1 else if lwN c&&upN d then 1 else 0
theorem Et {c d:Nat}(hc:c∈chs) (hd:d∈chs):fb [S [c],S [d]] (.ok (.int (GV c d))):=by
 have a1:=(ug hc).2.1
 have a2:=(ug hd).2.1
 have b1:=(ug hc).2.2
 have b2:=(ug hd).2.2
 unfold GV
 generalize upN c=u1 at *
 generalize upN d=u2 at *
 generalize lwN c=l1 at *
 generalize lwN d=l2 at *
 cases u1 with
 | true=>cases l2 with
  | true=>exact goP [xC 3 a1,xC 3 b2] rfl rfl
  | false=>cases l1 with
   | true=>cases u2 with
    | true=>exact goP [xC 3 a1,xC 3 b2,xC 3 b1,xC 3 a2] rfl rfl
    | false=>exact goP [xC 3 a1,xC 3 b2,xC 3 b1,xC 3 a2] rfl rfl
   | false=>exact goP [xC 3 a1,xC 3 b2,xC 3 b1,xC 1 b1] rfl rfl
 | false=>cases l1 with
  | true=>cases u2 with
   | true=>exact goP [xC 3 a1,xC 1 a1,xC 3 b1,xC 3 a2] rfl rfl
   | false=>exact goP [xC 3 a1,xC 1 a1,xC 3 b1,xC 3 a2] rfl rfl
  | false=>exact goP [xC 3 a1,xC 1 a1,xC 3 b1,xC 1 b1] rfl rfl
noncomputable abbrev dbW:=wR gx 7 (at_ dP.body 0)
theorem pW {x y:Nat}(h:x≤y):(!d8 ⟨⟨[y]⟩⟩ ⟨⟨[x]⟩⟩)=true:=nB (dF fun k=>Nat.not_lt.mpr h (NV.mp k))
theorem oi {x y:Nat}(h:y<x):(!d8 ⟨⟨[y]⟩⟩ ⟨⟨[x]⟩⟩)=false:=nB (dT (NV.mpr h))
theorem Aq {t r:List Nat}{E:Nat}(hr:∀ c,r.head? = some c→B1 c=false):∀ (u:List Nat) (k:Nat),t.drop k=u++r→(∀ c∈u,B1 c=true)→k+u.length=E →
  Wh dbW [some (S t),some (.int k)] [] .next [some (S t),some (.int E)] []
 | [],k,h,hs,e=>by
  subst e
  cases r with
  | nil =>
   have q:=drop_nil h
   exact wE [xC 5 (ltF q),xC 1 (ltF q)]
  | cons c r =>
   refine bW (aJ (t:=t) (r:=r) h) fun h1 h2 h3=>?_
   rcases Nat.lt_or_ge c 48 with q | q
   ·exact wE [xC 5 (ltT h2),xV 2 (am h1),xC 1 (oi q)]
   ·have q2:57<c:=Nat.lt_of_not_le fun k=>ff ((hr c rfl).symm.trans (Bool.and_eq_true_iff.mpr ⟨eH q,eH k⟩))
    exact wE [xC 5 (ltT h2),xV 2 (am h1),xC 1 (pW q),xC 2 (oi q2)]
 | c::u,k,h,hs,e=>by
  refine bW (aJ h) fun h1 h2 h3=>ar (an (hs c (.head _))) fun g1 g2=>?_
  have ih:=Aq (E:=E) hr u (k+1) h3 (fun c hc=>hs c (.tail _ hc)) (by rw [← e,List.length_cons,Nat.add_assoc,Nat.add_comm 1])
  exact wI ih [xC 5 (ltT h2),xV 2 (am h1),xC 1 (pW (aX g1)),xC 2 (pW (aX g2))]
noncomputable def dg (l:List Nat):Nat:=(l.takeWhile B1).length
theorem oj {t u:List Nat}{k:Nat}(h:t.drop k=u):bk [S t,.int k] (.ok (.int (k+dg u:Nat))):=by
 have w:=Aq (t:=t) (r:=u.dropWhile B1) (E:=k+dg u) (fun c hc=>by
  have:=List.head?_dropWhile_not B1 u
  rw [hc] at this
  exact bF fun k=>by simp [k] at this) (u.takeWhile B1) k (by rw [h,List.takeWhile_append_dropWhile]) (fun c hc=>List.all_eq_true.mp List.all_takeWhile c hc) rfl
 exact goP [xS 0 w] rfl rfl
theorem As {t:List Nat}{k b c:Nat}(e:t[k]? = some c) (hc:c≠48):bK [S t,.int k,.int b] (.ok (.int k)):=by
 have w:Wh (wR fM 7 (at_ dm.body 0)) [some (S t),some (.int k),some (.int b)] [] .next [some (S t),some (.int k),some (.int b)] []:=by
  rcases Nat.lt_or_ge (k+1) b with q | q
  ·exact wE [xC 5 (ltT q),xV 2 (am e),xC 2 (cF hc)]
  ·exact wE [xC 5 (ltF q),xC 1 (ltF q)]
 exact goP [xS 0 w] rfl rfl
section
noncomputable def ll:Nat→List Nat→List Nat→Int→Int
 | 0,_,_,_=>0
 | _+1,[],[],tie=>Ap tie 0
 | _+1,[],_::_,_=>-1
 | _+1,_::_,[],_=>1
 | f+1,c::u,d::v,tie =>
  if 0<dg (c::u)∧0<dg (d::v) then
   if Ap (dg (c::u)) (dg (d::v))=0 then
    if u8 ((c::u).take (dg (c::u))) ((d::v).take (dg (d::v)))=0 then ll f ((c::u).drop (dg (c::u))) ((d::v).drop (dg (d::v))) tie else u8 ((c::u).take (dg (c::u))) ((d::v).take (dg (d::v)))
   else Ap (dg (c::u)) (dg (d::v))
  else
   if u8 [lo c] [lo d]=0 then ll f u v (if tie=0 then GV c d else tie) else u8 [lo c] [lo d]
noncomputable abbrev diW:=wR fc 7 (at_ dn.body 1)
noncomputable abbrev diM (a b:List Nat) (i j:Nat) (tie:Int) (y5 y6 y7 y8 y9:Option V):LV:=[some (S a),some (S b),some (.int i),some (.int j),some (.int tie),y5,y6,y7,y8,y9]
inductive JA (a b:List Nat) (r:Int):Fl→LV→Prop
 | rt:JA a b r (.ret (.int r)) []
 | nx (i j:Nat) (tie:Int) (y5 y6 y7 y8 y9:Option V) (e:r=(if i<a.length then 1 else if j<b.length then -1 else Ap tie 0)):JA a b r .next (diM a b i j tie y5 y6 y7 y8 y9)
theorem Kx {i p:Nat}:cC .Sub (.int ((i+p:Nat):Int)) (.int i)=some (.int p):=congrArg (fun i=>some (V.int i)) (by rw [Int.natCast_add,Int.add_comm,Int.add_sub_cancel])
theorem Ky {i:Int}:cC .Sub (.int i) (.int i)=some (.int 0):=congrArg (fun i=>some (V.int i)) (Int.sub_self i)
noncomputable abbrev diB (i:Nat) (m:LV) (G:AH):Tr Rd:=evB (evS 7 fc) ((blk (at_ dn.body 1)).drop i) m G fun f m G=>.ok (f,m,G)
noncomputable abbrev diI (els:Bool) (i:Nat) (m:LV) (G:AH):Tr Rd:=evB (evS 6 fc) ((match at_ (blk (at_ dn.body 1)) 2 with
 | .If _ b e _=>bif els then e else b
 | _=>[]).drop i) m G fun f m G=>match f with
 | .next=>diB 3 m G
 | f=>.ok (f,m,G)
section
variable {L:Rd→Prop}{a b P Q:List Nat}{i j p q c d:Nat}{tie o o':Int}{y5 y6 y7 y8 y9:Option V}
theorem P9 (h:¬ o=0) (k:L (.ret (.int o),diM a b i j tie y5 y6 y7 y8 (some (.int o)),[])):(diB 3 (diM a b i j tie y5 y6 y7 y8 (some (.int o))) []).tt L:=by
 exact goT k [xC 3 (nB (qF h))]
theorem Qa (k:L (.next,diM a b i j tie y5 y6 y7 y8 (some (.int 0)),[])):(diB 3 (diM a b i j tie y5 y6 y7 y8 (some (.int 0))) []).tt L:=by
 exact goT k []
theorem Qb (h:i<a.length) (g:j<b.length) (d1:bk [S a,.int i] (.ok (.int (i+p:Nat)))) (d2:bk [S b,.int j] (.ok (.int (j+q:Nat)))) (hp:0<p) (hq:0<q) (n1:bK [S a,.int i,.int (i+p:Nat)] (.ok (.int i))) (n2:bK [S b,.int j,.int (j+q:Nat)] (.ok (.int j))) (t3:bJ [.int p,.int q] (.ok (.int o)))
  (k:(diI false 3 (diM a b i j tie (some (.int (i+p:Nat))) (some (.int (j+q:Nat))) (some (.int i)) (some (.int j)) (some (.int o))) []).tt L):(diW (diM a b i j tie y5 y6 y7 y8 y9) []).tt L:=by
 have b1:=ltT (Nat.lt_add_of_pos_right (n:=i) hp)
 have b2:=ltT (Nat.lt_add_of_pos_right (n:=j) hq)
 exact goK k 0 [xC 5 (ltT h),xC 5 (ltT g),xP 2 d1,xP 2 d2,xC 4 b1,xC 4 b2,xP 3 n1,xP 3 n2,xV 2 (Kx (i:=i) (p:=p)),xV 2 (Kx (i:=j) (p:=q)),xP 0 t3]
theorem Qc (s1:bG (S a) (some (.int i)) (some (.int (i+p:Nat))) none=some (S P)) (s2:bG (S b) (some (.int j)) (some (.int (j+q:Nat))) none=some (S Q)) (t4:bJ [S P,S Q] (.ok (.int o)))
  (k:(diI false 4 (diM a b i j tie (some (.int (i+p:Nat))) (some (.int (j+q:Nat))) (some (.int i)) (some (.int j)) (some (.int o))) []).tt L):(diI false 3 (diM a b i j tie (some (.int (i+p:Nat))) (some (.int (j+q:Nat))) (some (.int i)) (some (.int j)) (some (.int 0))) []).tt L:=by
 exact goK k 0 [xV 7 s1,xV 3 s2,xP 0 t4]
theorem Qd (h:¬ o=0) (k:(diI false 4 (diM a b i j tie y5 y6 y7 y8 (some (.int o))) []).tt L):(diI false 3 (diM a b i j tie y5 y6 y7 y8 (some (.int o))) []).tt L:=by
 exact goK k 0 [xC 3 (qF h)]
theorem N0 (k:(diB 3 (diM a b p q tie (some (.int p)) (some (.int q)) (some (.int i)) (some (.int j)) y9) []).tt L):(diI false 4 (diM a b i j tie (some (.int p)) (some (.int q)) (some (.int i)) (some (.int j)) y9) []).tt L:=by
 by_cases z:tie=0
 ·subst z
  exact goK k 3 [xV 6 (Ky (i:=i)),xV 2 (Ky (i:=j))]
 ·exact goK k 2 [xC 3 (qF z)]
theorem Qe (h:i<a.length) (g:j<b.length) (d1:bk [S a,.int i] (.ok (.int (i+p:Nat)))) (d2:bk [S b,.int j] (.ok (.int (j+q:Nat)))) (hpq:¬ (0<p∧0<q)) (i1:aF [] (S a) (.int i)=some (S [c])) (i2:aF [] (S b) (.int j)=some (S [d]))
  (k1:eQ .lower (S [c]) []=some (S [lo c])) (k2:eQ .lower (S [d]) []=some (S [lo d])) (t:bJ [S [lo c],S [lo d]] (.ok (.int o)))
  (k:(diI true 1 (diM a b i j tie (some (.int (i+p:Nat))) (some (.int (j+q:Nat))) y7 y8 (some (.int o))) []).tt L):(diW (diM a b i j tie y5 y6 y7 y8 y9) []).tt L:=by
 have k5:∀ x:Nat,bG (S [x]) none (some (.int 1)) none=some (S [x]):=fun x=>ua (l:=[x]) (i:=1)
 have k6:=k5 (lo c)
 have k7:=k5 (lo d)
 generalize lo c=c' at *
 generalize lo d=d' at *
 cases p with
 | zero=>exact goK k 0 [xC 5 (ltT h),xC 5 (ltT g),xP 2 d1,xP 2 d2,xC 4 (ltF (Nat.le_refl i)),xC 1 (ltF (Nat.le_refl i)),xV 2 i1,xV 0 k1,xV 0 k6,xV 2 i2,xV 0 k2,xV 0 k7,xP 0 t]
 | succ p=>cases q with
  | zero =>
   have b1:=ltT (Nat.lt_add_of_pos_right (n:=i) (Nat.succ_pos p))
   exact goK k 0 [xC 5 (ltT h),xC 5 (ltT g),xP 2 d1,xP 2 d2,xC 4 b1,xC 4 (ltF (Nat.le_refl j)),xV 2 i1,xV 0 k1,xV 0 k6,xV 2 i2,xV 0 k2,xV 0 k7,xP 0 t]
  | succ q=>exact absurd ⟨Nat.succ_pos p,Nat.succ_pos q⟩ hpq
theorem Qf (i1:aF [] (S a) (.int i)=some (S [c])) (i2:aF [] (S b) (.int j)=some (S [d])) (k4:fb [S [c],S [d]] (.ok (.int o')))
  (k:(diB 3 (diM a b (i+1) (j+1) (if tie=0 then o' else tie) y5 y6 y7 y8 y9) []).tt L):(diI true 1 (diM a b i j tie y5 y6 y7 y8 y9) []).tt L:=by
 by_cases z:tie=0
 ·subst z
  exact goK k 4 [xV 6 i1,xV 2 i2,xP 0 k4]
 ·rw [if_neg z] at k
  exact goK k 4 [xC 3 (qF z)]
noncomputable def DiP (a b:List Nat) (r:Int) (N:Fl→LV→AH→Prop):Prop:=∃ j:{z:Fl × LV × AH // JA a b r z.1 z.2.1∧z.2.2=[]},N j.1.1 j.1.2.1 j.1.2.2
theorem GW {r:Int}(k:o=0→DiP a b r (Wh diW (diM a b i j tie y5 y6 y7 y8 (some (.int 0))) [])):(diB 3 (diM a b i j tie y5 y6 y7 y8 (some (.int o))) []).tt fun p=>DiP a b (if o=0 then r else o) (aft (Wh diW) p):=by
 by_cases z:o=0
 ·subst z
  exact Qa (k rfl)
 ·rw [if_neg z]
  exact P9 z ⟨⟨(.ret (.int o),[],[]),.rt,rfl⟩,rfl,rfl,rfl⟩
theorem N6 {r:Int}(s1:bG (S a) (some (.int i)) (some (.int (i+p:Nat))) none=some (S P)) (s2:bG (S b) (some (.int j)) (some (.int (j+q:Nat))) none=some (S Q)) (t4:bJ [S P,S Q] (.ok (.int o')))
  (k:DiP a b r (Wh diW (diM a b (i+p) (j+q) tie (some (.int (i+p:Nat))) (some (.int (j+q:Nat))) (some (.int i)) (some (.int j)) (some (.int 0))) [])) :
  (diI false 3 (diM a b i j tie (some (.int (i+p:Nat))) (some (.int (j+q:Nat))) (some (.int i)) (some (.int j)) (some (.int o))) []).tt fun z=>DiP a b (if o=0 then if o'=0 then r else o' else o) (aft (Wh diW) z):=by
 by_cases z:o=0
 ·subst z
  exact Qc s1 s2 t4 (N0 (GW fun _=>k))
 ·exact Qd z (N0 (GW fun q=>absurd q z))
end
noncomputable def DiL (a b:List Nat) (f:Nat):Prop:=∀ (u v:List Nat) (i j:Nat) (tie:Int) (x5 x6 x7 x8 x9:Option V),a.drop i=u→b.drop j=v→u.length<f→DiP a b (ll f u v tie) (Wh diW (diM a b i j tie x5 x6 x7 x8 x9) [])
section
variable {a b u v:List Nat}{f i j c d:Nat}{tie:Int}{x5 x6 x7 x8 x9:Option V}
theorem N7 (hu:a.drop i=[]) (hv:b.drop j=v):DiP a b (ll (f+1) [] v tie) (Wh diW (diM a b i j tie x5 x6 x7 x8 x9) []):=by
 have e1:=drop_nil hu
 refine ⟨⟨(.next,_,_),.nx i j tie x5 x6 x7 x8 x9 ?_,rfl⟩,wE [xC 5 (ltF e1),xC 1 (ltF e1)] (by kernel_rfl)⟩
 rw [if_neg (Nat.not_lt.mpr e1)]
 cases v with
 | nil=>rw [if_neg (Nat.not_lt.mpr (drop_nil hv))]; rfl
 | cons d v=>rw [if_pos (aJ hv).2.1]; rfl
theorem N8 (hu:a.drop i=c::u) (hv:b.drop j=[]):DiP a b (ll (f+1) (c::u) [] tie) (Wh diW (diM a b i j tie x5 x6 x7 x8 x9) []) :=
 have h2:=(aJ hu).2.1
 ⟨⟨(.next,_,_),.nx i j tie x5 x6 x7 x8 x9 (if_pos h2).symm,rfl⟩,wE [xC 5 (ltT h2),xC 5 (ltF (drop_nil hv))] (by kernel_rfl)⟩
theorem N9 (c1:c∈chs∧c≠48) (e1:d∈chs∧d≠48) (ih:DiL a b f) (hu:a.drop i=c::u) (hv:b.drop j=d::v) (hf:u.length<f):DiP a b (ll (f+1) (c::u) (d::v) tie) (Wh diW (diM a b i j tie x5 x6 x7 x8 x9) []):=by
 refine bW (aJ hu) fun h1 h2 h3=>bW (aJ hv) fun g1 g2 g3=>P4 ?_
 by_cases hpq:0<dg (c::u)∧0<dg (d::v)
 ·have e:ll (f+1) (c::u) (d::v) tie=_:=if_pos hpq
  rw [e]
  have s1:=li (l:=a) (i:=i) (j:=i+dg (c::u))
  have s2:=li (l:=b) (i:=j) (j:=j+dg (d::v))
  rw [hu,Nat.add_sub_cancel_left] at s1
  rw [hv,Nat.add_sub_cancel_left] at s2
  exact Qb h2 g2 (oj hu) (oj hv) hpq.1 hpq.2 (As h1 c1.2) (As g1 e1.2) yx (N6 s1 s2 yy (ih _ _ _ _ _ _ _ _ _ _ (by rw [← List.drop_drop,hu]) (by rw [← List.drop_drop,hv]) (by rw [List.length_drop]; exact Nat.lt_of_le_of_lt (Nat.sub_le_sub_left hpq.1 _) hf)))
 ·have e:ll (f+1) (c::u) (d::v) tie=_:=if_neg hpq
  rw [e]
  exact Qe h2 g2 (oj hu) (oj hv) hpq (am h1) (am g1) (rU c1.1) (rU e1.1) yy (Qf (am h1) (am g1) (Et c1.1 e1.1) (GW fun _=>ih _ _ _ _ _ _ _ _ _ _ h3 g3 hf))
end
theorem Eu {a b:List Nat}(ha:∀ c∈a,c∈chs∧c≠48) (hb:∀ c∈b,c∈chs∧c≠48) (f:Nat):DiL a b f:=by
 induction f with
 | zero=>exact fun _ _ _ _ _ _ _ _ _ _ _ _ h=>absurd h (Nat.not_lt_zero _)
 | succ f ih =>
  intro u v i j tie x5 x6 x7 x8 x9 hu hv hf
  cases u with
  | nil=>exact N7 hu hv
  | cons c u=>cases v with
   | nil=>exact N8 hu hv
   | cons d v=>exact N9 (ha c (List.mem_of_getElem? (aJ hu).1)) (hb d (List.mem_of_getElem? (aJ hv).1)) ih hu hv (Nat.lt_of_succ_lt_succ hf)
theorem Ev {a b:List Nat}(ha:∀ c∈a,c∈chs∧c≠48) (hb:∀ c∈b,c∈chs∧c≠48):gI [S a,S b] (.ok (.int (ll (a.length+1) a b 0))):=by
 refine je (Eu ha hb (a.length+1) a b 0 0 0 none none none none none rfl rfl (Nat.lt_succ_self _)) fun g m G hE w=>?_
 obtain rfl:G=[]:=hE.2
 replace hE:JA a b _ g m:=hE.1
 generalize ll (a.length+1) a b 0=r at *
 cases hE with
 | rt=>exact goP [xS 0 w] rfl rfl
 | nx i j tie y5 y6 y7 y8 y9 e =>
  by_cases q:i<a.length
  ·rw [if_pos q] at e
   subst e
   exact goP [xS 0 w,xC 5 (ltT q)] rfl rfl
  ·rw [if_neg q] at e
   by_cases q2:j<b.length
   ·rw [if_pos q2] at e
    subst e
    exact goP [xS 0 w,xC 5 (ltF (Nat.not_lt.mp q)),xC 5 (ltT q2)] rfl rfl
   ·rw [if_neg q2] at e
    subst e
    exact goP [xS 0 w,xC 5 (ltF (Nat.not_lt.mp q)),xC 5 (ltF (Nat.not_lt.mp q2)),xP 1 (yx (a:=tie) (b:=0))] rfl rfl
end
noncomputable def Ew:Nat→List Nat→List Int × List Int
 | 0,_=>([],[])
 | _+1,[]=>([],[])
 | f+1,c::u=>if B1 c then (48::((((c::u).take (dg (c::u))).foldl (fun n d=>10*n+(d - 48)) 0:Nat):Int)::(Ew f ((c::u).drop (dg (c::u)))).1,0::(Ew f ((c::u).drop (dg (c::u)))).2)
  else ((lo c:Int)::0::(Ew f u).1,(if upN c then 0 else 1)::(Ew f u).2)
noncomputable def lI (t:List Nat):List Int:=(Ew (t.length+1) t).1++-1::(Ew (t.length+1) t).2
noncomputable def cK (mode:Nat) (nc:Bool) (w:Wo):List Int :=
 if mode=2 then [w.n.getD 0] else if mode=1 then lI w.t else w.t.map fun c=>if nc then (lo c:Int) else (c:Int)
noncomputable def cL:List Int→List Int→Int
 | [],[]=>0
 | [],_::_=>-1
 | _::_,[]=>1
 | a::as,b::bs=>if a=b then cL as bs else if a<b then -1 else 1
theorem wu:∀ {vs:List V}{l:List Int},eM vs=some l→vs=l.map .int
 | [],l,h=>sj h ▸ rfl
 | v::vs,l,h=>by
  cases v with
  | int i=>exact gh h fun r hr e=>by rw [← e,wu hr]; rfl
  | _=>exact nS h
noncomputable def isL (l:List Int):Option Res→Bool
 | some (.ok (.lst vs))=>eM vs==some l
 | _=>false
theorem uh {l:List Int}{r:Option Res}(h:isL l r=true):r=some (.ok (.lst (l.map .int))):=by
 unfold isL at h
 split at h
 ·rw [wu (eq_of_beq h)]
 ·exact ff h
theorem Ex:bV.all (fun t=>isL (lI t) (zN false fO dp [S t]))=true:=by kernel_rfl
theorem B2 {t:List Nat}(h:t∈bV):dq [S t] (.ok (.lst ((lI t).map .int))):=gR (uh (List.all_eq_true.mp Ex t h))
theorem B3:(bV.all fun a=>bV.all fun b=>ll (a.length+1) a b 0==cL (lI a) (lI b))=true:=by kernel_rfl
theorem Ey:bV.all (fun a=>Nat.ble a.length 2&&a.all fun c=>chs.contains c&&c != 48)=true:=by kernel_rfl
theorem jg {a:List Nat}(h:a∈bV):a.length≤2∧∀ c∈a,c∈chs∧c≠48 :=
 ar (an (List.all_eq_true.mp Ey a h)) fun p q=>⟨aX p,fun c hc=>ar (an (List.all_eq_true.mp q c hc)) fun r s=>⟨List.contains_iff_mem.mp r,neB s⟩⟩
theorem Qg {a b:Nat}:nu [] ⟨⟨[109,105,110]⟩⟩ [.int a,.int b]=some (.int (min a b:Nat)):=congrArg (fun i=>some (V.int i)) (by show (if (b:Int)<a then (b:Int) else a)=_; split <;> lia)
theorem bR {a b:Nat}(hb:b≤big) (ha:a≤big):nz (.rng a b)=some ((List.range' a (b - a)).map fun i=>.int (i:Nat)):=by
 have e:CJ a b=true:=Bool.and_eq_true_iff.mpr ⟨Bool.and_eq_true_iff.mpr ⟨eH (Nat.le_trans ha (by decide)),eH (Nat.le_trans hb (by decide))⟩,eH (by rw [Int.toNat_sub]; exact Nat.le_trans (Nat.sub_le ..) hb)⟩
 have h:(cV a b).map V.int=(List.range' a (b - a)).map fun i=>.int (i:Nat):=by
  unfold cV
  rw [Int.toNat_sub,List.map_map,List.range'_eq_map_range,List.map_map]
  rfl
 exact (congrArg Cv.v (fu e)).trans (congrArg some h)
noncomputable def ft (mode:Nat):List Nat:=if mode=0 then [97,115,99,105,105] else if mode=1 then [100,105,99,116,105,111,110,97,114,121] else [105,110,116,101,103,101,114]
noncomputable def fw (mode:Nat) (w:Wo):V:=if mode=2 then .int (w.n.getD 0) else S w.t
structure cw (mode:Nat) (w:Wo):Prop where
 d:w∈dom mode
 k:mode=2→w.n.isSome=true
theorem dy {mode:Nat}{w:Wo}(h:w∈dom mode) (hm:mode≠2):w.t∈bV∧w.n=none:=by
 unfold dom at h
 rw [if_neg hm] at h
 exact ae (List.mem_map.mp h) fun t ht e=>e ▸ ⟨ht,rfl⟩
noncomputable def isN (i:Int):Option Res→Bool
 | some (.ok (.int j))=>i==j
 | _=>false
theorem Mc {i:Int}{r:Option Res}(h:isN i r=true):r=some (.ok (.int i)):=by
 unfold isN at h
 split at h
 ·rw [eq_of_beq h]
 ·exact ff h
theorem JB:(bT.all fun w=>w.n.isNone||isN (w.n.getD 0) (zN false tw nO [S (ft 2),S w.t]))=true:=by kernel_rfl
theorem tri {m:Nat}{P:Prop}(h:m<3) (k0:m=0→P) (k1:m=1→P) (k2:m=2→P):P :=
 match m,h,k0,k1,k2 with
 | 0,_,k,_,_=>k rfl
 | 1,_,_,k,_=>k rfl
 | 2,_,_,_,k=>k rfl
theorem lp {mode:Nat}{w:Wo}(h:cw mode w) (hm:mode<3):cE [S (ft mode),S w.t] (.ok (fw mode w)) :=
 tri hm (fun e=>by subst e; exact goP [] rfl rfl (by kernel_rfl)) (fun e=>by subst e; exact goP [] rfl rfl (by kernel_rfl)) fun e=>by
  subst e
  have k:=List.all_eq_true.mp JB w h.d
  rw [Option.isNone_eq_false_iff.mpr (h.k rfl)] at k
  exact gR (Mc k)
noncomputable def bu:V:=.tup ([[84,67,76],[86,65,76,85,69],[78,85,77,66,69,82]].map S)
noncomputable def cc (t:List Nat):List Nat:=[101,120,112,101,99,116,101,100,32,105,110,116,101,103,101,114,32,98,117,116,32,103,111,116,32,34]++t++[34]
noncomputable def At:List Str:=[⟨⟨[99,111,100,101]⟩⟩,⟨⟨[118,97,108,117,101]⟩⟩,⟨⟨[101,114,114,111,114,99,111,100,101]⟩⟩,⟨⟨[108,101,118,101,108]⟩⟩,⟨⟨[114,101,116]⟩⟩,⟨⟨[105,110,102,111]⟩⟩,⟨⟨[105,115,95,110,111,116,101,100]⟩⟩,⟨⟨[108,105,110,101]⟩⟩,⟨⟨[101,120,116,114,97]⟩⟩]
noncomputable def Au (why:List Nat) (code:V):List V:=[.int 1,S why,code,.int 0,.int 0,S [],.bool false,.int 0,.lst []]
theorem C6:cE [S (ft 2),S [49,120]] (.ex At (Au (cc [49,120]) bu)):=gR
theorem ui:∀ a b:List Nat,u8 a b=cL (a.map fun c:Nat=>(c:Int)) (b.map fun c:Nat=>(c:Int))
 | [],[]=>rfl
 | [],b::bs=>if_pos (.nil)
 | a::as,[]=>(if_neg nofun).trans (if_pos .nil)
 | a::as,b::bs=>by
  have ih:=ui as bs
  unfold u8 at ih ⊢
  rw [List.map_cons,List.map_cons,cL,← ih]
  simp only [List.cons_lt_cons_iff]
  rcases Nat.lt_trichotomy a b with h | h | h
  ·rw [if_pos (.inl h),if_neg (fun e=>Nat.ne_of_lt h (Int.ofNat_inj.mp e)),if_pos (Int.ofNat_lt.mpr h)]
  ·subst h; simp
  ·rw [if_neg (fun e=>e.elim (Nat.lt_asymm h) fun e=>Nat.ne_of_gt h e.1),if_pos (.inl h),if_neg (fun e=>Nat.ne_of_gt h (Int.ofNat_inj.mp e)),if_neg (fun e=>Nat.lt_asymm h (Int.ofNat_lt.mp e))]
theorem GX (a b:Int):Ap a b=cL [a] [b]:=by
 unfold Ap cL cL
 rcases Int.lt_trichotomy a b with h | h | h
 ·rw [if_pos h,if_neg (Int.ne_of_lt h),if_pos h]
 ·subst h; rw [if_neg (Int.lt_irrefl a),if_neg (Int.lt_irrefl a),if_pos rfl]
 ·rw [if_neg (Int.lt_asymm h),if_pos h,if_neg (Int.ne_of_gt h),if_neg (Int.lt_asymm h)]
theorem om {mode:Nat}{nc:Bool}{w v:Wo}(hw:cw mode w) (hv:cw mode v) (hm:mode<3) :
  bP [S (ft mode),.bool nc,fw mode w,fw mode v] (.ok (.int (cL (cK mode nc w) (cK mode nc v)))) :=
 tri hm (fun e=>by
  subst e
  have h1:=jg (dy hw.d (by decide)).1
  have h2:=jg (dy hv.d (by decide)).1
  cases nc with
  | false =>
   have t:=yy (a:=w.t) (b:=v.t)
   rw [ui] at t
   exact goP [xP 11 t] rfl rfl
  | true =>
   have hc:=yz (fun c hc=>(h1.2 c hc).1) (fun c hc=>(h2.2 c hc).1) (Nat.le_trans h1.1 (by decide)) (Nat.le_trans h2.1 (by decide))
   rw [ui,List.map_map,List.map_map] at hc
   exact goP [xP 18 hc] rfl rfl (by kernel_rfl)) (fun e=>by
  subst e
  have h1:=(dy hw.d (by decide)).1
  have h2:=(dy hv.d (by decide)).1
  have hd:=Ev (jg h1).2 (jg h2).2
  rw [eq_of_beq (List.all_eq_true.mp (List.all_eq_true.mp B3 _ h1) _ h2)] at hd
  exact goP [xP 6 hd] rfl rfl (by kernel_rfl)) fun e=>by
  subst e
  have t:=yx (a:=w.n.getD 0) (b:=v.n.getD 0)
  rw [GX] at t
  cases nc with
  | false=>exact goP [xP 11 t] rfl rfl
  | true=>exact goP [xP 13 t] rfl rfl
noncomputable def qY:List Int→List Int→Option Int
 | a::as,b::bs=>if a=b then qY as bs else some (if a<b then -1 else 1)
 | _,_=>none
theorem ww:∀ {a b:List Int},qY a b=none→cL a b=if a.length=b.length then 0 else if a.length<b.length then -1 else 1
 | [],[],_=>rfl
 | [],_::_,_=>rfl
 | _::_,[],_=>rfl
 | a::as,b::bs,h=>by
  unfold qY at h
  split at h
  ·rename_i e
   rw [cL,if_pos e,ww h,List.length_cons,List.length_cons]
   simp only [Nat.add_right_cancel_iff,Nat.add_lt_add_iff_right]
  ·exact sN h
theorem wx {o:Int}:∀ {a b:List Int},qY a b=some o→cL a b=o
 | [],[],h=>nS h
 | [],_::_,h=>nS h
 | _::_,[],h=>nS h
 | a::as,b::bs,h=>by
  unfold qY at h
  split at h
  ·rename_i e
   rw [cL,if_pos e,wx h]
  ·rename_i e
   rw [cL,if_neg e,sj h]
noncomputable abbrev loF:=fR kO 7 (at_ gj.body 0)
theorem qZ {a b:List Int}:∀ (n k:Nat) (u v:List Int) (x:Option V),a.drop k=u→b.drop k=v→n=min u.length v.length →
  ∃ f m,((qY u v=none∧f=.next∧∃ x,m=[some (.lst (a.map .int)),some (.lst (b.map .int)),x])∨∃ o,qY u v=some o∧f=.ret (.int o)∧m=[]) ∧
   loF ((List.range' k n).map fun i=>.int (i:Nat)) [some (.lst (a.map .int)),some (.lst (b.map .int)),x] [] f m []
 | _,k,[],v,x,hu,hv,hn=>⟨_,_,.inl ⟨by cases v <;> rfl,rfl,x,rfl⟩,by rw [hn,List.length_nil,Nat.zero_min]; exact fN⟩
 | _,k,_::_,[],x,hu,hv,hn=>⟨_,_,.inl ⟨rfl,rfl,x,rfl⟩,by rw [hn,List.length_nil,Nat.min_zero]; exact fN⟩
 | 0,k,c::u,d::v,x,hu,hv,hn=>by rw [List.length_cons,List.length_cons,Nat.succ_min_succ] at hn; cases hn
 | n+1,k,c::u,d::v,x,hu,hv,hn=>by
  have q1:a[k]? = some c:=by have:=congrArg List.head? hu; rw [List.head?_drop] at this; exact this
  have q2:b[k]? = some d:=by have:=congrArg List.head? hv; rw [List.head?_drop] at this; exact this
  have i1:=t7 (vs:=a.map V.int) (k:=k) (v:=.int c) (by rw [List.getElem?_map,q1]; rfl)
  have i2:=t7 (vs:=b.map V.int) (k:=k) (v:=.int d) (by rw [List.getElem?_map,q2]; rfl)
  rw [List.length_cons,List.length_cons,Nat.succ_min_succ] at hn
  rw [List.range'_succ,List.map_cons]
  unfold qY
  split <;> rename_i h
  ·subst h
   refine P2 (qZ (a:=a) (b:=b) n (k+1) u v (some (.int k)) (by rw [← List.drop_drop,hu]; rfl) (by rw [← List.drop_drop,hv]; rfl) (Nat.succ.inj hn)) fun f m w=>?_
   exact fI w [xV 2 i1,xV 2 i2,xC 2 (nB (qT (i:=c) rfl))]
  ·refine ⟨_,_,.inr ⟨_,rfl,rfl,rfl⟩,?_⟩
   split <;> rename_i h'
   ·exact fE [xV 2 i1,xV 2 i2,xC 2 (nB (qF h)),xV 2 i1,xV 2 i2,xC 2 (dT h')]
   ·exact fE [xV 2 i1,xV 2 i2,xC 2 (nB (qF h)),xV 2 i1,xV 2 i2,xC 2 (dF h')]
theorem q5 {a b:List Int}(la:a.length≤big) (lb:b.length≤big):eu [.lst (a.map .int),.lst (b.map .int)] (.ok (.int (cL a b))):=by
 refine cN (qZ (min a.length b.length) 0 a b none rfl rfl rfl) fun f m hE w=>?_
 have p1:=a8 (f:=V.int) (fun _=>rfl) a
 have p2:=a8 (f:=V.int) (fun _=>rfl) b
 have pp:(V.puL [.lst (a.map .int),.lst (b.map .int)]&&bo gj [.lst (a.map .int),.lst (b.map .int)])=true:=by rw [V.puL,V.pu,p1,V.puL,V.pu,p2]; rfl
 have it:=bR (a:=0) (b:=min a.length b.length) (Nat.le_trans (Nat.min_le_left ..) la) (Nat.zero_le _)
 have l1:=List.length_map (as:=a) V.int
 have l2:=List.length_map (as:=b) V.int
 have mn:=(Qg (a:=(a.map V.int).length) (b:=(b.map V.int).length)).trans (show _=some (V.int (min a.length b.length:Nat)) by rw [l1,l2])
 rcases hE with ⟨e,e1,x,e2⟩ | ⟨o,e,e1,e2⟩
 ·rw [e1,e2] at w
  rw [ww e]
  split <;> rename_i q
  ·exact goP [xV 4 mn,xL 1 it,xS 0 w,xC 6 (nT (l1.trans (q.trans l2.symm)))] pp rfl
  ·have q':=nF (fun h=>q (l1.symm.trans (h.trans l2)))
   split <;> rename_i q2
   ·exact goP [xV 4 mn,xL 1 it,xS 0 w,xC 6 q',xC 6 (ltT (Nat.lt_of_lt_of_eq (Nat.lt_of_le_of_lt (Nat.le_of_eq l1) q2) l2.symm))] pp rfl
   ·exact goP [xV 4 mn,xL 1 it,xS 0 w,xC 6 q',xC 6 (ltF (Nat.le_trans (Nat.le_of_eq l2) (Nat.le_trans (Nat.not_lt.mp q2) (Nat.le_of_eq l1.symm))))] pp rfl
 ·rw [e1,e2] at w
  rw [wx e]
  exact goP [xV 4 mn,xL 1 it,xS 0 w] pp rfl
noncomputable def JC (mode:Nat) (nc:Bool) (w:Wo):Bool:=isL (cK mode nc w) (zN false pz i9 [.int mode,.bool nc,w.v])
theorem Oa:(dom 0).all (fun w=>JC 0 false w&&JC 0 true w)=true:=by kernel_rfl
theorem Oc:bT.all (fun w=>w.n.isNone||(JC 2 false w&&JC 2 true w))=true:=by kernel_rfl
theorem jh {mode:Nat}{nc:Bool}{w:Wo}(hw:cw mode w) (hm:mode<3):ch [.int mode,.bool nc,w.v] (.ok (.lst ((cK mode nc w).map .int))) :=
 tri hm (fun e=>by
  subst e
  have k:=an (List.all_eq_true.mp Oa w hw.d)
  cases nc with
  | false=>exact gR (uh k.1)
  | true=>exact gR (uh k.2)) (fun e=>by
  subst e
  have hd:=B2 (dy hw.d (by decide)).1
  have pv:(V.puL [.int (1:Nat),.bool nc,w.v]&&bo i9 [.int (1:Nat),.bool nc,w.v])=true:=by rw [V.puL,V.puL,V.puL,og]; rfl
  have pr:(Res.ok (.lst ((cK 1 nc w).map .int))).pu=true:=a8 (f:=V.int) (fun _=>rfl) _
  exact goP [xP 11 hd] pv pr (by kernel_rfl)) fun e=>by
  subst e
  have k:=List.all_eq_true.mp Oc w hw.d
  rw [Option.isNone_eq_false_iff.mpr (hw.k rfl)] at k
  have k:=an k
  cases nc with
  | false=>exact gR (uh k.1)
  | true=>exact gR (uh k.2)
theorem gY (a b:Int) (as bs:List Int):cL (a::as) (b::bs)=if a=b then cL as bs else if a<b then -1 else 1:=rfl
theorem pX:∀ a:List Int,cL a a=0
 | []=>rfl
 | a::as=>by rw [gY,if_pos rfl,pX as]
theorem C7:∀ {a b:List Int},cL a b=0→a=b
 | [],[],_=>rfl
 | [],_::_,h=>nomatch h
 | _::_,[],h=>nomatch h
 | a::as,b::bs,h=>by
  rw [gY] at h
  split at h
  ·rename_i e; rw [e,C7 h]
  ·split at h <;> cases h
theorem ji:∀ a b:List Int,cL b a=- cL a b
 | [],[]=>rfl
 | [],_::_=>rfl
 | _::_,[]=>rfl
 | a::as,b::bs=>by
  rw [gY,gY]
  rcases Int.lt_trichotomy a b with h | h | h
  ·rw [if_neg (Int.ne_of_gt h),if_neg (Int.lt_asymm h),if_neg (Int.ne_of_lt h),if_pos h]; rfl
  ·subst h; rw [if_pos rfl,if_pos rfl,ji as bs]
  ·rw [if_neg (Int.ne_of_lt h),if_pos h,if_neg (Int.ne_of_gt h),if_neg (Int.lt_asymm h)]
theorem mF:∀ {a b c:List Int},cL a b≤0→cL b c≤0→cL a c≤0
 | [],b,[],_,_=>Int.le_refl 0
 | [],b,_::_,_,_=>(by decide:(-1:Int)≤0)
 | _::_,[],c,h,_=>absurd h (by decide:¬ (1:Int)≤0)
 | _::_,_::_,[],_,h=>absurd h (by decide:¬ (1:Int)≤0)
 | a::as,b::bs,c::cs,h,h'=>by
  rw [gY] at h h' ⊢
  split at h
  ·rename_i e
   subst e
   split at h'
   ·rename_i e
    rw [if_pos e]
    exact mF h h'
   ·rename_i n
    rw [if_neg n]
    exact h'
  ·rename_i n
   split at h
   ·rename_i l
    split at h'
    ·rename_i e
     subst e
     rw [if_neg n,if_pos l]; decide
    ·split at h'
     ·rename_i l2
      rw [if_neg (Int.ne_of_lt (Int.lt_trans l l2)),if_pos (Int.lt_trans l l2)]; decide
     ·exact absurd h' (by decide)
   ·exact absurd h (by decide)
noncomputable def gm (mode:Nat) (nc dec:Bool) (w v:Wo):Int:=if dec then - cL (cK mode nc w) (cK mode nc v) else cL (cK mode nc w) (cK mode nc v)
noncomputable def gn (mode:Nat) (nc dec:Bool) (sh:Nat):V:=.tup [S (ft mode),.bool nc,.bool dec,.lst [],io sh]
theorem on (sh:Nat):(io sh).pu=true:=by unfold io; split; rfl; split <;> rfl
theorem Av {mode:Nat}(hm:mode<3):¬ ft mode=[99,111,109,109,97,110,100] :=
 tri hm (fun e=>by subst e; decide) (fun e=>by subst e; decide) (fun e=>by subst e; decide)
theorem oo (mode:Nat) (w:Wo):(fw mode w).pu=true:=by unfold fw; split <;> rfl
theorem yA {mode:Nat}{nc dec:Bool}{sh:Nat}:(gn mode nc dec sh).pu=true:=by rw [gn,V.pu,V.puL,V.puL,V.puL,V.puL,V.puL,on]; rfl
theorem B4 {mode sh:Nat}{nc dec:Bool}{w v:Wo}(hw:cw mode w) (hv:cw mode v) (hm:mode<3) :
  hY [.none,fw mode w,fw mode v,gn mode nc dec sh] (.ok (.int (gm mode nc dec w v))):=by
 have hc:=om (nc:=nc) hw hv hm
 have hp:(V.puL [.none,fw mode w,fw mode v,gn mode nc dec sh]&&bo jE [.none,fw mode w,fw mode v,gn mode nc dec sh])=true:=by rw [V.puL,V.puL,V.puL,V.puL,oo,oo,yA]; rfl
 cases dec with
 | false=>exact goP [xC 5 (seF (Av hm)),xP 4 hc] hp rfl
 | true=>exact goP [xC 5 (seF (Av hm)),xP 4 hc] hp rfl
section
theorem jO {α:Type} (l:List α) (lo hi:Option Int):a6 l lo hi none=(l.drop (lo.elim 0 (clipAt l.length))).take (hi.elim l.length (clipAt l.length) - lo.elim 0 (clipAt l.length)):=by
 unfold a6
 rw [sliceBounds_plain]
 simp only [sliceRange_one]
 have:=pick_run l.toArray (lo.elim 0 (clipAt l.length)) (hi.elim l.length (clipAt l.length) - lo.elim 0 (clipAt l.length))
 simpa using this
theorem mG {n a:Nat}:clipAt n (a:Int)=min a n:=by
 unfold clipAt
 rw [if_neg (Int.not_lt.mpr (Int.natCast_nonneg a))]
 rcases Nat.le_total a n with h | h
 ·rw [Int.min_eq_left (Int.ofNat_le.mpr h),Nat.min_eq_left h,Int.max_eq_right (Int.natCast_nonneg _),Int.toNat_natCast]
 ·rw [Int.min_eq_right (Int.ofNat_le.mpr h),Nat.min_eq_right h,Int.max_eq_right (Int.natCast_nonneg _),Int.toNat_natCast]
theorem Aw {α:Type} (l:List α) (a:Nat):a6 l (some (a:Int)) none none=l.drop a:=by
 rw [jO]
 simp only [Option.elim,mG]
 rw [t9,List.take_of_length_le]
 rw [List.length_drop]
 exact Nat.sub_le_sub_left (Nat.min_le_left ..) _
theorem Ez {α:Type} (l:List α) (a:Nat):a6 l none (some (a:Int)) none=l.take a:=by
 rw [jO]
 simp only [Option.elim,mG,List.drop_zero,Nat.sub_zero]
 rcases Nat.lt_or_ge a l.length with q | q
 ·rw [Nat.min_eq_left (Nat.le_of_lt q)]
 ·rw [Nat.min_eq_right q,List.take_of_length_le (Nat.le_refl _),List.take_of_length_le q]
theorem B5 {α:Type} (l:List α) (a b:Nat):a6 l (some (a:Int)) (some (b:Int)) none=(l.drop a).take (b - a):=by
 rw [jO]
 simp only [Option.elim,mG]
 rcases Nat.lt_or_ge a l.length with q | q
 ·rw [Nat.min_eq_left (Nat.le_of_lt q)]
  rcases Nat.lt_or_ge b l.length with q' | q'
  ·rw [Nat.min_eq_left (Nat.le_of_lt q')]
  ·rw [Nat.min_eq_right q',List.take_of_length_le (by rw [List.length_drop]; exact Nat.le_refl _),List.take_of_length_le (by rw [List.length_drop]; exact Nat.sub_le_sub_right q' a)]
 ·rw [t9,List.drop_of_length_le q,List.take_nil,List.take_nil]
section
variable {vs:List V}{i j:Nat}
theorem uj (h:(vs.drop i).length≤big):bG (.lst vs) (some (.int i)) none none=some (.lst (vs.drop i)) :=
 have e:=Aw vs i
 have k:=eH (e ▸ h)
 have q:∀ P:SlS (.lst vs) (some (.int i)) none none (.lst (a6 vs (some (i:Int)) none none)),Cv.v (P:=SlS (.lst vs) (some (.int i)) none none) (wh (Nat.ble (a6 vs (some (i:Int)) none none).length big) fun hn=>yes (.lst (a6 vs (some (i:Int)) none none)) P)=some (.lst (vs.drop i)):=fun P=>(congrArg Cv.v (fu k)).trans (congrArg (fun x=>some (V.lst x)) e)
 q (fun {_ _ _ _ _ _ _ _ _ _ _ _ _ _}=>sR (lo:=(some (i:Int))) (hi:=none) (k:=none) rfl rfl rfl nofun k)
theorem GY (h:(vs.take i).length≤big):bG (.lst vs) none (some (.int i)) none=some (.lst (vs.take i)) :=
 have e:=Ez vs i
 have k:=eH (e ▸ h)
 have q:∀ P:SlS (.lst vs) none (some (.int i)) none (.lst (a6 vs none (some (i:Int)) none)),Cv.v (P:=SlS (.lst vs) none (some (.int i)) none) (wh (Nat.ble (a6 vs none (some (i:Int)) none).length big) fun hn=>yes (.lst (a6 vs none (some (i:Int)) none)) P)=some (.lst (vs.take i)):=fun P=>(congrArg Cv.v (fu k)).trans (congrArg (fun x=>some (V.lst x)) e)
 q (fun {_ _ _ _ _ _ _ _ _ _ _ _ _ _}=>sR (lo:=none) (hi:=(some (i:Int))) (k:=none) rfl rfl rfl nofun k)
theorem GZ (h:((vs.drop i).take (j - i)).length≤big):bG (.lst vs) (some (.int i)) (some (.int j)) none=some (.lst ((vs.drop i).take (j - i))) :=
 have e:=B5 vs i j
 have k:=eH (e ▸ h)
 have q:∀ P:SlS (.lst vs) (some (.int i)) (some (.int j)) none (.lst (a6 vs (some (i:Int)) (some (j:Int)) none)),Cv.v (P:=SlS (.lst vs) (some (.int i)) (some (.int j)) none) (wh (Nat.ble (a6 vs (some (i:Int)) (some (j:Int)) none).length big) fun hn=>yes (.lst (a6 vs (some (i:Int)) (some (j:Int)) none)) P)=some (.lst ((vs.drop i).take (j - i))):=fun P=>(congrArg Cv.v (fu k)).trans (congrArg (fun x=>some (V.lst x)) e)
 q (fun {_ _ _ _ _ _ _ _ _ _ _ _ _ _}=>sR (lo:=(some (i:Int))) (hi:=(some (j:Int))) (k:=none) rfl rfl rfl nofun k)
end
theorem uk {G:AH}{i:Nat}{l us:List V}(e:G[i]? = some (.list l)) (h:l.length+us.length≤big):nC G (.ref i) (oX .extend) [.lst us]=some (G.set i (.list (l++us))):=by
 have k:oX .extend l [.lst us]=some (l++us):=congrArg Cv.v (fu (eH h))
 unfold nC
 dsimp only
 rw [e]
 dsimp only
 rw [k]
noncomputable def bx (K:Nat→V) (p:Nat):V:=.tup [K p,.int p]
structure Od (K:Nat→V) (R:V) (o:Nat→Nat→Int) (N:Nat):Prop where
 pu:∀ p,(K p).pu=true
 pr:R.pu=true
 h:∀ p q,p<N→q<N→hY [.none,K p,K q,R] (.ok (.int (o p q)))
 tr:∀ a b c,o a b≤0→o b c≤0→o a c≤0
 to:∀ a b,o a b≤0∨o b a≤0
 n:N≤1000
noncomputable abbrev leB (o:Nat→Nat→Int) (a b:Nat):Bool:=decide (o a b≤0)
noncomputable abbrev Lt (N:Nat) (l:List Nat):Prop:=∀ p∈l,p<N
section
variable {K:Nat→V}{R:V}{o:Nat→Nat→Int}{N:Nat}
theorem Od.pair (d:Od K R o N) (p:Nat):(bx K p).pu=true:=by rw [bx,V.pu,V.puL,d.pu]; rfl
theorem Oe {A:List Nat}{k p:Nat}(h:A[k]? = some p):(A.map (bx K))[k]? = some (bx K p):=by rw [List.getElem?_map,h]; rfl
theorem oq {A:List Nat}:(A.map (bx K)).length=A.length:=List.length_map ..
noncomputable abbrev meW:=wR tJ 7 (at_ kN.body 2)
noncomputable abbrev meM (K:Nat→V) (R:V) (A B:List Nat) (i j:Nat) (x:Option V):LV:=[some .none,some (.lst (A.map (bx K))),some (.lst (B.map (bx K))),some R,some (.bool false),some (.ref 0),some (.int i),some (.int j),x]
theorem mH (d:Od K R o N) {A B:List Nat}(hA:Lt N A) (hB:Lt N B):∀ (n:Nat) (l r:List Nat) (i j:Nat) (c:List Nat) (x:Option V),A.drop i=l→B.drop j=r→l.length+r.length=n→c.length+n≤big →
  ∃ (i' j':Nat) (c':List Nat) (x':Option V),c'++(A.drop i'++B.drop j')=c++List.merge l r (leB o)∧Wh meW (meM K R A B i j x) [.list (c.map (bx K))] .next (meM K R A B i' j' x') [.list (c'.map (bx K))]
 | n,[],r,i,j,c,x,hl,hr,hn,hO=>by
  have q:=drop_nil (hl.trans rfl)
  refine ⟨i,j,c,x,by rw [hl,hr,List.nil_merge,List.nil_append],?_⟩
  exact wE [xC 5 (ltF (Nat.le_trans (Nat.le_of_eq (oq (K:=K))) q)),xC 1 (ltF (Nat.le_trans (Nat.le_of_eq (oq (K:=K))) q))]
 | n,p::l,[],i,j,c,x,hl,hr,hn,hO=>by
  refine bW (aJ hl) fun h1 h2 h3=>?_
  have q:=drop_nil (hr.trans rfl)
  refine ⟨i,j,c,x,by rw [hl,hr,List.merge_right,List.append_nil],?_⟩
  exact wE [xC 5 (ltT (Nat.lt_of_lt_of_eq h2 (oq (K:=K)).symm)),xC 5 (ltF (Nat.le_trans (Nat.le_of_eq (oq (K:=K))) q))]
 | 0,p::l,q::r,i,j,c,x,hl,hr,hn,hO=>nomatch hn
 | n+1,p::l,q::r,i,j,c,x,hl,hr,hn,hO=>by
  refine bW (aJ hl) fun h1 h2 h3=>bW (aJ hr) fun g1 g2 g3=>?_
  have ho:=d.h p q (hA p (List.mem_of_getElem? h1)) (hB q (List.mem_of_getElem? g1))
  rw [← Nat.add_assoc,Nat.add_right_comm] at hO
  have hO':∀ z,(c++[z]).length+n≤big:=fun z=>by rw [List.length_append]; exact hO
  have pa:=fun z=>bf (G:=[.list (c.map (bx K))]) (i:=0) (v:=bx K z) rfl (by rw [oq]; exact Nat.le_trans (Nat.le_add_right ..) hO)
  have ea:∀ z,(c++[z]).map (bx K)=c.map (bx K)++[bx K z]:=fun z=>List.map_append
  have i1:=bS [.list (c.map (bx K))] (Oe (K:=K) h1)
  have i2:=bS [.list (c.map (bx K))] (Oe (K:=K) g1)
  have c1:=ltT (Nat.lt_of_lt_of_eq h2 (oq (K:=K)).symm)
  have c2:=ltT (Nat.lt_of_lt_of_eq g2 (oq (K:=K)).symm)
  rw [List.cons_merge_cons]
  by_cases hle:o p q≤0
  ·refine za (mH d hA hB n l (q::r) (i+1) j (c++[p]) (some (.int (o p q))) h3 hr (by rw [List.length_cons,Nat.add_right_comm] at hn; exact Nat.succ.inj hn) (hO' p)) fun i' j' c' x' e w=>⟨i',j',c',x',by rw [e,if_pos (decide_eq_true hle),List.append_assoc]; rfl,?_⟩
   rw [ea] at w
   have pa:=pa p
   rcases Int.lt_or_eq_of_le hle with hlt | h0
   ·exact wI w [xC 5 c1,xC 5 c2,xV 3 i1,xV 3 i2,xP 2 ho,xC 3 (dT hlt),xC 1 (dT hlt),xV 3 i1,xH 0 pa]
   ·rw [h0] at ho w
    exact wI w [xC 5 c1,xC 5 c2,xV 3 i1,xV 3 i2,xP 2 ho,xV 15 i1,xH 0 pa]
  ·refine za (mH d hA hB n (p::l) r i (j+1) (c++[q]) (some (.int (o p q))) hl g3 (Nat.succ.inj hn) (hO' q)) fun i' j' c' x' e w=>⟨i',j',c',x',by rw [e,if_neg (mt of_decide_eq_true hle),List.append_assoc]; rfl,?_⟩
   rw [ea] at w
   have pa:=pa q
   exact wI w [xC 5 c1,xC 5 c2,xV 3 i1,xV 3 i2,xP 2 ho,xC 3 (dF fun h=>hle (Int.le_of_lt h)),xC 3 (qF fun h:o p q=0=>hle (Int.le_of_eq h)),xC 1 (qF fun h:o p q=0=>hle (Int.le_of_eq h)),xV 3 i2,xH 0 pa,xC 6 (qF fun h:o p q=0=>hle (Int.le_of_eq h))]
theorem q7 (d:Od K R o N) {A B:List Nat}(hA:Lt N A) (hB:Lt N B) (hn:A.length+B.length≤big) :
  nU [.none,.lst (A.map (bx K)),.lst (B.map (bx K)),R,.bool false] (.ok (.lst ((List.merge A B (leB o)).map (bx K)))):=by
 refine za (mH d hA hB (A.length+B.length) A B 0 0 [] none rfl rfl rfl (by rw [List.length_nil,Nat.zero_add]; exact hn)) fun i j c x e w=>?_
 rw [List.nil_append] at e
 have hl:c.length+(A.drop i).length+(B.drop j).length≤big:=by
  rw [← List.length_append,← List.length_append,List.append_assoc,e,(List.merge_perm_append (leB o)).length_eq,List.length_append]; exact hn
 have s1:=uj (vs:=A.map (bx K)) (i:=i) (by rw [← List.map_drop,oq]; exact Nat.le_trans (Nat.le_trans (Nat.le_add_left ..) (Nat.le_add_right ..)) hl)
 have s2:=uj (vs:=B.map (bx K)) (i:=j) (by rw [← List.map_drop,oq]; exact Nat.le_trans (Nat.le_add_left ..) hl)
 rw [← List.map_drop] at s1 s2
 have m1:=uk (G:=[.list (c.map (bx K))]) (i:=0) (us:=(A.drop i).map (bx K)) rfl (by rw [oq,oq]; exact Nat.le_trans (Nat.le_add_right ..) hl)
 have m2:=uk (G:=[.list (c.map (bx K)++(A.drop i).map (bx K))]) (i:=0) (us:=(B.drop j).map (bx K)) rfl (by rw [List.length_append,oq,oq,oq]; exact hl)
 have pA:=a8 d.pair A
 have pB:=a8 d.pair B
 have pp:(V.puL [.none,.lst (A.map (bx K)),.lst (B.map (bx K)),R,.bool false]&&bo kN [.none,.lst (A.map (bx K)),.lst (B.map (bx K)),R,.bool false])=true:=by
  rw [V.puL,V.puL,V.pu,pA,V.puL,V.pu,pB,V.puL,d.pr]; rfl
 have pr:=a8 d.pair (List.merge A B (leB o))
 rw [← e,List.map_append,List.map_append,← List.append_assoc] at pr ⊢
 exact goP [xS 0 w,xV 3 s1,xH 0 m1,xV 4 s2,xH 0 m2] pp pr
end
end
section
theorem B6 {us:List V}{n:Nat}{v:V}(h:n<us.length):j3 [.list us] (.ref 0) (.int (n:Nat)) v=some [.list (us.set n v)]:=congrArg Cv.v (fu (eH h))
theorem JD {us:List V}{n:Nat}{v:V}(h:us[n]? = some v):aF [.list us] (.ref 0) (.int (n:Nat))=some v:=congrArg Cv.v (cB (o:=cS us (n:Nat)) h)
theorem ul {α:Type}{u:List α}:∀ {rs:List (List α)}{a:Nat},rs[a]? = some u→(u++(rs.set a []).flatten).Perm rs.flatten
 | r::t,0,h=>by obtain rfl:=sj h; exact .refl _
 | r::t,a+1,h=>(List.perm_append_comm_assoc ..).trans ((ul (rs:=t) (a:=a) h).append_left r)
theorem set_set {α:Type}{u:List α}{rs:List (List α)}{a:Nat}(h:rs[a]? = some []):(rs.set a u).flatten.Perm (u++rs.flatten):=by
 have hl:a<rs.length:=(List.getElem?_eq_some_iff.mp h).1
 have k:=ul (rs:=rs.set a u) (a:=a) (u:=u) (List.getElem?_set_self hl)
 rw [List.set_set,(congrArg (rs.set a) (List.getElem?_eq_some_iff.mp h).2.symm).trans (List.set_getElem_self hl)] at k
 exact k.symm
section
variable {K:Nat→V}{R:V}{o:Nat→Nat→Int}{N:Nat}{its:List V}
noncomputable abbrev Srt (o:Nat→Nat→Int) (l:List Nat):Prop:=l.Pairwise fun a b=>leB o a b=true
theorem Od.merge (d:Od K R o N) {A B:List Nat}(a:Srt o A) (b:Srt o B):Srt o (List.merge A B (leB o)):=List.pairwise_merge (fun a b c h1 h2=>decide_eq_true (d.tr a b c (of_decide_eq_true h1) (of_decide_eq_true h2))) (fun a b=>Bool.or_eq_true_iff.mpr ((d.to a b).imp decide_eq_true decide_eq_true)) A B a b
noncomputable def eJ (K:Nat→V) (r:List Nat):V:=.lst (r.map (bx K))
structure RO (o:Nat→Nat→Int) (rs:List (List Nat)) (run M:List Nat):Prop where
 s:∀ r∈rs,Srt o r
 r:Srt o run
 p:(run++rs.flatten).Perm M
theorem RO.lt {rs:List (List Nat)}{run M:List Nat}(h:RO o rs run M) (l:Lt N M):Lt N run∧∀ r∈rs,Lt N r :=
 ⟨fun p hp=>l p (h.p.mem_iff.mp (List.mem_append_left _ hp)),fun r hr p hp=>l p (h.p.mem_iff.mp (List.mem_append_right _ (List.mem_flatten.mpr ⟨r,hr,hp⟩)))⟩
noncomputable abbrev soW:=wR b7 6 (at_ (blk (at_ bt.body 1)) 2)
noncomputable abbrev soM (I R P:V) (run:List Nat) (K:Nat→V) (a:Nat):LV:=[some .none,some I,some R,some (.bool false),some (.ref 0),some P,some (eJ K run),some (.int a),none,none,none]
theorem Ax (d:Od K R o N) {I P:V}{M:List Nat}(hM:Lt N M) (hl:M.length≤big):∀ (n:Nat) (rs:List (List Nat)) (a:Nat) (run:List Nat),a+n=rs.length→RO o rs run M →
  ∃ (rs':List (List Nat)) (run':List Nat) (a':Nat),rs'.length=rs.length∧(a'<rs'.length∧rs'[a']? = some []∨a'=rs'.length)∧RO o rs' run' M ∧
   Wh soW (soM I R P run K a) [.list (rs.map (eJ K))] .next (soM I R P run' K a') [.list (rs'.map (eJ K))]
 | 0,rs,a,run,hn,H=>by
  refine ⟨rs,run,a,rfl,.inr hn,H,?_⟩
  exact wE [xC 5 (ltF (Nat.le_of_eq ((List.length_map (eJ K)).trans hn.symm))),xC 1 (ltF (Nat.le_of_eq ((List.length_map (eJ K)).trans hn.symm)))]
 | n+1,rs,a,run,hn,H=>by
  have ha:a<rs.length:=by rw [← hn]; exact Nat.lt_add_of_pos_right (Nat.succ_pos n)
  have hg:rs[a]? = some rs[a]:=List.getElem?_eq_getElem ha
  have c1:=ltT (Nat.lt_of_lt_of_eq ha (List.length_map (as:=rs) (eJ K)).symm)
  have it:=JD (us:=rs.map (eJ K)) (n:=a) (v:=eJ K rs[a]) (by rw [List.getElem?_map,hg]; rfl)
  have hs:=H.s _ (List.getElem_mem ha)
  generalize rs[a]=u at *
  cases u with
  | nil =>
   refine ⟨rs,run,a,rfl,.inl ⟨ha,hg⟩,H,?_⟩
   exact wE [xC 5 c1,xV 2 it]
  | cons p r =>
   have hp:0<((p::r).map (bx K)).length:=Nat.succ_pos _
   generalize p::r=u at *
   have kp:=ul hg
   have pm:(List.merge u run (leB o)++(rs.set a []).flatten).Perm M:=((List.merge_perm_append (leB o)).append_right _).trans (((List.perm_append_comm (l₁:=u)).append_right _).trans ((by rw [List.append_assoc]; exact kp.append_left run:(run++u++(rs.set a []).flatten).Perm (run++rs.flatten)).trans H.p))
   obtain ⟨rs',run',a',e1,e2,e3,w⟩:=Ax d (I:=I) (P:=P) hM hl n (rs.set a []) (a+1) (List.merge u run (leB o)) (by rw [List.length_set,← hn,Nat.add_right_comm]; rfl) ⟨fun r hr=>(List.mem_or_eq_of_mem_set hr).elim (H.s r) fun e=>e ▸ .nil,d.merge hs H.r,pm⟩
   refine ⟨rs',run',a',e1.trans (List.length_set ..),e2,e3,?_⟩
   have hx:u.length+run.length≤big:=by
    have:=pm.length_eq
    rw [List.length_append,(List.merge_perm_append (leB o)).length_eq,List.length_append] at this
    exact Nat.le_trans (Nat.le_add_right ..) (this ▸ hl)
   have mg:=q7 d ((H.lt hM).2 _ (List.mem_of_getElem? hg)) (H.lt hM).1 hx
   have st:=B6 (us:=rs.map (eJ K)) (n:=a) (v:=.lst []) (by rw [List.length_map]; exact ha)
   rw [List.map_set] at w
   exact wI w [xC 5 c1,xV 2 it,xC 3 (ltT hp),xV 3 it,xP 3 mg,xH 2 st]
structure Kys (K:Nat→V) (R r0 r4:V) (N:Nat) (its:List V):Prop where
 n:its.length=N
 p:V.puL its=true
 e0:∀ G,aF G R (.int 0)=some r0
 e4:∀ G,aF G R (.int 4)=some r4
 k:∀ k T,its[k]? = some T→∃ U,eq [T,r4] (.ok U)∧cE [r0,U] (.ok (K k))
theorem Ay {N k:Nat}(h:k≤N):Lt N (List.range k):=fun p hp=>Nat.lt_of_lt_of_le (List.mem_range.mp hp) h
noncomputable abbrev soB:=fB b7 7 (at_ bt.body 1)
noncomputable abbrev soF:=fR b7 7 (at_ bt.body 1)
theorem Az {r0 r4:V}(d:Od K R o N) (Y:Kys K R r0 r4 N its):∀ (n k:Nat) (rs:List (List Nat)) (x5 x6 x7:Option V),k+n=N→rs.length≤k→RO o rs [] (List.range k) →
  ∃ (y5 y6 y7:Option V) (rs':List (List Nat)),rs'.length≤N∧RO o rs' [] (List.range N)∧soF ((List.range' k n).map fun i=>.int (i:Nat)) [some .none,some (.lst its),some R,some (.bool false),some (.ref 0),x5,x6,x7,none,none,none] [.list (rs.map (eJ K))]
   .next [some .none,some (.lst its),some R,some (.bool false),some (.ref 0),y5,y6,y7,none,none,none] [.list (rs'.map (eJ K))]
 | 0,k,rs,x5,x6,x7,hk,hl,H=>⟨x5,x6,x7,rs,by rw [← hk]; exact hl,by rw [← hk]; exact H,fN⟩
 | n+1,k,rs,x5,x6,x7,hk,hl,H=>by
  have hkN:k<N:=by rw [← hk]; exact Nat.lt_add_of_pos_right (Nat.succ_pos n)
  have hki:k<its.length:=Y.n ▸ hkN
  have hT:its[k]? = some its[k]:=List.getElem?_eq_getElem hki
  refine ae (Y.k k _ hT) fun U hU hK=>?_
  have hsz:k+1≤big:=Nat.le_trans hkN (Nat.le_trans d.n (by decide))
  obtain ⟨rs1,run,a,f1,f2,f3,w⟩:=Ax d (I:=.lst its) (P:=.int k) (M:=List.range (k+1)) (Ay hkN) (by rw [List.length_range]; exact hsz) rs.length rs 0 [k] (Nat.zero_add _) ⟨H.s,List.pairwise_singleton ..,by rw [List.range_succ]; exact (List.perm_append_comm (l₁:=[k])).trans (H.p.append_right _)⟩
  have it:=bS [.list (rs.map (eJ K))] hT
  have e0:=Y.e0 [.list (rs.map (eJ K))]
  have e4:=Y.e4 [.list (rs.map (eJ K))]
  have fin:∀ rs2:List (List Nat),rs2.length≤k+1→(∀ r∈rs2,Srt o r)→rs2.flatten.Perm (run++rs1.flatten)→_:=fun rs2 g1 g2 g3=>Az d Y n (k+1) rs2 (some (.int k)) (some (eJ K run)) (some (.int a)) (by rw [Nat.add_right_comm]; exact hk) g1 ⟨g2,.nil,g3.trans f3.p⟩
  rw [List.range'_succ,List.map_cons]
  generalize its[k]=T at *
  rcases f2 with ⟨q,q2⟩ | q
  ·refine NR (fin (rs1.set a run) (by rw [List.length_set,f1]; exact Nat.le_succ_of_le hl) (fun r hr=>(List.mem_or_eq_of_mem_set hr).elim (f3.s r) fun e=>e ▸ f3.r) (set_set q2)) fun y5 y6 y7 rs' ih=>?_
   have st:=B6 (us:=rs1.map (eJ K)) (n:=a) (v:=eJ K run) (by rw [List.length_map]; exact q)
   rw [List.map_set] at ih
   exact fI ih [xV 1 e0,xV 2 it,xV 1 e4,xP 0 hU,xP 0 hK,xS 1 w,xC 5 (nF fun e:a=(rs1.map (eJ K)).length=>Nat.ne_of_lt q (e.trans (List.length_map ..))),xH 3 st]
  ·refine NR (fin (rs1++[run]) (by rw [List.length_append,f1]; exact Nat.succ_le_succ hl) (fun r hr=>(List.mem_append.mp hr).elim (f3.s r) fun e=>List.mem_singleton.mp e ▸ f3.r) (by rw [List.flatten_append,List.flatten_singleton]; exact List.perm_append_comm)) fun y5 y6 y7 rs' ih=>?_
   have pa:=bf (G:=[.list (rs1.map (eJ K))]) (i:=0) (v:=.lst []) rfl (by rw [List.length_map,f1]; exact Nat.le_trans (Nat.succ_le_succ hl) hsz)
   have ql:a=(rs1.map (eJ K)).length:=q.trans (List.length_map ..).symm
   have st:=B6 (us:=rs1.map (eJ K)++[.lst []]) (n:=a) (v:=eJ K run) (by rw [List.length_append,ql]; exact Nat.lt_succ_self _)
   have es:(rs1.map (eJ K)++[V.lst []]).set a (eJ K run)=(rs1++[run]).map (eJ K):=by rw [ql,List.set_append_right _ _ (Nat.le_refl _),Nat.sub_self,List.map_append]; rfl
   rw [es] at st
   exact fI ih [xV 1 e0,xV 2 it,xV 1 e4,xP 0 hU,xP 0 hK,xS 1 w,xC 5 (nT ql),xH 1 pa,xH 4 st]
noncomputable abbrev whF:=fR b7 7 (at_ bt.body 3)
theorem um (d:Od K R o N) {I:V}{X5 X7:Option V}{M:List Nat}(hM:Lt N M) (hl:M.length≤big):∀ (rs:List (List Nat)) (w:List Nat) (x6:Option V),RO o rs w M →
  ∃ (x':Option V) (w':List Nat),Srt o w'∧w'.Perm M∧whF (rs.map (eJ K)) [some .none,some I,some R,some (.bool false),some (.ref 0),X5,x6,X7,some (eJ K w),none,none] [.dead] .next [some .none,some I,some R,some (.bool false),some (.ref 0),X5,x',X7,some (eJ K w'),none,none] [.dead]
 | [],w,x6,H=>⟨x6,w,H.r,by have:=H.p; rwa [List.flatten_nil,List.append_nil] at this,fN⟩
 | r::rs,w,x6,H=>by
  have pm:(List.merge r w (leB o)++rs.flatten).Perm M:=((List.merge_perm_append (leB o)).append_right _).trans (((List.perm_append_comm (l₁:=r)).append_right _).trans ((by rw [List.append_assoc]; exact .refl _:(w++r++rs.flatten).Perm (w++(r::rs).flatten)).trans H.p))
  have hx:r.length+w.length≤big:=by
   have:=pm.length_eq
   rw [List.length_append,(List.merge_perm_append (leB o)).length_eq,List.length_append] at this
   exact Nat.le_trans (Nat.le_add_right ..) (this ▸ hl)
  have mg:=q7 d ((H.lt hM).2 _ (.head _)) (H.lt hM).1 hx
  refine P3 (um d (I:=I) (X5:=X5) (X7:=X7) hM hl rs _ (some (eJ K r)) ⟨fun r hr=>H.s r (.tail _ hr),d.merge (H.s _ (.head _)) H.r,pm⟩) fun x' w' ih=>?_
  exact fI ih [xP 5 mg]
noncomputable abbrev plF:=fR b7 7 (at_ bt.body 5)
theorem q8 {a b c d e f g h i:Option V}{O:List Nat}:∀ (w u:List Nat) (x:Option V),u.length+w.length≤big→u++w=O →
  ∃ x',plF (w.map (bx K)) [a,b,c,d,e,f,g,h,i,some (.ref 1),x] [.dead,.list (u.map fun p=>.int (p:Nat))] .next [a,b,c,d,e,f,g,h,i,some (.ref 1),x'] [.dead,.list (O.map fun p=>.int (p:Nat))]
 | [],u,x,hl,q=>⟨x,by rw [← q,List.append_nil]; exact fN⟩
 | p::w,u,x,hl,q=>by
  rw [List.length_cons,← Nat.add_assoc,Nat.add_right_comm] at hl
  refine uV (q8 (a:=a) (b:=b) (c:=c) (d:=d) (e:=e) (f:=f) (g:=g) (h:=h) (i:=i) (O:=O) w (u++[p]) (some (bx K p)) (by rw [List.length_append]; exact hl) (by rw [List.append_assoc]; exact q)) fun x' ih=>?_
  have pa:=bf (G:=[.dead,.list (u.map fun p=>V.int (p:Nat))]) (i:=1) (v:=.int (p:Nat)) rfl (by rw [List.length_map]; exact Nat.le_trans (Nat.le_add_right ..) hl)
  rw [List.map_append] at ih
  exact fI ih [xH 3 pa]
theorem pY {r0 r4:V}(d:Od K R o N) (Y:Kys K R r0 r4 N its):∃ ps:List Nat,ps.Perm (List.range N)∧Srt o ps∧gc [.none,.lst its,R,.bool false] (.ok (.lst (ps.map fun p=>.int (p:Nat)))):=by
 have hN:N≤big:=Nat.le_trans d.n (by decide)
 refine E2 (Az d Y N 0 [] none none none (Nat.zero_add N) (Nat.le_refl 0) ⟨nofun,.nil,.nil⟩) fun y5 y6 y7 rs h1 h2 w1=>?_
 refine cz (um d (I:=.lst its) (X5:=y5) (X7:=y7) (Ay (Nat.le_refl N)) (by rw [List.length_range]; exact hN) rs [] y6 h2) fun x' ps g1 g2 w2=>?_
 have hpl:ps.length≤big:=by rw [g2.length_eq,List.length_range]; exact hN
 refine aj (q8 (K:=K) (a:=some .none) (b:=some (.lst its)) (c:=some R) (d:=some (.bool false)) (e:=some (.ref 0)) (f:=y5) (g:=x') (h:=y7) (i:=some (eJ K ps)) (O:=ps) ps [] none (by rw [List.length_nil,Nat.zero_add]; exact hpl) rfl) fun x3 w3=>⟨ps,g2,g1,?_⟩
 have it:=bR (a:=0) (b:=its.length) (Y.n ▸ hN) (Nat.zero_le _)
 rw [← Y.n] at w1
 have pp:(V.puL [.none,.lst its,R,.bool false]&&bo bt [.none,.lst its,R,.bool false])=true:=by
  rw [V.puL,V.puL,V.pu,Y.p,V.puL,d.pr]; rfl
 have pr:V.puL (ps.map fun p=>V.int (p:Nat))=true:=a8 (fun _=>rfl) ps
 exact goP [xL 3 it,xS 0 w1,xS 3 w2,xS 2 w3] pp pr
end
end
section
structure Gs (mode sh:Nat) (gs:List (List Wo)):Prop where
 m:mode<3
 s:sh<3
 g:∀ g∈gs,Grp mode sh g
 n:gs.length≤20
noncomputable def j9 (mode sh:Nat) (gs:List (List Wo)):Prop:=∀ g∈gs,cw mode (aN sh g)
noncomputable def hd (sh:Nat) (gs:List (List Wo)) (p:Nat):Wo:=aN sh (gs[p]?.getD [])
noncomputable def itS (g:List Wo):V:=S (bl g)
noncomputable def aq (gs:List (List Wo)):V:=.lst (gs.map itS)
section
variable {mode sh:Nat}{nc dec:Bool}{gs:List (List Wo)}
theorem Gs.big (h:Gs mode sh gs):gs.length≤big:=Nat.le_trans h.n (by decide)
theorem yB {a b c:Wo}(h1:gm mode nc dec a b≤0) (h2:gm mode nc dec b c≤0):gm mode nc dec a c≤0:=by
 unfold gm at *
 cases dec with
 | false=>exact mF (b:=cK mode nc b) h1 h2
 | true =>
  rw [if_pos rfl,← ji] at *
  exact mF (b:=cK mode nc b) h2 h1
theorem JE (a b:Wo):gm mode nc dec a b≤0∨gm mode nc dec b a≤0:=by
 unfold gm
 have k:∀ x:Int,x≤0∨-x≤0:=fun x=>(Int.le_total x 0).imp_right Int.neg_nonpos_of_nonneg
 cases dec with
 | false =>
  rw [if_neg (by decide),if_neg (by decide),ji (cK mode nc a)]
  exact k _
 | true =>
  rw [if_pos rfl,if_pos rfl,ji (cK mode nc b),Int.neg_neg]
  exact k _
theorem G0 (h:Gs mode sh gs) (hh:j9 mode sh gs):Od (fun p=>fw mode (hd sh gs p)) (gn mode nc dec sh) (fun a b=>gm mode nc dec (hd sh gs a) (hd sh gs b)) gs.length where
 pu:=fun p=>oo ..
 pr:=yA
 h:=fun p q hp hq =>
  have k:∀ p,p<gs.length→cw mode (hd sh gs p):=fun p hp=>by
   unfold hd
   rw [List.getElem?_eq_getElem hp]
   exact hh _ (List.getElem_mem hp)
  B4 (k p hp) (k q hq) h.m
 tr:=fun _ _ _ h1 h2=>yB h1 h2
 to:=fun _ _=>JE _ _
 n:=Nat.le_trans h.n (by decide)
theorem EA (h:Gs mode sh gs) (hh:j9 mode sh gs):Kys (fun p=>fw mode (hd sh gs p)) (gn mode nc dec sh) (S (ft mode)) (io sh) gs.length (gs.map itS) where
 n:=List.length_map ..
 p:=a8 (fun _=>rfl) _
 e0:=fun _=>rfl
 e4:=fun _=>rfl
 k:=fun k T e=>by
  rw [List.getElem?_map] at e
  refine gh e fun g hg e=>e ▸ ⟨_,jf (h.g g (List.mem_of_getElem? hg)) h.s,?_⟩
  have e2:hd sh gs k=aN sh g:=by unfold hd; rw [hg]; rfl
  rw [e2]
  exact lp (hh g (List.mem_of_getElem? hg)) h.m
noncomputable abbrev msF:=fR jF 7 (at_ fg.body 1)
theorem C8 (hn:gs.length≤big) {R:V}:∀ (ps:List Nat) (u:List (List Wo)) (x:Option V),Lt gs.length ps→u.length+ps.length≤big →
  ∃ x',msF (ps.map fun p=>.int (p:Nat)) [some .none,some (aq gs),some R,some (.bool false),some (.ref 0),x] [.list (u.map itS)] .next [some .none,some (aq gs),some R,some (.bool false),some (.ref 0),x'] [.list ((u++ps.map fun p=>gs[p]?.getD []).map itS)]
 | [],u,x,h,hl=>⟨x,by rw [List.map_nil (f:=fun p=>gs[p]?.getD []),List.append_nil]; exact fN⟩
 | p::ps,u,x,h,hl=>by
  rw [List.length_cons,← Nat.add_assoc,Nat.add_right_comm] at hl
  have hp:=h p (.head _)
  have eg:gs[p]? = some gs[p]:=List.getElem?_eq_getElem hp
  have it:=bS [.list (u.map itS)] (vs:=gs.map itS) (k:=p) (v:=itS gs[p]) (by rw [List.getElem?_map,eg]; rfl)
  have pa:=bf (G:=[.list (u.map itS)]) (i:=0) (v:=itS gs[p]) rfl (by rw [List.length_map]; exact Nat.le_trans (Nat.le_add_right ..) hl)
  refine uV (C8 hn (R:=R) ps (u++[gs[p]]) (some (.int p)) (fun p hp=>h p (.tail _ hp)) (by rw [List.length_append]; exact hl)) fun x' ih=>?_
  rw [List.append_assoc,List.map_append] at ih
  rw [List.map_cons (f:=fun p=>gs[p]?.getD []),eg]
  generalize gs[p]=g at *
  exact fI ih [xV 3 it,xH 0 pa]
theorem rK (h:Gs mode sh gs) (hh:j9 mode sh gs):∃ gs':List (List Wo),gs'.Perm gs∧(gs'.Pairwise fun g g'=>gm mode nc dec (aN sh g) (aN sh g')≤0)∧gJ [.none,aq gs,gn mode nc dec sh] (.ok (aq gs')):=by
 refine dA (pY (G0 (nc:=nc) (dec:=dec) h hh) (EA h hh)) fun ps h1 h2 w1=>?_
 refine aj (C8 h.big (R:=gn mode nc dec sh) ps [] none (fun p hp=>List.mem_range.mp (h1.mem_iff.mp hp)) (by rw [h1.length_eq,List.length_range,List.length_nil,Nat.zero_add]; exact h.big)) fun x' w2=>⟨ps.map fun p=>gs[p]?.getD [],?_,?_,?_⟩
 ·refine (h1.map _).trans ?_
  have:(List.range gs.length).map (fun p=>gs[p]?.getD [])=gs:=by
   apply List.ext_getElem?
   intro i
   rw [List.getElem?_map]
   rcases Nat.lt_or_ge i gs.length with h | h
   ·rw [List.getElem?_range h,List.getElem?_eq_getElem h,Option.map_some,List.getElem?_eq_getElem h,Option.getD_some]
   ·rw [List.getElem?_eq_none (by rw [List.length_range]; exact h),List.getElem?_eq_none h]; rfl
  rw [this]
 ·rw [List.pairwise_map]
  exact h2.imp fun h=>of_decide_eq_true h
 ·have pv:V.puL (gs.map itS)=true:=a8 (fun _=>rfl) _
  have pp:(V.puL [.none,aq gs,gn mode nc dec sh]&&bo fg [.none,aq gs,gn mode nc dec sh])=true:=by rw [V.puL,V.puL,aq,V.pu,pv,V.puL,yA]; rfl
  have pr:(aq (ps.map fun p=>gs[p]?.getD [])).pu=true:=a8 (f:=itS) (fun _=>rfl) _
  exact goP [xP 4 w1,xS 1 w2] pp pr
end
end
theorem G3 {a c:V}{da dc:PyData}(h1:V.data a=some da) (h2:V.data c=some dc) (h:((da.canLay0&&dc.canLay0)&&Nat.ble da.depth 20)=true):(eqD a c).v=some (PyData.eqv da dc):=by
 have e:eqD a c=_:=cB h1
 have e2:eqD a c=_:=e.trans (cB h2)
 exact congrArg Cv.v (e2.trans (fu h))
theorem yC {G:AH}{a c:V}{x:Bool}(h:(eqC a c).v=some x):aG G .Eq a c=some x :=
 have k:∀ o:Cv (EqS a c),o.v=some x→Cv.v (P:=uR G .Eq a c) (match o with | some b=>yes b.1 fun _ hu _ _ ra rc=>(b.2 hu ra rc).1 | none=>none)=some x:=fun o h=>match o,h with
  | some b,h=>h
  | none,h=>nS h
 k _ h
theorem G4 {G:AH}{a c:V}{x:Bool}(h:(eqC a c).v=some x):aG G .NotEq a c=some (!x) :=
 have k:∀ o:Cv (EqS a c),o.v=some x→Cv.v (P:=uR G .NotEq a c) (match o with | some b=>yes (!b.1) fun _ hu _ _ ra rc=>(b.2 hu ra rc).2 | none=>none)=some (!x):=fun o h=>match o,h with
  | some b,h=>congrArg (Option.map (!·)) h
  | none,h=>nS h
 k _ h
noncomputable def kc (v:V):Bool:=match V.data v with
 | some d=>d.canLay0&&Nat.ble d.depth 20
 | none=>false
theorem JF {v:V}{P:Prop}(h:kc v=true) (k:∀ d,V.data v=some d→d.canLay0=true→Nat.ble d.depth 20=true→P):P:=by
 unfold kc at h
 cases e:V.data v with
 | none=>rw [e] at h; exact ff h
 | some d=>rw [e] at h; exact k d e (an h).1 (an h).2
theorem G5 {v:V}(h:kc v=true):(eqD v v).v=some true:=JF h fun d e a b=>by
 rw [G3 e e (Bool.and_eq_true_iff.mpr ⟨Bool.and_eq_true_iff.mpr ⟨a,a⟩,b⟩),SeqAt.eqv_refl d a]
theorem AA {v:V}(h:kc v=true):(eqC v v).v=some true:=by
 cases v with
 | int i=>exact congrArg some (beq_self_eq_true i)
 | str x=>exact congrArg some (beq_self_eq_true x)
 | _=>exact G5 h
theorem pZ {α:Type}{f:α→V}{g:α→PyData}(h:∀ a,V.data (f a)=some (g a)):∀ ws:List α,V.datas (ws.map f)=some (ws.map g)
 | []=>rfl
 | w::ws=>by rw [List.map_cons,V.datas,h,pZ h ws]; rfl
theorem uo {α:Type}{f:α→V}{g:α→PyData}(h:∀ a,V.data (f a)=some (g a)) (ws:List α):V.data (.lst (ws.map f))=some (.list (ws.map g)):=by rw [V.data,pZ h]; rfl
theorem Of {α:Type}{f:α→V}{g:α→PyData}(h:∀ a,V.data (f a)=some (g a)) (ws:List α):V.data (.tup (ws.map f))=some (.tuple (ws.map g)):=by rw [V.data,pZ h]; rfl
theorem rV {α:Type}{g:α→PyData}{n:Nat}:∀ {ws:List α},(∀ w∈ws,(g w).canLay0=true∧(g w).depth≤n)→PyData.canLayAll0 (ws.map g)=true∧PyData.depthAll (ws.map g)≤n
 | [],_=>⟨rfl,Nat.zero_le _⟩
 | w::ws,h=>by
  have k:=rV fun w hw=>h w (.tail _ hw)
  have k2:=h w (.head _)
  rw [List.map_cons,PyData.canLayAll0,PyData.depthAll,k.1,k2.1]
  exact ⟨rfl,Nat.max_le.mpr ⟨k2.2,k.2⟩⟩
noncomputable def okT (t:List Nat):Bool:=PyData.strOk ⟨⟨t⟩⟩
theorem JG {ws:List (List Nat)}(h:∀ w∈ws,okT w=true):kc (.lst (ws.map S))=true:=by
 have k:=rV (g:=fun w=>PyData.str ⟨⟨w⟩⟩) (n:=1) fun w hw=>⟨h w hw,Nat.zero_le 1⟩
 rw [kc,uo (g:=fun w=>PyData.str ⟨⟨w⟩⟩) fun _=>rfl]
 exact Bool.and_eq_true_iff.mpr ⟨k.1,eH (Nat.le_trans (Nat.succ_le_succ k.2) (by decide))⟩
theorem Kz:∀ a b:List Int,PyData.eqvAll (a.map .int) (b.map .int)=decide (a=b)
 | [],[]=>rfl
 | [],_::_=>rfl
 | _::_,[]=>rfl
 | i::a,j::b=>by
  rw [List.map_cons,List.map_cons,PyData.eqvAll,PyData.eqv,Kz a b,Bool.eq_iff_iff]; simp
theorem G6 (a b:List Int):(eqC (.lst (a.map .int)) (.lst (b.map .int))).v=some (decide (a=b)):=by
 have k:=fun a:List Int=>rV (g:=PyData.int) (n:=1) (ws:=a) fun w _=>⟨rfl,Nat.zero_le 1⟩
 have e:=fun a:List Int=>uo (f:=V.int) (g:=.int) (fun _=>rfl) a
 exact (G3 (e a) (e b) (Bool.and_eq_true_iff.mpr ⟨Bool.and_eq_true_iff.mpr ⟨(k a).1,(k b).1⟩,eH (Nat.le_trans (Nat.succ_le_succ (k a).2) (by decide))⟩)).trans (congrArg some (Kz a b))
theorem G7 {a b:List Str}(h:a.Perm b):nr a=nr b :=
 List.Perm.eq_of_pairwise (le:=nle) (fun x y _ _ h1 h2=>kA h2 h1) (gE a) (gE b) ((dU a).trans (h.trans (dU b).symm))
theorem AB {ws:List (List Nat)}(h:ws.length<64):nu [] ⟨⟨[115,111,114,116,101,100]⟩⟩ [.lst (ws.map S)]=some (.lst ((nr (ws.map fun w=>⟨⟨w⟩⟩)).map .str)):=by
 have e:CI [] [.lst (ws.map S)]=_:=cB (n9 ws)
 have e:=e.trans (fu (eH (by rw [List.length_map]; exact h)))
 exact congrArg (fun c=>Cv.v (blI [] ⟨⟨[115,111,114,116,101,100]⟩⟩ [.lst (ws.map S)] ⟨⟨[115,111,114,116,101,100]⟩⟩ c (by decide +kernel) none)) e
theorem G8 {t:List Nat}(h:t.all (fun c=>Nat.blt c 0x110000)=true):okT t=true:=by
 unfold okT PyData.strOk
 rw [← Array.all_toList]
 exact List.all_eq_true.mpr fun c hc=>decide_eq_true (aX (List.all_eq_true.mp h c hc))
noncomputable def nd (d c:Nat):Nat:=if c=123 then d+1 else if c=125 then d - 1 else d
noncomputable def cut:Nat→List Nat→List Nat × List Nat
 | _,[]=>([],[])
 | d,c::r=>if (c==32&&d==0)=true then ([],r) else (c::(cut (nd d c) r).1,(cut (nd d c) r).2)
noncomputable def Md:Nat→List Nat→Bool
 | d,[]=>d==0
 | d,c::r=>!(c==32&&d==0)&&Md (nd d c) r
theorem yD {r:List Nat}:∀ {u:List Nat}{d:Nat},Md d u=true→cut d (u++32::r)=(u,r)
 | [],d,h=>by
  obtain rfl:d=0:=eq_of_beq h
  rfl
 | c::u,d,h=>by
  have h:=an h
  rw [List.cons_append,cut,bN h.1,if_neg (by decide),yD h.2]
theorem yE:(GU.all fun w=>Md 0 (enc w)&&(w.all (fun c=>chs.contains c&&Nat.blt c 0x110000)&&GU.all fun v=>enc w != enc v||w==v))=true:=by kernel_rfl
theorem B7:(bT.all fun a=>bT.all fun b=>a.t != b.t||decide (a.n=b.n))=true:=by kernel_rfl
theorem q9 {a b:Bool}(h:(a||b)=true) (k:a=false):b=true:=by rw [k] at h; exact h
theorem yF {mode:Nat}{a b:Wo}(ha:a∈dom mode) (hb:b∈dom mode) (e:enc a.t=enc b.t):a=b:=by
 have e:a.t=b.t:=eq_of_beq (q9 (List.all_eq_true.mp (an (an (List.all_eq_true.mp yE _ (lH ha))).2).2 _ (lH hb)) (by rw [e]; exact bne_self_eq_false _))
 obtain ⟨t,n⟩:=a
 obtain ⟨t',n'⟩:=b
 obtain rfl:t=t':=e
 by_cases hm:mode=2
 ·subst hm
  have k:=of_decide_eq_true (q9 (List.all_eq_true.mp (List.all_eq_true.mp B7 _ ha) _ hb) (bne_self_eq_false _))
  exact congrArg (Wo.mk t) k
 ·exact congrArg (Wo.mk t) ((dy ha hm).2.trans (dy hb hm).2.symm)
theorem JH {mode sh:Nat}{g g':List Wo}(h:Grp mode sh g) (h':Grp mode sh g') (e:bl g=bl g'):g=g' :=
 h.el (fun a q ha eg=>h'.el (fun a' _ ha' eg'=>by
  subst eg eg'
  exact congrArg (fun x=>[x]) (yF ha ha' (congrArg enc e))) fun a b q' _ _ _=>absurd q q') fun a b q ha hb eg=>h'.el (fun a' q' _ _=>absurd q' q) fun a' b' _ ha' hb' eg'=>by
  subst eg eg'
  have k:=fun {w:Wo}(hw:w∈dom mode)=>(an (List.all_eq_true.mp yE _ (lH hw))).1
  have e:enc a.t++[32]++enc b.t=enc a'.t++[32]++enc b'.t:=e
  rw [List.append_assoc,List.append_assoc] at e
  have e:=(yD (k ha)).symm.trans ((congrArg (cut 0) e).trans (yD (k ha')))
  rw [yF ha ha' (Prod.mk.inj e).1,yF hb hb' (Prod.mk.inj e).2]
noncomputable abbrev ltU (t:List Nat):Prop:=t.all (fun c=>Nat.blt c 0x110000)=true
theorem rW {mode:Nat}{w:Wo}(h:w∈dom mode):(∀ c∈w.t,c∈chs)∧ltU w.t:=by
 have k:=List.all_eq_true.mp (an (an (List.all_eq_true.mp yE _ (lH h))).2).1
 exact ⟨fun c hc=>List.contains_iff_mem.mp (an (k c hc)).1,List.all_eq_true.mpr fun c hc=>(an (k c hc)).2⟩
theorem JI {a b:List Nat}(h:ltU a) (h':ltU b):ltU (a++b):=by unfold ltU; rw [List.all_append]; exact Bool.and_eq_true_iff.mpr ⟨h,h'⟩
theorem G9 {w:List Nat}(h:ltU w):ltU (enc w):=by
 unfold enc
 split
 ·exact JI (a:=[123]) rfl (JI h rfl)
 ·exact h
theorem Hd {mode sh:Nat}{g:List Wo}(h:Grp mode sh g):ltU (bl g) :=
 h.el (fun a _ ha e=>by subst e; exact (rW ha).2) fun a b _ ha hb e=>by
  subst e
  exact JI (JI (G9 (rW ha).2) rfl) (G9 (rW hb).2)
section
noncomputable def ip (g:List Wo):V:=.lst (g.map Wo.v)
noncomputable def aA (gs:List (List Wo)):V:=.lst (gs.map ip)
theorem Me (g:List Wo):(ip g).pu=true:=a8 og g
theorem wy (gs:List (List Wo)):(aA gs).pu=true:=a8 Me gs
theorem B8 {ws:List (List Nat)}{k:List Nat}(h:k∈ws):∃ j,ws[j]? = some k∧eQ .lindex (.lst (ws.map S)) [S k]=some (.int (j:Nat)):=by
 have hm:(⟨⟨k⟩⟩:Str)∈ws.map fun w=>(⟨⟨w⟩⟩:Str):=List.mem_map_of_mem h
 have hj:=List.idxOf_lt_length_iff.mpr hm
 have q:eQ .lindex (.lst (ws.map S)) [S k]=_:=congrArg Cv.v ((cB (n9 ws)).trans (fu (List.contains_iff_mem.mpr hm)))
 refine ⟨_,?_,q⟩
 have e:=List.getElem?_eq_getElem hj
 rw [List.getElem_idxOf hj,List.getElem?_map] at e
 exact gh e fun w hw e=>by rw [hw]; exact congrArg some (congrArg (fun s:Str=>s.cps.toList) e)
theorem mI (a b:List Int):cL a b=-1∨cL a b=0∨cL a b=1:=by
 induction a generalizing b with
 | nil=>cases b with
  | nil=>exact .inr (.inl rfl)
  | cons=>exact .inl rfl
 | cons a as ih=>cases b with
  | nil=>exact .inr (.inr rfl)
  | cons b bs =>
   rw [gY]
   split
   ·exact ih bs
   ·split
    ·exact .inl rfl
    ·exact .inr (.inr rfl)
section
variable {mode sh:Nat}{nc dec:Bool}{gs:List (List Wo)}
theorem EB (hm:mode<3):aF [] (.lst [S [97,115,99,105,105],S [100,105,99,116,105,111,110,97,114,121],S [105,110,116,101,103,101,114]]) (.int (mode:Nat))=some (S (ft mode)) :=
 tri hm (fun e=>by subst e; rfl) (fun e=>by subst e; rfl) fun e=>by subst e; rfl
theorem B9 (hs:sh<3):bG (.lst [S [48],S [101,110,100]]) (some (.int ((sh:Int) - 1))) (some (.int sh)) none=some (io sh) :=
 tri hs (fun e=>by subst e; kernel_rfl) (fun e=>by subst e; kernel_rfl) fun e=>by subst e; kernel_rfl
theorem He {g:List Wo}(h:Grp mode sh g):aF [] (ip g) (.int (if sh=2 then -1 else 0))=some (aN sh g).v :=
 h.el (fun a q ha e=>by subst q e; rfl) fun a b q ha hb e=>by
  subst e
  by_cases q2:sh=2
  ·subst q2; rfl
  ·rw [if_neg q2,aN,if_neg q2]; rfl
noncomputable def kV (mode sh:Nat) (nc:Bool) (g:List Wo):V:=.lst ((cK mode nc (aN sh g)).map .int)
theorem yG {nc:Bool}{w:Wo}(h:w∈dom mode):(cK mode nc w).length≤big:=by
 unfold cK
 split
 ·exact (by decide:1≤big)
 ·rename_i hm
  have h1:=(dy h hm).1
  split
  ·have hall:bV.all (fun t=>Nat.ble (lI t).length big)=true:=by kernel_rfl
   exact aX (List.all_eq_true.mp hall _ h1)
  ·rw [List.length_map]; exact Nat.le_trans (jg h1).1 (by decide)
noncomputable abbrev ioF:=fR ck 7 (at_ cj.body 6)
theorem c7 {d:Nat}:cC .Sub (.int ((d+1:Nat):Int)) (.int 1)=some (.int (d:Nat)):=congrArg (fun i=>some (V.int i)) (by rw [Int.natCast_add,Int.natCast_one,Int.add_sub_cancel])
theorem C9 {R X0 X1 X2 X3 X5 X6 X7:Option V}{Ks:List (List Int)}{A:V}(hA:A=.lst (Ks.map fun k=>.lst (k.map .int))) (hR:R=some (gn mode nc dec sh)) (hl:∀ k∈Ks,k.length≤big) (hp:Ks.Pairwise fun a b=>(if dec then - cL a b else cL a b)≤0) :
  ∀ (n k:Nat) (x:Option V),k+1+n=Ks.length →
  ∃ x',ioF ((List.range' (k+1) n).map fun i=>.int (i:Nat)) [X0,X1,X2,X3,R,X5,X6,X7,some A,x] [] .next [X0,X1,X2,X3,R,X5,X6,X7,some A,x'] []
 | 0,k,x,h=>⟨x,fN⟩
 | n+1,k,x,h=>by
  refine uV (C9 hA hR hl hp (X0:=X0) (X1:=X1) (X2:=X2) (X3:=X3) (X5:=X5) (X6:=X6) (X7:=X7) n (k+1) (some (.int (k+1:Nat))) (by rw [← h,Nat.add_right_comm _ 1 n]; rfl)) fun x' ih=>?_
  have h2:k+1<Ks.length:=by rw [← h]; exact Nat.lt_add_of_pos_right (Nat.succ_pos n)
  have h1:=Nat.lt_of_succ_lt h2
  have i1:=t7 (vs:=Ks.map fun k=>V.lst (k.map .int)) (k:=k) (v:=.lst (Ks[k].map .int)) (by rw [List.getElem?_map,List.getElem?_eq_getElem h1]; rfl)
  have i2:=t7 (vs:=Ks.map fun k=>V.lst (k.map .int)) (k:=k+1) (v:=.lst (Ks[k+1].map .int)) (by rw [List.getElem?_map,List.getElem?_eq_getElem h2]; rfl)
  have ho:=q5 (hl Ks[k] (List.getElem_mem h1)) (hl Ks[k+1] (List.getElem_mem h2))
  have hle:=List.pairwise_iff_getElem.mp hp k (k+1) h1 h2 (Nat.lt_succ_self k)
  have hc:=mI Ks[k] Ks[k+1]
  rw [← hA] at i1 i2
  subst hR
  rw [List.range'_succ,List.map_cons]
  generalize cL Ks[k] Ks[k+1]=z at *
  generalize Ks[k].map V.int=L1 at *
  generalize Ks[k+1].map V.int=L2 at *
  clear hA hp hl
  rcases hc with e | e | e
  ·subst e
   cases dec with
   | false=>exact fI ih [xV 2 (c7 (d:=k)),xV 0 i1,xV 2 i2,xP 0 ho]
   | true=>exact absurd hle (by decide)
  ·subst e
   cases dec with
   | false=>exact fI ih [xV 2 (c7 (d:=k)),xV 0 i1,xV 2 i2,xP 0 ho]
   | true=>exact fI ih [xV 2 (c7 (d:=k)),xV 0 i1,xV 2 i2,xP 0 ho]
  ·subst e
   cases dec with
   | false=>exact absurd hle (by decide)
   | true=>exact fI ih [xV 2 (c7 (d:=k)),xV 0 i1,xV 2 i2,xP 0 ho]
noncomputable def bit (f:Int) (k:Int):Bool:=(f.fdiv k).fmod 2==1
noncomputable abbrev ioE (i:Nat):=sE (at_ cj.body i)
theorem Hf {gs':List (List Wo)}(h:Gs mode sh gs) (p:gs'.Perm gs):∃ v,nu [] ⟨⟨[115,111,114,116,101,100]⟩⟩ [aq gs]=some v∧nu [] ⟨⟨[115,111,114,116,101,100]⟩⟩ [aq gs']=some v∧aG [] .NotEq v v=some false:=by
 have e:∀ gs:List (List Wo),aq gs=.lst ((gs.map bl).map S):=fun gs=>by rw [List.map_map]; rfl
 have hn:gs.length<64:=Nat.lt_of_le_of_lt h.n (by decide)
 refine ⟨_,by rw [e]; exact AB (by rw [List.length_map]; exact hn),?_,G4 (AA ?_)⟩
 ·rw [e,AB (by rw [List.length_map,p.length_eq]; exact hn),G7 ((p.map bl).map _)]
 ·have k:∀ l:List Str,(∀ x∈l,okT x.cps.toList=true)→kc (.lst (l.map .str))=true:=fun l hl=>by
   have:=JG (ws:=l.map fun x=>x.cps.toList) fun w hw=>ae (List.mem_map.mp hw) fun x hx e=>e ▸ hl x hx
   rw [List.map_map] at this
   exact this
  refine k _ fun x hx=>?_
  have hx:=(dU _).mem_iff.mp hx
  exact ae (List.mem_map.mp hx) fun w hw e=>ae (List.mem_map.mp hw) fun g hg e'=>by subst e e'; exact G8 (Hd (h.g g hg))
theorem u9 (h:Gs mode sh gs) (hh:j9 mode sh gs) (f:Int):∃ gs':List (List Wo),gs'.Perm gs∧(gs'.Pairwise fun g g'=>gm mode (bit f 8) (bit f 16) (aN sh g) (aN sh g')≤0)∧cY [.int mode,.int sh,.int f,aA gs] (.ok (aA gs')):=by
 refine dA (rK (nc:=bit f 8) (dec:=bit f 16) h hh) fun gs' p ps hm=>⟨gs',p,ps,?_⟩
 refine dA (Hf h p) fun v n1 n2 n3=>?_
 have hg:∀ g∈gs',g∈gs:=fun g hg=>p.mem_iff.mp hg
 have c1:∀ m,cQ (cR ck 23 (ioE 1) m) (gs.map ip) [] (gs.map itS) []:=fun m=>dj gs fun g hg=>by
  have hgg:=h.g g hg
  have k:=wn (g:=g) (fun w hw=>Nat.le_trans (dx (hgg.w w hw)).2 (by decide)) (by rw [hgg.n]; split <;> decide)
  exact goC [xP 1 k]
 have c2:cQ (cR ck 23 (ioE 4) [some (.int mode),some (.int sh),some (.int f),some (aA gs),some (gn mode (bit f 8) (bit f 16) sh),some (aq gs),some (aq gs'),none,none,none]) (gs'.map itS) [] (gs'.map ip) []:=dj gs' fun g hg'=>by
  refine ae (B8 (ws:=gs.map bl) (k:=bl g) (List.mem_map_of_mem (hg g hg'))) fun j hj he=>?_
  rw [List.getElem?_map] at hj
  refine gh hj fun g' hj' e=>?_
  obtain rfl:=JH (h.g g' (List.mem_of_getElem? hj')) (h.g g (hg g hg')) e
  have it:=t7 (vs:=gs.map ip) (k:=j) (v:=ip g') (by rw [List.getElem?_map,hj']; rfl)
  rw [List.map_map] at he
  exact goC [xV 3 he,xV 0 it]
 have c3:cQ (cR ck 23 (ioE 5) [some (.int mode),some (.int sh),some (.int f),some (aA gs),some (gn mode (bit f 8) (bit f 16) sh),some (aq gs),some (aq gs'),some (aA gs'),none,none]) (gs'.map ip) [] (gs'.map (kV mode sh (bit f 8))) []:=dj gs' fun g hg'=>by
  have k1:=jh (nc:=bit f 8) (hh g (hg g hg')) h.m
  have g1:=He (h.g g (hg g hg'))
  generalize bit f 8=nc at *
  generalize bit f 16=dec at *
  by_cases q:sh=2
  ·subst q
   exact goC [xV 9 g1,xP 0 k1]
  ·rw [if_neg q] at g1
   exact goC [xC 7 (nF q),xV 0 g1,xP 0 k1]
 have it:=bR (a:=1) (b:=(gs'.map (kV mode sh (bit f 8))).length) (by rw [List.length_map,p.length_eq]; exact h.big) (by decide)
 have hio:∃ x',ioF ((List.range' 1 ((gs'.map (kV mode sh (bit f 8))).length - 1)).map fun i=>.int (i:Nat)) [some (.int mode),some (.int sh),some (.int f),some (aA gs),some (gn mode (bit f 8) (bit f 16) sh),some (aq gs),some (aq gs'),some (aA gs'),some (.lst (gs'.map (kV mode sh (bit f 8)))),none] []
   .next [some (.int mode),some (.int sh),some (.int f),some (aA gs),some (gn mode (bit f 8) (bit f 16) sh),some (aq gs),some (aq gs'),some (aA gs'),some (.lst (gs'.map (kV mode sh (bit f 8)))),x'] []:=by
  cases hq:gs' with
  | nil=>exact ⟨none,fN⟩
  | cons g r =>
   rw [← hq]
   exact C9 (Ks:=gs'.map fun g=>cK mode (bit f 8) (aN sh g)) (by rw [List.map_map]; rfl) rfl (fun k hk=>ae (List.mem_map.mp hk) fun g hg' e=>e ▸ yG (hh g (hg g hg')).d) (List.pairwise_map.mpr ps) _ 0 none (by rw [List.length_map,List.length_map,hq]; exact Nat.add_comm 1 _)
 refine aj hio fun x' w=>?_
 have pp:(V.puL [.int mode,.int sh,.int f,aA gs]&&bo cj [.int mode,.int sh,.int f,aA gs])=true:=by rw [V.puL,V.puL,V.puL,V.puL,wy]; rfl
 have c1:=c1 [some (.int mode),some (.int sh),some (.int f),some (aA gs),some (gn mode (bit f 8) (bit f 16) sh),none,none,none,none,none]
 exact goP [xV 1 (EB h.m),xV 11 (B9 h.s),xQ 2 c1,xP 2 hm,xV 1 n2,xV 1 n1,xB 0 n3,xQ 4 c2,xQ 2 c3,xL 3 it,xS 0 w] pp (wy gs')
end
end
section
theorem bc {α:Type}{l:List α}{k:Nat}{x:α}(e:l[k]? = some x):k<l.length:=(List.getElem?_eq_some_iff.mp e).1
theorem Hg {l:List Nat}{c i k:Nat}(hik:i≤k) (hk:l[k]? = some c) (hn:∀ v,i≤v→v<k→l[v]?≠some c):Txt.find3 ⟨⟨l⟩⟩ ⟨⟨[c]⟩⟩ (i:Int)=(k:Int):=by
 have hkl:=bc hk
 have hf:fromIndex (⟨⟨l⟩⟩:Str).length (i:Int)=i:=by
  show fromIndex l.length (i:Int)=i
  unfold fromIndex
  rw [if_neg (Int.not_lt.mpr (Int.natCast_nonneg i))]
  rfl
 have h3:=find3_spec ⟨⟨l⟩⟩ c (i:Int)
 rw [hf] at h3
 rcases h3 with ⟨h1,h2⟩ | ⟨j,h1,h2,h3,h4,h5⟩
 ·exact absurd (getD_of_getElem? (x:=⟨⟨l⟩⟩) hk) (h2 k hik hkl)
 ·rcases Nat.lt_trichotomy j k with q | q | q
  ·exact absurd (getElem?_of_getD (x:=⟨⟨l⟩⟩) h3 h4) (hn j h2 q)
  ·rw [← q]; exact h1
  ·exact absurd (getD_of_getElem? (x:=⟨⟨l⟩⟩) hk) (h5 k hik q)
theorem uq {l:List Nat}{c i k:Nat}(hik:i≤k) (hk:l[k]? = some c) (hn:∀ v,i≤v→v<k→l[v]?≠some c):eQ .find (S l) [S [c],.int i]=some (.int k):=congrArg (fun x=>some (V.int x)) (Hg hik hk hn)
section
variable {l r:List Nat}{k a b c x:Nat}
theorem gp {w:List Nat}(h:l.drop k=w++r) (i:Nat) {x:Nat}(hi:w[i]? = some x):l[k+i]? = some x:=by
 rw [← List.getElem?_drop,h,List.getElem?_append_left (bc hi),hi]
theorem cM (e:l[k]? = some x):bG (S l) (some (.int k)) (some (.int (k+1:Nat))) none=some (S [x]):=by
 have h:=li (l:=l) (i:=k) (j:=k+1)
 rw [Nat.add_sub_cancel_left,List.drop_eq_getElem_cons (bc e),(List.getElem?_eq_some_iff.mp e).2] at h
 exact h
theorem AC (e:l.length≤k):bG (S l) (some (.int k)) (some (.int (k+1:Nat))) none=some (S []):=by
 have h:=li (l:=l) (i:=k) (j:=k+1)
 rw [List.drop_of_length_le e,List.take_nil] at h
 exact h
noncomputable abbrev isW:=wR tP 7 (at_ nY.body 2)
noncomputable abbrev isM (l:List Nat) (k c:Nat) (low high close:Option V):LV:=[some (S l),some (.int k),some (S [c]),some (.int l.length),low,high,close]
theorem Da (e:l[k]? = some 93) {p q s:Option V}:Wh isW (isM l k c p q s) [] .next (isM l k c p q s) []:=by
 have hk:=bc e
 exact wE [xC 4 (ltT hk),xV 2 (am e)]
theorem Ca {f:Fl}{m:LV}(e:l[k]? = some a) (e2:l[k+1]? = some x) (ha:a≠93) (hx:x≠45) {p q s:Option V}(hc:c≠a)
  (h:Wh isW (isM l (k+1) c (some (S [a])) (some (S [a])) s) [] f m []):Wh isW (isM l k c p q s) [] f m []:=by
 have hk:=bc e
 have o1:=cM e2
 rcases Nat.lt_trichotomy c a with q | q | q
 ·exact wI h [xC 4 (ltT hk),xV 2 (am e),xC 2 (nB (cF ha)),xV 2 (am e),xV 7 o1,xC 2 (cF hx),xC 4 (oi q),xC 1 (oi q),xC 4 (oi q),xC 1 (oi q)]
 ·exact absurd q hc
 ·exact wI h [xC 4 (ltT hk),xV 2 (am e),xC 2 (nB (cF ha)),xV 2 (am e),xV 7 o1,xC 2 (cF hx),xC 4 (pW (Nat.le_of_lt q)),xC 4 (oi q),xC 4 (pW (Nat.le_of_lt q)),xC 4 (oi q)]
theorem Db (e:l[k]? = some a) (e2:l[k+1]? = some x) (ha:a≠93) (hx:x≠45) {p q s:Option V}{j:Nat}(hj:k+1≤j) (ej:l[j]? = some 93) (hn:∀ v,k+1≤v→v<j→l[v]?≠some 93) :
  Wh isW (isM l k a p q s) [] (.ret (.tup [.bool true,.int (j+1:Nat)])) [] []:=by
 have hk:=bc e
 have o1:=cM e2
 exact wE [xC 4 (ltT hk),xV 2 (am e),xC 2 (nB (cF ha)),xV 2 (am e),xV 7 o1,xC 2 (cF hx),xC 4 (pW (Nat.le_refl a)),xC 4 (pW (Nat.le_refl a)),xC 1 (pW (Nat.le_refl a)),xV 2 (uq hj ej hn)]
theorem Hh (e:l[k]? = some a) (e2:l[k+1]? = some 45) (e3:l[k+2]? = some b) (e4:l[k+3]? = some 93) (ha:a≠93) (hab:a≤b) {p q s:Option V}(h1:a≤c) (h2:c≤b) :
  Wh isW (isM l k c p q s) [] (.ret (.tup [.bool true,.int (k+3+1:Nat)])) [] []:=by
 have hk:=bc e
 have o1:=cM e2
 have f:=uq (l:=l) (c:=93) (i:=k+3) (k:=k+3) (Nat.le_refl _) e4 fun v h1 h2=>absurd h1 (Nat.not_le.mpr h2)
 exact wE [xC 4 (ltT hk),xV 2 (am e),xC 2 (nB (cF ha)),xV 2 (am e),xV 7 o1,xC 8 (leF (bc e3)),xV 3 (am e3),xC 6 (pW h1),xC 4 (pW h2),xC 1 (pW h2),xV 2 f]
theorem EC (e:l[k]? = some a) (e2:l[k+1]? = some 45) (e3:l[k+2]? = some b) (e4:l[k+3]? = some 93) (ha:a≠93) (hab:a≤b) {p q s:Option V}(hc:¬ (a≤c∧c≤b)) :
  Wh isW (isM l k c p q s) [] .next (isM l (k+3) c (some (S [a])) (some (S [b])) s) []:=by
 have hk:=bc e
 have o1:=cM e2
 have w:=Da (c:=c) e4 (p:=some (S [a])) (q:=some (S [b])) (s:=s)
 rcases Nat.lt_or_ge c a with q1 | q1
 ·have q2:=Nat.lt_of_lt_of_le q1 hab
  exact wI w [xC 4 (ltT hk),xV 2 (am e),xC 2 (nB (cF ha)),xV 2 (am e),xV 7 o1,xC 8 (leF (bc e3)),xV 3 (am e3),xC 6 (oi q1),xC 1 (oi q1),xC 4 (oi q2),xC 1 (oi q2)]
 ·have q2:b<c:=Nat.lt_of_not_le fun h=>hc ⟨q1,h⟩
  have q3:=Nat.lt_of_le_of_lt hab q2
  exact wI w [xC 4 (ltT hk),xV 2 (am e),xC 2 (nB (cF ha)),xV 2 (am e),xV 7 o1,xC 8 (leF (bc e3)),xV 3 (am e3),xC 6 (pW q1),xC 4 (oi q2),xC 4 (pW (Nat.le_of_lt q2)),xC 4 (oi q3)]
theorem wz (h:l.drop k=[91,a,b,93]++r) (ha:a≠93∧a≠45) (hb:b≠93∧b≠45):kT [S l,.int k,S [c]] (.ok (.tup [.bool (c==a||c==b),.int (k+4:Nat)])):=by
 have e0:=gp h 1 rfl
 have e1:=gp h 2 rfl
 have e2:=gp h 3 rfl
 by_cases q1:c=a
 ·subst q1
  have w:=Db (p:=none) (q:=none) (s:=none) e0 e1 ha.1 hb.2 (j:=k+3) (Nat.le_add_right (k+2) 1) e2 fun v h1 h2=>by
   rw [Nat.le_antisymm (Nat.le_of_lt_succ h2) h1,e1]
   exact fun h=>hb.1 (sj h)
  rw [beq_self_eq_true,Bool.true_or]
  exact goP [xS 4 w] rfl rfl
 ·by_cases q2:c=b
  ·subst q2
   have w:=Ca (p:=none) (q:=none) (s:=none) e0 e1 ha.1 hb.2 q1 (Db e1 e2 hb.1 (by decide) (j:=k+3) (Nat.le_refl _) e2 fun v h1 h2=>absurd h1 (Nat.not_le.mpr h2))
   rw [beq_self_eq_true,Bool.or_true]
   exact goP [xS 4 w] rfl rfl
  ·have w:=Ca (p:=none) (q:=none) (s:=none) e0 e1 ha.1 hb.2 q1 (Ca e1 e2 hb.1 (by decide) q2 (Da e2))
   rw [beq_eq_false_iff_ne.mpr q1,beq_eq_false_iff_ne.mpr q2]
   exact goP [xS 4 w,xC 4 (ltT (bc e2))] rfl rfl
theorem lq (h:l.drop k=[91,a,45,b,93]++r) (ha:a≠93) (hab:a≤b):kT [S l,.int k,S [c]] (.ok (.tup [.bool (Nat.ble a c&&Nat.ble c b),.int (k+5:Nat)])):=by
 have e0:=gp h 1 rfl
 have e1:=gp h 2 rfl
 have e2:=gp h 3 rfl
 have e3:=gp h 4 rfl
 by_cases q:a≤c∧c≤b
 ·have w:=Hh (c:=c) (p:=none) (q:=none) (s:=none) e0 e1 e2 e3 ha hab q.1 q.2
  rw [eH q.1,eH q.2]
  exact goP [xS 4 w] rfl rfl
 ·have w:=EC (c:=c) (p:=none) (q:=none) (s:=none) e0 e1 e2 e3 ha hab q
  rw [bF fun h=>q ⟨aX (an h).1,aX (an h).2⟩]
  exact goP [xS 4 w,xC 4 (ltT (bc e3))] rfl rfl
inductive vd:List Nat→(Nat→Bool)→Prop
 | any:vd [63] (fun _=>true)
 | sign {x:Nat}:x≠63→x≠91→x≠92→x≠42→vd [x] (fun c=>c==x)
 | back {x:Nat}:vd [92,x] (fun c=>c==x)
 | two {a b:Nat}:a≠93∧a≠45→b≠93∧b≠45→vd [91,a,b,93] (fun c=>c==a||c==b)
 | range {a b:Nat}:a≠93→a≤b→vd [91,a,45,b,93] (fun c=>Nat.ble a c&&Nat.ble c b)
theorem AD {w:List Nat}{mt:Nat→Bool}(hf:vd w mt) (h:l.drop k=w++r) (hm:mt c=true):fi [S l,.int k,S [c]] (.ok (.int (k+w.length:Nat))):=by
 cases hf with
 | any=>exact goP [xV 2 (am (gp h 0 rfl))] rfl rfl
 | sign h1 h2 h3 h4 =>
  have e0:=gp h 0 rfl
  obtain rfl:=eq_of_beq hm
  exact goP [xV 2 (am e0),xC 2 (cF h1),xV 2 (am e0),xC 2 (cF h2),xV 2 (am e0),xC 2 (cF h3),xV 4 (cM e0),xC 3 (cT (a:=c) rfl)] rfl rfl
 | back =>
  have e1:=gp h 1 rfl
  obtain rfl:=eq_of_beq hm
  exact goP [xV 2 (am (gp h 0 rfl)),xV 5 (am (gp h 0 rfl)),xV 5 (am (gp h 0 rfl)),xV 9 (cM e1),xC 3 (cT (a:=c) rfl)] rfl rfl
 | two ha hb =>
  have hs:=wz (c:=c) h ha hb
  rw [show (c==_||c==_)=true from hm] at hs
  exact goP [xV 2 (am (gp h 0 rfl)),xV 5 (am (gp h 0 rfl)),xP 6 hs] rfl rfl
 | range ha hab =>
  have hs:=lq (c:=c) h ha hab
  rw [show (Nat.ble _ c&&Nat.ble c _)=true from hm] at hs
  exact goP [xV 2 (am (gp h 0 rfl)),xV 5 (am (gp h 0 rfl)),xP 6 hs] rfl rfl
theorem ED {w:List Nat}{mt:Nat→Bool}(hf:vd w mt) (h:l.drop k=w++r) (hm:mt c=false):fi [S l,.int k,S [c]] (.ok (.int (-1))):=by
 cases hf with
 | any=>exact tf hm
 | sign h1 h2 h3 h4 =>
  have e0:=gp h 0 rfl
  exact goP [xV 2 (am e0),xC 2 (cF h1),xV 2 (am e0),xC 2 (cF h2),xV 2 (am e0),xC 2 (cF h3),xV 4 (cM e0),xC 3 (cF fun e=>beq_eq_false_iff_ne.mp hm e.symm)] rfl rfl
 | back =>
  have e1:=gp h 1 rfl
  exact goP [xV 2 (am (gp h 0 rfl)),xV 5 (am (gp h 0 rfl)),xV 5 (am (gp h 0 rfl)),xV 9 (cM e1),xC 3 (cF fun e=>beq_eq_false_iff_ne.mp hm e.symm)] rfl rfl
 | two ha hb =>
  have hs:=wz (c:=c) h ha hb
  rw [show (c==_||c==_)=false from hm] at hs
  exact goP [xV 2 (am (gp h 0 rfl)),xV 5 (am (gp h 0 rfl)),xP 6 hs] rfl rfl
 | range ha hab =>
  have hs:=lq (c:=c) h ha hab
  rw [show (Nat.ble _ c&&Nat.ble c _)=false from hm] at hs
  exact goP [xV 2 (am (gp h 0 rfl)),xV 5 (am (gp h 0 rfl)),xP 6 hs] rfl rfl
end
end
section
noncomputable abbrev Pk:=List Nat × (Nat→Bool)
noncomputable def aT (p:Pk):Bool:=p.1==[42]
noncomputable def jP (p:Pk):Prop:=p.1=[42]∨vd p.1 p.2
noncomputable def tk (p:Pk) (t:List Nat) (k:Nat):Bool:=match t[k]? with
 | some c=>p.2 c
 | none=>false
noncomputable def exL (f:Nat→Bool):Nat→Bool
 | 0=>f 0
 | k+1=>exL f k||f (k+1)
noncomputable def ent (ps:List Pk) (t:List Nat):Nat→Nat→Bool
 | 0,k=>k==0
 | i+1,k=>match ps[i]? with
  | none=>false
  | some p=>if aT p=true then exL (ent ps t i) k else match k with
   | 0=>false
   | k+1=>ent ps t i k&&tk p t k
noncomputable def St (ps:List Pk) (i:Nat):Prop:=∃ p,ps[i]? = some p∧aT p=true
noncomputable def Qs (ps:List Pk) (t:List Nat) (i k:Nat):Prop:=ent ps t i k=true∨(St ps i∧exL (ent ps t i) k=true)
theorem Hi {f:Nat→Bool}:∀ {k:Nat},f k=true→exL f k=true
 | 0,h=>h
 | k+1,h=>by rw [exL,h,Bool.or_true]
section
variable {ps:List Pk}{t:List Nat}{i k:Nat}{p:Pk}
theorem mJ:ent ps t (i+1) k=match ps[i]? with
  | none=>false
  | some p=>if aT p=true then exL (ent ps t i) k else match k with
   | 0=>false
   | k+1=>ent ps t i k&&tk p t k:=rfl
theorem jj (e:ps[i]? = some p) (s:aT p=true):ent ps t (i+1) k=exL (ent ps t i) k:=by rw [mJ,e]; exact if_pos s
theorem ur (e:ps[i]? = some p) (s:¬ aT p=true):ent ps t (i+1) (k+1)=(ent ps t i k&&tk p t k):=by rw [mJ,e]; exact if_neg s
theorem rX (e:ps[i]? = some p) (s:¬ aT p=true):ent ps t (i+1) 0=false:=by rw [mJ,e]; exact if_neg s
theorem Qs.ex (h:Qs ps t i k):exL (ent ps t i) k=true:=h.elim Hi fun h=>h.2
theorem Qs.en (h:Qs ps t i k) (s:¬ St ps i):ent ps t i k=true:=h.elim id fun h=>absurd h.1 s
theorem St.no (e:ps[i]? = some p) (s:¬ aT p=true):¬ St ps i:=fun ⟨q,e',h⟩=>s (sj (e.symm.trans e') ▸ h)
theorem Qs.stay (h:Qs ps t i k) (s:St ps i):Qs ps t i (k+1):=.inr ⟨s,by rw [exL,h.ex]; rfl⟩
theorem Qs.step (h:Qs ps t i k) (e:ps[i]? = some p) (s:¬ aT p=true) (x:tk p t k=true):Qs ps t (i+1) (k+1):=.inl (by rw [ur e s,h.en (St.no e s),x]; rfl)
theorem Qs.skip (h:Qs ps t i k) (s:St ps i):Qs ps t (i+1) k:=s.elim fun p hp=>.inl ((jj hp.1 hp.2).trans h.ex)
theorem Mf (h:ent ps t i k=true):i≤ps.length:=by
 cases i with
 | zero=>exact Nat.zero_le _
 | succ i =>
  rw [mJ] at h
  cases e:ps[i]? with
  | none=>rw [e] at h; exact ff h
  | some p=>exact bc e
theorem Qs.le (h:Qs ps t i k):i≤ps.length:=h.elim Mf fun h=>h.1.elim fun p hp=>Nat.le_of_lt (bc hp.1)
theorem AE (h:ent ps t i k=true):(i=0∧k=0)∨∃ j p,i=j+1∧ps[j]? = some p∧((aT p=true∧Qs ps t j k)∨(¬ aT p=true∧∃ k',k=k'+1∧Qs ps t j k'∧tk p t k'=true)):=by
 cases i with
 | zero=>exact .inl ⟨rfl,eq_of_beq h⟩
 | succ i =>
  refine .inr ?_
  cases e:ps[i]? with
  | none=>rw [mJ,e] at h; exact ff h
  | some p =>
   refine ⟨i,p,rfl,e,?_⟩
   by_cases s:aT p=true
   ·rw [jj e s] at h
    exact .inl ⟨s,.inr ⟨⟨p,e,s⟩,h⟩⟩
   ·refine .inr ⟨s,?_⟩
    cases k with
    | zero=>rw [rX e s] at h; exact ff h
    | succ k=>rw [ur e s] at h; exact ⟨k,rfl,.inl (an h).1,(an h).2⟩
theorem Qs.orig (h:Qs ps t i (k+1)):(St ps i∧Qs ps t i k)∨∃ j p,i=j+1∧ps[j]? = some p∧((aT p=true∧Qs ps t j (k+1))∨(¬ aT p=true∧Qs ps t j k∧tk p t k=true)):=by
 have k1:ent ps t i (k+1)=true→∃ j p,i=j+1∧ps[j]? = some p∧((aT p=true∧Qs ps t j (k+1))∨(¬ aT p=true∧Qs ps t j k∧tk p t k=true)):=fun h=>(AE h).elim (fun h=>absurd h.2 (Nat.succ_ne_zero k)) fun ⟨j,p,e,hp,h⟩=>⟨j,p,e,hp,h.imp id fun ⟨s,k',ek,q,x⟩=>by
  obtain rfl:=Nat.succ.inj ek
  exact ⟨s,q,x⟩⟩
 rcases h with h | ⟨s,h⟩
 ·exact .inr (k1 h)
 ·rw [exL] at h
  cases e:exL (ent ps t i) k with
  | true=>exact .inl ⟨s,.inr ⟨s,e⟩⟩
  | false=>rw [e] at h; exact .inr (k1 h)
theorem Qs.none (h:∀ i,¬ Qs ps t i k):∀ (d i:Nat),¬ Qs ps t i (k+d)
 | 0,i,q=>h i q
 | d+1,i,q=>by
  induction i with
  | zero=>exact q.orig.elim (fun q=>Qs.none h d 0 q.2) fun ⟨j,p,e,_⟩=>absurd e.symm (Nat.succ_ne_zero j)
  | succ i ih=>exact q.orig.elim (fun q=>Qs.none h d _ q.2) fun ⟨j,p,e,_,q⟩=>(by
    obtain rfl:=Nat.succ.inj e
    exact q.elim (fun q=>ih q.2) fun q=>Qs.none h d _ q.2.1)
noncomputable def pat (ps:List Pk):List Nat:=(ps.map (·.1)).flatten
noncomputable def off (ps:List Pk) (i:Nat):Nat:=(pat (ps.take i)).length
theorem JJ {w:List Nat}{mt:Nat→Bool}(h:vd w mt):∃ x r,w=x::r∧x≠42:=by
 cases h with
 | any=>exact ⟨_,_,rfl,by decide⟩
 | sign h1 h2 h3 h4=>exact ⟨_,_,rfl,h4⟩
 | back=>exact ⟨_,_,rfl,by decide⟩
 | two=>exact ⟨_,_,rfl,by decide⟩
 | range=>exact ⟨_,_,rfl,by decide⟩
theorem Dc {p:Pk}(h:jP p):∃ x r,p.1=x::r∧(aT p=true→x=42)∧(¬ aT p=true→¬ x=42):=by
 rcases h with h | h
 ·exact ⟨42,[],h,fun _=>rfl,fun s=>absurd (by rw [aT,h]; rfl) s⟩
 ·refine cN (JJ h) fun x r e hx=>⟨x,r,e,fun s=>?_,fun _=>hx⟩
  have s:=eq_of_beq (show (p.1==[42])=true from s)
  rw [e] at s
  exact (List.cons.inj s).1
theorem ut (e:ps[i]? = some p):off ps (i+1)=off ps i+p.1.length:=by
 unfold off pat
 rw [List.take_add_one,e,List.map_append,List.flatten_append,List.length_append]
 exact congrArg (_+·) (congrArg List.length (List.flatten_singleton (l:=p.1)))
theorem ot (h:ps.length≤i):off ps i=(pat ps).length:=by
 unfold off
 rw [List.take_of_length_le h]
theorem Hj (i:Nat):(pat ps).drop (off ps i)=pat (ps.drop i):=by
 have:pat ps=pat (ps.take i)++pat (ps.drop i):=by unfold pat; rw [← List.flatten_append,← List.map_append,List.take_append_drop]
 unfold off
 rw [this,List.drop_left]
theorem JK (e:ps[i]? = some p):ps.drop i=p::ps.drop (i+1):=by
 rw [List.drop_eq_getElem_cons (bc e),(List.getElem?_eq_some_iff.mp e).2]
theorem yH (e:ps[i]? = some p):(pat ps).drop (off ps i)=p.1++pat (ps.drop (i+1)):=by
 rw [Hj,JK e]; rfl
theorem AF (ok:∀ p∈ps,jP p) (e:ps[i]? = some p):∃ x,(pat ps)[off ps i]? = some x∧(aT p=true→x=42)∧(¬ aT p=true→¬ x=42) :=
 cN (Dc (ok p (List.mem_of_getElem? e))) fun x r ep hx=>⟨x,(aJ ((yH e).trans (by rw [ep]; rfl))).1,hx⟩
theorem yI (ok:∀ p∈ps,jP p) (hj:i<ps.length):off ps i<off ps (i+1):=by
 have e:=List.getElem?_eq_getElem hj
 rw [ut e]
 refine cN (Dc (ok _ (List.getElem_mem hj))) fun x r ep _=>Nat.lt_add_of_pos_right ?_
 rw [ep]; exact Nat.succ_pos _
theorem Cc (ok:∀ p∈ps,jP p) {j:Nat}(h:i<j) (hj:j≤ps.length):off ps i<off ps j:=by
 induction j with
 | zero=>exact absurd h (Nat.not_lt_zero _)
 | succ j ih=>exact (Nat.lt_or_eq_of_le (Nat.le_of_lt_succ h)).elim (fun q=>Nat.lt_trans (ih q (Nat.le_of_lt hj)) (yI ok hj)) fun q=>by subst q; exact yI ok hj
theorem JL (ok:∀ p∈ps,jP p) {j:Nat}(hi:i≤ps.length) (hj:j≤ps.length) (e:off ps i=off ps j):i=j :=
 (Nat.lt_trichotomy i j).elim (fun h=>absurd e (Nat.ne_of_lt (Cc ok h hj))) fun h=>h.elim id fun h=>absurd e (Nat.ne_of_gt (Cc ok h hi))
noncomputable def ve (P:List Nat) (i:Nat):List Nat:=if i∈P then P else P++[i]
noncomputable abbrev cy (ps:List Pk) (P:List Nat):List Int:=P.map fun i=>((off ps i:Nat):Int)
noncomputable abbrev eK (ps:List Pk) (P:List Nat):AO:=.dI (cy ps P)
structure PSt (ps:List Pk) (t:List Nat) (k:Nat) (A:List Nat) (x:Nat):Prop where
 cl:∀ j∈A,j≠x→St ps j→j+1∈A
 nd:A.Nodup
 sd:∀ j∈A,Qs ps t j k
theorem wA:∀ (m:Nat) (l:List Nat),l.Nodup→(∀ j∈l,j<m)→l.length≤m
 | 0,[],h,hl=>Nat.le_refl _
 | 0,a::l,h,hl=>absurd (hl a (.head _)) (Nat.not_lt_zero _)
 | m+1,l,h,hl=>by
  have k:=wA m (l.erase m) (h.erase m) fun j hj=>by
   have:=h.mem_erase_iff.mp hj
   exact Nat.lt_of_le_of_ne (Nat.le_of_lt_succ (hl j this.2)) this.1
  rw [List.length_erase] at k
  split at k
  ·exact Nat.le_add_of_sub_le k
  ·exact Nat.le_succ_of_le k
variable {A:List Nat}{x:Nat}
theorem PSt.le (h:PSt ps t k A x):∀ j∈A,j≤ps.length:=fun j hj=>(h.sd j hj).le
theorem PSt.len (h:PSt ps t k A x):A.length≤ps.length+1:=wA _ _ h.nd fun j hj=>Nat.lt_succ_of_le (h.le j hj)
theorem c9 {P:List Nat}{j:Nat}:j∈ve P i↔j∈P∨j=i:=by
 unfold ve
 split <;> rename_i h
 ·exact ⟨.inl,fun q=>q.elim id fun e=>e ▸ h⟩
 ·rw [List.mem_append,List.mem_singleton]
theorem uu {P:List Nat}(h:P.Nodup):(ve P i).Nodup:=by
 unfold ve
 split <;> rename_i hn
 ·exact h
 ·exact List.nodup_append.mpr ⟨h,List.nodup_cons.mpr ⟨nofun,.nil⟩,fun a ha b hb e=>hn (List.mem_singleton.mp hb ▸ e ▸ ha)⟩
theorem AG (ok:∀ p∈ps,jP p) {P:List Nat}(hi:i≤ps.length) (hP:∀ j∈P,j≤ps.length):(cy ps P).contains ((off ps i:Nat):Int)=decide (i∈P):=by
 rw [Bool.eq_iff_iff,List.contains_iff_mem,List.mem_map,decide_eq_true_eq]
 exact ⟨fun ⟨j,hj,e⟩=>JL ok (hP j hj) hi (Int.ofNat_inj.mp e) ▸ hj,fun h=>⟨i,h,rfl⟩⟩
theorem uv (ok:∀ p∈ps,jP p) {G:AH}{r:Nat}(hn:ps.length≤1000) (h:PSt ps t k A x) (hi:i≤ps.length) (e:G[r]? = some (eK ps A)):j3 G (.ref r) (.int (off ps i)) (.bool true)=some (G.set r (eK ps (ve A i))):=by
 have q:FN G (.ref r) (.int (off ps i)) (.bool true)=_:=cB e
 have q2:=q.trans (fu (eH (by rw [List.length_map]; exact Nat.le_trans (Nat.succ_le_succ h.len) (Nat.le_trans (Nat.add_le_add_right hn 2) (by decide)))))
 refine (congrArg Cv.v q2).trans (congrArg (fun ks=>some (G.set r (AO.dI ks))) ?_)
 rw [AG ok hi h.le]
 unfold ve
 by_cases hm:i∈A
 ·rw [if_pos hm,if_pos (decide_eq_true hm)]
 ·rw [if_neg hm,if_neg (mt of_decide_eq_true hm)]; exact (List.map_append (f:=fun i=>((off ps i:Nat):Int)) (l₁:=A) (l₂:=[i])).symm
noncomputable abbrev ppW:=wR jJ 7 (at_ gL.body 1)
theorem fW {G:AH}{r:Nat}{o:AO}(e:G[r]? = some o):G.set r o=G:=by
 obtain ⟨h,e⟩:=List.getElem?_eq_some_iff.mp e
 rw [← e]
 exact List.set_getElem_self h
theorem AI (ok:∀ p∈ps,jP p) (hn:ps.length≤1000) {r:Nat}:∀ (d i:Nat) (A:List Nat) (G:AH),i+d=ps.length→PSt ps t k A i→i∈A→G[r]? = some (eK ps A) →
  ∃ A' m',PSt ps t k A' ps.length∧(∀ j∈A,j∈A')∧Wh ppW [some (S (pat ps)),some (.int (off ps i)),some (.ref r)] G .next m' (G.set r (eK ps A'))
 | 0,i,A,G,hd,h,hi,e=>by
  obtain rfl:i=ps.length:=hd
  refine ⟨A,[some (S (pat ps)),some (.int (off ps ps.length)),some (.ref r)],h,fun j hj=>hj,?_⟩
  rw [fW e]
  have o:=AC (Nat.le_of_eq (ot (Nat.le_refl ps.length)).symm)
  exact wE [xV 4 o]
 | d+1,i,A,G,hd,h,hi,e=>by
  have hl:i<ps.length:=by rw [← hd]; exact Nat.lt_add_of_pos_right (Nat.succ_pos d)
  have ep:=List.getElem?_eq_getElem hl
  generalize ps[i]=p at ep
  refine dA (AF ok ep) fun x hx h1 h2=>?_
  have o:=cM hx
  by_cases s:aT p=true
  ·obtain rfl:=h1 s
   have sp:=uv ok hn h hl e
   have hp:p.1.length=1:=by rw [eq_of_beq (show (p.1==[42])=true from s)]; rfl
   have es:=ut ep
   rw [hp] at es
   have st:St ps i:=⟨p,ep,s⟩
   obtain ⟨A',m',h3,h4,w⟩:=AI ok hn d (i+1) (ve A (i+1)) (G.set r (eK ps (ve A (i+1)))) (by rw [← hd,Nat.add_right_comm]; rfl) ⟨fun j hj hne sj=>c9.mpr ((c9.mp hj).elim (fun hj=>by
     by_cases q:j=i
     ·exact .inr (congrArg Nat.succ q)
     ·exact .inl (h.cl j hj q sj)) fun q=>absurd q hne),uu h.nd,fun j hj=>(c9.mp hj).elim (h.sd j) fun q=>q ▸ (h.sd i hi).skip st⟩ (c9.mpr (.inr rfl)) (by
     rw [List.getElem?_set_self (bc e)])
   rw [List.set_set] at w
   rw [es] at w sp
   refine ⟨A',m',h3,fun j hj=>h4 j (c9.mpr (.inl hj)),?_⟩
   exact wI w [xV 4 o,xH 7 sp]
  ·refine ⟨A,[some (S (pat ps)),some (.int (off ps i)),some (.ref r)],⟨fun j hj hne sj=>h.cl j hj (fun q=>St.no ep s (q ▸ sj)) sj,h.nd,h.sd⟩,fun j hj=>hj,?_⟩
   rw [fW e]
   exact wE [xV 4 o,xC 2 (cF (h2 s))]
theorem uw (ok:∀ p∈ps,jP p) (hn:ps.length≤1000) {G:AH}{r:Nat}(h:PSt ps t k A ps.length) (q:Qs ps t i k) (e:G[r]? = some (eK ps A)) :
  ∃ A',PSt ps t k A' ps.length∧(∀ j∈A,j∈A')∧i∈A'∧fh [S (pat ps),.int (off ps i),.ref r] G (.ok .none) (G.set r (eK ps A')):=by
 have sp:=uv ok hn h q.le e
 have hs:=Nat.add_sub_of_le q.le
 obtain ⟨A',m',h3,h4,w⟩:=AI ok hn (t:=t) (k:=k) (r:=r) _ i (ve A i) (G.set r (eK ps (ve A i))) hs ⟨fun j hj hne s=>c9.mpr (.inl (h.cl j ((c9.mp hj).elim id fun e=>absurd e hne) (fun e=>by
   obtain ⟨p,hp,_⟩:=s
   exact absurd (e ▸ bc hp) (Nat.lt_irrefl _)) s)),uu h.nd,fun j hj=>(c9.mp hj).elim (h.sd j) fun e=>e ▸ q⟩ (c9.mpr (.inr rfl)) (by rw [List.getElem?_set_self (bc e)])
 rw [List.set_set] at w
 refine ⟨A',h3,fun j hj=>h4 j (c9.mpr (.inl hj)),h4 i (c9.mpr (.inr rfl)),?_⟩
 exact goH [xH 2 sp,xS 0 w] rfl
end
end
section
section
variable {ps:List Pk}{t:List Nat}{c k r:Nat}{A:List Nat}{G:AH}
noncomputable abbrev ftF:=fR yb 7 (at_ tQ.body 4)
noncomputable abbrev ftI:=fR yb 6 (at_ (blk (at_ tQ.body 4)) 2)
structure Cb (ps:List Pk) (c:Nat) (A:List Nat) (i:Nat):Prop where
 s:St ps i→i∈A
 m:∀ p,ps[i]? = some p→¬ aT p=true→p.2 c=true→i+1∈A
theorem Cb.up {A':List Nat}{i:Nat}(h:Cb ps c A i) (k:∀ j∈A,j∈A'):Cb ps c A' i:=⟨fun s=>k _ (h.s s),fun p e s m=>k _ (h.m p e s m)⟩
theorem Mg {p:Pk}(ec:t[k]? = some c):tk p t k=p.2 c:=by rw [tk,ec]
noncomputable abbrev ftM (ps:List Pk) (T NC X4 x5 x6 x7 x8:Option V):LV:=[some (S (pat ps)),T,NC,some (.int (pat ps).length),X4,x5,x6,x7,x8]
theorem ux (ok:∀ p∈ps,jP p) (hn:ps.length≤1000) (ec:t[k]? = some c) {T NC X4:Option V}:∀ (L A:List Nat) (G:AH) (x7 x8:Option V),(∀ i∈L,Qs ps t i k)→PSt ps t (k+1) A ps.length→G[r]? = some (eK ps A) →
  ∃ A' y7 y8,PSt ps t (k+1) A' ps.length∧((∀ j∈A,j∈A')∧∀ i∈L,Cb ps c A' i)∧ftI ((cy ps L).map .int) (ftM ps T NC X4 (some (S [c])) (some (.ref r)) x7 x8) G .next (ftM ps T NC X4 (some (S [c])) (some (.ref r)) y7 y8) (G.set r (eK ps A'))
 | [],A,G,x7,x8,hq,h,e=>⟨A,x7,x8,h,⟨fun j hj=>hj,nofun⟩,by rw [fW e]; exact fN⟩
 | i::L,A,G,x7,x8,hq,h,e=>by
  have q:=hq i (.head _)
  have rl:=bc e
  have go:∀ A1 y8,PSt ps t (k+1) A1 ps.length→(∀ j∈A,j∈A1)→Cb ps c A1 i→∃ A' y7 z8,PSt ps t (k+1) A' ps.length∧((∀ j∈A,j∈A')∧∀ i'∈i::L,Cb ps c A' i')∧ftI ((cy ps L).map .int) (ftM ps T NC X4 (some (S [c])) (some (.ref r)) (some (.int (off ps i))) y8) (G.set r (eK ps A1)) .next (ftM ps T NC X4 (some (S [c])) (some (.ref r)) y7 z8) (G.set r (eK ps A')):=fun A1 y8 h1 h2 h3=>by
   refine lX (ux ok hn ec (T:=T) (NC:=NC) (X4:=X4) L A1 (G.set r (eK ps A1)) (some (.int (off ps i))) y8 (fun i hi=>hq i (.tail _ hi)) h1 (by rw [List.getElem?_set_self rl])) fun A' y7 z8 g1 g2 w=>⟨A',y7,z8,g1,⟨fun j hj=>g2.1 j (h2 j hj),fun i' hi=>(List.mem_cons.mp hi).elim (fun q=>q ▸ h3.up g2.1) (g2.2 i')⟩,?_⟩
   rw [List.set_set] at w
   exact w
  cases ep:ps[i]? with
  | none =>
   have hge:ps.length≤i:=List.getElem?_eq_none_iff.mp ep
   have eo:=ot hge
   refine L5 (go A x8 h (fun j hj=>hj) ⟨fun ⟨p,e',_⟩=>nS (ep.symm.trans e'),fun p e'=>nS (ep.symm.trans e')⟩) fun A' y7 z8 w=>?_
   rw [fW e] at w
   have o:=AC (Nat.le_of_eq eo.symm)
   exact fI w [xV 4 o,xC 7 (ltF (Nat.le_of_eq eo.symm))]
  | some p =>
   refine dA (AF ok ep) fun x hx h1 h2=>?_
   have o:=cM hx
   by_cases s:aT p=true
   ·obtain rfl:=h1 s
    have st:St ps i:=⟨p,ep,s⟩
    refine A7 (uw ok hn h (q.stay st) e) fun A1 p1 p2 p3 p4=>?_
    refine L5 (go A1 x8 p1 p2 ⟨fun _=>p3,fun p' e' s'=>absurd st (St.no e' s')⟩) fun A' y7 z8 w=>?_
    exact fI w [xV 4 o,xR 6 p4]
   ·have hf:vd p.1 p.2:=(ok p (List.mem_of_getElem? ep)).elim (fun h=>absurd (by rw [aT,h]; rfl) s) id
    cases hm:p.2 c with
    | true =>
     have hb:=AD hf (yH ep) hm
     rw [← ut ep] at hb
     refine A7 (uw ok hn h (q.step ep s ((Mg ec).trans hm)) e) fun A1 p1 p2 p3 p4=>?_
     refine L5 (go A1 (some (.int (off ps (i+1):Nat))) p1 p2 ⟨fun st=>absurd st (St.no ep s),fun p' e' s' m=>p3⟩) fun A' y7 z8 w=>?_
     exact fI w [xV 4 o,xC 2 (cF (h2 s)),xC 4 (ltT (bc hx)),xP 3 hb,xR 7 p4]
    | false =>
     have hb:=ED hf (yH ep) hm
     refine lX (go A (some (.int (-1))) h (fun j hj=>hj) ⟨fun st=>absurd st (St.no ep s),fun p' e' s' m=>(by
      obtain rfl:=sj (ep.symm.trans e')
      exact ff (hm.symm.trans m))⟩) fun A' y7 z8 g1 g2 w=>⟨A',y7,z8,g1,g2,?_⟩
     rw [fW e] at w
     exact fI w [xV 4 o,xC 2 (cF (h2 s)),xC 4 (ltT (bc hx)),xP 3 hb]
theorem Oh (ec:t[k]? = some c) (h:PSt ps t (k+1) A ps.length) (hc:∀ i,Qs ps t i k→Cb ps c A i):∀ i,Qs ps t i (k+1)→i∈A
 | 0,q=>q.orig.elim (fun q=>(hc 0 q.2).s q.1) fun ⟨j,p,e,_⟩=>absurd e.symm (Nat.succ_ne_zero j)
 | i+1,q=>q.orig.elim (fun q=>(hc _ q.2).s q.1) fun ⟨j,p,e,ep,q⟩=>(by
  obtain rfl:=Nat.succ.inj e
  exact q.elim (fun q=>h.cl i (Oh ec h hc i q.2) (fun e=>Nat.lt_irrefl _ (e ▸ bc ep)) ⟨p,ep,q.1⟩) fun q=>(hc _ q.2.1).m p ep q.1 ((Mg ec).symm.trans q.2.2))
structure Fz (ps:List Pk) (t:List Nat) (k:Nat) (P:List Nat):Prop where
 p:PSt ps t k P ps.length
 f:∀ i,Qs ps t i k→i∈P
theorem Qs.end (h:Qs ps t ps.length k):ent ps t ps.length k=true:=h.en fun ⟨p,e,_⟩=>Nat.lt_irrefl _ (bc e)
theorem Fz.fin {P:List Nat}(h:Fz ps t k P):decide (ps.length∈P)=ent ps t ps.length k:=by
 rw [Bool.eq_iff_iff,decide_eq_true_eq]
 exact ⟨fun q=>(h.p.sd _ q).end,fun q=>h.f _ (.inl q)⟩
theorem Fz.none (h:Fz ps t k []) (hk:k≤t.length):ent ps t ps.length t.length=false :=
 bF fun q=>by
  have k1:=Qs.none (fun i q=>nomatch h.f i q) (t.length - k) ps.length
  rw [Nat.add_sub_of_le hk] at k1
  exact k1 (.inl q)
theorem AJ {f:Nat→Bool}{k:Nat}(h:exL f k=true):∀ d,exL f (k+d)=true
 | 0=>h
 | d+1=>by rw [← Nat.add_assoc,exL,AJ h d]; rfl
theorem Fz.exit (ok:∀ p∈ps,jP p) {P:List Nat}(h:Fz ps t k P) (hk:k≤t.length) (h1:(pat ps).drop ((pat ps).length - 1)=[42]) (h2:(cy ps P).contains (((pat ps).length:Int) - 1)=true):ent ps t ps.length t.length=true:=by
 refine ae (List.mem_map.mp (List.contains_iff_mem.mp h2)) fun i hi e=>?_
 have hpos:0<(pat ps).length:=by
  cases q:pat ps with
  | nil=>rw [q] at h1; exact nomatch h1
  | cons=>exact Nat.succ_pos _
 have e:off ps i=(pat ps).length - 1:=by
  rw [← Int.natCast_one,← Int.natCast_sub hpos] at e
  exact Int.ofNat_inj.mp e
 have q:=h.p.sd i hi
 have hlt:i<ps.length:=Nat.lt_of_le_of_ne q.le fun q=>by
  rw [q,ot (Nat.le_refl _)] at e
  exact absurd e (Nat.ne_of_gt (Nat.sub_lt hpos Nat.one_pos))
 have ep:=List.getElem?_eq_getElem hlt
 generalize ps[i]=p at ep
 have hd:=yH ep
 rw [e,h1] at hd
 have hl:i+1=ps.length:=(Nat.lt_or_eq_of_le hlt).elim (fun q=>by
  have k1:=yI ok hlt
  have k2:=Cc ok q (Nat.le_refl _)
  rw [ot (Nat.le_refl _)] at k2
  rw [e] at k1
  exact absurd (Nat.lt_of_le_of_lt (Nat.le_of_pred_lt k1) k2) (Nat.lt_irrefl _)) id
 rw [List.drop_of_length_le (Nat.le_of_eq hl.symm)] at hd
 have hs:aT p=true:=by
  have:p.1=[42]:=((List.append_nil _).symm.trans hd.symm)
  rw [aT,this]; rfl
 have g:=AJ q.ex (t.length - k)
 rw [Nat.add_sub_of_le hk,← jj ep hs,hl] at g
 exact g
theorem Oi {a:V}{x:Bool}(h:(Fv G a).v=some x):unV G .Not a=some (.bool (!x)) :=
 have k:∀ o:Cv (K6 G a),o.v=some x→Cv.v (P:=UnS G .Not a) (match o with | some b=>yes (.bool (!b.1)) fun O e S r q=>not_value (b.2 O e _ _ _ _ _ S r fun tk=>aK S gZ q) | none=>none)=some (.bool (!x)):=fun o h=>match o,h with
  | some b,h=>congrArg (Option.map fun x=>V.bool (!x)) h
  | none,h=>nS h
 k _ h
theorem yJ {l:List Int}(e:G[r]? = some (.dI l)):unV G .Not (.ref r)=some (.bool (!!l.isEmpty)):=by
 have q:Fv G (.ref r)=_:=cB e
 exact Oi (congrArg Cv.v q)
theorem Dd {l:List Int}(e:G[r]? = some (.dI l)):look G r=some (.dI l):=by
 have q:CL G r=_:=cB e
 exact congrArg Cv.v q
inductive Mh (ps:List Pk) (t:List Nat) (T NC:Option V):Fl→LV→Prop
 | rt:Mh ps t T NC (.ret (.bool (ent ps t ps.length t.length))) []
 | nx (P:List Nat) (x5 x6 x7 x8:Option V) (h:Fz ps t t.length P):Mh ps t T NC .next (ftM ps T NC (some (.dI (cy ps P))) x5 x6 x7 x8)
noncomputable def FtP (ps:List Pk) (t:List Nat) (T NC:Option V) (N:Fl→LV→AH→Prop):Prop:=∃ j:{z:Fl × LV × AH // Mh ps t T NC z.1 z.2.1},N j.1.1 j.1.2.1 j.1.2.2
theorem FtP.ret {N:Fl→LV→AH→Prop}{ps:List Pk}{t:List Nat}{T NC:Option V}{b:Bool}{G:AH}(e:ent ps t ps.length t.length=b) (h:N (.ret (.bool b)) [] G):FtP ps t T NC N:=⟨⟨(.ret (.bool b),[],G),e ▸ .rt⟩,h⟩
theorem Qh:(G++[AO.dI []])[G.length]? = some (.dI []):=by rw [List.getElem?_append_right (Nat.le_refl _),Nat.sub_self]; rfl
theorem De (ok:∀ p∈ps,jP p) (hn:ps.length≤1000) (ec:t[k]? = some c) {P:List Nat}(h:Fz ps t k P) {T NC X4 x7 x8:Option V}(e:G[r]? = some (eK ps [])) :
  ∃ A y7 y8,Fz ps t (k+1) A∧(G.set r (eK ps A))[r]? = some (eK ps A)∧ftI ((cy ps P).map .int) (ftM ps T NC X4 (some (S [c])) (some (.ref r)) x7 x8) G .next (ftM ps T NC X4 (some (S [c])) (some (.ref r)) y7 y8) (G.set r (eK ps A)) :=
 lX (ux ok hn ec (T:=T) (NC:=NC) (X4:=X4) P [] G x7 x8 h.p.sd ⟨nofun,.nil,nofun⟩ e) fun A y7 y8 g1 g2 w=>⟨A,y7,y8,⟨g1,Oh ec g1 fun i q=>g2.2 i (h.f i q)⟩,by rw [List.getElem?_set_self (bc e)],w⟩
section
variable {T NC x5 x6 x7 x8 y7 y8:Option V}{P A:List Nat}{a:Nat}{xs:List V}{f:Fl}{m:LV}{G':AH}
theorem JM (e1:(pat ps).drop ((pat ps).length - 1)=[42]) (e2:(cy ps P).contains (((pat ps).length:Int) - 1)=true):ftF (S [c]::xs) (ftM ps T NC (some (.dI (cy ps P))) x5 x6 x7 x8) G (.ret (.bool true)) [] G :=
 fE [xV 2 (fU (l:=pat ps)),xC 2 (seT e1),xC 5 e2]
theorem Mi (b:(pat ps).drop ((pat ps).length - 1)=[42]→(cy ps P).contains (((pat ps).length:Int) - 1)=false) (eA:((G++[AO.dI []]).set G.length (eK ps []))[G.length]? = some (eK ps []))
  (w:ftI ((cy ps P).map .int) (ftM ps T NC (some (.dI (cy ps P))) (some (S [c])) (some (.ref G.length)) x7 x8) (G++[AO.dI []]) .next (ftM ps T NC (some (.dI (cy ps P))) (some (S [c])) (some (.ref G.length)) y7 y8) ((G++[AO.dI []]).set G.length (eK ps []))) :
  ftF (S [c]::xs) (ftM ps T NC (some (.dI (cy ps P))) x5 x6 x7 x8) G (.ret (.bool false)) [] ((G++[AO.dI []]).set G.length (eK ps [])):=by
 by_cases q:(pat ps).drop ((pat ps).length - 1)=[42]
 ·exact fE [xV 2 (fU (l:=pat ps)),xC 2 (seT q),xC 5 (b q),xS 2 w,xV 1 (yJ eA)]
 ·exact fE [xV 2 (fU (l:=pat ps)),xC 2 (seF q),xC 1 (seF q),xS 2 w,xV 1 (yJ eA)]
theorem Oj (b:(pat ps).drop ((pat ps).length - 1)=[42]→(cy ps P).contains (((pat ps).length:Int) - 1)=false) (eA:((G++[AO.dI []]).set G.length (eK ps (a::A)))[G.length]? = some (eK ps (a::A)))
  (w:ftI ((cy ps P).map .int) (ftM ps T NC (some (.dI (cy ps P))) (some (S [c])) (some (.ref G.length)) x7 x8) (G++[AO.dI []]) .next (ftM ps T NC (some (.dI (cy ps P))) (some (S [c])) (some (.ref G.length)) y7 y8) ((G++[AO.dI []]).set G.length (eK ps (a::A))))
  (ih:ftF xs (ftM ps T NC (some (.dI (cy ps (a::A)))) (some (S [c])) (some (.ref G.length)) y7 y8) (((G++[AO.dI []]).set G.length (eK ps (a::A))).set G.length .dead) f m G') :
  ftF (S [c]::xs) (ftM ps T NC (some (.dI (cy ps P))) x5 x6 x7 x8) G f m G':=by
 by_cases q:(pat ps).drop ((pat ps).length - 1)=[42]
 ·exact fI ih [xV 2 (fU (l:=pat ps)),xC 2 (seT q),xC 5 (b q),xS 2 w,xV 1 (yJ eA),xV 3 (Dd eA)]
 ·exact fI ih [xV 2 (fU (l:=pat ps)),xC 2 (seF q),xC 1 (seF q),xS 2 w,xV 1 (yJ eA),xV 3 (Dd eA)]
end
noncomputable def FtL (ps:List Pk) (t:List Nat) (T NC:Option V) (u:List Nat):Prop:=∀ (k:Nat) (P:List Nat) (x5 x6 x7 x8:Option V) (G:AH),t.drop k=u→k≤t.length→Fz ps t k P→FtP ps t T NC (ftF (u.map fun c=>S [c]) (ftM ps T NC (some (.dI (cy ps P))) x5 x6 x7 x8) G)
theorem JN (ok:∀ p∈ps,jP p) (hn:ps.length≤1000) {T NC:Option V}{u:List Nat}(ih:FtL ps t T NC u):FtL ps t T NC (c::u):=fun k P x5 x6 x7 x8 G hd hk h=>by
 refine bW (aJ hd) fun ec hl hd'=>?_
 by_cases ex:(pat ps).drop ((pat ps).length - 1)=[42]∧(cy ps P).contains (((pat ps).length:Int) - 1)=true
 ·exact .ret (h.exit ok hk ex.1 ex.2) (JM ex.1 ex.2)
 ·refine lX (De ok hn ec h (T:=T) (NC:=NC) (X4:=some (.dI (cy ps P))) (x7:=x7) (x8:=x8) (Qh (G:=G))) fun A y7 y8 hA eA w=>?_
  have b:=fun q=>bF fun e=>ex ⟨q,e⟩
  cases A with
  | nil=>exact .ret (hA.none hl) (Mi b eA w)
  | cons a A=>exact (ih (k+1) (a::A) _ _ _ _ _ hd' hl hA).imp fun j=>Oj b eA w
theorem EE (ok:∀ p∈ps,jP p) (hn:ps.length≤1000) {T NC:Option V}(u:List Nat):FtL ps t T NC u:=by
 induction u with
 | nil =>
  intro k P x5 x6 x7 x8 G hd hk h
  obtain rfl:k=t.length:=Nat.le_antisymm hk (drop_nil hd)
  exact ⟨⟨(.next,_,_),.nx P x5 x6 x7 x8 h⟩,fN⟩
 | cons c u ih=>exact JN ok hn ih
theorem Cd (ok:∀ p∈ps,jP p) (hn:ps.length≤1000) {T NC:Option V}{u P:List Nat}(et:t=c::u) (h:Fz ps t 0 P) :
  FtP ps t T NC (ftF (S [c]::u.map fun c=>S [c]) (ftM ps T NC (some (.ref 0)) none none none none) [eK ps P]):=by
 have sl:=fU (l:=pat ps)
 have ec:t[0]? = some c:=by rw [et]; rfl
 by_cases ex:(pat ps).drop ((pat ps).length - 1)=[42]∧(cy ps P).contains (((pat ps).length:Int) - 1)=true
 ·exact .ret (G:=[eK ps P]) (h.exit ok (Nat.zero_le _) ex.1 ex.2) (fE [xV 2 sl,xC 2 (seT ex.1),xC 5 ex.2])
 ·refine lX (De ok hn ec h (T:=T) (NC:=NC) (X4:=some (.ref 0)) (x7:=none) (x8:=none) (G:=[.dead,.dI []]) (r:=1) rfl) fun A y7 y8 hA eA w=>?_
  have hl:1≤t.length:=by rw [et]; exact Nat.succ_pos _
  have b:=fun q=>bF fun e=>ex ⟨q,e⟩
  cases A with
  | nil =>
   refine .ret (G:=[.dead,.dI []]) (hA.none hl) ?_
   by_cases q:(pat ps).drop ((pat ps).length - 1)=[42]
   ·exact fE [xV 2 sl,xC 2 (seT q),xC 5 (b q),xS 3 w]
   ·exact fE [xV 2 sl,xC 2 (seF q),xC 1 (seF q),xS 3 w]
  | cons a A =>
   refine (EE ok hn (T:=T) (NC:=NC) u 1 (a::A) (some (S [c])) (some (.ref 1)) y7 y8 [.dead,.dead] (by rw [et]; rfl) hl hA).imp fun j ih=>?_
   by_cases q:(pat ps).drop ((pat ps).length - 1)=[42]
   ·exact fI ih [xV 2 sl,xC 2 (seT q),xC 5 (b q),xS 3 w]
   ·exact fI ih [xV 2 sl,xC 2 (seF q),xC 1 (seF q),xS 3 w]
end
end
set_option genCtorIdx false in
inductive Kd where
 | star | any | sign (x:Nat) | back (x:Nat) | two (a b:Nat) | range (a b:Nat)
noncomputable def Kd.w:Kd→List Nat
 | .star=>[42]
 | .any=>[63]
 | .sign x=>[x]
 | .back x=>[92,x]
 | .two a b=>[91,a,b,93]
 | .range a b=>[91,a,45,b,93]
noncomputable def Kd.f:Kd→Nat→Bool
 | .star=>fun _=>false
 | .any=>fun _=>true
 | .sign x=>fun c=>c==x
 | .back x=>fun c=>c==x
 | .two a b=>fun c=>c==a||c==b
 | .range a b=>fun c=>Nat.ble a c&&Nat.ble c b
noncomputable def Kd.low:Kd→Kd
 | .sign x=>.sign (lo x)
 | .back x=>.back (lo x)
 | .two a b=>.two (lo a) (lo b)
 | .range a b=>.range (lo a) (lo b)
 | k=>k
noncomputable def Kd.ok:Kd→Bool
 | .sign x=>(x != 63&&x != 91)&&(x != 92&&x != 42)
 | .two a b=>(a != 93&&a != 45)&&(b != 93&&b != 45)
 | .range a b=>a != 93&&Nat.ble a b
 | _=>true
theorem Ok {k:Kd}(h:k.ok=true):jP (k.w,k.f):=by
 cases k with
 | star=>exact .inl rfl
 | any=>exact .inr .any
 | sign x=>exact .inr (.sign (neB (an (an h).1).1) (neB (an (an h).1).2) (neB (an (an h).2).1) (neB (an (an h).2).2))
 | back x=>exact .inr .back
 | two a b=>exact .inr (.two ⟨neB (an (an h).1).1,neB (an (an h).1).2⟩ ⟨neB (an (an h).2).1,neB (an (an h).2).2⟩)
 | range a b=>exact .inr (.range (neB (an h).1) (aX (an h).2))
structure Pc where
 k:Kd
 s:List Nat
 m:List Nat
noncomputable def Pc.v (p:Pc):V:=.tup [S p.k.w,S p.s,S p.m]
noncomputable def pcs:List Pc:=[⟨.star,[],[]⟩,⟨.any,[],[]⟩,⟨.two 98 49,[98,49],[98,49]⟩,⟨.range 65 98,[65,66,70,88,95,97,98],[97,98]⟩,⟨.back 42,[42],[42]⟩,
 ⟨.range 49 57,[49,50,51,52,53,54,55,56,57],[49,50,51,52,53,54,55,56,57]⟩,⟨.sign 97,[97],[97]⟩,⟨.sign 65,[65],[97]⟩,⟨.two 57 66,[57,66],[57,98]⟩,⟨.back 98,[98],[98]⟩,⟨.sign 201,[201],[233]⟩,⟨.sign 95,[95],[95]⟩]
theorem AK:gK [] (.ok (.lst (pcs.map Pc.v))):=gR
noncomputable def uy (nc:Bool) (p:Pc):Pk:=((if nc then p.k.low else p.k).w,(if nc then p.k.low else p.k).f)
noncomputable def lk (nc:Bool) (p:Pc):Pk:=(p.k.w,fun c=>p.k.w==[63]||(if nc then p.m.contains (lo c) else p.s.contains c))
noncomputable def Mj (c:Nat):Bool:=(c==63||c==91)||(c==92||c==93)
theorem Df:(pcs.all fun p=>(p.k.w.map lo==p.k.low.w&&(Nat.ble p.k.w.length 5&&p.k.w.all chs.contains))&&[false,true].all fun nc=>((if nc then p.k.low else p.k).ok&&aT (uy nc p)==aT (lk nc p))&&(aT (lk nc p)||chs.all fun c=>Mj c||(uy nc p).2 (if nc then lo c else c)==(lk nc p).2 c))=true:=by kernel_rfl
noncomputable def Txc (c:Nat):Prop:=c∈chs∧Mj c=false
theorem Ol {p:Pc}(h:p∈pcs):p.k.w.map lo=p.k.low.w∧p.k.w.length≤5∧∀ c∈p.k.w,c∈chs :=
 have k:=an (an (List.all_eq_true.mp Df p h)).1
 ⟨eq_of_beq k.1,aX (an k.2).1,fun c hc=>List.contains_iff_mem.mp (List.all_eq_true.mp (an k.2).2 c hc)⟩
theorem KA {nc:Bool}{p:Pc}(h:p∈pcs):jP (uy nc p)∧aT (lk nc p)=aT (uy nc p)∧(¬ aT (lk nc p)=true→∀ c,Txc c→(lk nc p).2 c=(uy nc p).2 (if nc then lo c else c)):=by
 have k:=an (List.all_eq_true.mp (an (List.all_eq_true.mp Df p h)).2 nc (by cases nc <;> decide))
 refine ⟨Ok (an k.1).1,(eq_of_beq (an k.1).2).symm,fun hs c hc=>?_⟩
 exact (eq_of_beq (q9 (List.all_eq_true.mp (q9 k.2 (bF hs)) c hc.1) hc.2)).symm
theorem wB {pl:List Pc}{f g:Pc→Pk}{t t':List Nat}(h:∀ p∈pl,aT (f p)=aT (g p)∧(¬ aT (f p)=true→∀ k,tk (f p) t k=tk (g p) t' k)):∀ i,ent (pl.map f) t i=ent (pl.map g) t' i
 | 0=>rfl
 | i+1=>by
  funext k
  have ih:=wB h i
  cases e:pl[i]? with
  | none=>rw [mJ,mJ,List.getElem?_map,List.getElem?_map,e]; rfl
  | some p =>
   have e1:(pl.map f)[i]? = some (f p):=by rw [List.getElem?_map,e]; rfl
   have e2:(pl.map g)[i]? = some (g p):=by rw [List.getElem?_map,e]; rfl
   have hp:=h p (List.mem_of_getElem? e)
   by_cases s:aT (f p)=true
   ·rw [jj e1 s,jj e2 (hp.1 ▸ s),ih]
   ·cases k with
    | zero=>rw [rX e1 s,rX e2 (hp.1 ▸ s)]
    | succ k=>rw [ur e1 s,ur e2 (hp.1 ▸ s),ih,hp.2 s]
noncomputable def mK (pl:List Pc):List Nat:=(pl.map (·.k.w)).flatten
theorem Hk {nc:Bool}{pl:List Pc}(h:∀ p∈pl,p∈pcs):pat (pl.map (uy nc))=if nc then (mK pl).map lo else mK pl:=by
 unfold pat mK
 rw [List.map_map]
 cases nc with
 | false=>rfl
 | true =>
  rw [if_pos rfl,List.map_flatten,List.map_map]
  exact congrArg List.flatten (List.map_congr_left fun p hp=>(Ol (h p hp)).1.symm)
theorem Dg:∀ {pl:List Pc},(∀ p∈pl,p∈pcs)→(∀ c∈mK pl,c∈chs)∧(mK pl).length≤5*pl.length
 | [],_=>⟨nofun,Nat.le_refl _⟩
 | p::pl,h=>by
  refine ar (Dg (pl:=pl) fun q hq=>h q (.tail _ hq)) fun a b=>bW (Ol (h p (.head _))) fun _ c d=>?_
  have e:mK (p::pl)=p.k.w++mK pl:=rfl
  rw [e,List.length_append,List.length_cons,Nat.mul_add,Nat.add_comm]
  exact ⟨fun x hx=>(List.mem_append.mp hx).elim (d x) (a x),Nat.add_le_add b c⟩
noncomputable def Ce (nc:Bool) (pl:List Pc) (t:List Nat):Bool:=ent (pl.map (lk nc)) t pl.length t.length
theorem Qi {t:List Nat}:(t.map lo).length=t.length:=List.length_map ..
theorem JO {nc:Bool}{pl:List Pc}{t t':List Nat}(hp:∀ p∈pl,p∈pcs) (ht:∀ c∈t,Txc c) (e:t'=if nc then t.map lo else t):ent (pl.map (uy nc)) t' (pl.map (uy nc)).length t'.length=Ce nc pl t:=by
 have e1:t'.length=t.length:=by rw [e]; cases nc; rfl; exact Qi
 rw [e1,List.length_map,Ce]
 refine congrFun (wB (fun p hpm=>?_) pl.length).symm t.length
 have k:=(KA (nc:=nc) (hp p hpm)).2
 refine ⟨k.1,fun s j=>?_⟩
 have k2:=k.2 s
 rw [tk,tk,e]
 cases nc with
 | false =>
  rw [if_neg (by decide)]
  cases ej:t[j]? with
  | none=>rfl
  | some c=>exact k2 c (ht c (List.mem_of_getElem? ej))
 | true =>
  rw [if_pos rfl,List.getElem?_map]
  cases ej:t[j]? with
  | none=>rfl
  | some c=>exact k2 c (ht c (List.mem_of_getElem? ej))
theorem Om {ps:List Pk}{t A:List Nat}(h:PSt ps t 0 A ps.length) (h0:0∈A):Fz ps t 0 A:=⟨h,fun i=>by
 induction i with
 | zero=>exact fun _=>h0
 | succ i ih=>exact fun q=>(AE (show ent ps t (i+1) 0=true from q.elim id fun q=>q.2)).elim (fun e=>nomatch e.1) fun ⟨j,p,e,ep,q⟩=>(by
   obtain rfl:=Nat.succ.inj e
   exact q.elim (fun q=>h.cl i (ih q.2) (fun e=>Nat.lt_irrefl _ (e ▸ bc ep)) ⟨p,ep,q.1⟩) fun q=>q.2.elim fun k q=>(nomatch q.1))⟩
inductive FtR (ps:List Pk) (t:List Nat) (nc B:Bool):Fl→LV→AH→Prop
 | rt (G:AH):FtR ps t nc B (.ret (.bool B)) [] G
 | nx (X4:V) (x5 x6 x7 x8:Option V) (G:AH) (h:aG G .In (.int (pat ps).length) X4=some B):FtR ps t nc B .next (ftM ps (some (S t)) (some (.bool nc)) (some X4) x5 x6 x7 x8) G
theorem Hl {ps:List Pk}{t:List Nat}{nc:Bool}(ok:∀ p∈ps,jP p) (hn:ps.length≤1000):∃ A,fh [S (pat ps),.int 0,.ref 0] [.dI []] (.ok .none) [eK ps A] ∧
  ∃ j:{z:Fl × LV × AH // FtR ps t nc (ent ps t ps.length t.length) z.1 z.2.1 z.2.2},ftF (t.map fun c=>S [c]) (ftM ps (some (S t)) (some (.bool nc)) (some (.ref 0)) none none none none) [eK ps A] j.1.1 j.1.2.1 j.1.2.2 :=
 A7 (uw ok hn (r:=0) (G:=[.dI []]) (⟨nofun,.nil,nofun⟩:PSt ps t 0 [] ps.length) (.inl rfl:Qs ps t 0 0) rfl) fun A a1 a2 a3 a4=>by
 have hF:=Om a1 a3
 have cm:∀ P,Fz ps t t.length P→(cy ps P).contains ((pat ps).length:Int)=ent ps t ps.length t.length:=fun P h=>by
  have:=AG ok (Nat.le_refl _) h.p.le (P:=P)
  rw [ot (Nat.le_refl _),h.fin] at this
  exact this
 refine ⟨A,a4,?_⟩
 cases et:t with
 | nil =>
  subst et
  exact ⟨⟨(.next,_,[eK ps A]),.nx (.ref 0) none none none none _ (congrArg some (cm A hF))⟩,fN⟩
 | cons c u =>
  rw [← et]
  have el:(S [c]::u.map fun c=>S [c])=t.map fun c=>S [c]:=by rw [et]; rfl
  have w:=Cd ok hn (T:=some (S t)) (NC:=some (.bool nc)) et hF
  rw [el] at w
  refine je w fun f m G' hE w'=>?_
  cases hE with
  | rt=>exact ⟨⟨(.ret (.bool _),[],G'),.rt G'⟩,w'⟩
  | nx P x5 x6 x7 x8 h=>exact ⟨⟨(.next,_,G'),.nx (.dI (cy ps P)) x5 x6 x7 x8 G' (congrArg some (cm P h))⟩,w'⟩
theorem EF {nc:Bool}{pl:List Pc}{t:List Nat}(hp:∀ p∈pl,p∈pcs) (hn:pl.length≤1000) (ht:∀ c∈t,Txc c) (hl:t.length≤big):yc [S (mK pl),S t,.bool nc] (.ok (.bool (Ce nc pl t))):=by
 refine ar (Dg hp) fun h1 h2=>?_
 have ok:∀ p∈pl.map (uy nc),jP p:=fun p h=>ae (List.mem_map.mp h) fun q hq e=>e ▸ (KA (hp q hq)).1
 have hn':(pl.map (uy nc)).length≤1000:=by rw [List.length_map]; exact hn
 have hpl:(mK pl).length≤big:=Nat.le_trans h2 (Nat.le_trans (Nat.mul_le_mul_left 5 hn) (by decide))
 have hB:=fun t' (e:t'=if nc then t.map lo else t)=>JO hp ht e
 have hpat:=Hk (nc:=nc) hp
 have f1:=iJ h1 hpl
 have f2:=iJ (fun c hc=>(ht c hc).1) hl
 generalize Ce nc pl t=B at *
 generalize pl.map (uy nc)=ps at *
 generalize mK pl=pn at *
 clear hp ht h1 h2
 cases nc with
 | false =>
  obtain rfl:pat ps=pn:=hpat
  have hB:ent ps t ps.length t.length=B:=hB t rfl
  refine ae (Hl ok hn' (t:=t) (nc:=false)) fun A w1 h=>je h fun f m G' hE w2=>?_
  rw [hB] at hE
  cases hE with
  | rt=>exact goP [xR 7 w1,xS 3 w2] rfl rfl
  | nx X4 x5 x6 x7 x8 _ hin=>exact goP [xR 7 w1,xS 3 w2,xB 2 hin] rfl rfl
 | true =>
  have hpat:pn.map lo=pat ps:=hpat.symm
  rw [hpat] at f1
  have hB:ent ps (t.map lo) ps.length (t.map lo).length=B:=hB _ rfl
  refine ae (Hl ok hn' (t:=t.map lo) (nc:=true)) fun A w1 h=>je h fun f m G' hE w2=>?_
  rw [hB] at hE
  cases hE with
  | rt=>exact goP [xP 4 f1,xP 1 f2,xR 4 w1,xS 3 w2] rfl rfl
  | nx X4 x5 x6 x7 x8 _ hin=>exact goP [xP 4 f1,xP 1 f2,xR 4 w1,xS 3 w2,xB 2 hin] rfl rfl
section
noncomputable abbrev be (R:List Nat):V:=.lst (R.map fun k=>.int (k:Nat))
theorem wC:∀ R:List Nat,eM (R.map fun k=>V.int (k:Nat))=some (R.map fun k:Nat=>(k:Int))
 | []=>rfl
 | a::R=>by rw [List.map_cons,eM,wC R]; rfl
theorem Mk {G:AH}{a c:V}{x:Bool}(h:(inC G a c).v=some x):aG G .In a c=some x :=
 have k:∀ o:Cv (InS G a c),o.v=some x→Cv.v (P:=uR G .In a c) (match o with | some b=>yes b.1 fun O _ g S ra rc=>(b.2 O g S ra rc).1 | none=>none)=some x:=fun o h=>match o,h with
  | some b,h=>h
  | none,h=>nS h
 k _ h
section
variable {G:AH}{R:List Nat}{k:Nat}
theorem ou:aG G .In (.int k) (be R)=some (R.contains k):=by
 have h:∀ R:List Nat,kx (k:Int) (R.map fun k=>V.int (k:Nat))=some (R.contains k):=fun R=>by
  induction R with
  | nil=>rfl
  | cons a R ih =>
   rw [List.map_cons,kx,ih,Option.map_some,List.contains_cons]
   congr 2
   rw [Bool.eq_iff_iff,beq_iff_eq,beq_iff_eq,Int.ofNat_inj]
   exact eq_comm
 have q:inC G (.int (k:Nat)) (be R)=_:=cB (h R)
 exact Mk (congrArg Cv.v q)
theorem Dh:aG G .NotEq (be R) (.lst [])=some (!R.isEmpty):=by
 have h:=G6 (R.map fun k:Nat=>(k:Int)) []
 rw [List.map_map] at h
 refine (G4 h).trans ?_
 cases R <;> rfl
theorem uz:∀ (R:List Nat) (a:Nat),∃ m:Nat,(R.map fun k:Nat=>(k:Int)).foldl (fun m x=>if x<m then x else m) (a:Int)=m∧∀ k:Nat,m≤k↔∃ j∈a::R,j≤k
 | [],a=>⟨a,rfl,fun k=>⟨fun h=>⟨a,.head _,h⟩,fun ⟨j,hj,h⟩=>List.mem_singleton.mp hj ▸ h⟩⟩
 | b::R,a=>by
  rw [List.map_cons,List.foldl_cons]
  by_cases h:b<a
  ·rw [if_pos (Int.ofNat_lt.mpr h)]
   refine ae (uz R b) fun m e hm=>⟨m,e,fun k=>(hm k).trans ⟨fun ⟨j,hj,q⟩=>⟨j,.tail _ hj,q⟩,fun ⟨j,hj,q⟩=>(List.mem_cons.mp hj).elim (fun e=>⟨b,.head _,Nat.le_trans (Nat.le_of_lt h) (e ▸ q)⟩) fun hj=>⟨j,hj,q⟩⟩⟩
  ·rw [if_neg fun q=>h (Int.ofNat_lt.mp q)]
   refine ae (uz R a) fun m e hm=>⟨m,e,fun k=>(hm k).trans ⟨fun ⟨j,hj,q⟩=>⟨j,(List.mem_cons.mp hj).elim (fun e=>e ▸ .head _) fun hj=>.tail _ (.tail _ hj),q⟩,fun ⟨j,hj,q⟩=>(List.mem_cons.mp hj).elim (fun e=>⟨a,.head _,e ▸ q⟩) fun hj=>(List.mem_cons.mp hj).elim (fun e=>⟨a,.head _,Nat.le_trans (Nat.not_lt.mp h) (e ▸ q)⟩) fun hj=>⟨j,.tail _ hj,q⟩⟩⟩
theorem Hm {a:Nat}{R:List Nat}:∃ m:Nat,nu G ⟨⟨[109,105,110]⟩⟩ [be (a::R)]=some (.int m)∧∀ k:Nat,m≤k↔∃ j∈a::R,j≤k:=by
 refine ae (uz R a) fun m e hm=>⟨m,?_,hm⟩
 have q:Nl G [be (a::R)]=_:=cB (wC (a::R))
 have q2:=congrArg (fun c=>Cv.v (blI G ⟨⟨[109,105,110]⟩⟩ [be (a::R)] ⟨⟨[109,105,110]⟩⟩ c (by decide +kernel) none)) q
 exact Eq.trans q2 (congrArg (fun i=>some (V.int i)) e)
end
section
variable {ps:List Pk}{nc:Bool}{pl:List Pc}{t:List Nat}{i:Nat}{G:AH}
noncomputable abbrev gq (ps:List Pk) (t:List Nat) (i:Nat):List Nat:=(List.range' 0 (t.length+1)).filter (ent ps t i)
theorem wD {k:Nat}:k∈gq ps t i↔k≤t.length∧ent ps t i k=true:=by
 rw [List.mem_filter,List.mem_range'_1,Nat.zero_add]
 exact ⟨fun h=>⟨Nat.le_of_lt_succ h.1.2,h.2⟩,fun h=>⟨⟨Nat.zero_le _,Nat.lt_succ_of_le h.1⟩,h.2⟩⟩
theorem yK {f:Nat→Bool}:∀ {k:Nat},exL f k=true↔∃ j,j≤k∧f j=true
 | 0=>⟨fun h=>⟨0,Nat.le_refl _,h⟩,fun ⟨j,hj,h⟩=>by obtain rfl:=Nat.le_zero.mp hj; exact h⟩
 | k+1=>by
  rw [exL,Bool.or_eq_true,yK]
  exact ⟨fun h=>h.elim (fun ⟨j,hj,h⟩=>⟨j,Nat.le_succ_of_le hj,h⟩) fun h=>⟨_,Nat.le_refl _,h⟩,fun ⟨j,hj,h⟩=>(Nat.lt_or_eq_of_le hj).elim (fun q=>.inl ⟨j,Nat.le_of_lt_succ q,h⟩) fun q=>.inr (q ▸ h)⟩
noncomputable abbrev lfI:=fR ig 6 (at_ (blk (at_ fP.body 1)) 1)
noncomputable abbrev lfO:=fR ig 7 (at_ fP.body 1)
noncomputable abbrev lfM (PV:Option V) (t:List Nat) (nc:Bool) (R:List Nat) (p:Pc) (x7 x8 x9:Option V):LV:=[PV,some (S t),some (.bool nc),some (be R),some (S p.k.w),some (S p.s),some (S p.m),x7,x8,x9]
theorem leV {a b:Nat}(h:a≤b):aG G .LtE (.int a) (.int b)=some true:=congrArg some (leT h)
theorem leN {a b:Nat}(h:b<a):aG G .LtE (.int a) (.int b)=some false:=congrArg some (leF h)
theorem jQ {r:Nat}{l:List V}(e:G[r]? = some (.list l)):Ir G (.ref r) ⟨⟨[97,112,112,101,110,100]⟩⟩=some .append:=by
 have q:Lj G (.ref r) ⟨⟨[97,112,112,101,110,100]⟩⟩=_:=cB e
 exact congrArg Cv.v q
theorem KC {c:Nat}{l:List Nat}:aG G .In (S [c]) (S l)=some (decide (c∈l)):=congrArg some (found_one ⟨⟨l⟩⟩ c)
noncomputable abbrev lfB (i:Nat) (m:LV) (G:AH):Tr Rd:=evB (evS 6 ig) ((blk (at_ (blk (at_ fP.body 1)) 1)).drop i) m G fun f m G=>.ok (f,m,G)
section
variable {L:Rd→Prop}{PV x7 y:Option V}{R:List Nat}{p:Pc}{k m a r c:Nat}{b:Bool}{l:List V}{G':AH}
theorem Qj (e:G[r]? = some (.list l)) (pa:nC G (.ref r) (oX .append) [.int k]=some G') (q:L (.next,lfM PV t nc R p (some (.ref r)) (some (.int k)) (some (.bool true)),G')):(lfB 1 (lfM PV t nc R p (some (.ref r)) (some (.int k)) (some (.bool true))) G).tt L:=by
 have ma:=jQ e
 exact goT q [xM 4 ma,xH 1 pa]
theorem Qk (q:L (.next,lfM PV t nc R p x7 (some (.int k)) (some (.bool false)),G)):(lfB 1 (lfM PV t nc R p x7 (some (.int k)) (some (.bool false))) G).tt L:=by
 exact goT q []
theorem On (sw:p.k.w=[42]) (q:(lfB 1 (lfM PV t nc [] p x7 (some (.int k)) (some (.bool false))) G).tt L):(lfB 0 (lfM PV t nc [] p x7 (some (.int k)) y) G).tt L:=by
 have n1:=Dh (G:=G) (R:=[])
 exact goK q 2 [xC 3 (seT sw),xB 1 n1]
theorem KD (sw:p.k.w=[42]) (hm:nu G ⟨⟨[109,105,110]⟩⟩ [be (a::R)]=some (.int m)) (hb:aG G .LtE (.int m) (.int k)=some b) (q:(lfB 1 (lfM PV t nc (a::R) p x7 (some (.int k)) (some (.bool b))) G).tt L):(lfB 0 (lfM PV t nc (a::R) p x7 (some (.int k)) y) G).tt L:=by
 have n1:=Dh (G:=G) (R:=a::R)
 exact goK q 0 [xC 3 (seT sw),xB 1 n1,xV 3 hm,xB 1 hb]
theorem Ql (sw:¬ p.k.w=[42]) (q:L (.next,lfM PV t nc R p x7 (some (.int (0:Nat))) (some (.bool false)),G)):(lfB 0 (lfM PV t nc R p x7 (some (.int (0:Nat))) y) G).tt L:=by
 exact goT q [xC 3 (seF sw)]
theorem Oo (sw:¬ p.k.w=[42]) (hin:aG G .In (.int k) (be R)=some false) (q:L (.next,lfM PV t nc R p x7 (some (.int (k+1:Nat))) (some (.bool false)),G)):(lfB 0 (lfM PV t nc R p x7 (some (.int (k+1:Nat))) y) G).tt L:=by
 exact goT q [xC 3 (seF sw),xC 3 (ltT (Nat.succ_pos k)),xV 1 (c7 (d:=k)),xB 1 hin]
theorem Ml (sw:¬ p.k.w=[42]) (hin:aG G .In (.int k) (be R)=some true) (q2:p.k.w=[63]) (q:(lfB 1 (lfM PV t nc R p x7 (some (.int (k+1:Nat))) (some (.bool true))) G).tt L):(lfB 0 (lfM PV t nc R p x7 (some (.int (k+1:Nat))) y) G).tt L:=by
 exact goK q 0 [xC 3 (seF sw),xC 3 (ltT (Nat.succ_pos k)),xV 1 (c7 (d:=k)),xB 1 hin,xC 6 (nB (seT q2))]
theorem Op (sw:¬ p.k.w=[42]) (hin:aG G .In (.int k) (be R)=some true) (q2:¬ p.k.w=[63]) (it:aF G (S t) (.int k)=some (S [c])) (i2:aG G .In (S [c]) (S p.s)=some b) (q:(lfB 1 (lfM PV t false R p x7 (some (.int (k+1:Nat))) (some (.bool b))) G).tt L):(lfB 0 (lfM PV t false R p x7 (some (.int (k+1:Nat))) y) G).tt L:=by
 exact goK q 0 [xC 3 (seF sw),xC 3 (ltT (Nat.succ_pos k)),xV 1 (c7 (d:=k)),xB 1 hin,xC 6 (nB (seF q2)),xV 5 (c7 (d:=k)),xV 0 it,xB 1 i2]
theorem Oq (sw:¬ p.k.w=[42]) (hin:aG G .In (.int k) (be R)=some true) (q2:¬ p.k.w=[63]) (it:aF G (S t) (.int k)=some (S [c])) (lw:eQ .lower (S [c]) []=some (S [lo c])) (i2:aG G .In (S [lo c]) (S p.m)=some b) (q:(lfB 1 (lfM PV t true R p x7 (some (.int (k+1:Nat))) (some (.bool b))) G).tt L):(lfB 0 (lfM PV t true R p x7 (some (.int (k+1:Nat))) y) G).tt L:=by
 exact goK q 0 [xC 3 (seF sw),xC 3 (ltT (Nat.succ_pos k)),xV 1 (c7 (d:=k)),xB 1 hin,xC 6 (nB (seF q2)),xV 5 (c7 (d:=k)),xV 0 it,xV 0 lw,xB 1 i2]
end
theorem Mm {p:Pc}{k r:Nat}(hp:p∈pcs) (ep:ps[i]? = some (lk nc p)) (ht:∀ c∈t,c∈chs) (hkt:k≤t.length) {PV y:Option V}{L:Rd→Prop}
  (q:∀ b,ent ps t (i+1) k=b→(lfB 1 (lfM PV t nc (gq ps t i) p (some (.ref r)) (some (.int k)) (some (.bool b))) G).tt L)
  (q0:ent ps t (i+1) k=false→L (.next,lfM PV t nc (gq ps t i) p (some (.ref r)) (some (.int k)) (some (.bool false)),G)) :
  (lfB 0 (lfM PV t nc (gq ps t i) p (some (.ref r)) (some (.int k)) y) G).tt L:=by
 have hR:=fun k=>wD (ps:=ps) (t:=t) (i:=i) (k:=k)
 generalize gq ps t i=R at *
 by_cases s:aT (lk nc p)=true
 ·have sw:p.k.w=[42]:=eq_of_beq (show (p.k.w==[42])=true from s)
  have es:=jj ep s (t:=t) (k:=k)
  cases R with
  | nil=>exact On sw (q false (es.trans (bF fun q=>ae (yK.mp q) fun j hj h=>nomatch (hR j).mpr ⟨Nat.le_trans hj hkt,h⟩)))
  | cons a R =>
   refine ae (Hm (G:=G) (a:=a) (R:=R)) fun m hm hk'=>?_
   have z:ent ps t (i+1) k=true↔m≤k:=by
    rw [es,yK,hk' k]
    exact ⟨fun ⟨j,hj,h⟩=>⟨j,(hR j).mpr ⟨Nat.le_trans hj hkt,h⟩,hj⟩,fun ⟨j,hj,h⟩=>⟨j,h,((hR j).mp hj).2⟩⟩
   by_cases h:m≤k
   ·exact KD sw hm (leV h) (q true (z.mpr h))
   ·exact KD sw hm (leN (Nat.lt_of_not_le h)) (q false (bF fun k=>h (z.mp k)))
 ·have sw:¬ p.k.w=[42]:=fun e=>s (by rw [aT,lk,e]; rfl)
  cases k with
  | zero=>exact Ql sw (q0 (rX ep s))
  | succ k =>
   have es:=ur ep s (t:=t) (k:=k)
   have hkl:k<t.length:=hkt
   have ec:=List.getElem?_eq_getElem hkl
   have hc:=ht _ (List.getElem_mem hkl)
   generalize t[k]=c at ec hc
   have et:tk (lk nc p) t k=(p.k.w==[63]||(if nc then p.m.contains (lo c) else p.s.contains c)):=Mg ec
   cases h:R.contains k with
   | false =>
    refine Oo sw ((ou (G:=G) (R:=R) (k:=k)).trans (congrArg some h)) (q0 ?_)
    rw [es,bF fun h'=>ff (h.symm.trans (List.contains_iff_mem.mpr ((hR k).mpr ⟨Nat.le_of_lt hkl,h'⟩)))]; rfl
   | true =>
    have hin:=(ou (G:=G) (R:=R) (k:=k)).trans (congrArg some h)
    rw [((hR k).mp (List.contains_iff_mem.mp h)).2,et,Bool.true_and] at es
    by_cases q2:p.k.w=[63]
    ·exact Ml sw hin q2 (q true (by rw [es,q2]; rfl))
    ·rw [beq_eq_false_iff_ne.mpr q2,Bool.false_or] at es
     have m:∀ (c:Nat) (l:List Nat),l.contains c=decide (c∈l):=fun c l=>Bool.eq_iff_iff.mpr (List.contains_iff_mem.trans decide_eq_true_iff.symm)
     cases nc with
     | false=>exact Op sw hin q2 (lh G ec) KC (q _ (es.trans (m c p.s)))
     | true=>exact Oq sw hin q2 (lh G ec) (rU hc) KC (q _ (es.trans (m (lo c) p.m)))
inductive LfE (PV:Option V) (t:List Nat) (nc:Bool) (R:List Nat) (p:Pc) (r:Nat) (G':AH):Fl × LV × AH→Prop
 | mk (y8 y9:Option V):LfE PV t nc R p r G' (.next,lfM PV t nc R p (some (.ref r)) y8 y9,G')
theorem Hn {p:Pc}(hp:p∈pcs) (ep:ps[i]? = some (lk nc p)) (ht:∀ c∈t,c∈chs) (hl:t.length<big) {PV:Option V}{r:Nat}(n:Nat):∀ (k:Nat) (A:List Nat) (G:AH) (x8 x9:Option V),k+n=t.length+1→A.length≤k→G[r]? = some (.list (A.map fun k=>.int (k:Nat))) →
  ∃ j:{z // LfE PV t nc (gq ps t i) p r (G.set r (.list ((A++(List.range' k n).filter (ent ps t (i+1))).map fun k=>.int (k:Nat)))) z},lfI ((List.range' k n).map fun i=>.int (i:Nat)) (lfM PV t nc (gq ps t i) p (some (.ref r)) x8 x9) G j.1.1 j.1.2.1 j.1.2.2:=by
 induction n with
 | zero =>
  intro k A G x8 x9 hk hA e
  refine ⟨⟨(.next,_,_),.mk x8 x9⟩,?_⟩
  rw [List.range'_zero,List.filter_nil,List.append_nil,fW e]
  exact fN
 | succ n ih =>
  intro k A G x8 x9 hk hA e
  have hkt:k≤t.length:=Nat.succ.inj hk ▸ Nat.le_add_right k n
  rw [List.range'_succ,List.filter_cons]
  refine NU (m1:=lfM PV t nc (gq ps t i) p (some (.ref r)) (some (.int k)) x9) (t:=lfB 0 (lfM PV t nc (gq ps t i) p (some (.ref r)) (some (.int k)) x9) G) (by kernel_rfl) (by kernel_rfl) ?_
  have hk:k+1+n=t.length+1:=by rw [Nat.add_right_comm]; exact hk
  refine Mm hp ep ht hkt (fun b h=>?_) fun h=>?_
  ·rw [h]
   cases b with
   | true =>
    rw [if_pos rfl]
    refine Qj e (bf (v:=.int (k:Nat)) e (by rw [List.length_map]; exact Nat.le_trans (Nat.succ_le_succ hA) (Nat.lt_of_le_of_lt hkt hl))) ?_
    have w:=ih (k+1) (A++[k]) (G.set r (.list (A.map (fun k=>.int (k:Nat))++[.int (k:Nat)]))) (some (.int k)) (some (.bool true)) hk (by rw [List.length_append]; exact Nat.succ_le_succ hA) (by rw [List.getElem?_set_self (bc e),List.map_append]; rfl)
    rw [List.set_set,List.append_assoc] at w
    exact w
   | false =>
    rw [if_neg (by decide)]
    exact Qk (ih (k+1) A G (some (.int k)) (some (.bool false)) hk (Nat.le_succ_of_le hA) e)
  ·rw [if_neg fun q=>ff (h.symm.trans q)]
   exact ih (k+1) A G (some (.int k)) (some (.bool false)) hk (Nat.le_succ_of_le hA) e
inductive LoE (PV:Option V) (t:List Nat) (nc:Bool) (R:List Nat):Fl × LV × AH→Prop
 | mk (y4 y5 y6 y7 y8 y9:Option V) (G:AH):LoE PV t nc R (.next,[PV,some (S t),some (.bool nc),some (be R),y4,y5,y6,y7,y8,y9],G)
theorem LoE.el {PV:Option V}{R:List Nat}{N:Fl→LV→AH→Prop}{X:Prop}(h:∃ j:{z // LoE PV t nc R z},N j.1.1 j.1.2.1 j.1.2.2) (k:∀ y4 y5 y6 y7 y8 y9 G,N .next [PV,some (S t),some (.bool nc),some (be R),y4,y5,y6,y7,y8,y9] G→X):X:=by
 obtain ⟨⟨_,y4,y5,y6,y7,y8,y9,G⟩,n⟩:=h
 exact k _ _ _ _ _ _ _ n
theorem LfE.el {PV:Option V}{R:List Nat}{p:Pc}{r:Nat}{G':AH}{N:Fl→LV→AH→Prop}{X:Prop}(h:∃ j:{z // LfE PV t nc R p r G' z},N j.1.1 j.1.2.1 j.1.2.2) (k:∀ y8 y9,N .next (lfM PV t nc R p (some (.ref r)) y8 y9) G'→X):X:=by
 obtain ⟨⟨_,y8,y9⟩,n⟩:=h
 exact k y8 y9 n
theorem Ho {l:List V}{r:Nat}{A:AO}(e:G[r]? = some A):look (G.set r (.list l)) r=some (.lst l):=by
 have e:(G.set r (.list l))[r]? = some (.list l):=List.getElem?_set_self (bc e)
 have q:CL _ r=_:=cB e
 exact congrArg Cv.v q
theorem Hp (hp:∀ p∈pl,p∈pcs) (ht:∀ c∈t,c∈chs) (hl:t.length<big) {PV:Option V}(rest:List Pc):∀ (i:Nat) (x4 x5 x6 x7 x8 x9:Option V) (G:AH),pl.drop i=rest →
  ∃ j:{z // LoE PV t nc (gq (pl.map (lk nc)) t (i+rest.length)) z},lfO (rest.map Pc.v) [PV,some (S t),some (.bool nc),some (be (gq (pl.map (lk nc)) t i)),x4,x5,x6,x7,x8,x9] G j.1.1 j.1.2.1 j.1.2.2:=by
 induction rest with
 | nil=>exact fun i x4 x5 x6 x7 x8 x9 G hd=>⟨⟨_,.mk x4 x5 x6 x7 x8 x9 G⟩,fN⟩
 | cons p rest ih =>
  intro i x4 x5 x6 x7 x8 x9 G hd
  have ei:pl[i]? = some p:=by have:=congrArg List.head? hd; rw [List.head?_drop] at this; exact this
  have ep:(pl.map (lk nc))[i]? = some (lk nc p):=by rw [List.getElem?_map,ei]; rfl
  have nl:(G++[AO.list []])[G.length]? = some (.list (([]:List Nat).map fun k=>.int (k:Nat))):=by rw [List.getElem?_append_right (Nat.le_refl _),Nat.sub_self]; rfl
  have w:=Hn (hp p (List.mem_of_getElem? ei)) ep ht hl (PV:=PV) (r:=G.length) (t.length+1) 0 [] (G++[.list []]) x8 x9 (Nat.zero_add _) (Nat.le_refl _) nl
  rw [List.nil_append] at w
  refine LfE.el w fun y8 y9 w=>?_
  have lg:=Ho (l:=(gq (pl.map (lk nc)) t (i+1)).map fun k=>.int (k:Nat)) nl
  have hd':pl.drop (i+1)=rest:=by rw [← List.drop_drop,hd]; rfl
  have it:=bR (a:=0) (b:=t.length+1) hl (Nat.zero_le _)
  have e:i+(p::rest).length=i+1+rest.length:=by rw [List.length_cons,← Nat.add_assoc,Nat.add_right_comm]
  rw [e]
  exact (ih (i+1) (some (S p.k.w)) (some (S p.s)) (some (S p.m)) (some (.ref G.length)) y8 y9 (((G++[AO.list []]).set G.length (.list ((gq (pl.map (lk nc)) t (i+1)).map fun k=>.int (k:Nat)))).set G.length .dead) hd').imp fun j ih=>fI ih [xL 4 it,xS 0 w,xV 1 lg]
theorem vg (hp:∀ p∈pl,p∈pcs) (ht:∀ c∈t,c∈chs) (hl:t.length<big):ii [.lst (pl.map Pc.v),S t,.bool nc] (.ok (.bool (Ce nc pl t))):=by
 refine LoE.el (Hp (nc:=nc) hp ht hl (PV:=some (.lst (pl.map Pc.v))) pl 0 none none none none none none [] rfl) fun y4 y5 y6 y7 y8 y9 G' w=>?_
 have e0:gq (pl.map (lk nc)) t 0=[0]:=by
  unfold gq
  rw [List.range'_succ,List.filter_cons,if_pos (show ent (pl.map (lk nc)) t 0 0=true from rfl)]
  refine congrArg (0::·) (List.filter_eq_nil_iff.mpr fun k hk=>?_)
  have:=(List.mem_range'_1.mp hk).1
  exact fun q=>absurd (eq_of_beq (show (k==0)=true from q)) (Nat.ne_of_gt this)
 have eB:(gq (pl.map (lk nc)) t (0+pl.length)).contains t.length=Ce nc pl t:=by
  rw [Bool.eq_iff_iff,List.contains_iff_mem,wD,Nat.zero_add]
  exact ⟨fun h=>h.2,fun h=>⟨Nat.le_refl _,h⟩⟩
 have hin:=ou (G:=G') (R:=gq (pl.map (lk nc)) t (0+pl.length)) (k:=t.length)
 rw [eB] at hin
 rw [e0] at w
 have pv:=a8 (f:=Pc.v) (fun _=>rfl) pl
 exact goP [xS 2 w,xB 3 hin] (by rw [V.puL,V.pu,pv]; rfl) rfl
end
end
section
noncomputable def lW:List Str:=[⟨⟨[109,111,100,101]⟩⟩,⟨⟨[104,111,119]⟩⟩,⟨⟨[105,115,95,100,101,99,114,101,97,115,105,110,103]⟩⟩,⟨⟨[99,111,109,109,97,110,100]⟩⟩,⟨⟨[112,97,116,104]⟩⟩,⟨⟨[115,116,114,105,100,101]⟩⟩,⟨⟨[115,116,97,114,116]⟩⟩,⟨⟨[102,108,97,103,115]⟩⟩]
structure To where
 mode:Nat
 how:Nat
 dec:Bool
 sh:Nat
 start:V
 fl:List Str
 fv:List V
noncomputable def fX (how:Nat):List Nat:=if how=0 then [103,108,111,98] else if how=1 then [101,120,97,99,116] else [115,111,114,116,101,100]
noncomputable def To.v (o:To):V:=.inst ak lW [S (ft o.mode),S (fX o.how),.bool o.dec,S [],io o.sh,.int 1,o.start,.dS o.fl o.fv]
noncomputable abbrev EG:Str:=⟨⟨[45,97,108,108]⟩⟩
noncomputable abbrev Cf:Str:=⟨⟨[45,110,111,116]⟩⟩
noncomputable abbrev Os:Str:=⟨⟨[45,105,110,108,105,110,101]⟩⟩
noncomputable abbrev Ot:Str:=⟨⟨[45,110,111,99,97,115,101]⟩⟩
noncomputable abbrev Hq:Str:=⟨⟨[45,98,105,115,101,99,116]⟩⟩
structure Flg (o:To) (how:Nat) (f:Int):Prop where
 pu:o.start.pu=true∧V.puL o.fv=true
 all:o.fl.contains EG=bit f 1
 no:o.fl.contains Cf=bit f 2
 inl:o.fl.contains Os=bit f 4
 noc:o.fl.contains Ot=bit f 8
 bis:o.fl.contains Hq=(how==3)
 dec:o.dec=bit f 16
 how:o.how=how
noncomputable def gP (how mode:Nat) (nc:Bool) (pl:List Pc) (wt:Wo) (w:Wo):Option Bool :=
 if how=0 then some (Ce nc pl w.t) else if mode=2∧w.n=none then none else some (cL (cK mode nc w) (cK mode nc wt)==0)
noncomputable def dz (how mode:Nat) (pl:List Pc) (wt:Wo):V:=if how=0 then S (mK pl) else fw mode wt
theorem Di {how mode:Nat}{pl:List Pc}{wt:Wo}:(dz how mode pl wt).pu=true:=by unfold dz; split; rfl; exact oo ..
structure Ask (o:To) (how mode sh:Nat) (f:Int) (pl:List Pc) (wt:Wo):Prop where
 fl:Flg o how f
 mo:o.mode=mode
 sh':o.sh=sh
 m:mode<3
 s:sh<3
 h:how<4
 pc:∀ p∈pl,p∈pcs
 pn:pl.length≤3
 wt:how≠0→cw mode wt
theorem Ask.pu {o:To}{how mode sh:Nat}{f:Int}{pl:List Pc}{wt:Wo}(a:Ask o how mode sh f pl wt):o.v.pu=true:=by
 rw [To.v,V.pu,V.puL,V.puL,V.puL,V.puL,V.puL,on,V.puL,V.puL,a.fl.pu.1,V.puL,V.pu,a.fl.pu.2]; rfl
theorem JP:GU.all (fun w=>w.all fun c=>!Mj c)=true:=by kernel_rfl
theorem Dj {mode:Nat}{w:Wo}(h:w∈dom mode):∀ c∈w.t,Txc c:=fun c hc=>⟨(rW h).1 c hc,bN (List.all_eq_true.mp (List.all_eq_true.mp JP _ (lH h)) c hc)⟩
theorem ow {mode sh:Nat}{g:List Wo}(h:Grp mode sh g):aN sh g∈dom mode :=
 h.el (fun a q ha e=>by subst q e; exact ha) fun a b q ha hb e=>by
  subst e
  unfold aN
  split
  ·exact hb
  ·exact ha
theorem Mn:bT.all (fun w=>w.n.isSome||w.t==[49,120])=true:=by kernel_rfl
theorem yL {w:Wo}(h:w∈dom 2) (hn:w.n=none):w.t=[49,120]:=eq_of_beq (q9 (List.all_eq_true.mp Mn w h) (by rw [hn]; rfl))
theorem Ou {a b:Bool}:aG [] .NotEq (.bool a) (.bool b)=some (a != b):=by cases a <;> cases b <;> rfl
theorem yM {G:AH}{k:Str}{ks:List Str}{vs:List V}{b:Bool}(h:ks.contains k=b):aG G .In (.str k) (.dS ks vs)=some b:=congrArg some h
theorem JQ {G:AH}{k:Str}{ks:List Str}{vs:List V}{b:Bool}(h:ks.contains k=b):aG G .NotIn (.str k) (.dS ks vs)=some (!b):=congrArg (fun b=>some (!b)) h
section
variable {o:To}{how mode sh:Nat}{f:Int}{pl:List Pc}{wt:Wo}{g:List Wo}{b:Bool}
theorem Hr (a:Ask o how mode sh f pl wt):(V.puL [o.v,dz how mode pl wt,S (bl g)]&&bo n0 [o.v,dz how mode pl wt,S (bl g)])=true:=by rw [V.puL,V.puL,a.pu,Di]; rfl
theorem Cg (h0:how≠0):¬ fX how=[103,108,111,98]:=by
 unfold fX
 rw [if_neg h0]
 split <;> decide
theorem Hs (a:Ask o how mode sh f pl wt) (hg:Grp mode sh g) (hv:gP how mode (bit f 8) pl wt (aN sh g)=some b):kU [o.v,dz how mode pl wt,S (bl g)] (.ok (.bool (b != bit f 2))):=by
 have hd:=ow hg
 have hp:=jf hg a.s
 have pp:=Hr (g:=g) a
 have f8:=yM (G:=[]) (vs:=o.fv) a.fl.noc
 have f2:=yM (G:=[]) (vs:=o.fv) a.fl.no
 obtain ⟨fl,rfl,rfl,m,s,h,pc,pn,wt'⟩:=a
 obtain rfl:=fl.how
 unfold gP at hv
 by_cases h0:o.how=0
 ·rw [if_pos h0] at hv
  have hf:=EF (nc:=bit f 8) pc (Nat.le_trans pn (by decide)) (Dj hd) (Nat.le_trans (dx hd).2 (by decide))
  rw [sj hv] at hf
  have ew:dz o.how o.mode pl wt=S (mK pl):=if_pos h0
  rw [ew] at pp ⊢
  have e:fX o.how=[103,108,111,98]:=if_pos h0
  exact goP [xP 3 hp,xB 2 f8,xC 4 (seT e),xP 3 hf,xB 3 f2,xB 0 (Ou (a:=b) (b:=bit f 2))] pp rfl
 ·rw [if_neg h0] at hv
  have ew:dz o.how o.mode pl wt=fw o.mode wt:=if_neg h0
  rw [ew] at pp ⊢
  by_cases hn:o.mode=2∧(aN o.sh g).n=none
  ·rw [if_pos hn] at hv; exact nS hv
  ·rw [if_neg hn] at hv
   have hkd:cw o.mode (aN o.sh g):=⟨hd,fun e=>Option.isSome_iff_ne_none.mpr fun q=>hn ⟨e,q⟩⟩
   have kb:=lp hkd m
   have cb:=om (nc:=bit f 8) hkd (wt' h0) m
   have hv:=sj hv
   generalize cL (cK o.mode (bit f 8) (aN o.sh g)) (cK o.mode (bit f 8) wt)=z at *
   subst hv
   exact goP [xP 3 hp,xB 2 f8,xC 4 (seF (Cg h0)),xP 6 kb,xP 1 cb,xB 4 f2,xB 0 (Ou (a:=z==0) (b:=bit f 2))] pp rfl
theorem Ht (a:Ask o how mode sh f pl wt) (hg:Grp mode sh g) (hv:gP how mode (bit f 8) pl wt (aN sh g)=none):kU [o.v,dz how mode pl wt,S (bl g)] (.ex At (Au (cc [49,120]) bu)):=by
 have hp:=jf hg a.s
 have pp:=Hr (g:=g) a
 have hd:=ow hg
 have f8:=yM (G:=[]) (vs:=o.fv) a.fl.noc
 obtain ⟨fl,rfl,rfl,m,s,h,pc,pn,wt'⟩:=a
 obtain rfl:=fl.how
 unfold gP at hv
 by_cases h0:o.how=0
 ·rw [if_pos h0] at hv; exact sN hv
 ·rw [if_neg h0] at hv
  have ew:dz o.how o.mode pl wt=fw o.mode wt:=if_neg h0
  rw [ew] at pp ⊢
  by_cases hn:o.mode=2∧(aN o.sh g).n=none
  ·obtain ⟨e,q⟩:=hn
   rw [yL (e ▸ hd) q] at hp
   have kb:=C6
   have em:ft o.mode=ft 2:=congrArg ft e
   rw [← em] at kb
   exact goP [xP 3 hp,xB 2 f8,xC 4 (seF (Cg h0)),xP 6 kb] pp rfl
  ·rw [if_neg hn] at hv; exact sN hv
noncomputable def iT (all no:Bool):List (Option Bool)→Nat→List Nat→Option (List Nat)
 | [],_,A=>some A
 | none::_,_,_=>none
 | some b::r,k,A=>if (b != no)=true then (if all=true then iT all no r (k+1) (A++[k]) else some (A++[k])) else iT all no r (k+1) A
theorem jk {gs:List (List Wo)}{p:Nat}(G:AH) (e:gs[p]? = some g):aF G (aq gs) (.int p)=some (S (bl g)):=bS G (by rw [List.getElem?_map,e]; rfl)
theorem uA (gs:List (List Wo)):(aq gs).pu=true:=a8 (f:=itS) (fun _=>rfl) gs
noncomputable abbrev slF:=fR gz 7 (at_ cI.body 1)
noncomputable abbrev slM (o:To) (gs:List (List Wo)) (wv:V) (start:Nat) (x:Option V):LV:=[some o.v,some (aq gs),some wv,some (.int start),some (.ref 0),x]
theorem yN (a:Ask o how mode sh f pl wt) {gs:List (List Wo)}(hg:∀ g∈gs,Grp mode sh g) (hn:gs.length≤big) (start:Nat):∀ (rest:List (List Wo)) (k:Nat) (A:List Nat) (x:Option V),gs.drop k=rest→A.length≤k →
  ∃ x' m' G',(∀ P,iT (bit f 1) (bit f 2) (rest.map fun g=>gP how mode (bit f 8) pl wt (aN sh g)) k A=some P→slF ((List.range' k rest.length).map fun i=>.int (i:Nat)) (slM o gs (dz how mode pl wt) start x) [.list (A.map fun k=>.int (k:Nat))] .next (slM o gs (dz how mode pl wt) start x') [.list (P.map fun k=>.int (k:Nat))]) ∧
   (iT (bit f 1) (bit f 2) (rest.map fun g=>gP how mode (bit f 8) pl wt (aN sh g)) k A=none→slF ((List.range' k rest.length).map fun i=>.int (i:Nat)) (slM o gs (dz how mode pl wt) start x) [.list (A.map fun k=>.int (k:Nat))] (.ex At (Au (cc [49,120]) bu)) m' G')
 | [],k,A,x,hd,hA=>⟨x,[],[],fun P e=>sj e ▸ fN,fun e=>sN e⟩
 | g::rest,k,A,x,hd,hA=>by
  have eg:gs[k]? = some g:=by have:=congrArg List.head? hd; rw [List.head?_drop] at this; exact this
  have hgg:=hg g (List.mem_of_getElem? eg)
  have hd':gs.drop (k+1)=rest:=by rw [← List.drop_drop,hd]; rfl
  have it:=jk [.list (A.map fun k=>.int (k:Nat))] eg
  have pa:=bf (G:=[.list (A.map fun k=>.int (k:Nat))]) (i:=0) (v:=.int (k:Nat)) rfl (by rw [List.length_map]; exact Nat.le_trans (Nat.succ_le_succ hA) (Nat.le_trans (bc eg) hn))
  have al:=JQ (G:=[.list (A.map (fun k=>V.int (k:Nat))++[.int (k:Nat)])]) (vs:=o.fv) a.fl.all
  rw [List.map_cons,List.length_cons,List.range'_succ,List.map_cons]
  cases hv:gP how mode (bit f 8) pl wt (aN sh g) with
  | none =>
   have hh:=Ht a hgg hv
   refine ⟨x,[],[.list (A.map fun k=>.int (k:Nat))],fun P e=>nS e,fun _=>?_⟩
   exact fE [xV 4 it,xP 0 hh]
  | some b =>
   have hh:=Hs a hgg hv
   rw [iT]
   cases q:(b != bit f 2) with
   | true =>
    rw [q] at hh
    rw [if_pos rfl]
    cases qa:bit f 1 with
    | false =>
     rw [qa] at al
     refine ⟨some (.int k),[],[],fun P e=>?_,fun e=>sN e⟩
     rw [← sj (show some (A++[k])=some P from e),List.map_append]
     exact fE [xV 4 it,xP 0 hh,xH 4 pa,xB 3 al]
    | true =>
     rw [qa] at al
     obtain ⟨x',m',G',h1,h2⟩:=yN a hg hn start rest (k+1) (A++[k]) (some (.int k)) hd' (by rw [List.length_append]; exact Nat.succ_le_succ hA)
     rw [qa,List.map_append] at h1 h2
     refine ⟨x',m',G',fun P e=>?_,fun e=>?_⟩
     ·have ih:=h1 P e
      exact fI ih [xV 4 it,xP 0 hh,xH 4 pa,xB 3 al]
     ·have ih:=h2 e
      exact fI ih [xV 4 it,xP 0 hh,xH 4 pa,xB 3 al]
   | false =>
    rw [q] at hh
    rw [if_neg (by decide)]
    obtain ⟨x',m',G',h1,h2⟩:=yN a hg hn start rest (k+1) A (some (.int k)) hd' (Nat.le_succ_of_le hA)
    refine ⟨x',m',G',fun P e=>?_,fun e=>?_⟩
    ·have ih:=h1 P e
     exact fI ih [xV 4 it,xP 0 hh]
    ·have ih:=h2 e
     exact fI ih [xV 4 it,xP 0 hh]
theorem mL (a:Ask o how mode sh f pl wt) {gs:List (List Wo)}(hg:∀ g∈gs,Grp mode sh g) (hn:gs.length≤big) {start:Nat}(hs:start≤big) :
  (∀ P,iT (bit f 1) (bit f 2) ((gs.drop start).map fun g=>gP how mode (bit f 8) pl wt (aN sh g)) start []=some P→bz [o.v,aq gs,dz how mode pl wt,.int start] (.ok (be P))) ∧
  (iT (bit f 1) (bit f 2) ((gs.drop start).map fun g=>gP how mode (bit f 8) pl wt (aN sh g)) start []=none→bz [o.v,aq gs,dz how mode pl wt,.int start] (.ex At (Au (cc [49,120]) bu))):=by
 obtain ⟨x',m',G',h1,h2⟩:=yN a hg hn start (gs.drop start) start [] none rfl (Nat.zero_le _)
 have e:(gs.map itS).length=gs.length:=List.length_map ..
 have it:=bR (a:=start) (b:=(gs.map itS).length) (by rw [e]; exact hn) hs
 have el:(gs.map itS).length - start=(gs.drop start).length:=by rw [List.length_drop,e]
 rw [el] at it
 have pp:(V.puL [o.v,aq gs,dz how mode pl wt,.int start]&&bo cI [o.v,aq gs,dz how mode pl wt,.int start])=true:=by rw [V.puL,V.puL,V.puL,V.puL,a.pu,Di,uA]; rfl
 refine ⟨fun P e=>?_,fun e=>?_⟩
 ·have w:=h1 P e
  have pr:(be P).pu=true:=a8 (fun _=>rfl) P
  exact goP [xL 4 it,xS 0 w] pp pr
 ·have w:=h2 e
  exact goP [xL 4 it,xS 0 w] pp rfl
end
end
section
noncomputable def cq (why:List Nat) (code:V):V:=.tup [S [114,97,105,115,101,100],.int 1,S why,code]
theorem lr:bA [.tup [S [49,120],.none]] (.ok (cq (cc [49,120]) bu)):=gR
theorem JR {pl:List Pc}:V.puL (pl.map Pc.v)=true:=a8 (fun _=>rfl) pl
section
variable {how mode:Nat}{f:Int}{pl:List Pc}{wt:Wo}{hs:List Wo}{start:Nat}
noncomputable abbrev llF:=fR gN 7 (at_ dv.body 1)
noncomputable abbrev llM (how mode:Nat) (f:Int) (hs:List Wo) (start:Nat) (wt:Wo) (pl:List Pc) (x y:Option V):LV :=
 [some (.int how),some (.int mode),some (.int f),some (.lst (hs.map Wo.v)),some (.int start),some wt.v,some (.lst (pl.map Pc.v)),some (.bool (bit f 8)),some (.bool (bit f 2)),some (.ref 0),x,y]
structure LQ (how mode:Nat) (f:Int) (pl:List Pc) (wt:Wo) (hs:List Wo):Prop where
 m:mode<3
 w:how≠0→cw mode wt
 d:∀ w∈hs,w∈dom mode
 p:∀ p∈pl,p∈pcs
 n:hs.length≤big
 f:(f.fmod 2==0)=!bit f 1
noncomputable def LE (how mode:Nat) (f:Int) (pl:List Pc) (wt:Wo) (hs:List Wo) (start:Nat) (r:Option (List Nat)) (g:Fl) (m:LV) (G:AH):Prop:=match r with
 | some P=>G=[.list (P.map fun k=>.int (k:Nat))]∧((g=.next∧∃ x y,m=llM how mode f hs start wt pl x y)∨(g=.ret (.tup [.ref 0,.tup []])∧m=[]))
 | none=>g=.ret (.tup [.lst [],cq (cc [49,120]) bu])∧m=[]
theorem Hu {n:Option Int}(h:n=none):bg (mE n)=true:=by rw [h]; rfl
theorem Hv {n:Option Int}(h:n.isSome=true):bg (mE n)=false:=by cases n with | none=>exact ff h | some=>rfl
theorem Qm {n:Option Int}{b:Bool}(h:bg (mE n)=b):aG [] .Is (mE n) .none=some b:=congrArg some h
theorem isG {G:AH}{n:Option Int}{b:Bool}(h:bg (mE n)=b):aG G .Is (mE n) .none=some b:=congrArg some h
theorem QQ {G:AH}{a b:Bool}:aG G .NotEq (.bool a) (.bool b)=some (a != b):=by cases a <;> cases b <;> rfl
theorem JS {a b:List Int}:decide (a=b)=(cL a b==0):=by
 rw [Bool.eq_iff_iff,decide_eq_true_eq,beq_iff_eq]
 exact ⟨fun h=>by rw [h]; exact pX _,C7⟩
noncomputable abbrev llB (i:Nat) (m:LV) (G:AH):Tr Rd:=evB (evS 7 gN) ((blk (at_ dv.body 1)).drop i) m G fun f m G=>.ok (f,m,G)
noncomputable abbrev lm (how mode:Nat) (f:Int) (H sv wv pv:V) (nc nt:Bool) (k:Nat) (y:Option V):LV:=[some (.int how),some (.int mode),some (.int f),some H,some sv,some wv,some pv,some (.bool nc),some (.bool nt),some (.ref 0),some (.int k),y]
section
variable {L:Rd→Prop}{k:Nat}{H sv wv pv tv nv K1 K2 N:V}{nc nt b:Bool}{G G':AH}{y:Option V}{l:List V}
theorem Qn (it:aF G H (.int k)=some (.tup [tv,nv])) (hf:ii [pv,tv,.bool nc] (.ok (.bool b))) (q:(llB 1 (lm 0 mode f H sv wv pv nc nt k (some (.bool b))) G).tt L):(llB 0 (lm 0 mode f H sv wv pv nc nt k y) G).tt L:=by
 exact goK q 0 [xV 7 it,xP 2 hf]
theorem Qo (h0:how≠0) (it:aF G H (.int k)=some (.tup [tv,nv])) (hn:bg nv=true) (nn:bA [.tup [tv,nv]] (.ok N)) (q:L (.ret (.tup [.lst [],N]),lm how 2 f H sv wv pv nc nt k y,G)):(llB 0 (lm how 2 f H sv wv pv nc nt k y) G).tt L:=by
 exact goT q [xC 3 (nF h0),xV 6 it,xC 3 hn,xV 2 it,xP 0 nn]
theorem Qp (h0:how≠0) (it:aF G H (.int k)=some (.tup [tv,nv])) (hn:bg nv=false) (k1:ch [.int 2,.bool nc,.tup [tv,nv]] (.ok K1)) (k2:ch [.int 2,.bool nc,wv] (.ok K2)) (he:aG G .Eq K1 K2=some b) (q:(llB 1 (lm how 2 f H sv wv pv nc nt k (some (.bool b))) G).tt L):(llB 0 (lm how 2 f H sv wv pv nc nt k y) G).tt L:=by
 exact goK q 0 [xC 3 (nF h0),xV 6 it,xC 3 hn,xV 4 it,xP 0 k1,xP 3 k2,xB 0 he]
theorem Qq (h0:how≠0) (hm:mode≠2) (it:aF G H (.int k)=some (.tup [tv,nv])) (k1:ch [.int mode,.bool nc,.tup [tv,nv]] (.ok K1)) (k2:ch [.int mode,.bool nc,wv] (.ok K2)) (he:aG G .Eq K1 K2=some b) (q:(llB 1 (lm how mode f H sv wv pv nc nt k (some (.bool b))) G).tt L):(llB 0 (lm how mode f H sv wv pv nc nt k y) G).tt L:=by
 exact goK q 0 [xC 3 (nF h0),xC 3 (nF hm),xC 1 (nF hm),xV 4 it,xP 0 k1,xP 3 k2,xB 0 he]
theorem Qr (hb:(b != nt)=false) (q:L (.next,lm how mode f H sv wv pv nc nt k (some (.bool b)),G)):(llB 1 (lm how mode f H sv wv pv nc nt k (some (.bool b))) G).tt L:=by
 exact goT q [xC 4 hb]
theorem Qt (hb:(b != nt)=true) (pa:nC [.list l] (.ref 0) (oX .append) [.int k]=some G') (c:Bool) (qf:(f.fmod 2==0)=c) (q:L (if c=true then (.ret (.tup [.ref 0,.tup []]),lm how mode f H sv wv pv nc nt k (some (.bool b)),G') else (.next,lm how mode f H sv wv pv nc nt k (some (.bool b)),G'))):(llB 1 (lm how mode f H sv wv pv nc nt k (some (.bool b))) [.list l]).tt L:=by
 cases c with
 | true=>exact goT q [xC 4 hb,xH 2 pa,xC 5 qf]
 | false=>exact goT q [xC 4 hb,xH 2 pa,xC 5 qf]
end
noncomputable def LLP (how mode:Nat) (f:Int) (pl:List Pc) (wt:Wo) (hs:List Wo) (start:Nat) (r:Option (List Nat)) (N:Fl→LV→AH→Prop):Prop:=∃ j:{z:Fl × LV × AH // LE how mode f pl wt hs start r z.1 z.2.1 z.2.2},N j.1.1 j.1.2.1 j.1.2.2
noncomputable abbrev llA (A:List Nat):AH:=[.list (A.map fun k=>.int (k:Nat))]
section
variable {k:Nat}{A:List Nat}{w:Wo}{b:Bool}{hr:List (Option Bool)}{xs:List V}
theorem Mp (q:LQ how mode f pl wt hs) (hA:A.length+1≤big) (iN:LLP how mode f pl wt hs start (iT (bit f 1) (bit f 2) hr (k+1) A) (llF xs (llM how mode f hs start wt pl (some (.int k)) (some (.bool b))) (llA A)))
  (iA:LLP how mode f pl wt hs start (iT (bit f 1) (bit f 2) hr (k+1) (A++[k])) (llF xs (llM how mode f hs start wt pl (some (.int k)) (some (.bool b))) (llA (A++[k])))) :
  (llB 1 (llM how mode f hs start wt pl (some (.int k)) (some (.bool b))) (llA A)).tt fun p=>LLP how mode f pl wt hs start (iT (bit f 1) (bit f 2) (some b::hr) k A) (aft (llF xs) p):=by
 rw [iT]
 cases qb:(b != bit f 2) with
 | false =>
  rw [if_neg (by decide)]
  exact Qr qb iN
 | true =>
  rw [if_pos rfl]
  refine Qt qb (bf (i:=0) (v:=.int (k:Nat)) rfl (by rw [List.length_map]; exact hA)) _ q.f ?_
  rw [llA,List.map_append] at iA
  cases qa:bit f 1 with
  | false=>exact ⟨⟨(.ret (.tup [.ref 0,.tup []]),[],_),by rw [if_neg (by decide)]; exact ⟨by rw [List.map_append]; rfl,.inr ⟨rfl,rfl⟩⟩⟩,rfl,rfl,rfl⟩
  | true =>
   rw [qa] at iA
   rw [if_pos rfl]
   exact iA
theorem Mq (q:LQ how mode f pl wt hs) (hw:w∈hs) (e:hs[k]? = some w) {y:Option V}(h2:∀ b,gP how mode (bit f 8) pl wt w=some b→(llB 1 (llM how mode f hs start wt pl (some (.int k)) (some (.bool b))) (llA A)).tt fun p=>LLP how mode f pl wt hs start (iT (bit f 1) (bit f 2) (gP how mode (bit f 8) pl wt w::hr) k A) (aft (llF xs) p)) :
  (llB 0 (llM how mode f hs start wt pl (some (.int k)) y) (llA A)).tt fun p=>LLP how mode f pl wt hs start (iT (bit f 1) (bit f 2) (gP how mode (bit f 8) pl wt w::hr) k A) (aft (llF xs) p):=by
 have hw:=q.d w hw
 have it:=bS (llA A) (vs:=hs.map Wo.v) (k:=k) (v:=w.v) (by rw [List.getElem?_map,e]; rfl)
 by_cases h0:how=0
 ·subst h0
  exact Qn it (vg (nc:=bit f 8) (t:=w.t) q.p (fun c hc=>(Dj hw c hc).1) (Nat.lt_of_le_of_lt (dx hw).2 (by decide))) (h2 _ (by rw [gP,if_pos rfl]))
 ·by_cases hn:mode=2∧w.n=none
  ·have hv:gP how mode (bit f 8) pl wt w=none:=by rw [gP,if_neg h0,if_pos hn]
   rw [hv]
   obtain ⟨rfl,hn⟩:=hn
   have ew:w.v=.tup [S [49,120],.none]:=by rw [Wo.v,yL hw hn,hn]; rfl
   have nn:=lr
   rw [← ew] at nn
   exact Qo h0 it (Hu hn) nn ⟨⟨(.ret _,[],llA A),rfl,rfl⟩,rfl,rfl,rfl⟩
  ·have hkd:cw mode w:=⟨hw,fun e=>Option.isSome_iff_ne_none.mpr fun q=>hn ⟨e,q⟩⟩
   have k1:=jh (nc:=bit f 8) hkd q.m
   have k2:=jh (nc:=bit f 8) (q.w h0) q.m
   have he:=yC (G:=llA A) (G6 (cK mode (bit f 8) w) (cK mode (bit f 8) wt))
   rw [JS] at he
   have h2:=h2 _ (by rw [gP,if_neg h0,if_neg hn])
   by_cases hm:mode=2
   ·subst hm
    exact Qp h0 it (Hv (hkd.k rfl)) k1 k2 he h2
   ·exact Qq h0 hm it k1 k2 he h2
end
theorem yO (q:LQ how mode f pl wt hs):∀ (rest:List Wo) (k:Nat) (A:List Nat) (x y:Option V),hs.drop k=rest→A.length≤k →
  LLP how mode f pl wt hs start (iT (bit f 1) (bit f 2) (rest.map (gP how mode (bit f 8) pl wt)) k A) (llF ((List.range' k rest.length).map fun i=>.int (i:Nat)) (llM how mode f hs start wt pl x y) (llA A))
 | [],k,A,x,y,hd,hA=>⟨⟨(.next,_,_),rfl,.inl ⟨rfl,x,y,rfl⟩⟩,fN⟩
 | w::rest,k,A,x,y,hd,hA=>by
  have eg:hs[k]? = some w:=by have:=congrArg List.head? hd; rw [List.head?_drop] at this; exact this
  have hd':hs.drop (k+1)=rest:=by rw [← List.drop_drop,hd]; rfl
  rw [List.map_cons,List.length_cons,List.range'_succ,List.map_cons]
  refine NU (m1:=llM how mode f hs start wt pl (some (.int k)) y) (t:=llB 0 (llM how mode f hs start wt pl (some (.int k)) y) (llA A)) (by kernel_rfl) (by kernel_rfl) (Mq q (List.mem_of_getElem? eg) eg fun b hv=>?_)
  rw [hv]
  exact Mp q (Nat.le_trans (Nat.succ_le_succ hA) (Nat.le_trans (bc eg) q.n)) (yO q rest (k+1) A _ _ hd' (Nat.le_succ_of_le hA)) (yO q rest (k+1) (A++[k]) _ _ hd' (by rw [List.length_append]; exact Nat.succ_le_succ hA))
theorem rL (q:LQ how mode f pl wt hs) (hs':start≤big) :
  (∀ P,iT (bit f 1) (bit f 2) ((hs.drop start).map (gP how mode (bit f 8) pl wt)) start []=some P→dw [.int how,.int mode,.int f,.lst (hs.map Wo.v),.int start,wt.v,.lst (pl.map Pc.v)] (.ok (.tup [be P,.tup []]))) ∧
  (iT (bit f 1) (bit f 2) ((hs.drop start).map (gP how mode (bit f 8) pl wt)) start []=none→dw [.int how,.int mode,.int f,.lst (hs.map Wo.v),.int start,wt.v,.lst (pl.map Pc.v)] (.ok (.tup [.lst [],cq (cc [49,120]) bu]))):=by
 obtain ⟨⟨⟨g,m',G'⟩,hE⟩,w⟩:=yO q (start:=start) (hs.drop start) start [] none none rfl (Nat.zero_le _)
 have e:(hs.map Wo.v).length=hs.length:=List.length_map ..
 have it:=bR (a:=start) (b:=(hs.map Wo.v).length) (by rw [e]; exact q.n) hs'
 have el:(hs.map Wo.v).length - start=(hs.drop start).length:=by rw [List.length_drop,e]
 rw [el] at it
 have pv:=a8 og hs
 have pp:(V.puL [.int how,.int mode,.int f,.lst (hs.map Wo.v),.int start,wt.v,.lst (pl.map Pc.v)]&&bo dv [.int how,.int mode,.int f,.lst (hs.map Wo.v),.int start,wt.v,.lst (pl.map Pc.v)])=true:=by
  rw [V.puL,V.puL,V.puL,V.puL,V.pu,pv,V.puL,V.puL,og,V.puL,V.pu,JR]; rfl
 refine ⟨fun P e=>?_,fun e=>?_⟩
 ·rw [e] at hE
  have pr:(Res.ok (.tup [be P,.tup []])).pu=true:=by rw [Res.pu,V.pu,V.puL,be,V.pu,a8 (fun _=>rfl) P]; rfl
  obtain ⟨rfl,⟨rfl,x,y,rfl⟩ | ⟨rfl,rfl⟩⟩:=hE
  ·exact goP [xL 12 it,xS 0 w] pp pr
  ·exact goP [xL 12 it,xS 0 w] pp pr
 ·rw [e] at hE
  obtain ⟨rfl,rfl⟩:=hE
  exact goP [xL 12 it,xS 0 w] pp rfl
end
end
section
noncomputable def Ahd (bis:Bool) (x:Int):Prop:=if bis=true then 0≤x else 0<x
structure EH (n:Nat) (F:Nat→Int):Prop where
 p:∀ i j:Nat,i≤j→j<n→0<F j→0<F i
 z:∀ i j:Nat,i≤j→j<n→0≤F j→0≤F i
theorem EH.a {n:Nat}{F:Nat→Int}(h:EH n F) {bis:Bool}{i j:Nat}(hi:i≤j) (hj:j<n) (x:Ahd bis (F j)):Ahd bis (F i):=by
 unfold Ahd at *
 cases bis with
 | true=>exact h.z i j hi hj x
 | false=>exact h.p i j hi hj x
structure uB (bis:Bool) (s n:Nat) (F:Nat→Int) (a b:Nat) (fo:Int):Prop where
 sa:s≤a
 ab:a≤b
 bn:b≤n
 l:∀ k,s≤k→k<a→Ahd bis (F k)
 u:∀ k,b≤k→k<n→¬ Ahd bis (F k)
 f1:bis=true→fo=-1∨∃ c,fo=(c:Nat)∧c+1=a∧F c=0
 f2:bis=false→(fo=-1∧∀ k,b≤k→k<n→F k≠0)∨(fo=(b:Nat)∧b<n∧F b=0)
theorem JT {bis:Bool}{s n:Nat}{F:Nat→Int}{a b k:Nat}{fo:Int}(h:uB bis s n F a b fo) (m:EH n F) (h1:a≤k) (h2:k<b) (v:Ahd bis (F k)):uB bis s n F (k+1) b (if F k=0 then (k:Int) else fo):=by
 have hk:=Nat.lt_of_lt_of_le h2 h.bn
 refine ⟨Nat.le_trans h.sa (Nat.le_succ_of_le h1),h2,h.bn,fun j _ hj=>m.a (Nat.le_of_lt_succ hj) hk v,h.u,fun hb=>?_,fun hb=>?_⟩
 ·split <;> rename_i z
  ·exact .inr ⟨k,rfl,rfl,z⟩
  ·subst hb
   refine .inl ((h.f1 rfl).elim id fun ⟨c,_,e,zc⟩=>?_)
   have:=m.p c k (Nat.le_trans (Nat.le_of_succ_le (Nat.le_of_eq e)) h1) hk (Int.lt_iff_le_and_ne.mpr ⟨v,Ne.symm z⟩)
   rw [zc] at this
   exact absurd this (by decide)
 ·subst hb
  rw [if_neg (Int.ne_of_gt v)]
  exact h.f2 rfl
theorem JU {bis:Bool}{s n:Nat}{F:Nat→Int}{a b k:Nat}{fo:Int}(h:uB bis s n F a b fo) (m:EH n F) (h1:a≤k) (h2:k<b) (v:¬ Ahd bis (F k)):uB bis s n F a k (if F k=0 then (k:Int) else fo):=by
 have hk:=Nat.lt_of_lt_of_le h2 h.bn
 refine ⟨h.sa,h1,Nat.le_of_lt hk,h.l,fun j hj hn q=>v (m.a hj hn q),fun hb=>?_,fun hb=>?_⟩
 ·subst hb
  rw [if_neg fun z=>v (Int.le_of_eq z.symm)]
  exact h.f1 rfl
 ·subst hb
  split <;> rename_i z
  ·exact .inr ⟨rfl,hk,z⟩
  ·have no:∀ j,k≤j→j<n→F j≠0:=fun j hj hn q=>v (Int.lt_iff_le_and_ne.mpr ⟨m.z k j hj hn (Int.le_of_eq q.symm),Ne.symm z⟩)
   exact (h.f2 rfl).elim (fun q=>.inl ⟨q.1,no⟩) fun q=>absurd q.2.2 (no b (Nat.le_of_lt h2) q.2.1)
section
variable {o:To}{how mode sh:Nat}{f:Int}{pl:List Pc}{wt:Wo}{gs:List (List Wo)}
noncomputable abbrev ssW:=wR gy 7 (at_ cG.body 2)
noncomputable abbrev ssM (o:To) (gs:List (List Wo)) (wv:V) (start:Nat) (bis:Bool) (lo up fo:Int) (x8 x9 x10:Option V):LV:=[some o.v,some (aq gs),some wv,some (.int start),some (.int lo),some (.int up),some (.int fo),some (.bool bis),x8,x9,x10]
noncomputable abbrev ssF (f:Int) (mode sh:Nat) (wt:Wo) (gs:List (List Wo)) (k:Nat):Int:=gm mode (bit f 8) (bit f 16) wt (hd sh gs k)
theorem JV {a b:Nat}(h:a<b):a≤(a+b - 1) / 2∧(a+b - 1) / 2<b:=by
 cases b with
 | zero=>exact absurd h (Nat.not_lt_zero _)
 | succ b =>
  have h:=Nat.le_of_lt_succ h
  refine ⟨(Nat.le_div_iff_mul_le (by decide)).mpr ?_,(Nat.div_lt_iff_lt_mul (by decide)).mpr ?_⟩
  ·rw [Nat.mul_two]; exact Nat.add_le_add_left h a
  ·rw [Nat.succ_mul,Nat.mul_two]
   exact Nat.lt_of_le_of_lt (Nat.add_le_add_right h b) (Nat.lt_add_of_pos_right (by decide))
section
variable {wv pv hv kv:V}{start:Nat}{bis nc:Bool}{lo up fo k c e:Int}{x8 x9 x10:Option V}{m':LV}
 (c0:(!lo+1==up)=!false) (fd:cC .FloorDiv (.int (lo+up)) (.int 2)=some (.int k)) (it:aF [] (aq gs) (.int k)=some pv) (hp:eq [pv,io o.sh] (.ok hv)) (kb:cE [S (ft o.mode),hv] (.ok kv))
 (e8:aG [] .In (.str Ot) (.dS o.fl o.fv)=some nc) (cb:bP [S (ft o.mode),.bool nc,wv,kv] (.ok (.int c))) (ec:o.dec=false∧c=e∨o.dec=true∧c=-e)
include c0 fd it hp kb e8 cb ec
theorem Ov (v:e=1∨e=0∧bis=true) (w:Wh ssW (ssM o gs wv start bis k up (if e=0 then k else fo) (some (.int k)) (some kv) (some (.int e))) [] .next m' []):Wh ssW (ssM o gs wv start bis lo up fo x8 x9 x10) [] .next m' []:=by
 rcases ec with ⟨ed,rfl⟩ | ⟨ed,rfl⟩
 ·rcases v with rfl | ⟨rfl,rfl⟩
  ·exact wI w [xC 5 c0,xV 3 fd,xV 4 it,xP 2 hp,xP 0 kb,xB 4 e8,xP 2 cb,xC 3 ed]
  ·exact wI w [xC 5 c0,xV 3 fd,xV 4 it,xP 2 hp,xP 0 kb,xB 4 e8,xP 2 cb,xC 3 ed]
 ·rcases v with rfl | ⟨rfl,rfl⟩
  ·exact wI w [xC 5 c0,xV 3 fd,xV 4 it,xP 2 hp,xP 0 kb,xB 4 e8,xP 2 cb,xC 3 ed]
  ·exact wI w [xC 5 c0,xV 3 fd,xV 4 it,xP 2 hp,xP 0 kb,xB 4 e8,xP 2 cb,xC 3 ed]
theorem Ow (v:e=-1∨e=0∧bis=false) (w:Wh ssW (ssM o gs wv start bis lo k (if e=0 then k else fo) (some (.int k)) (some kv) (some (.int e))) [] .next m' []):Wh ssW (ssM o gs wv start bis lo up fo x8 x9 x10) [] .next m' []:=by
 rcases ec with ⟨ed,rfl⟩ | ⟨ed,rfl⟩
 ·rcases v with rfl | ⟨rfl,rfl⟩
  ·exact wI w [xC 5 c0,xV 3 fd,xV 4 it,xP 2 hp,xP 0 kb,xB 4 e8,xP 2 cb,xC 3 ed]
  ·exact wI w [xC 5 c0,xV 3 fd,xV 4 it,xP 2 hp,xP 0 kb,xB 4 e8,xP 2 cb,xC 3 ed]
 ·rcases v with rfl | ⟨rfl,rfl⟩
  ·exact wI w [xC 5 c0,xV 3 fd,xV 4 it,xP 2 hp,xP 0 kb,xB 4 e8,xP 2 cb,xC 3 ed]
  ·exact wI w [xC 5 c0,xV 3 fd,xV 4 it,xP 2 hp,xP 0 kb,xB 4 e8,xP 2 cb,xC 3 ed]
end
theorem Ox {a b:Nat}{lo:Int}(hl:lo+1=(a:Nat)) (hab:a<b):cC .FloorDiv (.int (lo+b)) (.int 2)=some (.int ((a+b - 1) / 2:Nat)):=by
 have e:lo+(b:Int)=((a+b - 1:Nat):Int):=by
  rw [Int.natCast_sub (Nat.le_trans (Nat.succ_le_of_lt (Nat.lt_of_le_of_lt (Nat.zero_le a) hab)) (Nat.le_add_left ..)),Int.natCast_add,← hl,Int.natCast_one,Int.add_right_comm,Int.add_sub_cancel]
 have z:cC .FloorDiv (.int ((a+b - 1:Nat):Int)) (.int 2)=some (.int (((a+b - 1:Nat):Int).fdiv 2)):=by kernel_rfl
 rw [e,z,Int.fdiv_eq_ediv_of_nonneg _ (by decide)]; rfl
theorem Mr {k:Nat}{x:Int}(hx:x=ssF f mode sh wt gs k) {bis:Bool}:(Ahd bis x→x=1∨x=0∧bis=true)∧(¬ Ahd bis x→x=-1∨x=0∧bis=false):=by
 have h:x=-1∨x=0∨x=1:=by
  rw [hx,ssF,gm]
  rcases mI (cK mode (bit f 8) wt) (cK mode (bit f 8) (hd sh gs k)) with e | e | e <;> rw [e] <;> cases bit f 16 <;> decide
 clear hx
 unfold Ahd
 cases bis <;> rcases h with rfl | rfl | rfl <;> decide
theorem JW (q:Ask o how mode sh f pl wt) (hk:cw mode wt) (hg:∀ g∈gs,Grp mode sh g) (hh:j9 mode sh gs) {start:Nat}{bis:Bool}{a b k:Nat}{lo fo x:Int}{x8 x9 x10:Option V}{m':LV}{Q:Prop}(hl:lo+1=(a:Nat)) (hab:a<b) (ek:(a+b - 1) / 2=k) (hkn:k<gs.length) (hx:x=ssF f mode sh wt gs k)
  (st:Wh ssW (ssM o gs (fw mode wt) start bis lo b fo x8 x9 x10) [] .next m' []→Q) :
  (Ahd bis x→Wh ssW (ssM o gs (fw mode wt) start bis k b (if x=0 then k else fo) (some (.int k)) (some (fw mode (hd sh gs k))) (some (.int x))) [] .next m' []→Q) ∧
  (¬ Ahd bis x→Wh ssW (ssM o gs (fw mode wt) start bis lo k (if x=0 then k else fo) (some (.int k)) (some (fw mode (hd sh gs k))) (some (.int x))) [] .next m' []→Q):=by
 have eg:gs[k]? = some gs[k]:=List.getElem?_eq_getElem hkn
 have ehd:hd sh gs k=aN sh gs[k]:=by unfold hd; rw [eg]; rfl
 have c0:=nB (qF fun e:lo+1=(b:Int)=>Nat.ne_of_lt hab (Int.ofNat_inj.mp (hl.symm.trans e)))
 have hgm:gs[k]∈gs:=List.getElem_mem hkn
 rw [ehd]
 have ec:o.dec=false∧cL (cK o.mode (bit f 8) wt) (cK o.mode (bit f 8) (aN o.sh gs[k]))=x∨o.dec=true∧cL (cK o.mode (bit f 8) wt) (cK o.mode (bit f 8) (aN o.sh gs[k]))=-x:=by
  rw [hx,ssF,gm,ehd,q.mo,q.sh',q.fl.dec]
  cases bit f 16 with
  | false=>exact .inl ⟨rfl,rfl⟩
  | true=>exact .inr ⟨rfl,(Int.neg_neg _).symm⟩
 have fd:=Ox hl hab
 rw [ek] at fd
 have z:=Mr hx (bis:=bis)
 obtain ⟨rfl,rfl⟩:o.mode=mode∧o.sh=sh:=⟨q.mo,q.sh'⟩
 exact ⟨fun v w=>st (Ov c0 fd (jk [] eg) (jf (hg _ hgm) q.s) (lp (hh _ hgm) q.m) (yM q.fl.noc) (om hk (hh _ hgm) q.m) ec (z.1 v) w),fun v w=>st (Ow c0 fd (jk [] eg) (jf (hg _ hgm) q.s) (lp (hh _ hgm) q.m) (yM q.fl.noc) (om hk (hh _ hgm) q.m) ec (z.2 v) w)⟩
noncomputable def SsG (o:To) (mode sh:Nat) (f:Int) (wt:Wo) (gs:List (List Wo)) (start:Nat) (bis:Bool) (m':LV):Prop :=
 ∃ (a':Nat) (lo' fo':Int) (y8 y9 y10:Option V),lo'+1=(a':Nat)∧uB bis start gs.length (ssF f mode sh wt gs) a' a' fo'∧m'=ssM o gs (fw mode wt) start bis lo' a' fo' y8 y9 y10
theorem JX (q:Ask o how mode sh f pl wt) (hk:cw mode wt) (hg:∀ g∈gs,Grp mode sh g) (hh:j9 mode sh gs) (start:Nat) {bis:Bool}(hm:EH gs.length (ssF f mode sh wt gs)) :
  ∀ (d a b:Nat) (lo fo:Int) (x8 x9 x10:Option V),b≤a+d→lo+1=(a:Nat)→uB bis start gs.length (ssF f mode sh wt gs) a b fo →
  ∃ m',SsG o mode sh f wt gs start bis m'∧Wh ssW (ssM o gs (fw mode wt) start bis lo b fo x8 x9 x10) [] .next m' []:=fun d=>by
 have fin:∀ (a b:Nat) (lo fo:Int) (x8 x9 x10:Option V),a=b→lo+1=(a:Nat)→uB bis start gs.length (ssF f mode sh wt gs) a b fo→∃ m',SsG o mode sh f wt gs start bis m'∧Wh ssW (ssM o gs (fw mode wt) start bis lo b fo x8 x9 x10) [] .next m' []:=fun a b lo fo x8 x9 x10 e hl h=>e ▸ ⟨_,⟨a,lo,fo,x8,x9,x10,hl,e ▸ h,rfl⟩,wE [xC 5 (nB (qT hl))] (by kernel_rfl)⟩
 induction d with
 | zero=>exact fun a b lo fo x8 x9 x10 hd' hl h=>fin a b lo fo x8 x9 x10 (Nat.le_antisymm h.ab hd') hl h
 | succ d ih =>
  intro a b lo fo x8 x9 x10 hd' hl h
  refine (Nat.lt_or_eq_of_le h.ab).elim (fun hab=>ar (JV hab) fun h1 h2=>?_) fun e=>fin a b lo fo x8 x9 x10 e hl h
  have hkn:=Nat.lt_of_lt_of_le h2 h.bn
  have st:=fun m' Q=>JW (m':=m') (Q:=Q) q hk hg hh (start:=start) (bis:=bis) (fo:=fo) (x8:=x8) (x9:=x9) (x10:=x10) hl hab rfl hkn rfl
  by_cases v:Ahd bis (ssF f mode sh wt gs ((a+b - 1) / 2))
  ·exact (ih _ b _ _ _ _ _ (Nat.le_trans hd' (by rw [← Nat.add_assoc,Nat.add_right_comm]; exact Nat.add_le_add_right (Nat.succ_le_succ h1) d)) rfl (JT h hm h1 h2 v)).imp fun m' w=>(st m' _ fun z=>⟨w.1,z⟩).1 v w.2
  ·exact (ih a _ lo _ _ _ _ (Nat.le_of_lt_succ (Nat.lt_of_lt_of_le h2 hd')) hl (JU h hm h1 h2 v)).imp fun m' w=>(st m' _ fun z=>⟨w.1,z⟩).2 v w.2
noncomputable def oy (mode sh:Nat) (nc dec:Bool) (gs:List (List Wo)):Prop:=gs.Pairwise fun g g'=>gm mode nc dec (aN sh g) (aN sh g')≤0
theorem AL {mode:Nat}{nc dec:Bool}(v w:Wo):gm mode nc dec w v=- gm mode nc dec v w:=by
 unfold gm
 rw [ji (cK mode nc v)]
 cases dec with
 | false=>rfl
 | true=>rw [if_pos rfl,if_pos rfl]
theorem wF {nc dec:Bool}(h:oy mode sh nc dec gs) {i j:Nat}(hij:i≤j) (hj:j<gs.length):gm mode nc dec (hd sh gs i) (hd sh gs j)≤0:=by
 have hi:=Nat.lt_of_le_of_lt hij hj
 have e1:hd sh gs i=aN sh gs[i]:=by unfold hd; rw [List.getElem?_eq_getElem hi]; rfl
 have e2:hd sh gs j=aN sh gs[j]:=by unfold hd; rw [List.getElem?_eq_getElem hj]; rfl
 rw [e1,e2]
 rcases Nat.lt_or_eq_of_le hij with q | q
 ·exact List.pairwise_iff_getElem.mp h i j hi hj q
 ·subst q
  unfold gm
  rw [pX]
  split <;> decide
theorem mono {nc dec:Bool}(h:oy mode sh nc dec gs) (wt:Wo):EH gs.length fun k=>gm mode nc dec wt (hd sh gs k):=by
 refine ⟨fun i j hij hj hp=>?_,fun i j hij hj hp=>?_⟩
 ·exact Int.not_le.mp fun hc=>Int.not_le.mpr hp (yB hc (wF h hij hj))
 ·have n1:=AL (mode:=mode) (nc:=nc) (dec:=dec) wt (hd sh gs j)
  have n2:=AL (mode:=mode) (nc:=nc) (dec:=dec) (hd sh gs i) wt
  have:=yB (wF h hij hj) (show gm mode nc dec (hd sh gs j) wt≤0 by rw [n1]; exact Int.neg_nonpos_of_nonneg hp)
  show 0≤gm mode nc dec wt (hd sh gs i)
  rw [n2]
  exact Int.neg_nonneg_of_nonpos this
theorem mM (q:Ask o how mode sh f pl wt) (hk:cw mode wt) (hg:∀ g∈gs,Grp mode sh g) (hh:j9 mode sh gs) (hsort:oy mode sh (bit f 8) (bit f 16) gs) {start:Nat}(hs:start≤gs.length) :
  ∃ (a:Nat) (lo fo:Int),lo+1=(a:Nat)∧uB (how==3) start gs.length (ssF f mode sh wt gs) a a fo∧cH [o.v,aq gs,fw mode wt,.int start] (.ok (.int (if (how==3)=true then lo else fo))):=by
 have e:(gs.map itS).length=gs.length:=List.length_map ..
 obtain ⟨m',⟨a,lo,fo,y8,y9,y10,g1,g2,rfl⟩,w⟩:=JX q hk hg hh start (bis:=how==3) (mono hsort wt) gs.length start gs.length ((start:Int) - 1) (-1) none none none (Nat.le_add_left ..) (Int.sub_add_cancel ..) ⟨Nat.le_refl _,hs,Nat.le_refl _,fun k h1 h2=>absurd h1 (Nat.not_le.mpr h2),fun k h1 h2=>absurd h1 (Nat.not_le.mpr h2),fun _=>.inl rfl,fun _=>.inl ⟨rfl,fun k h1 h2=>absurd h1 (Nat.not_le.mpr h2)⟩⟩
 refine ⟨a,lo,fo,g1,g2,?_⟩
 have hb:=yM (G:=[]) (vs:=o.fv) q.fl.bis
 have pp:(V.puL [o.v,aq gs,fw mode wt,.int start]&&bo cG [o.v,aq gs,fw mode wt,.int start])=true:=by rw [V.puL,V.puL,V.puL,q.pu,uA,oo]; rfl
 rw [← e] at w
 cases h3:(how==3) with
 | false =>
  rw [h3] at w hb
  rw [if_neg (by decide)]
  exact goP [xB 7 hb,xS 0 w] pp rfl
 | true =>
  rw [h3] at w hb
  rw [if_pos rfl]
  rcases g2.f1 h3 with rfl | ⟨c,rfl,hc,_⟩
  ·exact goP [xB 7 hb,xS 0 w] pp rfl
  ·obtain rfl:lo=(c:Int):=by
    rw [← hc,Int.natCast_add] at g1
    exact (Int.add_sub_cancel lo 1).symm.trans ((congrArg (· - 1) g1).trans (Int.add_sub_cancel ..))
   exact goP [xB 7 hb,xS 0 w] pp rfl
end
end
section
noncomputable def a9 (sh:Nat) (gs:List (List Wo)):List Wo:=gs.map (aN sh)
theorem Oy {sh:Nat}{gs:List (List Wo)}{k:Nat}{g:List Wo}(h:gs[k]? = some g):hd sh gs k=aN sh g:=by unfold hd; rw [h]; rfl
noncomputable abbrev lsF:=fR jL 7 (at_ fj.body 2)
noncomputable abbrev lsM (how mode:Nat) (f:Int) (hv:V) (start:Nat) (wv:V) (dec nc:Bool) (key:List V) (ah:Int) (x y:Option V):LV :=
 [some (.int how),some (.int mode),some (.int f),some hv,some (.int start),some wv,some (.int (if dec=true then -1 else 1)),some (.bool nc),some (.lst key),some (.ref 0),some (.int ah),x,y]
section
variable {how mode start k:Nat}{f:Int}{hv wv wk T:V}{dec nc:Bool}{key K1 A xs:List V}{ah z:Int}{x y:Option V}{g:Fl}{m':LV}{G':AH}
theorem Hw (hz:z=-1∨z=0∨z=1) (it:aF [.list A] hv (.int k)=some T) (k1:ch [.int mode,.bool nc,T] (.ok (.lst K1))) (o1:eu [.lst K1,.lst key] (.ok (.int z))) (pa:nC [.list A] (.ref 0) (oX .append) [.int k]=some [.list (A++[.int k])])
  (w:lsF xs (lsM how mode f hv start wv dec nc key (if (if dec=true then -z else z)≤0 then (k:Int) else ah) (some (.int k)) (some (.int (if dec=true then -z else z)))) [.list (if (if dec=true then -z else z)=0 then A++[.int k] else A)] g m' G'):lsF (.int k::xs) (lsM how mode f hv start wv dec nc key ah x y) [.list A] g m' G':=by
 rcases hz with rfl | rfl | rfl
 ·cases dec with
  | true=>exact fI w [xV 5 it,xP 0 k1,xP 1 o1]
  | false=>exact fI w [xV 5 it,xP 0 k1,xP 1 o1]
 ·cases dec with
  | true=>exact fI w [xV 5 it,xP 0 k1,xP 1 o1,xH 7 pa]
  | false=>exact fI w [xV 5 it,xP 0 k1,xP 1 o1,xH 7 pa]
 ·cases dec with
  | true=>exact fI w [xV 5 it,xP 0 k1,xP 1 o1]
  | false=>exact fI w [xV 5 it,xP 0 k1,xP 1 o1]
end
noncomputable def jl (F:Nat→Int) (k n:Nat):List Nat:=(List.range' k n).filter fun k=>F k==0
noncomputable def db (F:Nat→Int) (k n:Nat) (a:Int):Int:=(List.range' k n).foldl (fun a j=>if 0≤F j then (j:Int) else a) a
section
variable {how mode sh start:Nat}{f:Int}{wt:Wo}{gs:List (List Wo)}
theorem Oz {w:Wo}:(if bit f 16=true then - cL (cK mode (bit f 8) w) (cK mode (bit f 8) wt) else cL (cK mode (bit f 8) w) (cK mode (bit f 8) wt))=- gm mode (bit f 8) (bit f 16) wt w:=by
 unfold gm
 rw [ji (cK mode (bit f 8) w) (cK mode (bit f 8) wt)]
 split
 ·rw [Int.neg_neg]
 ·rw [Int.neg_neg]
theorem Dk (hm:mode<3) (hk:cw mode wt) (hh:j9 mode sh gs) (hn:gs.length≤big):∀ (n k:Nat) (A:List Nat) (ah:Int) (x y:Option V),k+n=gs.length→A.length≤k →
  ∃ x' y',lsF ((List.range' k n).map fun i=>.int (i:Nat)) (lsM how mode f (.lst ((a9 sh gs).map Wo.v)) start wt.v (bit f 16) (bit f 8) ((cK mode (bit f 8) wt).map .int) ah x y) [.list (A.map fun k=>.int (k:Nat))] .next
   (lsM how mode f (.lst ((a9 sh gs).map Wo.v)) start wt.v (bit f 16) (bit f 8) ((cK mode (bit f 8) wt).map .int) (db (ssF f mode sh wt gs) k n ah) x' y') [.list ((A++jl (ssF f mode sh wt gs) k n).map fun k=>.int (k:Nat))]
 | 0,k,A,ah,x,y,hkn,hA=>⟨x,y,by rw [jl,List.range'_zero,List.filter_nil,List.append_nil]; exact fN⟩
 | n+1,k,A,ah,x,y,hkn,hA=>by
  have hkl:k<gs.length:=by rw [← hkn]; exact Nat.lt_add_of_pos_right (Nat.succ_pos n)
  have eg:=List.getElem?_eq_getElem hkl
  have hK:=hh _ (List.getElem_mem hkl)
  have ehd:=Oy (sh:=sh) eg
  generalize gs[k]=g at eg hK ehd
  have it:=bS [.list (A.map fun k=>.int (k:Nat))] (vs:=(a9 sh gs).map Wo.v) (k:=k) (v:=(aN sh g).v) (by rw [a9,List.getElem?_map,List.getElem?_map,eg]; rfl)
  have k1:=jh (nc:=bit f 8) hK hm
  have o1:=q5 (yG (nc:=bit f 8) hK.d) (yG (nc:=bit f 8) hk.d)
  have pa:=bf (G:=[.list (A.map fun k=>.int (k:Nat))]) (i:=0) (v:=.int (k:Nat)) rfl (by rw [List.length_map]; exact Nat.le_trans (Nat.succ_le_succ hA) (Nat.le_trans hkl hn))
  have eF:ssF f mode sh wt gs k=gm mode (bit f 8) (bit f 16) wt (aN sh g):=by rw [ssF,ehd]
  rw [List.range'_succ,List.map_cons]
  have e2:db (ssF f mode sh wt gs) k (n+1) ah=db (ssF f mode sh wt gs) (k+1) n (if 0≤ssF f mode sh wt gs k then (k:Int) else ah):=by rw [db,List.range'_succ,List.foldl_cons]; rfl
  refine sf (Dk hm hk hh hn n (k+1) (if ssF f mode sh wt gs k=0 then A++[k] else A) (if 0≤ssF f mode sh wt gs k then (k:Int) else ah) (some (.int k)) (some (.int (- ssF f mode sh wt gs k))) (by rw [← hkn,Nat.add_right_comm]; rfl) (by split; rw [List.length_append]; exact Nat.succ_le_succ hA; exact Nat.le_succ_of_le hA)) fun x' y' w=>⟨x',y',Hw (mI _ _) it k1 o1 pa ?_⟩
  rw [e2,Oz,← eF]
  have e3:(if (- ssF f mode sh wt gs k)≤0 then (k:Int) else ah)=if 0≤ssF f mode sh wt gs k then (k:Int) else ah:=by
   simp only [Int.neg_nonpos_iff]
  have e4:(if (- ssF f mode sh wt gs k)=0 then A.map (fun k=>V.int (k:Nat))++[.int (k:Nat)] else A.map fun k=>.int (k:Nat))=(if ssF f mode sh wt gs k=0 then A++[k] else A).map fun k=>.int (k:Nat):=by
   simp only [Int.neg_eq_zero]
   split
   ·rw [List.map_append]; rfl
   ·rfl
  have e5:A++jl (ssF f mode sh wt gs) k (n+1)=(if ssF f mode sh wt gs k=0 then A++[k] else A)++jl (ssF f mode sh wt gs) (k+1) n:=by
   unfold jl
   rw [List.range'_succ,List.filter_cons]
   by_cases q:ssF f mode sh wt gs k=0
   ·rw [if_pos q,if_pos (beq_iff_eq.mpr q),List.append_assoc]; rfl
   ·rw [if_neg q,if_neg (mt beq_iff_eq.mp q)]
  rw [e3,e4,e5]
  exact w
noncomputable def ge (how start n:Nat) (F:Nat→Int):List Nat :=
 if how=2 then (jl F start (n - start)).take 1 else if 0≤db F start (n - start) ((start:Int) - 1) then [(db F start (n - start) ((start:Int) - 1)).toNat] else []
theorem rN (hm:mode<3) (hk:cw mode wt) (hh:j9 mode sh gs) (hn:gs.length≤big) (hs:start≤gs.length) :
  fk [.int how,.int mode,.int f,.lst ((a9 sh gs).map Wo.v),.int start,wt.v] (.ok (be (ge how start gs.length (ssF f mode sh wt gs)))):=by
 refine sf (Dk (how:=how) (f:=f) (start:=start) hm hk hh hn (gs.length - start) start [] ((start:Int) - 1) none none (Nat.add_sub_of_le hs) (Nat.zero_le _)) fun x' y' w=>?_
 have e:((a9 sh gs).map Wo.v).length=gs.length:=by rw [List.length_map,a9,List.length_map]
 have it:=bR (a:=start) (b:=((a9 sh gs).map Wo.v).length) (by rw [e]; exact hn) (Nat.le_trans hs hn)
 have k1:=jh (nc:=bit f 8) hk hm
 have sl:=GY (vs:=(jl (ssF f mode sh wt gs) start (gs.length - start)).map fun k=>V.int (k:Nat)) (i:=1) (Nat.le_trans (Nat.le_of_eq List.length_take) (Nat.le_trans (Nat.min_le_left ..) (by decide)))
 have pv:=a8 og (a9 sh gs)
 have pp:(V.puL [.int how,.int mode,.int f,.lst ((a9 sh gs).map Wo.v),.int start,wt.v]&&bo fj [.int how,.int mode,.int f,.lst ((a9 sh gs).map Wo.v),.int start,wt.v])=true:=by
  rw [V.puL,V.puL,V.puL,V.puL,V.pu,pv,V.puL,V.puL,og]; rfl
 have pr:(be (ge how start gs.length (ssF f mode sh wt gs))).pu=true:=a8 (fun _=>rfl) _
 unfold ge at pr ⊢
 rw [← e] at w sl
 rw [List.nil_append] at w
 generalize ssF f mode sh wt gs=F at *
 generalize (a9 sh gs).map Wo.v=hv at *
 rw [← e] at pr ⊢
 clear hh hn hs e pv
 generalize jl F start (hv.length - start)=sm at *
 generalize db F start (hv.length - start) ((start:Int) - 1)=ah at *
 by_cases q:how=2
 ·rw [if_pos q] at pr ⊢
  subst q
  rw [be,List.map_take] at pr ⊢
  cases hb:bit f 16 with
  | true=>rw [hb] at w; exact goP [xC 5 hb,xP 8 k1,xL 6 it,xS 0 w,xV 6 sl] pp pr
  | false=>rw [hb] at w; exact goP [xC 5 hb,xP 7 k1,xL 6 it,xS 0 w,xV 6 sl] pp pr
 ·rw [if_neg q] at pr ⊢
  by_cases q2:0≤ah
  ·obtain ⟨c,rfl⟩:=Int.eq_ofNat_of_zero_le q2
   rw [if_pos q2] at pr ⊢
   cases hb:bit f 16 with
   | true=>rw [hb] at w; exact goP [xC 5 hb,xP 8 k1,xL 6 it,xS 0 w,xC 3 (nF q)] pp rfl
   | false=>rw [hb] at w; exact goP [xC 5 hb,xP 7 k1,xL 6 it,xS 0 w,xC 3 (nF q)] pp rfl
  ·rw [if_neg q2] at pr ⊢
   cases hb:bit f 16 with
   | true=>rw [hb] at w; exact goP [xC 5 hb,xP 8 k1,xL 6 it,xS 0 w,xC 3 (nF q),xC 3 (dF q2)] pp rfl
   | false=>rw [hb] at w; exact goP [xC 5 hb,xP 7 k1,xL 6 it,xS 0 w,xC 3 (nF q),xC 3 (dF q2)] pp rfl
end
section
variable {F:Nat→Int}{s n a:Nat}{fo lo:Int}
theorem uC:∀ (n k:Nat),(∀ j,k≤j→j<k+n→F j≠0)→jl F k n=[]
 | 0,k,h=>rfl
 | n+1,k,h=>by
  rw [jl,List.range'_succ,List.filter_cons,if_neg (mt beq_iff_eq.mp (h k (Nat.le_refl _) (Nat.lt_add_of_pos_right (Nat.succ_pos n))))]
  exact uC n (k+1) fun j h1 h2=>h j (Nat.le_of_lt h1) (by rw [Nat.add_right_comm] at h2; exact h2)
theorem wG:∀ (n k:Nat) (a:Int),(∀ j,k≤j→j<k+n→¬ 0≤F j)→db F k n a=a
 | 0,k,a,h=>rfl
 | n+1,k,a,h=>by
  rw [db,List.range'_succ,List.foldl_cons,if_neg (h k (Nat.le_refl _) (Nat.lt_add_of_pos_right (Nat.succ_pos n)))]
  exact wG n (k+1) a fun j h1 h2=>h j (Nat.le_of_lt h1) (by rw [Nat.add_right_comm] at h2; exact h2)
theorem wH:∀ (n k:Nat),(∀ j,k≤j→j<k+n→0≤F j)→db F k n ((k:Int) - 1)=((k+n:Nat):Int) - 1
 | 0,k,h=>rfl
 | n+1,k,h=>by
  rw [db,List.range'_succ,List.foldl_cons,if_pos (h k (Nat.le_refl _) (Nat.lt_add_of_pos_right (Nat.succ_pos n)))]
  have:=wH n (k+1) fun j h1 h2=>h j (Nat.le_of_lt h1) (by rw [Nat.add_right_comm] at h2; exact h2)
  rw [Int.natCast_add,Int.natCast_one,Int.add_sub_cancel,Nat.add_right_comm] at this
  exact this
theorem re {k u n:Nat}(h1:k≤u) (h2:u≤n):List.range' k (n - k)=List.range' k (u - k)++List.range' u (n - u):=by
 have:=List.range'_append (s:=k) (m:=u - k) (n:=n - u) (step:=1)
 rw [Nat.one_mul,Nat.add_sub_of_le h1,Nat.add_comm (u - k),Nat.sub_add_sub_cancel h2 h1] at this
 exact this.symm
theorem Ch (h:uB false s n F a a fo):(if 0≤fo then [fo.toNat] else [])=(jl F s (n - s)).take 1:=by
 have e1:jl F s (a - s)=[]:=uC _ _ fun j h1 h2=>Int.ne_of_gt (h.l j h1 (by rw [Nat.add_sub_of_le h.sa] at h2; exact h2))
 rw [jl,re h.sa h.bn,List.filter_append,show (List.range' s (a - s)).filter (fun k=>F k==0)=[] from e1,List.nil_append]
 rcases h.f2 rfl with ⟨rfl,g⟩ | ⟨rfl,g1,g2⟩
 ·rw [show (List.range' a (n - a)).filter (fun k=>F k==0)=[] from uC _ _ fun j h1 h2=>g j h1 (by rw [Nat.add_sub_of_le h.bn] at h2; exact h2)]; rfl
 ·cases e:n - a with
  | zero=>exact absurd (Nat.le_of_sub_eq_zero e) (Nat.not_le.mpr g1)
  | succ d =>
   rw [List.range'_succ,List.filter_cons,if_pos (beq_iff_eq.mpr g2),if_pos (Int.natCast_nonneg a)]
   rfl
theorem AM (h:uB true s n F a a fo) (hl:lo+1=(a:Nat)):db F s (n - s) ((s:Int) - 1)=lo:=by
 have e1:=wH (F:=F) (a - s) s fun j h1 h2=>h.l j h1 (by rw [Nat.add_sub_of_le h.sa] at h2; exact h2)
 have e2:=wG (F:=F) (n - a) a lo fun j h1 h2=>h.u j h1 (by rw [Nat.add_sub_of_le h.bn] at h2; exact h2)
 rw [Nat.add_sub_of_le h.sa,← hl,Int.add_sub_cancel] at e1
 rw [db,re h.sa h.bn,List.foldl_append]
 exact (congrArg (fun x=>db F a (n - a) x) e1).trans e2
end
end
section
noncomputable def oN:List (List Nat):=[[45,97,108,108],[45,97,115,99,105,105],[45,98,105,115,101,99,116],[45,100,101,99,114,101,97,115,105,110,103],[45,100,105,99,116,105,111,110,97,114,121],[45,101,120,97,99,116],[45,103,108,111,98],[45,105,110,99,114,101,97,115,105,110,103],[45,105,110,100,101,120],[45,105,110,108,105,110,101],[45,105,110,116,101,103,101,114],[45,110,111,99,97,115,101],[45,110,111,116],[45,115,111,114,116,101,100],[45,115,116,97,114,116]]
noncomputable def nm (i:Nat):List Nat:=oN.getD i []
noncomputable def Hx:List (List Nat):=[nm 6,nm 5,nm 13,nm 2,nm 1,nm 4,nm 10,nm 0,nm 9,nm 11,nm 3,nm 7,nm 8,nm 14]
noncomputable def Ci:List (List Nat):=[[45,103],[45,101],[45,115,111],[45,98],[45,97,115],[45,100,105],[45,105,110,116],[45,97,108],[45,105,110,108],[45,110,111,99],[45,100,101],[45,105,110,99],[45,105,110,100],[45,115,116]]
set_option genCtorIdx false in
inductive Og where
 | one (i:Nat) | two (i j:Nat) | idx (s:Nat) | st
noncomputable def shW (s:Nat):List Nat:=if s=1 then [48] else [101,110,100]
noncomputable def Og.ws (w:List Nat):Og→List (List Nat)
 | .one i=>[nm i]
 | .two i j=>[nm i,nm j]
 | .idx s=>[nm 8,shW s]
 | .st=>[nm 14,w]
noncomputable def Hy (how:Nat):Nat:=if how=0 then 6 else if how=1 then 5 else if how=2 then 13 else 2
noncomputable def Hz (mode:Nat):Nat:=if mode=0 then 1 else if mode=1 then 4 else 10
noncomputable def flI (k:Nat):Nat:=if k=0 then 0 else if k=1 then 12 else if k=2 then 9 else 11
noncomputable abbrev gv (b:Bool) (l:List Og):List Og:=if b=true then l else []
noncomputable def o1 (how:Nat) (b32:Bool):List Og:=if how=0∧b32=false then [] else [.one (Hy how)]
noncomputable def o2 (mode:Nat) (b32:Bool):List Og:=if 0<mode∨b32=true then [.one (Hz mode)] else []
noncomputable def o4 (b16 b32:Bool):List Og:=if b16=true then (if b32=true then [.two 7 3] else [.one 3]) else (if b32=true then [.two 3 7] else [])
noncomputable def o5 (sh:Nat):List Og:=if 0<sh then [.idx sh] else []
noncomputable def o6 (st:List Nat):List Og:=if st=[] then [] else [.st]
noncomputable def o3 (f:Int):List Og:=gv (bit f 1) [.one 0]++(gv (bit f 2) [.one 12]++(gv (bit f 4) [.one 9]++gv (bit f 8) [.one 11]))
noncomputable def eC (how mode sh:Nat) (f:Int) (st:List Nat):List Og:=((((o1 how (bit f 32)++o2 mode (bit f 32))++o3 f)++o4 (bit f 16) (bit f 32))++o5 sh)++o6 st
noncomputable def gr (short:Bool) (w:List Nat):List Nat:=if short=true then ((Hx.zip Ci).lookup w).getD w else w
noncomputable def oG (st:List Nat) (g:Og):V:=.lst ((g.ws st).map S)
noncomputable def oV (st:List Nat) (L:List Og):List V:=L.map (oG st)
noncomputable def mk (w:List Nat):Str:=⟨⟨w⟩⟩
noncomputable def OA:V:=.dS (Hx.map mk) (Ci.map S)
section
variable {α:Type}{L:α→Prop}{how mode sh:Nat}{f:Int}{st:List Nat}{G:AH}{r i:Nat}{X:List Og}{x7 x8 x9 x10:Option V}{k:Fl→LV→AH→Tr α}
noncomputable abbrev oM (how mode sh:Nat) (f:Int) (st:List Nat) (r:V) (x7:Option V):LV:=[some (.int how),some (.int mode),some (.int sh),some (.int f),some (S st),some r,some (.bool (bit f 32)),x7,none,none,none]
noncomputable abbrev oB (i:Nat) (m:LV) (G:AH) (k:Fl→LV→AH→Tr α):Tr α:=evB (evS 8 b9) (b8.body.drop i) m G k
theorem uD (e:G[r]? = some (.list (oV st X))) (h:X.length≤20) (g:Og):nC G (.ref r) (oX .append) [oG st g]=some (G.set r (.list (oV st (X++[g])))):=by
 have q:(X++[g]).map (oG st)=X.map (oG st)++[oG st g]:=List.map_append
 show _=some (G.set r (.list ((X++[g]).map (oG st))))
 rw [q]
 exact bf e (by show (X.map (oG st)).length+1≤big; rw [List.length_map]; exact Nat.le_trans (Nat.succ_le_succ h) (by decide))
theorem ob3 (hm:mode<3) (e:G[r]? = some (.list (oV st X))) (h:X.length≤20) (q:(oB 4 (oM how mode sh f st (.ref r) none) (G.set r (.list (oV st (X++o2 mode (bit f 32))))) k).tt L):(oB 3 (oM how mode sh f st (.ref r) none) G k).tt L:=by
 have pa:=uD e h (.one (Hz mode))
 have ho:aF G (.lst [S [45,97,115,99,105,105],S [45,100,105,99,116,105,111,110,97,114,121],S [45,105,110,116,101,103,101,114]]) (.int mode)=some (S (nm (Hz mode))):=bS G (tri hm (fun e=>by subst e; rfl) (fun e=>by subst e; rfl) fun e=>by subst e; rfl)
 by_cases z:0<mode
 ·rw [o2,if_pos (.inl z)] at q
  exact goK q 1 [xC 3 (ltT z),xC 1 (ltT z),xM 1 (jQ e),xV 1 ho,xH 0 pa]
 ·cases b:bit f 32 with
  | true =>
   rw [b] at q
   rw [o2,if_pos (.inr rfl)] at q
   exact goK q 1 [xC 3 (ltF (Nat.not_lt.mp z)),xC 2 b,xM 1 (jQ e),xV 1 ho,xH 0 pa]
  | false =>
   rw [b] at q
   rw [o2,if_neg fun h=>h.elim z (by decide),List.append_nil,fW e] at q
   exact goK q 0 [xC 3 (ltF (Nat.not_lt.mp z)),xC 2 b]
noncomputable abbrev ofF:=fR b9 7 (at_ b8.body 4)
theorem oz {kk:Nat}{j:Int}{xs:List V}{m':LV}{G':AH}(hp:cC .Pow (.int 2) (.int kk)=some (.int j)) (fd:cC .FloorDiv (.int f) (.int j)=some (.int (f.fdiv j))) (it:∀ G,aF G (.lst [S (nm 0),S (nm 12),S (nm 9),S (nm 11)]) (.int kk)=some (S (nm (flI kk)))) (e:G[r]? = some (.list (oV st X))) (h:X.length≤20)
  (w:ofF xs (oM how mode sh f st (.ref r) (some (.int kk))) (G.set r (.list (oV st (X++gv (bit f j) [.one (flI kk)])))) .next m' G'):ofF (.int kk::xs) (oM how mode sh f st (.ref r) x7) G .next m' G':=by
 have pa:=uD e h (.one (flI kk))
 have it:=it G
 cases b:bit f j with
 | true =>
  rw [b] at w
  exact fI w [xV 2 hp,xV 0 fd,xC 3 b,xM 1 (jQ e),xV 1 it,xH 0 pa]
 | false =>
  rw [b] at w
  have w:ofF xs (oM how mode sh f st (.ref r) (some (.int kk))) (G.set r (.list (oV st (X++[])))) .next m' G':=w
  rw [List.append_nil,fW e] at w
  exact fI w [xV 2 hp,xV 0 fd,xC 3 b]
theorem jR {o:AO}(e:G[r]? = some o) (o':AO):(G.set r o')[r]? = some o':=List.getElem?_set_self (bc e)
theorem mO {b:Bool}{g:Og}:(gv b [g]).length≤1:=by cases b; exact Nat.zero_le _; exact Nat.le_refl _
theorem dQ {Y:List Og}{a b:Nat}(h:X.length≤a) (h':Y.length≤b):(X++Y).length≤a+b:=by rw [List.length_append]; exact Nat.add_le_add h h'
theorem ob4 (e:G[r]? = some (.list (oV st X))) (h:X.length≤2) (q:(oB 5 (oM how mode sh f st (.ref r) (some (.int 3))) (G.set r (.list (oV st (X++o3 f)))) k).tt L):(oB 4 (oM how mode sh f st (.ref r) none) G k).tt L:=by
 have h1:=dQ h (mO (b:=bit f 1) (g:=.one (flI 0)))
 have h2:=dQ h1 (mO (b:=bit f 2) (g:=.one (flI 1)))
 have h3:=dQ h2 (mO (b:=bit f 4) (g:=.one (flI 2)))
 have w:ofF [.int (0:Nat),.int (1:Nat),.int (2:Nat),.int (3:Nat)] (oM how mode sh f st (.ref r) none) G .next (oM how mode sh f st (.ref r) (some (.int (3:Nat)))) (G.set r (.list (oV st (X++o3 f)))):=by
  refine oz (j:=1) rfl rfl (fun _=>rfl) e (Nat.le_trans h (by decide)) ?_
  refine oz (j:=2) rfl rfl (fun _=>rfl) (jR e _) (Nat.le_trans h1 (by decide)) ?_
  rw [List.set_set]
  refine oz (j:=4) rfl rfl (fun _=>rfl) (jR e _) (Nat.le_trans h2 (by decide)) ?_
  rw [List.set_set]
  refine oz (j:=8) rfl rfl (fun _=>rfl) (jR e _) (Nat.le_trans h3 (by decide)) ?_
  rw [List.set_set,List.append_assoc,List.append_assoc,List.append_assoc]
  exact fN
 exact goK q 0 [xS 2 w]
theorem ob5 (e:G[r]? = some (.list (oV st X))) (h:X.length≤20) (q:(oB 6 (oM how mode sh f st (.ref r) x7) (G.set r (.list (oV st (X++o4 (bit f 16) (bit f 32))))) k).tt L):(oB 5 (oM how mode sh f st (.ref r) x7) G k).tt L:=by
 have ma:=jQ e
 cases b16:bit f 16 with
 | true=>cases b32:bit f 32 with
  | true =>
   rw [b16,b32] at q
   have pa:=uD e h (.two 7 3)
   exact goK q 1 [xC 5 b16,xM 1 ma,xC 2 b32,xH 0 pa]
  | false =>
   rw [b16,b32] at q
   have pa:=uD e h (.one 3)
   exact goK q 1 [xC 5 b16,xM 1 ma,xC 2 b32,xH 0 pa]
 | false=>cases b32:bit f 32 with
  | true =>
   rw [b16,b32] at q
   have pa:=uD e h (.two 3 7)
   exact goK q 1 [xC 5 b16,xC 2 b32,xM 1 ma,xH 0 pa]
  | false =>
   rw [b16,b32] at q
   have q:(oB 6 (oM how mode sh f st (.ref r) x7) (G.set r (.list (oV st (X++[])))) k).tt L:=q
   rw [List.append_nil,fW e] at q
   exact goK q 0 [xC 5 b16,xC 2 b32]
theorem ob6 (hs:sh<3) (e:G[r]? = some (.list (oV st X))) (h:X.length≤20) (q:(oB 7 (oM how mode sh f st (.ref r) x7) (G.set r (.list (oV st (X++o5 sh)))) k).tt L):(oB 6 (oM how mode sh f st (.ref r) x7) G k).tt L:=by
 have ma:=jQ e
 cases sh with
 | zero =>
  rw [o5,if_neg (by decide),List.append_nil,fW e] at q
  exact goK q 4 []
 | succ s =>
  have pa:=uD e h (.idx (s+1))
  have it:aF G (.lst [S [48],S [101,110,100]]) (.int (s:Nat))=some (S (shW (s+1))):=bS G (tri hs (fun e=>nomatch e) (fun e=>by obtain rfl:=Nat.succ.inj e; rfl) fun e=>by obtain rfl:=Nat.succ.inj e; rfl)
  rw [o5,if_pos (Nat.succ_pos s)] at q
  exact goK q 1 [xC 3 (ltT (Nat.succ_pos s)),xM 1 ma,xV 1 (c7 (d:=s)),xV 0 it,xH 0 pa]
theorem ob7 (e:G[r]? = some (.list (oV st X))) (h:X.length≤20) (q:(oB 8 (oM how mode sh f st (.ref r) x7) (G.set r (.list (oV st (X++o6 st)))) k).tt L):(oB 7 (oM how mode sh f st (.ref r) x7) G k).tt L:=by
 by_cases z:st=[]
 ·rw [o6,if_pos z,List.append_nil,fW e] at q
  exact goK q 0 [xC 3 (nB (seT z))]
 ·rw [o6,if_neg z] at q
  have pa:=uD e h .st
  exact goK q 1 [xC 3 (nB (seF z)),xM 1 (jQ e),xH 1 pa]
theorem AN {l:List V}(e:G[r]? = some (.list l)):nC G (.ref r) (oX .reverse) []=some (G.set r (.list l.reverse)):=by
 have k:oX .reverse l []=some l.reverse:=rfl
 unfold nC
 dsimp only
 rw [e]
 dsimp only
 rw [k]
theorem JY {l:List V}(e:G[r]? = some (.list l)):Ir G (.ref r) ⟨⟨[114,101,118,101,114,115,101]⟩⟩=some .reverse:=by
 have q:Lj G (.ref r) ⟨⟨[114,101,118,101,114,115,101]⟩⟩=_:=cB e
 exact congrArg Cv.v q
theorem ob8 (e:G[r]? = some (.list (oV st X))) (q:(oB 9 (oM how mode sh f st (.ref r) x7) (G.set r (.list (oV st (if bit f 64=true then X.reverse else X)))) k).tt L):(oB 8 (oM how mode sh f st (.ref r) x7) G k).tt L:=by
 cases b:bit f 64 with
 | true =>
  have pr:=AN e
  rw [b,if_pos rfl,oV,List.map_reverse] at q
  exact goK q 1 [xC 5 b,xM 1 (JY e),xH 0 pr]
 | false =>
  rw [b,if_neg (by decide),fW e] at q
  exact goK q 0 [xC 5 b]
end
end
section
theorem HA (a b:List Nat):(mk a==mk b)=(a==b):=by
 rw [Bool.eq_iff_iff,beq_iff_eq,beq_iff_eq]
 exact ⟨fun h=>congrArg (fun s:Str=>s.cps.toList) h,fun h=>congrArg mk h⟩
theorem wJ (w:List Nat):∀ ks vs:List (List Nat),((ks.map mk).zip (vs.map S)).lookup (mk w)=((ks.zip vs).lookup w).map S
 | [],_=>rfl
 | _::_,[]=>rfl
 | k::ks,v::vs=>by
  rw [List.map_cons,List.map_cons,List.zip_cons_cons,List.zip_cons_cons,List.lookup_cons,List.lookup_cons,HA]
  cases w==k with
  | true=>rfl
  | false=>exact wJ w ks vs
theorem HB (w:List Nat):∀ ks vs:List (List Nat),ks.length=vs.length→(ks.map mk).contains (mk w)=((ks.zip vs).lookup w).isSome
 | [],_,_=>rfl
 | _::_,[],h=>nomatch h
 | k::ks,v::vs,h=>by
  rw [List.map_cons,List.zip_cons_cons,List.lookup_cons,List.contains_cons,HA]
  cases w==k with
  | true=>rfl
  | false=>exact HB w ks vs (Nat.succ.inj h)
section
variable {how mode sh:Nat}{f:Int}{st:List Nat}{G:AH}{r i:Nat}{X:List Og}{x7 x8 x9 x10:Option V}
noncomputable abbrev cuE:=aE (sE (at_ (blk (at_ b8.body 11)) 0)) 1
noncomputable abbrev loM (how mode sh:Nat) (f:Int) (st:List Nat) (r:V) (x7:Option V) (ws:List (List Nat)) (x10:Option V):LV:=[some (.int how),some (.int mode),some (.int sh),some (.int f),some (S st),some r,some (.bool (bit f 32)),x7,some OA,some (.lst (ws.map S)),x10]
theorem OB {rv:V}{ws:List (List Nat)}(w:List Nat):(cR b9 22 cuE (loM how mode sh f st rv x7 ws x10) (S w) G).tt fun x=>x=(some (S (gr (bit f 32) w)),G):=by
 unfold gr
 cases b:bit f 32 with
 | false=>exact goC [xC 2 b,xC 1 b]
 | true =>
  rw [if_pos rfl]
  have h1:=HB w Hx Ci rfl
  have h2:=wJ w Hx Ci
  cases e:(Hx.zip Ci).lookup w with
  | none =>
   rw [e] at h1
   exact goC [xC 2 b,xB 2 (yM (G:=G) (vs:=Ci.map S) h1)]
  | some v =>
   rw [e] at h1 h2
   rw [Option.getD_some]
   have it:aF G OA (S w)=some (S v):=congrArg Cv.v (cB h2)
   exact goC [xC 2 b,xB 2 (yM (G:=G) (vs:=Ci.map S) h1),xV 4 it]
noncomputable abbrev lpF:=fR b9 7 (at_ b8.body 11)
theorem Dl {rv:V}:∀ (L:List Og) (ws:List (List Nat)) (x10:Option V),ws.length+2*L.length≤100 →
  ∃ y10,lpF (oV st L) (loM how mode sh f st rv x7 ws x10) G .next (loM how mode sh f st rv x7 (ws++(L.map (Og.ws st)).flatten.map (gr (bit f 32))) y10) G
 | [],ws,x10,h=>⟨x10,by rw [List.map_nil,List.flatten_nil,List.map_nil,List.append_nil]; exact fN⟩
 | g::L,ws,x10,h=>by
  have hg:(g.ws st).length≤2:=by cases g <;> first | exact Nat.le_refl 2 | exact Nat.le_succ 1
  have hl:(ws++(g.ws st).map (gr (bit f 32))).length+2*L.length≤100:=by
   rw [List.length_append,List.length_map]
   rw [List.length_cons,Nat.mul_succ,Nat.add_comm (2*L.length),← Nat.add_assoc] at h
   exact Nat.le_trans (Nat.add_le_add_right (Nat.add_le_add_left hg _) _) h
  refine uV (Dl (rv:=rv) L (ws++(g.ws st).map (gr (bit f 32))) (some (oG st g)) hl) fun y10 w=>?_
  have c:cQ (cR b9 22 cuE (loM how mode sh f st rv x7 ws (some (oG st g)))) ((g.ws st).map S) G ((g.ws st).map fun w=>S (gr (bit f 32) w)) G:=dj (g.ws st) fun w _=>OB w
  have al:=yq (vs:=ws.map S) (us:=(g.ws st).map fun w=>S (gr (bit f 32) w)) (by
   rw [List.length_map,List.length_map,← List.length_map (as:=g.ws st) (gr (bit f 32)),← List.length_append]
   exact Nat.le_trans (Nat.le_add_right ..) (Nat.le_trans hl (by decide)))
  have em:(ws++(g.ws st).map (gr (bit f 32))).map S=ws.map S++(g.ws st).map fun w=>S (gr (bit f 32) w):=by rw [List.map_append,List.map_map]; rfl
  rw [List.map_cons,List.flatten_cons,List.map_append,← List.append_assoc]
  rw [loM,em] at w
  exact fI w [xQ 3 c,xV 0 al]
noncomputable def dW (how mode sh:Nat) (f:Int) (st:List Nat):List (List Nat) :=
 (((if bit f 64=true then (eC how mode sh f st).reverse else eC how mode sh f st).map (Og.ws st)).flatten).map (gr (bit f 32))
theorem EI {l:List V}(e:G[r]? = some (.list l)):look G r=some (.lst l):=by
 have q:CL G r=_:=cB e
 exact congrArg Cv.v q
theorem AP:(eC how mode sh f st).length≤9:=by
 have l1:∀ b,(o1 how b).length≤1:=fun b=>by unfold o1; split; exact Nat.zero_le _; exact Nat.le_refl _
 have l2:∀ b,(o2 mode b).length≤1:=fun b=>by unfold o2; split; exact Nat.le_refl _; exact Nat.zero_le _
 have l3:(o3 f).length≤4:=dQ (X:=gv _ _) (Y:=_++_) mO (dQ mO (dQ mO mO))
 have l4:∀ a b,(o4 a b).length≤1:=fun a b=>by cases a <;> cases b <;> first | exact Nat.le_refl _ | exact Nat.zero_le _
 have l5:(o5 sh).length≤1:=by unfold o5; split; exact Nat.le_refl _; exact Nat.zero_le _
 have l6:(o6 st).length≤1:=by unfold o6; split; exact Nat.zero_le _; exact Nat.le_refl _
 exact dQ (dQ (dQ (dQ (dQ (l1 _) (l2 _)) l3) (l4 _ _)) l5) l6
theorem p9 (hh:how<4) (hm:mode<3) (hs:sh<3):dG [.int how,.int mode,.int sh,.int f,S st] (.ok (.lst ((dW how mode sh f st).map S))):=by
 refine ⟨a8 (f:=S) (fun _=>rfl) _,rfl,?_⟩
 have l0:=AP (how:=how) (mode:=mode) (sh:=sh) (f:=f) (st:=st)
 have main:∀ (r:Nat) (G:AH),G[r]? = some (.list (oV st (o1 how (bit f 32))))→(oB 3 (oM how mode sh f st (.ref r) none) G fun f _ G=>.ok (f,G)).tt (fF false (.ok (.lst ((dW how mode sh f st).map S)))):=fun r G e=>by
  have k1:(o1 how (bit f 32)).length≤1:=by unfold o1; split; exact Nat.zero_le _; exact Nat.le_refl _
  have k0:(o2 mode (bit f 32)).length≤1:=by unfold o2; split; exact Nat.le_refl _; exact Nat.zero_le _
  have k2:(o1 how (bit f 32)++o2 mode (bit f 32)).length≤2:=dQ k1 k0
  unfold eC at l0
  have k6:=Nat.le_trans (Nat.le_trans (Nat.le_add_right _ (o6 st).length) (Nat.le_of_eq List.length_append.symm)) l0
  have k5:=Nat.le_trans (Nat.le_trans (Nat.le_add_right _ (o5 sh).length) (Nat.le_of_eq List.length_append.symm)) k6
  have k4:=Nat.le_trans (Nat.le_trans (Nat.le_add_right _ (o4 (bit f 16) (bit f 32)).length) (Nat.le_of_eq List.length_append.symm)) k5
  refine ob3 hm e (Nat.le_trans k1 (by decide)) (ob4 (jR e _) k2 ?_)
  rw [List.set_set]
  refine ob5 (jR e _) (Nat.le_trans k4 (by decide)) ?_
  rw [List.set_set]
  refine ob6 hs (jR e _) (Nat.le_trans k5 (by decide)) ?_
  rw [List.set_set]
  refine ob7 (jR e _) (Nat.le_trans k6 (by decide)) ?_
  rw [List.set_set]
  refine ob8 (jR e _) ?_
  rw [List.set_set]
  show (oB 9 (oM how mode sh f st (.ref r) (some (.int 3))) (G.set r (.list (oV st (if bit f 64=true then (eC how mode sh f st).reverse else eC how mode sh f st)))) _).tt _
  have e':=jR e (.list (oV st (if bit f 64=true then (eC how mode sh f st).reverse else eC how mode sh f st)))
  refine aj (Dl (how:=how) (mode:=mode) (sh:=sh) (f:=f) (st:=st) (G:=(G.set r (.list (oV st (if bit f 64=true then (eC how mode sh f st).reverse else eC how mode sh f st)))).set r .dead) (rv:=.ref r) (x7:=some (.int 3)) (if bit f 64=true then (eC how mode sh f st).reverse else eC how mode sh f st) [] none (by
   have:(if bit f 64=true then (eC how mode sh f st).reverse else eC how mode sh f st).length≤9:=by
    split
    ·rw [List.length_reverse]; exact AP
    ·exact AP
   rw [List.length_nil,Nat.zero_add]
   exact Nat.le_trans (Nat.mul_le_mul_left 2 this) (by decide))) fun y10 w=>?_
  rw [List.nil_append] at w
  have lo:=EI e'
  have e9:dW how mode sh f st=(((if bit f 64=true then (eC how mode sh f st).reverse else eC how mode sh f st).map (Og.ws st)).flatten).map (gr (bit f 32)):=rfl
  rw [e9]
  clear e9 k4 k5 k6 l0 e'
  generalize (if bit f 64=true then (eC how mode sh f st).reverse else eC how mode sh f st)=O at *
  exact goT (rfl:Res.ok (.lst ((((O.map (Og.ws st)).flatten).map (gr (bit f 32))).map S))=Res.ok (.lst ((((O.map (Og.ws st)).flatten).map (gr (bit f 32))).map S))) [xV 1 lo,xS 1 w]
 have ho:∀ G,aF G (.lst [S [45,103,108,111,98],S [45,101,120,97,99,116],S [45,115,111,114,116,101,100],S [45,98,105,115,101,99,116]]) (.int how)=some (S (nm (Hy how))):=fun G=>bS G (by
  match how,hh with
  | 0,_=>rfl
  | 1,_=>rfl
  | 2,_=>rfl
  | 3,_=>rfl)
 have ho:=ho []
 show (oB 0 [some (.int how),some (.int mode),some (.int sh),some (.int f),some (S st),none,none,none,none,none,none] [] fun f _ G=>.ok (f,G)).tt (fF false (.ok (.lst ((dW how mode sh f st).map S))))
 by_cases h0:how=0
 ·subst h0
  cases b:bit f 32 with
  | false =>
   have q:=main 1 [.list [.lst [S (nm (Hy 0))]],.list []] (by rw [b]; rfl)
   exact goK q 0 [xC 13 (nB b)]
  | true =>
   have q:=main 0 [.list [.lst [S (nm (Hy 0))]]] (by rw [b]; rfl)
   exact goK q 0 [xC 13 (nB b)]
 ·have q:=main 0 [.list [.lst [S (nm (Hy how))]]] (by rw [o1,if_neg fun h=>h0 h.1]; rfl)
  exact goK q 0 [xV 1 ho,xC 7 (nF h0),xC 1 (nF h0)]
end
end
section
structure Rq where
 mode:Nat
 how:Nat
 dec:Bool
 sh:Nat
 st:Bool
 fl:List Nat
noncomputable def nmk (i:Nat):Str:=mk (nm i)
noncomputable def flV (l:List Nat):List V:=l.map fun _=>.bool true
noncomputable def stV (w:List Nat) (b:Bool):V:=if b=true then S w else .none
noncomputable def rqH (w:List Nat) (t:Rq):AH:=[.inst ak lW [S (ft t.mode),S (fX t.how),.bool t.dec,S [],io t.sh,.int 1,stV w t.st,.ref 1],.dS (t.fl.map nmk) (flV t.fl)]
noncomputable def oA (i:Nat) (t:Rq):Rq where
 mode:=if i=1 then 0 else if i=4 then 1 else if i=10 then 2 else t.mode
 how:=if i=6 then 0 else if i=5 then 1 else if i=13 then 2 else if i=2 then 2 else t.how
 dec:=if i=3 then true else if i=7 then false else t.dec
 sh:=t.sh
 st:=t.st
 fl:=if t.fl.contains i=true then t.fl else t.fl++[i]
structure Rok (t:Rq):Prop where
 n:t.fl.length≤100
 l:∀ j∈t.fl,j<15
theorem Ms:((List.range 15).all fun i=>(List.range 15).all fun j=>nm i != nm j||i==j)=true:=by kernel_rfl
theorem JZ {i j:Nat}(hi:i<15) (hj:j<15) (e:nmk i=nmk j):i=j:=by
 have e:nm i=nm j:=congrArg (fun s:Str=>s.cps.toList) e
 exact eq_of_beq (q9 (List.all_eq_true.mp (List.all_eq_true.mp Ms i (List.mem_range.mpr hi)) j (List.mem_range.mpr hj)) (by rw [e]; exact bne_self_eq_false _))
theorem qc {l:List Nat}{i:Nat}(h:∀ j∈l,j<15) (hi:i<15):(l.map nmk).contains (nmk i)=l.contains i:=by
 rw [Bool.eq_iff_iff,List.contains_iff_mem,List.contains_iff_mem,List.mem_map]
 exact ⟨fun ⟨j,hj,e⟩=>JZ (h j hj) hi e ▸ hj,fun h=>⟨i,h,rfl⟩⟩
theorem rf {k:Str}:∀ {l:List Nat},kB k (.bool true) (l.map nmk) (flV l)=flV l
 | []=>rfl
 | i::l=>by
  have ih:=rf (k:=k) (l:=l)
  rw [kB] at ih ⊢
  rw [flV,List.map_cons,List.map_cons,List.zip_cons_cons,List.map_cons]
  rw [flV] at ih
  rw [ih,ite_self]
theorem fY {t:Rq}{i:Nat}(h:Rok t) (hi:i<15) (A:AO):j3 [A,.dS (t.fl.map nmk) (flV t.fl)] (.ref 1) (.str (nmk i)) (.bool true)=some [A,.dS ((oA i t).fl.map nmk) (flV (oA i t).fl)]:=by
 refine (congrArg Cv.v (fu (eH (by rw [List.length_map]; exact Nat.le_trans h.n (by decide))))).trans ?_
 show some [A,AO.dS (bh (nmk i) (.bool true) (t.fl.map nmk) (flV t.fl)).1 (bh (nmk i) (.bool true) (t.fl.map nmk) (flV t.fl)).2]=some [A,.dS ((if t.fl.contains i=true then t.fl else t.fl++[i]).map nmk) (flV (if t.fl.contains i=true then t.fl else t.fl++[i]))]
 unfold bh
 rw [qc h.l hi]
 split
 ·rw [rf]
 ·rw [List.map_append,flV,flV,List.map_append]; rfl
section
variable {m h p s:V}{d:Bool}{i:Nat}{m':List Nat}{F F':AO}
noncomputable abbrev rH (m h p s:V) (d:V) (F:AO):AH:=[.inst ak lW [m,h,d,S [],p,.int 1,s,.ref 1],F]
noncomputable abbrev inT (m h p s d:V) (F:AO) (i:Nat) (l:List Nat) (b:Bool):Prop:=aG (rH m h p s d F) .In (S (nm i)) (.tup (l.map fun i=>S (nm i)))=some b
theorem rY {d:V}(h1:inT m h p s d F i [1,4,10] false) (h2:inT m h p s d F i [2,5,6,13] false) (h3:inT m h p s d F i [3,7] false) (st:∀ A,j3 [A,F] (.ref 1) (.str (nmk i)) (.bool true)=some [A,F']):cA [.ref 0,S (nm i)] (rH m h p s d F) (.ok .none) (rH m h p s d F'):=by
 have st:=st (.inst ak lW [m,h,d,S [],p,.int 1,s,.ref 1])
 exact goH [xB 1 h1,xB 3 h2,xB 3 h3,xH 5 st] rfl
theorem yP {d:V}(h1:inT m h p s d F i [1,4,10] true) (sl:bG (S (nm i)) (some (.int 1)) none none=some (S m')) (st:∀ A,j3 [A,F] (.ref 1) (.str (nmk i)) (.bool true)=some [A,F']):cA [.ref 0,S (nm i)] (rH m h p s d F) (.ok .none) (rH (S m') h p s d F'):=by
 have st:=st (.inst ak lW [S m',h,d,S [],p,.int 1,s,.ref 1])
 exact goH [xB 1 h1,xV 3 sl,xH 5 st] rfl
theorem yQ {d:V}{b:Bool}(h1:inT m h p s d F i [1,4,10] false) (h2:inT m h p s d F i [2,5,6,13] true) (eb:aG (rH m h p s d F) .Eq (S (nm i)) (S (nm 2))=some b) (sl:bG (S (nm i)) (some (.int 1)) none none=some (S m')) (st:∀ A,j3 [A,F] (.ref 1) (.str (nmk i)) (.bool true)=some [A,F']):cA [.ref 0,S (nm i)] (rH m h p s d F) (.ok .none) (rH m (S (if b=true then [115,111,114,116,101,100] else m')) p s d F'):=by
 cases b with
 | true =>
  have st:=st (.inst ak lW [m,S [115,111,114,116,101,100],d,S [],p,.int 1,s,.ref 1])
  exact goH [xB 1 h1,xB 3 h2,xB 3 eb,xH 7 st] rfl
 | false =>
  have st:=st (.inst ak lW [m,S m',d,S [],p,.int 1,s,.ref 1])
  exact goH [xB 1 h1,xB 3 h2,xB 3 eb,xV 3 sl,xH 5 st] rfl
theorem HD {d:V}{b:Bool}(h1:inT m h p s d F i [1,4,10] false) (h2:inT m h p s d F i [2,5,6,13] false) (h3:inT m h p s d F i [3,7] true) (eb:aG (rH m h p s d F) .Eq (S (nm i)) (S (nm 3))=some b) (st:∀ A,j3 [A,F] (.ref 1) (.str (nmk i)) (.bool true)=some [A,F']):cA [.ref 0,S (nm i)] (rH m h p s d F) (.ok .none) (rH m h p s (.bool b) F'):=by
 have st:=st (.inst ak lW [m,h,.bool b,S [],p,.int 1,s,.ref 1])
 exact goH [xB 1 h1,xB 3 h2,xB 3 h3,xB 3 eb,xH 5 st] rfl
end
noncomputable def lu (i:Nat):Bool:=Nat.blt i 15&&(i != 8&&i != 14)
theorem vh {t:Rq}{i:Nat}{w:List Nat}(h:Rok t) (hi:lu i=true):cA [.ref 0,S (nm i)] (rqH w t) (.ok .none) (rqH w (oA i t)):=by
 exact wQ (P:=fun i=>i<15→lu i=true→cA [.ref 0,S (nm i)] (rqH w t) (.ok .none) (rqH w (oA i t))) (a:=0) (k:=15)
  ⟨fun hl _=>rY rfl rfl rfl (fY h hl),
   fun hl _=>yP rfl rfl (fY h hl),
   fun hl _=>yQ rfl rfl (b:=true) rfl rfl (fY h hl),
   fun hl _=>HD rfl rfl rfl rfl (fY h hl),
   fun hl _=>yP rfl rfl (fY h hl),
   fun hl _=>yQ rfl rfl (b:=false) rfl rfl (fY h hl),
   fun hl _=>yQ rfl rfl (b:=false) rfl rfl (fY h hl),
   fun hl _=>HD rfl rfl rfl rfl (fY h hl),
   fun _ hi=>ff hi,
   fun hl _=>rY rfl rfl rfl (fY h hl),
   fun hl _=>yP rfl rfl (fY h hl),
   fun hl _=>rY rfl rfl rfl (fY h hl),
   fun hl _=>rY rfl rfl rfl (fY h hl),
   fun hl _=>yQ rfl rfl (b:=false) rfl rfl (fY h hl),
   fun _ hi=>ff hi,trivial⟩ (Nat.zero_le _) (aX (an hi).1) (aX (an hi).1) hi
theorem yR {t:Rq}{w:List Nat}{s:Nat}(hs:s=1∨s=2):ez [.ref 0,S (nm 8),S (shW s)] (rqH w t) (.ok .none) (rqH w { t with sh:=s }):=by
 rcases hs with rfl | rfl
 ·exact goH [] rfl
 ·exact goH [] rfl
theorem uE {t:Rq}{w:List Nat}:ez [.ref 0,S (nm 14),S w] (rqH w t) (.ok .none) (rqH w { t with st:=true }):=by exact goH [] rfl
noncomputable def iU:V:=.tup (oN.map S)
noncomputable def J0 (w:List Nat):Option Res→Bool
 | some (.ok (.str ⟨⟨v⟩⟩))=>v==w
 | _=>false
theorem Dm {w:List Nat}{r:Option Res}(h:J0 w r=true):r=some (.ok (S w)):=by
 unfold J0 at h
 split at h
 ·rw [eq_of_beq h]
 ·exact ff h
theorem OC:((List.range 15).all fun i=>J0 (nm i) (zN false xY tM [S [111,112,116,105,111,110],S (gr false (nm i)),iU])&&J0 (nm i) (zN false xY tM [S [111,112,116,105,111,110],S (gr true (nm i)),iU]))=true:=by kernel_rfl
theorem qd (b:Bool) {i:Nat}(hi:i<15):xZ [S [111,112,116,105,111,110],S (gr b (nm i)),iU] (.ok (S (nm i))):=by
 have k:=an (List.all_eq_true.mp OC i (List.mem_range.mpr hi))
 cases b with
 | false=>exact gR (Dm k.1)
 | true=>exact gR (Dm k.2)
end
section
noncomputable def jS:V:=.dS [nmk 8,nmk 14] [S [34,45,105,110,100,101,120,34,32,111,112,116,105,111,110,32,109,117,115,116,32,98,101,32,102,111,108,108,111,119,101,100,32,98,121,32,108,105,115,116,32,105,110,100,101,120],S [109,105,115,115,105,110,103,32,115,116,97,114,116,105,110,103,32,105,110,100,101,120]]
theorem Mt:((List.range 15).all fun i=>!lu i||!([nmk 8,nmk 14].contains (nmk i)))=true:=by kernel_rfl
noncomputable def qe (t:Rq):Og→Rq
 | .one i=>oA i t
 | .two i j=>oA j (oA i t)
 | .idx s=>{ t with sh:=s }
 | .st=>{ t with st:=true }
noncomputable def Og.ok (b:Bool) (w:List Nat):Og→Prop
 | .one i=>lu i=true
 | .two i j=>lu i=true∧lu j=true
 | .idx s=>(s=1∨s=2)∧gr b (shW s)=shW s
 | .st=>gr b w=w
section
variable {t t':Rq}{w x:List Nat}{ws:List (List Nat)}{stop k i:Nat}{b:Bool}{z:Option V}{m':LV}{G':AH}
noncomputable abbrev roW:=wR ie 7 (at_ cZ.body 2)
noncomputable abbrev roM (ws:List (List Nat)) (stop k:Nat) (z:Option V):LV:=[some (.lst (ws.map S)),some (.int stop),some iU,some jS,some (.ref 0),some (.int k),z]
theorem HE (G:AH) (h:ws[k]? = some x):aF G (.lst (ws.map S)) (.int k)=some (S x):=bS G (by rw [List.getElem?_map,h]; rfl)
theorem dY {α:Type}{t r:List α}{k:Nat}{c:α}(h:t.drop k=c::r):t[k]? = some c∧k<t.length∧t.drop (k+1)=r:=by
 have e:t[k]? = some c:=by have:=congrArg List.head? h; rw [List.head?_drop] at this; exact this
 exact ⟨e,bc e,by rw [← List.drop_drop,h]; rfl⟩
theorem yS (hi:lu i=true) (hw:ws[k]? = some (gr b (nm i))) (hk:k<stop) (ht:Rok t) (ih:Wh roW (roM ws stop (k+1) (some (S (nm i)))) (rqH w (oA i t)) .next m' G'):Wh roW (roM ws stop k z) (rqH w t) .next m' G':=by
 have hl:i<15:=aX (an hi).1
 have it:=HE (rqH w t) hw
 have hp:=qd b hl
 have vf:=yM (G:=rqH w t) (k:=nmk i) (vs:=[S [34,45,105,110,100,101,120,34,32,111,112,116,105,111,110,32,109,117,115,116,32,98,101,32,102,111,108,108,111,119,101,100,32,98,121,32,108,105,115,116,32,105,110,100,101,120],S [109,105,115,115,105,110,103,32,115,116,97,114,116,105,110,103,32,105,110,100,101,120]]) (bN (q9 (List.all_eq_true.mp Mt i (List.mem_range.mpr hl)) (by rw [hi]; rfl)))
 have pf:=vh (w:=w) ht hi
 exact wI ih [xC 4 (ltT hk),xV 2 it,xP 1 hp,xB 2 vf,xR 4 pf]
theorem HF (hi:i=8∨i=14) (hw:ws[k]? = some (gr b (nm i))) (hx:ws[k+1]? = some x) (hk:k+1<stop) (hp:ez [.ref 0,S (nm i),S x] (rqH w t) (.ok .none) (rqH w t')) (ih:Wh roW (roM ws stop (k+2) (some (S (nm i)))) (rqH w t') .next m' G'):Wh roW (roM ws stop k z) (rqH w t) .next m' G':=by
 have it:=HE (rqH w t) hw
 have it2:=HE (rqH w t) hx
 rcases hi with rfl | rfl
 ·have pk:=qd b (i:=8) (by decide)
  exact wI ih [xC 4 (ltT (Nat.lt_of_succ_lt hk)),xV 2 it,xP 1 pk,xC 10 (leF hk),xV 5 it2,xR 0 hp]
 ·have pk:=qd b (i:=14) (by decide)
  exact wI ih [xC 4 (ltT (Nat.lt_of_succ_lt hk)),xV 2 it,xP 1 pk,xC 10 (leF hk),xV 5 it2,xR 0 hp]
theorem yT (h:Rok t) (hl:t.fl.length+1≤100) (hi:lu i=true):Rok (oA i t)∧(oA i t).fl.length≤t.fl.length+1:=by
 have e:(oA i t).fl=if t.fl.contains i=true then t.fl else t.fl++[i]:=rfl
 refine ⟨⟨?_,?_⟩,?_⟩
 ·rw [e]; split
  ·exact h.n
  ·rw [List.length_append]; exact hl
 ·rw [e]; split
  ·exact h.l
  ·exact fun j hj=>(List.mem_append.mp hj).elim (h.l j) fun e=>List.mem_singleton.mp e ▸ aX (an hi).1
 ·rw [e]; split
  ·exact Nat.le_succ _
  ·rw [List.length_append]; exact Nat.le_refl _
theorem oC:∀ (L:List Og) (tl:List (List Nat)) (k:Nat) (t:Rq) (z:Option V),(∀ g∈L,g.ok b w)→ws.drop k=((L.map (Og.ws w)).flatten).map (gr b)++tl→stop=k+(L.map (Og.ws w)).flatten.length→t.fl.length+2*L.length≤100→Rok t →
  ∃ y,Wh roW (roM ws stop k z) (rqH w t) .next (roM ws stop stop y) (rqH w (L.foldl qe t))
 | [],tl,k,t,z,hg,hd,hs,hl,ht=>by
  obtain rfl:stop=k:=hs
  refine ⟨z,?_⟩
  exact wE [xC 4 (ltF (Nat.le_refl stop))]
 | g::L,tl,k,t,z,hg,hd,hs,hl,ht=>by
  have hgs:=fun g hg'=>hg g (List.mem_cons_of_mem _ hg')
  have ok:=hg g (.head _)
  rw [List.length_cons,Nat.mul_succ,Nat.add_comm (2*L.length),← Nat.add_assoc] at hl
  rw [List.map_cons,List.flatten_cons,List.map_append,List.append_assoc] at hd
  rw [List.map_cons,List.flatten_cons,List.length_append,← Nat.add_assoc] at hs
  have kn:∀ n,stop=k+(n+1)+((L.map (Og.ws w)).flatten).length→k<stop:=fun n e=>by rw [e]; exact Nat.lt_of_lt_of_le (Nat.lt_add_of_pos_right (Nat.succ_pos n)) (Nat.le_add_right ..)
  have kn2:stop=k+2+((L.map (Og.ws w)).flatten).length→k+1<stop:=fun e=>by rw [e]; exact Nat.lt_of_lt_of_le (Nat.lt_succ_self _) (Nat.le_add_right ..)
  cases g with
  | one i =>
   refine bW (dY hd) fun h1 h2 h3=>?_
   have p1:=yT ht (Nat.le_trans (Nat.le_succ _) (Nat.le_trans (Nat.le_add_right ..) hl)) ok
   refine aj (oC L tl (k+1) (oA i t) (some (S (nm i))) hgs h3 hs (Nat.le_trans (Nat.add_le_add_right (Nat.le_trans p1.2 (Nat.le_succ _)) _) hl) p1.1) fun y ih=>⟨y,yS ok h1 (kn 0 hs) ht ih⟩
  | two i j =>
   refine bW (dY hd) fun h1 h2 h3=>bW (dY h3) fun g1 g2 g3=>?_
   have q1:=yT ht (Nat.le_trans (Nat.le_succ _) (Nat.le_trans (Nat.le_add_right ..) hl)) ok.1
   have q2:=yT q1.1 (Nat.le_trans (Nat.add_le_add_right q1.2 1) (Nat.le_trans (Nat.le_add_right ..) hl)) ok.2
   refine aj (oC L tl (k+2) (oA j (oA i t)) (some (S (nm j))) hgs g3 hs (Nat.le_trans (Nat.add_le_add_right (Nat.le_trans q2.2 (Nat.add_le_add_right q1.2 1)) _) hl) q2.1) fun y ih=>⟨y,yS ok.1 h1 (kn 1 hs) ht (yS ok.2 g1 (kn2 hs) q1.1 ih)⟩
  | idx s =>
   refine bW (dY hd) fun h1 h2 h3=>bW (dY h3) fun g1 g2 g3=>?_
   rw [ok.2] at g1
   refine aj (oC L tl (k+2) { t with sh:=s } (some (S (nm 8))) hgs g3 hs (Nat.le_trans (Nat.add_le_add_right (Nat.le_add_right _ 2) _) hl) ⟨ht.n,ht.l⟩) fun y ih=>⟨y,HF (.inl rfl) h1 g1 (kn2 hs) (yR ok.1) ih⟩
  | st =>
   refine bW (dY hd) fun h1 h2 h3=>bW (dY h3) fun g1 g2 g3=>?_
   rw [show gr b w=w from ok] at g1
   refine aj (oC L tl (k+2) { t with st:=true } (some (S (nm 14))) hgs g3 hs (Nat.le_trans (Nat.add_le_add_right (Nat.le_add_right _ 2) _) hl) ⟨ht.n,ht.l⟩) fun y ih=>⟨y,HF (.inr rfl) h1 g1 (kn2 hs) uE ih⟩
noncomputable def rq0:Rq:=⟨0,0,false,0,false,[]⟩
noncomputable def rqO (w:List Nat) (t:Rq):To:=⟨t.mode,t.how,t.dec,t.sh,stV w t.st,t.fl.map nmk,flV t.fl⟩
theorem OD {t:Rq}:(rqO w t).v.pu=true:=by
 have e:(stV w t.st).pu=true:=by unfold stV; split <;> rfl
 have e2:V.puL (flV t.fl)=true:=a8 (fun _=>rfl) t.fl
 rw [To.v,V.pu,V.puL,V.puL,V.puL,V.puL,V.puL,on,V.puL,V.puL,rqO,e,V.puL,V.pu,e2]; rfl
theorem oD {L:List Og}{w0 a p:List Nat}(hg:∀ g∈L,g.ok b w) (hL:L.length≤20) (ew:ws=w0::(((L.map (Og.ws w)).flatten).map (gr b)++[a,p])) :
  bQ [.lst (ws.map S),.int (1+(L.map (Og.ws w)).flatten.length:Nat),iU,jS] (.ok (rqO w (L.foldl qe rq0)).v):=by
 refine aj (oC (ws:=ws) (stop:=1+(L.map (Og.ws w)).flatten.length) L [a,p] 1 rq0 none hg (by rw [ew]; rfl) rfl (Nat.le_trans (Nat.add_le_add_left (Nat.mul_le_mul_left 2 hL) _) (by decide)) ⟨by decide,nofun⟩) fun y ih=>?_
 have pv:=a8 (f:=S) (fun _=>rfl) ws
 have pp:(V.puL [.lst (ws.map S),.int (1+(L.map (Og.ws w)).flatten.length:Nat),iU,jS]&&bo cZ [.lst (ws.map S),.int (1+(L.map (Og.ws w)).flatten.length:Nat),iU,jS])=true:=by rw [V.puL,V.pu,pv]; rfl
 have pr:=OD (w:=w) (t:=L.foldl qe rq0)
 generalize L.foldl qe rq0=T at *
 generalize 1+(L.map (Og.ws w)).flatten.length=stop at *
 obtain ⟨m,h,d,s,st,fl⟩:=T
 cases st with
 | true=>exact goP [xS 2 ih] pp pr
 | false=>exact goP [xS 2 ih] pp pr
end
end
section
noncomputable def dZ:List (List Nat):=[[48],[49],[50],[101,110,100],[101,110,100,45,49],[45,50],[55],[101,110,100,45,57],[49,121]]
noncomputable def AQ (how mode sh:Nat) (f:Int) (st:List Nat):List Og:=if bit f 64=true then (eC how mode sh f st).reverse else eC how mode sh f st
noncomputable def OE (how mode sh:Nat) (a b c d e g h s:Bool):List Og :=
 let O:=((((o1 how g++o2 mode g)++(gv a [.one 0]++(gv b [.one 12]++(gv c [.one 9]++gv d [.one 11]))))++o4 e g)++o5 sh)++gv s [.st]
 if h=true then O.reverse else O
theorem Mu {how mode sh:Nat}{f:Int}{st:List Nat}:AQ how mode sh f st=OE how mode sh (bit f 1) (bit f 2) (bit f 4) (bit f 8) (bit f 16) (bit f 32) (bit f 64) (!st.isEmpty):=by cases st <;> rfl
noncomputable def jT (p:Bool→Bool):Bool:=p true&&p false
theorem eE {p:Bool→Bool}(h:jT p=true):∀ b,p b=true
 | true=>(an h).1
 | false=>(an h).2
noncomputable def Qu (how mode sh:Nat) (a b c d e s:Bool) (T:Rq):Bool :=
 Nat.beq T.mode mode&&(Nat.beq T.how (bif Nat.beq how 3 then 2 else how)&&(T.dec==e&&(Nat.beq T.sh sh&&(T.st==s&&(T.fl.all (fun j=>Nat.blt j 15)&&(T.fl.contains 0==a&&(T.fl.contains 12==b&&(T.fl.contains 9==c&&(T.fl.contains 11==d&&T.fl.contains 2==(how==3))))))))))
noncomputable def OF:Og→Bool
 | .one i=>lu i
 | .two i j=>lu i&&lu j
 | .idx s=>Nat.beq s 1||Nat.beq s 2
 | .st=>true
noncomputable def KE (O:List Og) (how mode sh:Nat) (a b c d e s:Bool):Bool:=O.all OF&&Qu how mode sh a b c d e s (O.foldl qe rq0)
theorem HG:((List.range 4).all fun how=>(List.range 3).all fun mode=>(List.range 3).all fun sh=>jT fun a=>jT fun b=>jT fun c=>jT fun d=>jT fun e=>jT fun g=>jT fun h=>jT fun s=>KE (OE how mode sh a b c d e g h s) how mode sh a b c d e s)=true:=by kernel_rfl
theorem EJ {a b:Nat}(h:Nat.beq a b=true):a=b:=Nat.eq_of_beq_eq_true h
theorem eqB {a b:Bool}(h:(a==b)=true):a=b:=eq_of_beq h
section
variable {how mode sh:Nat}{f:Int}{st:List Nat}{o:To}{ws:List (List Nat)}{stop:Nat}
noncomputable def toR (how mode sh:Nat) (f:Int) (st:List Nat) (fl:List Nat):To:=⟨mode,how,bit f 16,sh,stV st (!st.isEmpty),fl.map nmk,flV fl⟩
noncomputable def OG (how mode sh:Nat) (f:Int) (st:List Nat):Rq:=(AQ how mode sh f st).foldl qe rq0
noncomputable def EK (how mode sh:Nat) (f:Int) (st:List Nat):To:=toR how mode sh f st (OG how mode sh f st).fl
theorem HH (hh:how<4) (hm:mode<3) (hs:sh<3):KE (AQ how mode sh f st) how mode sh (bit f 1) (bit f 2) (bit f 4) (bit f 8) (bit f 16) (!st.isEmpty)=true:=by
 have k:=List.all_eq_true.mp (List.all_eq_true.mp (List.all_eq_true.mp HG how (List.mem_range.mpr hh)) mode (List.mem_range.mpr hm)) sh (List.mem_range.mpr hs)
 rw [Mu]
 exact eE (eE (eE (eE (eE (eE (eE (eE k _) _) _) _) _) _) _) _
theorem Mv (how:Nat):fX (bif Nat.beq how 3 then 2 else how)=fX how:=by
 cases e:Nat.beq how 3 with
 | false=>rfl
 | true=>rw [EJ e]; rfl
theorem Mw {b:Bool}:(stV st b).pu=true:=by cases b <;> rfl
theorem an2 {a b:Bool}{P:Prop}(q:(a&&b)=true) (p:a=true→b=true→P):P:=p (an q).1 (an q).2
theorem OH {a b c d e f g h i j k:Bool}{P:Prop}(q:(a&&(b&&(c&&(d&&(e&&(f&&(g&&(h&&(i&&(j&&k))))))))))=true) (p:a=true→b=true→c=true→d=true→e=true→f=true→g=true→h=true→i=true→j=true→k=true→P):P :=
 an2 q fun a q=>an2 q fun b q=>an2 q fun c q=>an2 q fun d q=>an2 q fun e q=>an2 q fun f q=>an2 q fun g q=>an2 q fun h q=>an2 q fun i q=>an2 q fun j k=>p a b c d e f g h i j k
theorem Mx {T:Rq}(e1:T.mode=mode) (e2:T.how=bif Nat.beq how 3 then 2 else how) (e3:T.dec=bit f 16) (e4:T.sh=sh) (e5:T.st=!st.isEmpty):(rqO st T).v=(toR how mode sh f st T.fl).v:=by
 show V.inst ak lW [S (ft T.mode),S (fX T.how),.bool T.dec,S [],io T.sh,.int 1,stV st T.st,_]=V.inst ak lW [S (ft mode),S (fX how),.bool (bit f 16),S [],io sh,.int 1,stV st (!st.isEmpty),_]
 rw [e1,e2,e3,e4,e5,Mv]; rfl
theorem My {fl:List Nat}(hl:∀ j∈fl,j<15) (k7:(fl.contains 0==bit f 1)=true) (k8:(fl.contains 12==bit f 2)=true) (k9:(fl.contains 9==bit f 4)=true) (ka:(fl.contains 11==bit f 8)=true) (kb:(fl.contains 2==(how==3))=true):Flg (toR how mode sh f st fl) how f :=
 ⟨⟨Mw,a8 (fun _=>rfl) fl⟩,(qc (i:=0) hl (by decide)).trans (eqB k7),(qc (i:=12) hl (by decide)).trans (eqB k8),(qc (i:=9) hl (by decide)).trans (eqB k9),(qc (i:=11) hl (by decide)).trans (eqB ka),(qc (i:=2) hl (by decide)).trans (eqB kb),rfl,rfl⟩
theorem Dn (hh:how<4) (hm:mode<3) (hs:sh<3):(rqO st (OG how mode sh f st)).v=(EK how mode sh f st).v∧Flg (EK how mode sh f st) how f :=
 OH (an (HH (f:=f) (st:=st) hh hm hs)).2 fun k1 k2 k3 k4 k5 k6 k7 k8 k9 ka kb=>⟨Mx (EJ k1) (EJ k2) (eqB k3) (EJ k4) (eqB k5),My (fun j hj=>aX (List.all_eq_true.mp k6 j hj)) k7 k8 k9 ka kb⟩
theorem HI:(dZ++[[48],[101,110,100],[]]).all (fun w=>gr true w==w)=true:=by kernel_rfl
theorem AR {b:Bool}{w:List Nat}(h:w∈dZ++[[48],[101,110,100],[]]):gr b w=w:=by
 cases b with
 | false=>rfl
 | true=>exact eq_of_beq (List.all_eq_true.mp HI w h)
theorem OI {b:Bool}{g:Og}(h:OF g=true) (hw:st∈dZ++[[48],[101,110,100],[]]):g.ok b st:=by
 cases g with
 | one i=>exact h
 | two i j=>exact an h
 | idx s =>
  have e:s=1∨s=2:=(Bool.or_eq_true _ _ ▸ h:_∨_).imp EJ EJ
  refine ⟨e,AR ?_⟩
  rcases e with rfl | rfl
  ·exact List.mem_append_right _ (.head _)
  ·exact List.mem_append_right _ (.tail _ (.head _))
 | st=>exact AR hw
theorem AS:(AQ how mode sh f st).length≤20:=by
 unfold AQ
 cases bit f 64 with
 | true=>exact Nat.le_trans (Nat.le_of_eq List.length_reverse) (Nat.le_trans AP (by decide))
 | false=>exact Nat.le_trans AP (by decide)
theorem EL (hh:how<4) (hm:mode<3) (hs:sh<3) (hw:st∈dZ++[[48],[101,110,100],[]]) {w0 a p:List Nat} :
  bQ [.lst ((w0::(dW how mode sh f st++[a,p])).map S),.int (1+(dW how mode sh f st).length:Nat),iU,jS] (.ok (EK how mode sh f st).v):=by
 have g:∀ g∈AQ how mode sh f st,g.ok (bit f 32) st:=fun g hg=>OI (List.all_eq_true.mp (an (HH hh hm hs)).1 g hg) hw
 have r:=oD (w0:=w0) (a:=a) (p:=p) g AS rfl
 have e:(dW how mode sh f st).length=((AQ how mode sh f st).map (Og.ws st)).flatten.length:=List.length_map ..
 rw [e]
 exact (Dn (f:=f) (st:=st) hh hm hs).1 ▸ r
theorem J1 (hl:ws.length=stop+2) (pv:o.v.pu=true) (hr:bQ [.lst (ws.map S),.int stop,iU,jS] (.ok o.v)) (hb:(o.fl.contains Hq&&(o.fl.contains EG||o.fl.contains Cf))=false):bq [.lst (ws.map S)] (.ok o.v):=by
 have pp:=a8 (f:=S) (fun _=>rfl) ws
 have pp:(V.puL [.lst (ws.map S)]&&bo cn [.lst (ws.map S)])=true:=by rw [V.puL,V.pu,pp]; rfl
 have sb:cC .Sub (.int ((ws.map S).length:Nat)) (.int 2)=some (.int stop):=by
  rw [List.length_map,hl]
  exact congrArg (fun i=>some (V.int i)) (by rw [Int.natCast_add]; exact Int.add_sub_cancel ..)
 cases q1:o.fl.contains Hq with
 | false =>
  exact goP [xV 3 sb,xP 2 hr,xC 4 q1,xC 1 q1] pp pv
 | true =>
  rw [q1] at hb
  refine ar (Bool.or_eq_false_iff.mp hb) fun q2 q3=>?_
  exact goP [xV 3 sb,xP 2 hr,xC 4 q1,xC 4 q2,xC 4 q3] pp pv
noncomputable def uF:List Nat:=[45,98,105,115,101,99,116,32,105,115,32,110,111,116,32,99,111,109,112,97,116,105,98,108,101,32,119,105,116,104,32,45,97,108,108,32,111,114,32,45,110,111,116]
noncomputable def oE:V:=.tup ([[84,67,76],[79,80,69,82,65,84,73,79,78],[76,83,69,65,82,67,72],[66,65,68,95,79,80,84,73,79,78,95,77,73,88]].map S)
theorem Mz (hl:ws.length=stop+2) (hr:bQ [.lst (ws.map S),.int stop,iU,jS] (.ok o.v)) (hb:(o.fl.contains Hq&&(o.fl.contains EG||o.fl.contains Cf))=true):bq [.lst (ws.map S)] (.ex At (Au uF oE)):=by
 have pp:=a8 (f:=S) (fun _=>rfl) ws
 have pp:(V.puL [.lst (ws.map S)]&&bo cn [.lst (ws.map S)])=true:=by rw [V.puL,V.pu,pp]; rfl
 have sb:cC .Sub (.int ((ws.map S).length:Nat)) (.int 2)=some (.int stop):=by
  rw [List.length_map,hl]
  exact congrArg (fun i=>some (V.int i)) (by rw [Int.natCast_add]; exact Int.add_sub_cancel ..)
 refine ar (an hb) fun q1 hb=>?_
 cases q2:o.fl.contains EG with
 | true =>
  exact goP [xV 3 sb,xP 2 hr,xC 4 q1,xC 4 q2,xC 1 q2] pp rfl
 | false =>
  rw [q2] at hb
  exact goP [xV 3 sb,xP 2 hr,xC 4 q1,xC 4 q2,xC 4 hb] pp rfl
end
end
section
noncomputable def uG:List (List Nat):=[[],[],[]]++dZ
noncomputable def bI (which:Nat):List Nat:=uG.getD which []
noncomputable def qg (last:Int):List (Option Int):=[some 0,some 0,some 0,some 0,some 1,some 2,some last,some (last - 1),some (-2),some 7,some (last - 9),none]
noncomputable def lx (which:Nat) (last:Int):Option Int:=(qg last).getD which none
section
variable {which:Nat}{last:Int}{w:List Nat}
theorem Do {α:Type}{l:List α}{k:Nat}{d:α}(g:α→V) (h:k<l.length):(l.map g)[k]? = some (g (l.getD k d)):=by
 rw [List.getElem?_map,List.getD_eq_getElem?_getD,List.getElem?_eq_getElem h]; rfl
theorem ly (h:which<12):cu [.int which,.int last] (.ok (.tup [S (bI which),mE (lx which last)])):=by
 have i1:=bS [] (Do (d:=[]) S (show which<uG.length from h))
 have i2:=bS [] (Do (d:=none) mE (show which<(qg last).length from h))
 have pu:=GT (lx which last)
 show cu _ (.ok (.tup [S (uG.getD which []),mE ((qg last).getD which none)]))
 have pu:(V.tup [S (uG.getD which []),mE ((qg last).getD which none)]).pu=true:=by rw [V.pu,V.puL,V.puL,show ((qg last).getD which none)=lx which last from rfl,pu]; rfl
 generalize uG.getD which []=a at *
 generalize (qg last).getD which none=b at *
 exact goP [xV 2 i1,xV 7 i2] rfl pu
theorem uH (h3:3≤which) (h:which<11):∃ i,lx which last=some i∧bO [S (bI which),.int last] (.ok (.int i)) :=
 wQ (P:=fun which=>∃ i,lx which last=some i∧bO [S (bI which),.int last] (.ok (.int i))) (a:=3) (k:=8)
  ⟨⟨_,rfl,gR (by kernel_rfl)⟩,⟨_,rfl,gR (by kernel_rfl)⟩,⟨_,rfl,gR (by kernel_rfl)⟩,⟨_,rfl,gR (by kernel_rfl)⟩,⟨_,rfl,gR (by kernel_rfl)⟩,⟨_,rfl,gR (by kernel_rfl)⟩,⟨_,rfl,gR (by kernel_rfl)⟩,⟨_,rfl,gR (by kernel_rfl)⟩,trivial⟩ h3 h
noncomputable def mP:List Nat:=[98,97,100,32,105,110,100,101,120,32,34]++[49,121]++[34,58,32,109,117,115,116,32,98,101,32,105,110,116,101,103,101,114,63,91,43,45,93,105,110,116,101,103,101,114,63,32,111,114,32,101,110,100,63,91,43,45,93,105,110,116,101,103,101,114,63]
noncomputable def jU:V:=.tup ([[84,67,76],[86,65,76,85,69],[73,78,68,69,88]].map S)
theorem EM:bO [S [49,121],.int last] (.ex At (Au mP jU)):=gR
theorem wK (h:which<3):bI which=[]:=by
 match which,h with
 | 0,_=>rfl
 | 1,_=>rfl
 | 2,_=>rfl
theorem HJ (h:which<12):bI which∈dZ++[[48],[101,110,100],[]]:=by
 have k:(List.range 12).all (fun w=>(dZ++[[48],[101,110,100],[]]).contains (bI w))=true:=by kernel_rfl
 exact List.contains_iff_mem.mp (List.all_eq_true.mp k which (List.mem_range.mpr h))
theorem uI (h3:3≤which) (h:which<12):(bI which).isEmpty=false:=by
 have k:(List.range 12).all (fun w=>!Nat.ble 3 w||!(bI w).isEmpty)=true:=by kernel_rfl
 exact bN (q9 (List.all_eq_true.mp k which (List.mem_range.mpr h)) (by rw [eH h3]; rfl))
noncomputable def dig (k:Nat):List Nat:=(Str.ofString (toString (k:Int))).cps.toList
theorem OJ:((List.range 20).all fun k=>(Nat.ble ((k:Int).natAbs.log2+1) 1920&&Nat.ble (Str.ofString (toString (k:Int))).length big)&&(yw (dig k)&&Nat.ble (dig k).length 2))=true:=by kernel_rfl
theorem AT {G:AH}{k:Nat}(h:k<20):nu G ⟨⟨[115,116,114]⟩⟩ [.int k]=some (S (dig k)):=by
 have q:Nk G [.int k]=_:=fu (an (List.all_eq_true.mp OJ k (List.mem_range.mpr h))).1
 exact congrArg (fun c=>Cv.v (blI G ⟨⟨[115,116,114]⟩⟩ [.int k] ⟨⟨[115,116,114]⟩⟩ c (by decide +kernel) none)) q
theorem MA {k:Nat}(h:k<20):fV (dig k)∧(dig k).length≤100:=ar (an (an (List.all_eq_true.mp OJ k (List.mem_range.mpr h))).2) fun a b=>⟨wo a,Nat.le_trans (aX b) (by decide)⟩
theorem EN {vs:List V}{a p:V}:aF [] (.lst (vs++[a,p])) (.int (-2))=some a:=congrArg Cv.v (cB (o:=cS (vs++[a,p]) (-2)) (by
 have e:(vs++[a,p]).length=vs.length+2:=List.length_append
 refine (fu (eH (by rw [e]; exact Nat.le_add_left 2 _))).trans ?_
 rw [e]
 exact List.getElem?_concat_length (l:=vs) (a:=a) ▸ by rw [show vs++[a,p]=(vs++[a])++[p] by rw [List.append_assoc]; rfl]; exact List.getElem?_append_left (by rw [List.length_append]; exact Nat.lt_succ_self _)))
theorem EO {vs:List V}{a p:V}:aF [] (.lst (vs++[a,p])) (.int (-1))=some p:=Em (by rw [show vs++[a,p]=(vs++[a])++[p] by rw [List.append_assoc]; rfl]; exact List.getLast?_concat)
noncomputable def oF (inl:Bool) (gs:List (List Wo)) (P:List Nat):List (List Nat):=P.map fun k=>if inl=true then bl (gs.getD k []) else dig k
noncomputable def EQ (all inl:Bool) (gs:List (List Wo)) (P:List Nat):List Nat :=
 if all=true then cf [32] ((oF inl gs P).map enc) else (oF inl gs P).headD (if inl=true then [] else [45,49])
theorem Dp {mode sh:Nat}{inl:Bool}{gs:List (List Wo)}{P:List Nat}(hg:∀ g∈gs,Grp mode sh g) (hn:gs.length≤20) (hP:∀ k∈P,k<gs.length):∀ w∈oF inl gs P,fV w∧w.length≤100:=by
 intro w hw
 refine ae (List.mem_map.mp hw) fun k hk e=>?_
 subst e
 have hk:=hP k hk
 cases inl with
 | false=>exact MA (Nat.lt_of_lt_of_le hk hn)
 | true =>
  show fV (bl (gs.getD k []))∧_
  rw [List.getD_eq_getElem?_getD,List.getElem?_eq_getElem hk]
  exact (hg _ (List.getElem_mem hk)).plain
end
end
section
section
variable {α:Type}{L:α→Prop}{mode sh:Nat}{gs:List (List Wo)}{all inl:Bool}{WS ov sv:V}{w x8 x9 x10 X9:Option V}{k:Nat}{o:List (List Nat)}{m':LV}{G':AH}{xs:List V}{P:List Nat}{c:Fl→LV→AH→Tr α}
noncomputable abbrev lM (WS ov:V) (all inl:Bool) (gs:List (List Wo)) (sv:V) (w x8 x9 x10:Option V):LV:=[some .none,some WS,some ov,some (.bool all),some (.bool inl),some (aq gs),some sv,w,x8,x9,x10]
noncomputable abbrev lB (i:Nat) (m:LV) (G:AH) (c:Fl→LV→AH→Tr α):Tr α:=evB (evS 8 du) (bL.body.drop i) m G c
noncomputable abbrev laF:=fR du 7 (at_ bL.body 9)
theorem HK (hk:k<gs.length) (hn:gs.length≤20) (ho:o.length≤1000) (ih:laF xs (lM WS ov all inl gs sv w (some (.int k)) X9 (some (.ref 0))) [.list ((o++[if inl=true then bl (gs.getD k []) else dig k]).map S)] .next m' G') :
  laF (.int k::xs) (lM WS ov all inl gs sv w x8 X9 (some (.ref 0))) [.list (o.map S)] .next m' G':=by
 have ln:(o.map S).length+1≤big:=by rw [List.length_map]; exact Nat.le_trans (Nat.succ_le_succ ho) (by decide)
 rw [List.map_append] at ih
 cases inl with
 | true =>
  have it:aF [.list (o.map S)] (aq gs) (.int k)=some (S (bl (gs.getD k []))):=jk _ (by rw [List.getD_eq_getElem?_getD,List.getElem?_eq_getElem hk]; rfl)
  have pa:=bf (G:=[.list (o.map S)]) (i:=0) (v:=S (bl (gs.getD k []))) rfl ln
  exact fI ih [xV 6 it,xH 0 pa]
 | false =>
  have st:nu [.list (o.map S)] ⟨⟨[115,116,114]⟩⟩ [.int k]=some (S (dig k)):=AT (Nat.lt_of_lt_of_le hk hn)
  have pa:=bf (G:=[.list (o.map S)]) (i:=0) (v:=S (dig k)) rfl ln
  exact fI ih [xV 5 st,xH 0 pa]
theorem Dq (hn:gs.length≤20):∀ (P:List Nat) (o:List (List Nat)) (x8:Option V),(∀ k∈P,k<gs.length)→o.length+P.length≤1000 →
  ∃ y8,laF (P.map fun k=>.int (k:Nat)) (lM WS ov all inl gs sv w x8 X9 (some (.ref 0))) [.list (o.map S)] .next (lM WS ov all inl gs sv w y8 X9 (some (.ref 0))) [.list ((o++oF inl gs P).map S)]
 | [],o,x8,h,hO=>⟨x8,by rw [show oF inl gs []=[] from rfl,List.append_nil]; exact fN⟩
 | k::P,o,x8,h,hO=>by
  have hO:o.length+(P.length+1)≤1000:=hO
  refine uV (Dq hn P (o++[if inl=true then bl (gs.getD k []) else dig k]) (some (.int k)) (fun k hk=>h k (.tail _ hk)) (by rw [List.length_append,Nat.add_assoc]; show o.length+(1+P.length)≤1000; rw [Nat.add_comm 1]; exact hO)) fun y8 ih=>?_
  rw [List.append_assoc] at ih
  exact HK (h k (.head _)) hn (Nat.le_trans (Nat.le_add_right ..) hO) ih
theorem Ds (hg:∀ g∈gs,Grp mode sh g) (hn:gs.length≤20) (hP:∀ k∈P,k<gs.length) (hl:P.length≤20) :
  (lB 8 (lM WS ov all inl gs sv w x8 (some (be P)) none) [] fun f _ G=>.ok (f,G)).tt (fF false (.ok (S (EQ all inl gs P)))):=by
 have hok:=Dp (inl:=inl) hg hn hP
 have hol:(oF inl gs P).length=P.length:=List.length_map ..
 have hj:=uf (ws:=oF inl gs P) (fun w hw=>⟨(hok w hw).1,Nat.le_trans (hok w hw).2 (by decide)⟩) (by rw [hol]; exact Nat.le_trans hl (by decide)) (Nat.le_trans (pV fun w hw=>(hok w hw).2) (by rw [hol]; exact Nat.le_trans (Nat.mul_le_mul_right _ hl) (by decide)))
 have hN:(P.map fun k=>V.int (k:Nat)).length≤big:=by rw [List.length_map]; exact Nat.le_trans hl (by decide)
 refine aj (Dq (all:=all) (inl:=inl) (WS:=WS) (ov:=ov) (sv:=sv) (w:=w) (X9:=some (be P)) hn P [] x8 hP (by rw [List.length_nil,Nat.zero_add]; exact Nat.le_trans hl (by decide))) fun y8 h=>?_
 rw [List.nil_append] at h
 clear hok hol
 unfold EQ
 generalize oF inl gs P=O at *
 cases all with
 | true=>exact goT (rfl:Res.ok (S (cf [32] (O.map enc)))=.ok (S (cf [32] (O.map enc)))) [xS 2 h,xP 5 hj]
 | false =>
  cases O with
  | nil=>cases inl with
   | true=>exact goT (rfl:Res.ok (S [])=.ok (S [])) [xS 2 h]
   | false=>exact goT (rfl:Res.ok (S [45,49])=.ok (S [45,49])) [xS 2 h]
  | cons a O =>
   have lt:decide ((0:Int)<(((a::O).map S).length:Nat))=true:=decide_eq_true (Int.natCast_pos.mpr (Nat.succ_pos _))
   show (lB 8 _ [] _).tt (fF false (.ok (S a)))
   exact goT (rfl:Res.ok (S a)=.ok (S a)) [xS 2 h,xC 7 lt]
end
end
section
section
variable {α:Type}{L:α→Prop}{gs:List (List Wo)}{b1 b2 b4:Bool}{WS sv wv:V}{o:To}{i pl:Int}{start:Nat}{w:List Nat}{Q:V}{ks:List Str}{us:List V}{k:Fl→LV→AH→Tr α}
theorem MB (hn:o.fl.contains Cf=b2) (hc:¬ (fX o.how=[115,111,114,116,101,100]∧b1=false∧b2=false)) (hr:bz [o.v,aq gs,wv,sv] (.ok Q))
  (q:(lB 8 (lM WS o.v b1 b4 gs sv (some wv) none (some Q) none) [] k).tt L):(lB 7 (lM WS o.v b1 b4 gs sv (some wv) none none none) [] k).tt L:=by
 by_cases h:fX o.how=[115,111,114,116,101,100]
 ·cases b1 with
  | true=>exact goK q 0 [xC 4 (seT h),xP 10 hr]
  | false=>cases b2 with
   | true=>exact goK q 0 [xC 4 (seT h),xC 8 (nB hn),xP 4 hr]
   | false=>exact absurd ⟨h,rfl,rfl⟩ hc
 ·exact goK q 0 [xC 4 (seF h),xC 1 (seF h),xP 4 hr]
theorem OK (hn:o.fl.contains Cf=b2) (hc:¬ (fX o.how=[115,111,114,116,101,100]∧b1=false∧b2=false)) (hr:bz [o.v,aq gs,wv,sv] (.ex ks us)):(lB 7 (lM WS o.v b1 b4 gs sv (some wv) none none none) [] fun f _ G=>.ok (f,G)).tt (fF false (.ex ks us)):=by
 by_cases h:fX o.how=[115,111,114,116,101,100]
 ·cases b1 with
  | true=>exact goT (rfl:Res.ex ks us=.ex ks us) [xC 4 (seT h),xP 10 hr]
  | false=>cases b2 with
   | true=>exact goT (rfl:Res.ex ks us=.ex ks us) [xC 4 (seT h),xC 8 (nB hn),xP 4 hr]
   | false=>exact absurd ⟨h,rfl,rfl⟩ hc
 ·exact goT (rfl:Res.ex ks us=.ex ks us) [xC 4 (seF h),xC 1 (seF h),xP 4 hr]
theorem MC (h:fX o.how=[115,111,114,116,101,100]) (hn:o.fl.contains Cf=false) (hr:cH [o.v,aq gs,wv,sv] (.ok (.int pl)))
  (q:(lB 8 (lM WS o.v false b4 gs sv (some wv) (some (.int pl)) (some (.lst (if 0≤pl then [.int pl] else []))) none) [] k).tt L):(lB 7 (lM WS o.v false b4 gs sv (some wv) none none none) [] k).tt L:=by
 by_cases z:0≤pl
 ·rw [if_pos z] at q
  exact goK q 1 [xC 4 (seT h),xC 8 (nB hn),xP 4 hr,xC 3 (dT z)]
 ·rw [if_neg z] at q
  exact goK q 0 [xC 4 (seT h),xC 8 (nB hn),xP 4 hr,xC 3 (dF z)]
theorem J2 (h:fX o.how=[103,108,111,98]) (hw:aF [] WS (.int (-1))=some wv) (q:(lB 7 (lM WS o.v b1 b4 gs sv (some wv) none none none) [] k).tt L):(lB 6 (lM WS o.v b1 b4 gs sv none none none none) [] k).tt L:=by
 exact goK q 0 [xC 4 (seT h),xV 2 hw]
theorem MD (h:¬ fX o.how=[103,108,111,98]) (hw:aF [] WS (.int (-1))=some Q) (hk:cE [S (ft o.mode),Q] (.ok wv)) (q:(lB 7 (lM WS o.v b1 b4 gs sv (some wv) none none none) [] k).tt L):(lB 6 (lM WS o.v b1 b4 gs sv none none none none) [] k).tt L:=by
 exact goK q 0 [xC 4 (seF h),xV 4 hw,xP 0 hk]
theorem OL (h:¬ fX o.how=[103,108,111,98]) (hw:aF [] WS (.int (-1))=some Q) (hk:cE [S (ft o.mode),Q] (.ex ks us)):(lB 6 (lM WS o.v b1 b4 gs sv none none none none) [] fun f _ G=>.ok (f,G)).tt (fF false (.ex ks us)):=by
 exact goT (rfl:Res.ex ks us=.ex ks us) [xC 4 (seF h),xV 4 hw,xP 0 hk]
theorem OM (h:o.start=.none) (q:(lB 6 (lM WS o.v b1 b4 gs (.int (0:Nat)) none none none none) [] k).tt L):(lB 5 (lM WS o.v b1 b4 gs (.int 0) none none none none) [] k).tt L:=by
 obtain ⟨m,h1,d,s,st,fl,fv⟩:=o
 have h:st=.none:=h
 subst h
 exact goK q 5 []
theorem ON (i:Int):(if (0:Int)<i then i else 0)=(i.toNat:Nat):=by
 by_cases h:0<i
 ·rw [if_pos h]; exact (Int.toNat_of_nonneg (Int.le_of_lt h)).symm
 ·rw [if_neg h,Int.toNat_of_nonpos (Int.not_lt.mp h)]; rfl
theorem KG (i:Int):nu [] ⟨⟨[109,97,120]⟩⟩ [.int 0,.int i]=some (.int (i.toNat:Nat)):=congrArg (fun i=>some (V.int i)) (ON i)
theorem OO (h:o.start=S w) (hi:bO [S w,.int ((gs.length:Int) - 1)] (.ok (.int i))) (hl:i.toNat<gs.length) (q:(lB 6 (lM WS o.v b1 b4 gs (.int i.toNat) none none none none) [] k).tt L):(lB 5 (lM WS o.v b1 b4 gs (.int 0) none none none none) [] k).tt L:=by
 have e:(gs.map itS).length=gs.length:=List.length_map ..
 have mx:=KG i
 obtain ⟨m,h1,d,s,st,fl,fv⟩:=o
 have h:st=S w:=h
 subst h
 rw [← e] at hi hl
 exact goK q 0 [xP 10 hi,xV 0 mx,xC 5 (leF hl)]
theorem ME (h:o.start=S w) (hi:bO [S w,.int ((gs.length:Int) - 1)] (.ex ks us)):(lB 5 (lM WS o.v b1 b4 gs (.int 0) none none none none) [] fun f _ G=>.ok (f,G)).tt (fF false (.ex ks us)):=by
 have e:(gs.map itS).length=gs.length:=List.length_map ..
 obtain ⟨m,h1,d,s,st,fl,fv⟩:=o
 have h:st=S w:=h
 subst h
 rw [← e] at hi
 exact goT (rfl:Res.ex ks us=.ex ks us) [xP 10 hi]
theorem MF (h:o.start=S w) (hi:bO [S w,.int ((gs.length:Int) - 1)] (.ok (.int i))) (hl:gs.length≤i.toNat):(lB 5 (lM WS o.v b1 b4 gs (.int 0) none none none none) [] fun f _ G=>.ok (f,G)).tt (fF false (.ok (S (if (b1||b4)=true then [] else [45,49])))):=by
 have e:(gs.map itS).length=gs.length:=List.length_map ..
 have mx:=KG i
 obtain ⟨m,h1,d,s,st,fl,fv⟩:=o
 have h:st=S w:=h
 subst h
 rw [← e] at hi hl
 cases b1 with
 | true=>exact goT (rfl:Res.ok (S [])=.ok (S [])) [xP 10 hi,xV 0 mx,xC 5 (leT hl)]
 | false=>cases b4 with
  | true=>exact goT (rfl:Res.ok (S [])=.ok (S [])) [xP 10 hi,xV 0 mx,xC 5 (leT hl)]
  | false=>exact goT (rfl:Res.ok (S [45,49])=.ok (S [45,49])) [xP 10 hi,xV 0 mx,xC 5 (leT hl)]
theorem l0 {ws:List (List Nat)}(hl:3≤ws.length) (hs:bq [.lst (ws.map S)] (.ok o.v)) (h1:o.fl.contains EG=b1) (h4:o.fl.contains Os=b4) (hw:aF [] (.lst (ws.map S)) (.int (-2))=some Q) (hp:bY [Q] (.ok (aq gs)))
  (q:(lB 5 (lM (.lst (ws.map S)) o.v b1 b4 gs (.int 0) none none none none) [] k).tt L):(lB 0 [some .none,some (.lst (ws.map S)),none,none,none,none,none,none,none,none,none] [] k).tt L:=by
 have e:(ws.map S).length=ws.length:=List.length_map ..
 rw [← e] at hl
 subst h1 h4
 exact goK q 0 [xC 4 (ltF hl),xP 1 hs,xV 8 hw,xP 0 hp]
theorem MG {ws:List (List Nat)}(hl:3≤ws.length) (hs:bq [.lst (ws.map S)] (.ex ks us)):(lB 0 [some .none,some (.lst (ws.map S)),none,none,none,none,none,none,none,none,none] [] fun f _ G=>.ok (f,G)).tt (fF false (.ex ks us)):=by
 have e:(ws.map S).length=ws.length:=List.length_map ..
 rw [← e] at hl
 exact goT (rfl:Res.ex ks us=.ex ks us) [xC 4 (ltF hl),xP 1 hs]
end
end
section
structure Row (how mode sh:Nat) (f:Int) (which:Nat) (gs:List (List Wo)) (ps:List Pc) (wt:Wo):Prop where
 hh:how<4
 hm:mode<3
 hs:sh<3
 hw:which<12
 g:∀ g∈gs,Grp mode sh g
 n:gs.length≤6
 pc:∀ p∈ps,p∈pcs
 pn:ps.length≤3
 wd:wt∈dom mode
 srt:1<how→j9 mode sh gs∧oy mode sh (bit f 8) (bit f 16) gs
set_option genCtorIdx false in
inductive Out
 | gave (t:List Nat)
 | raised (why:List Nat) (code:V)
noncomputable def Out.res:Out→Res
 | .gave t=>.ok (S t)
 | .raised why code=>.ex At (Au why code)
noncomputable def d0 (which n:Nat):Nat:=((lx which ((n:Int) - 1)).getD 0).toNat
noncomputable def dR (how mode sh:Nat) (f:Int) (gs:List (List Wo)) (ps:List Pc) (wt:Wo) (start:Nat):Option (List Nat) :=
 if 1<how∧bit f 1=false∧bit f 2=false then some (ge how start gs.length (ssF f mode sh wt gs))
 else iT (bit f 1) (bit f 2) ((gs.drop start).map fun g=>gP how mode (bit f 8) ps wt (aN sh g)) start []
noncomputable def rg (f:Int):List Nat:=if (bit f 1||bit f 4)=true then [] else [45,49]
noncomputable def vj (f:Int) (gs:List (List Wo)):Option (List Nat)→Out
 | some P=>.gave (EQ (bit f 1) (bit f 4) gs P)
 | none=>.raised (cc [49,120]) bu
noncomputable def yU (how mode sh:Nat) (f:Int) (which:Nat) (gs:List (List Wo)) (ps:List Pc) (wt:Wo):Out :=
 if ((how==3)&&(bit f 1||bit f 2))=true then .raised uF oE
 else if which=11 then .raised mP jU
 else if 3≤which∧gs.length≤d0 which gs.length then .gave (rg f)
 else if 0<how∧mode=2∧wt.n=none then .raised (cc [49,120]) bu
 else vj f gs (dR how mode sh f gs ps wt (d0 which gs.length))
noncomputable def gf (gs:List (List Wo)):List Nat:=cf [32] ((gs.map bl).map enc)
noncomputable def bD (how:Nat) (ps:List Pc) (wt:Wo):List Nat:=if how=0 then mK ps else wt.t
noncomputable def wsN (how mode sh:Nat) (f:Int) (which:Nat) (gs:List (List Wo)) (ps:List Pc) (wt:Wo):List (List Nat) :=
 [108,115,101,97,114,99,104]::(dW how mode sh f (bI which)++[gf gs,bD how ps wt])
section
variable {how mode sh start:Nat}{f:Int}{which:Nat}{gs:List (List Wo)}{ps:List Pc}{wt:Wo}{o:To}{WS:V}
theorem Dt (r:∀ g∈gs,Grp mode sh g) (n:gs.length≤6):((gs.map bl).map (·.length)).sum≤600:=by
 have h:=pV (f:=fun w:List Nat=>w.length) (B:=100) (l:=gs.map bl) fun w hw=>by
  obtain ⟨g,hg,rfl⟩:=List.mem_map.mp hw
  exact (r g hg).plain.2
 rw [List.length_map] at h
 exact Nat.le_trans h (Nat.mul_le_mul_right 100 n)
theorem ER (r:Row how mode sh f which gs ps wt):bY [S (gf gs)] (.ok (aq gs)):=by
 have h1:=Dt r.g r.n
 have h2:=yv (ws:=gs.map bl)
 have h3:=pS [32] ((gs.map bl).map enc)
 rw [List.length_map (f:=enc),List.length_map,List.length_singleton,Nat.mul_one] at h3
 rw [List.length_map] at h2
 have n:=r.n
 have k:=ue (gs.map bl) (t:=gf gs) (Nat.le_trans h3 (Nat.le_trans (Nat.add_le_add (Nat.le_trans h2 (Nat.add_le_add h1 (Nat.mul_le_mul_left 2 n))) n) (by decide))) rfl fun w hw=>by
  obtain ⟨g,hg,rfl⟩:=List.mem_map.mp hw
  exact (r.g g hg).plain.1.1
 rw [List.map_map] at k
 exact k
theorem AU (h:how<4):fX how=[115,111,114,116,101,100]↔1<how:=by
 match how,h with
 | 0,_=>decide
 | 1,_=>decide
 | 2,_=>decide
 | 3,_=>decide
theorem O8 {α:Type}{x:α}{l:List α}{n:Nat}(h:x∈l.take n):x∈l:=List.mem_of_mem_take h
theorem qh {n:Nat}{F:Nat→Int}(hs:start≤n):(∀ k∈ge how start n F,k<n)∧(ge how start n F).length≤1:=by
 unfold ge
 split
 ·refine ⟨fun k hk=>?_,by rw [List.length_take]; exact Nat.min_le_left ..⟩
  have:=(List.mem_filter.mp (List.mem_of_mem_take hk)).1
  rw [List.mem_range'_1,Nat.add_sub_of_le hs] at this
  exact this.2
 ·split
  ·refine ⟨fun k hk=>?_,Nat.le_refl _⟩
   rename_i z
   have key:∀ (m j:Nat) (a:Int),a<(j+m:Nat)→db F j m a<(j+m:Nat):=by
    intro m
    induction m with
    | zero=>intro j a h; exact h
    | succ m ih =>
     intro j a h
     unfold db
     rw [List.range'_succ,List.foldl_cons]
     have e:j+1+m=j+(m+1):=Nat.add_right_comm ..
     have:=ih (j+1) (if 0≤F j then (j:Int) else a) (by rw [e]; split; exact Int.ofNat_lt.mpr (Nat.lt_add_of_pos_right (Nat.succ_pos m)); exact h)
     rw [e] at this
     exact this
   have:=key (n - start) start ((start:Int) - 1)
   rw [Nat.add_sub_of_le hs] at this
   rw [List.mem_singleton.mp hk]
   exact (Int.toNat_lt z).mpr (this (Int.lt_of_lt_of_le (Int.sub_lt_self _ (by decide)) (Int.ofNat_le.mpr hs)))
  ·exact ⟨nofun,Nat.zero_le _⟩
theorem oH {all no:Bool}:∀ (l:List (Option Bool)) (k:Nat) (A P:List Nat),iT all no l k A=some P→(∀ j∈A,j<k)→A.length≤k→(∀ j∈P,j<k+l.length)∧P.length≤k+l.length
 | [],k,A,P,h,hA,hl=>by
  obtain rfl:A=P:=sj h
  exact ⟨hA,hl⟩
 | none::r,k,A,P,h,hA,hl=>nS h
 | some b::r,k,A,P,h,hA,hl=>by
  rw [iT] at h
  rw [List.length_cons,Nat.add_comm r.length,← Nat.add_assoc]
  have ap1:∀ j∈A++[k],j<k+1:=fun j hj=>(List.mem_append.mp hj).elim (fun h=>Nat.lt_succ_of_lt (hA j h)) fun h=>List.mem_singleton.mp h ▸ Nat.lt_succ_self k
  have ap2:(A++[k]).length≤k+1:=by rw [List.length_append]; exact Nat.succ_le_succ hl
  split at h
  ·split at h
   ·exact oH r (k+1) (A++[k]) P h ap1 ap2
   ·obtain rfl:A++[k]=P:=sj h
    exact ⟨fun j hj=>Nat.lt_of_lt_of_le (ap1 j hj) (Nat.le_add_right ..),Nat.le_trans ap2 (Nat.le_add_right ..)⟩
  ·exact oH r (k+1) A P h (fun j hj=>Nat.lt_succ_of_lt (hA j hj)) (Nat.le_succ_of_le hl)
theorem Cj {pl lo fo:Int}{a:Nat}{F:Nat→Int}{n:Nat}(hh:how<4) (h1:1<how) (hl:lo+1=(a:Nat)) (hf:uB (how==3) start n F a a fo) (e:pl=if (how==3)=true then lo else fo):be (ge how start n F)=.lst (if 0≤pl then [.int pl] else []):=by
 rcases (Nat.lt_or_eq_of_le (Nat.le_of_lt_succ hh)).imp_left (fun q=>Nat.le_antisymm (Nat.le_of_lt_succ q) h1) with rfl | rfl
 ·have e:pl=fo:=e
  subst e
  have q:=Ch hf
  show be (List.take 1 _)=_
  rw [← q]
  split
  ·rename_i z; show V.lst [.int (pl.toNat:Nat)]=_; rw [Int.toNat_of_nonneg z]
  ·rfl
 ·have e:pl=lo:=e
  subst e
  have q:=AM hf hl
  show be (if 0≤db F start (n - start) ((start:Int) - 1) then _ else _)=_
  rw [q]
  split
  ·rename_i z; show V.lst [.int (pl.toNat:Nat)]=_; rw [Int.toNat_of_nonneg z]
  ·rfl
noncomputable abbrev iq:Fl→LV→AH→Tr (Fl × AH):=fun f _ G=>.ok (f,G)
theorem KH (r:Row how mode sh f which gs ps wt) (a:Ask o how mode sh f ps wt) (hst:start≤gs.length) :
  (lB 7 (lM WS o.v (bit f 1) (bit f 4) gs (.int start) (some (dz how mode ps wt)) none none none) [] iq).tt (fF false (vj f gs (dR how mode sh f gs ps wt start)).res):=by
 have hn:gs.length≤big:=Nat.le_trans r.n (by decide)
 have hn2:gs.length≤20:=Nat.le_trans r.n (by decide)
 have hq:=AU r.hh
 have eh:fX o.how=fX how:=congrArg fX a.fl.how
 have fn:=a.fl.no
 unfold dR
 by_cases c:1<how∧bit f 1=false∧bit f 2=false
 ·rw [if_pos c]
  refine bW c fun c1 c2 c3=>?_
  have hk:=a.wt (Nat.ne_of_gt (Nat.lt_of_succ_lt c1))
  refine ar (r.srt c1) fun hd' hsort=>?_
  obtain ⟨a1,lo,fo,hl,hf,hs⟩:=mM a hk r.g hd' hsort hst
  have ew:dz how mode ps wt=fw mode wt:=if_neg (Nat.ne_of_gt (Nat.lt_of_succ_lt c1))
  have e:=Cj r.hh c1 hl hf rfl
  refine ar (qh (how:=how) (F:=ssF f mode sh wt gs) hst) fun p1 p2=>?_
  have t:(lB 8 (lM WS o.v (bit f 1) (bit f 4) gs (.int start) (some (dz how mode ps wt)) (some (.int (if (how==3)=true then lo else fo))) (some (be (ge how start gs.length (ssF f mode sh wt gs)))) none) [] iq).tt (fF false (vj f gs (some (ge how start gs.length (ssF f mode sh wt gs)))).res):=Ds (all:=bit f 1) (inl:=bit f 4) (WS:=WS) (ov:=o.v) (sv:=.int start) (w:=some (dz how mode ps wt)) (x8:=some (.int (if (how==3)=true then lo else fo))) r.g hn2 p1 (Nat.le_trans p2 (by decide))
  rw [e] at t
  rw [c3] at fn
  rw [c2] at t ⊢
  rw [ew] at t ⊢
  exact MC (eh.trans (hq.mpr c1)) fn hs t
 ·rw [if_neg c]
  have hl:=mL a r.g hn (Nat.le_trans hst hn)
  have hc:¬ (fX o.how=[115,111,114,116,101,100]∧bit f 1=false∧bit f 2=false):=fun h=>c ⟨hq.mp (eh.symm.trans h.1),h.2⟩
  cases hv:iT (bit f 1) (bit f 2) ((gs.drop start).map fun g=>gP how mode (bit f 8) ps wt (aN sh g)) start [] with
  | some P =>
   refine ar (oH _ _ _ _ hv nofun (Nat.zero_le _)) fun p1 p2=>?_
   rw [List.length_map,List.length_drop,Nat.add_sub_of_le hst] at p1 p2
   exact MB fn hc (hl.1 P hv) (Ds r.g hn2 p1 (Nat.le_trans p2 hn2))
  | none=>exact OK fn hc (hl.2 hv)
theorem KI (r:Row how mode sh f which gs ps wt) (fl:Flg o how f) (mo:o.mode=mode) (sh':o.sh=sh) (hw:aF [] WS (.int (-1))=some (S (bD how ps wt))) (hst:start≤gs.length) :
  (lB 6 (lM WS o.v (bit f 1) (bit f 4) gs (.int start) none none none none) [] iq).tt (fF false (if 0<how∧mode=2∧wt.n=none then Out.raised (cc [49,120]) bu else vj f gs (dR how mode sh f gs ps wt start)).res):=by
 have eh:fX o.how=fX how:=congrArg fX fl.how
 by_cases h0:how=0
 ·rw [if_neg fun h=>absurd h.1 (by rw [h0]; decide)]
  have t:=KH (WS:=WS) r ⟨fl,mo,sh',r.hm,r.hs,r.hh,r.pc,r.pn,fun h=>absurd h0 h⟩ hst
  rw [bD,if_pos h0] at hw
  rw [dz,if_pos h0] at t
  exact J2 (eh.trans (congrArg fX h0)) hw t
 ·have hq:¬ fX o.how=[103,108,111,98]:=fun h=>Cg h0 (eh.symm.trans h)
  rw [bD,if_neg h0] at hw
  by_cases hn:mode=2∧wt.n=none
  ·rw [if_pos ⟨Nat.pos_of_ne_zero h0,hn⟩]
   have wd:=r.wd
   obtain ⟨rfl,hn⟩:=hn
   rw [yL wd hn] at hw
   exact OL hq hw (by rw [mo]; exact C6)
  ·rw [if_neg fun h=>hn h.2]
   have hk:cw mode wt:=⟨r.wd,fun e=>Option.isSome_iff_ne_none.mpr fun q=>hn ⟨e,q⟩⟩
   have t:=KH (WS:=WS) r ⟨fl,mo,sh',r.hm,r.hs,r.hh,r.pc,r.pn,fun _=>hk⟩ hst
   rw [dz,if_neg h0] at t
   exact MD hq hw (by rw [mo]; exact lp hk r.hm) t
theorem OP (r:Row how mode sh f which gs ps wt) (fl:Flg o how f) (mo:o.mode=mode) (sh':o.sh=sh) (st:o.start=stV (bI which) (!(bI which).isEmpty)) (hw:aF [] WS (.int (-1))=some (S (bD how ps wt))) :
  (lB 5 (lM WS o.v (bit f 1) (bit f 4) gs (.int 0) none none none none) [] iq).tt (fF false (if which=11 then Out.raised mP jU else if 3≤which∧gs.length≤d0 which gs.length then Out.gave (rg f) else if 0<how∧mode=2∧wt.n=none then Out.raised (cc [49,120]) bu else vj f gs (dR how mode sh f gs ps wt (d0 which gs.length))).res):=by
 rcases Nat.lt_or_ge which 3 with q | q
 ·rw [if_neg (Nat.ne_of_lt (Nat.lt_trans q (by decide))),if_neg fun h=>absurd h.1 (Nat.not_le.mpr q)]
  rw [wK q] at st
  have e0:d0 which gs.length=0:=by
   match which,q with
   | 0,_=>rfl
   | 1,_=>rfl
   | 2,_=>rfl
  rw [e0]
  exact OM st (KI r fl mo sh' hw (Nat.zero_le _))
 ·rw [uI q r.hw] at st
  by_cases q2:which=11
  ·rw [if_pos q2]
   subst q2
   exact ME st EM
  ·rw [if_neg q2]
   obtain ⟨i,hi,hx⟩:=uH (which:=which) (last:=(gs.length:Int) - 1) q (Nat.lt_of_le_of_ne (Nat.le_of_lt_succ r.hw) q2)
   have e:d0 which gs.length=i.toNat:=by rw [d0,hi]; rfl
   rw [e]
   by_cases q3:gs.length≤i.toNat
   ·rw [if_pos ⟨q,q3⟩]
    exact MF st hx q3
   ·rw [if_neg fun h=>q3 h.2]
    exact OO st hx (Nat.not_le.mp q3) (KI r fl mo sh' hw (Nat.le_of_lt (Nat.not_le.mp q3)))
theorem uJ:(wsN how mode sh f which gs ps wt).map S=S [108,115,101,97,114,99,104]::(dW how mode sh f (bI which)).map S++[S (gf gs),S (bD how ps wt)]:=by
 show S _::(dW how mode sh f (bI which)++[gf gs,bD how ps wt]).map S=_
 rw [List.map_append]; rfl
theorem Cl:(wsN how mode sh f which gs ps wt).length=1+(dW how mode sh f (bI which)).length+2:=by
 show (dW how mode sh f (bI which)++[gf gs,bD how ps wt]).length+1=_
 rw [List.length_append,Nat.add_comm 1 (List.length _),Nat.add_right_comm]; rfl
theorem rZ {c:Prop} [Decidable c] {a b:Out}(ha:a.res.pu=true) (hb:b.res.pu=true):(if c then a else b).res.pu=true:=by
 split
 ·exact ha
 ·exact hb
theorem J3 {P:Option (List Nat)}:(vj f gs P).res.pu=true:=by cases P <;> rfl
theorem OQ (h:o.start.pu=true∧V.puL o.fv=true):o.v.pu=true:=by
 rw [To.v,V.pu,V.puL,V.puL,V.puL,V.puL,V.puL,on,V.puL,V.puL,h.1,V.puL,V.pu,h.2]; rfl
theorem yV (r:Row how mode sh f which gs ps wt):bM [.none,.lst ((wsN how mode sh f which gs ps wt).map S)] (yU how mode sh f which gs ps wt).res:=by
 have hr:=EL (f:=f) (st:=bI which) (w0:=[108,115,101,97,114,99,104]) (a:=gf gs) (p:=bD how ps wt) r.hh r.hm r.hs (HJ r.hw)
 have fl:=(Dn (f:=f) (st:=bI which) r.hh r.hm r.hs).2
 have pt:=OQ fl.pu
 have pv:=a8 (f:=S) (fun _=>rfl) (wsN how mode sh f which gs ps wt)
 have pp:(V.puL [.none,.lst ((wsN how mode sh f which gs ps wt).map S)]&&bo bL [.none,.lst ((wsN how mode sh f which gs ps wt).map S)])=true:=by rw [V.puL,V.puL,V.pu,pv]; rfl
 have l3:3≤(wsN how mode sh f which gs ps wt).length:=by rw [Cl,Nat.add_comm 1,Nat.add_assoc]; exact Nat.le_add_left ..
 refine ⟨?_,pp,?_⟩
 ·exact rZ rfl (rZ rfl (rZ rfl (rZ rfl J3)))
 show (lB 0 [some .none,some (.lst ((wsN how mode sh f which gs ps wt).map S)),none,none,none,none,none,none,none,none,none] [] iq).tt (fF false _)
 have eb:(((EK how mode sh f (bI which)).fl.contains Hq)&&((EK how mode sh f (bI which)).fl.contains EG||(EK how mode sh f (bI which)).fl.contains Cf))=((how==3)&&(bit f 1||bit f 2)):=by rw [fl.bis,fl.all,fl.no]
 unfold yU
 cases hb:(how==3)&&(bit f 1||bit f 2) with
 | true =>
  rw [if_pos rfl]
  exact MG l3 (Mz Cl hr (eb.trans hb))
 | false =>
  rw [if_neg (by decide)]
  have i2:aF [] (.lst ((wsN how mode sh f which gs ps wt).map S)) (.int (-2))=some (S (gf gs)):=by rw [uJ]; exact EN
  have i1:aF [] (.lst ((wsN how mode sh f which gs ps wt).map S)) (.int (-1))=some (S (bD how ps wt)):=by rw [uJ]; exact EO
  exact l0 l3 (J1 Cl pt hr (eb.trans hb)) fl.all fl.inl i2 (ER r) (OP r fl rfl rfl rfl i1)
end
end
section
structure Fq (f:Int):Prop where
 b1:(f.fmod 2==1)=bit f 1
 b0:(f.fmod 2==0)=!bit f 1
 m4:decide (0<f.fmod 4)=(bit f 1||bit f 2)
 z4:(f.fmod 4==0)=!(bit f 1||bit f 2)
theorem MI:((List.range 128).all fun k=>let f:Int:=(k:Nat); ((f.fmod 2==1)==bit f 1&&(f.fmod 2==0)==!bit f 1)&&(decide (0<f.fmod 4)==(bit f 1||bit f 2)&&(f.fmod 4==0)==!(bit f 1||bit f 2)))=true:=by kernel_rfl
theorem fq {k:Nat}(h:k<128):Fq (k:Nat):=ar (an (List.all_eq_true.mp MI k (List.mem_range.mpr h))) fun p q=>⟨eqB (an p).1,eqB (an p).2,eqB (an q).1,eqB (an q).2⟩
noncomputable def Out.v:Out→V
 | .gave t=>.tup [S [103,97,118,101],S t]
 | .raised why code=>cq why code
theorem Cm {ws:List V}{t:List Nat}(hp:V.puL ws=true) (h:bM [.none,.lst ws] (.ok (S t))):cv [.lst ws] (.ok (Out.gave t).v):=by
 have pp:(V.puL [.lst ws]&&bo gk [.lst ws])=true:=by rw [V.puL,V.pu,hp]; rfl
 exact goP [xP 1 h] pp rfl
theorem yW {ws:List V}{why:List Nat}{code:V}(hp:V.puL ws=true) (hc:code.pu=true) (h:bM [.none,.lst ws] (.ex At (Au why code))):cv [.lst ws] (.ok (Out.raised why code).v):=by
 have pp:(V.puL [.lst ws]&&bo gk [.lst ws])=true:=by rw [V.puL,V.pu,hp]; rfl
 have pc:(Out.raised why code).v.pu=true:=by rw [Out.v,cq,V.pu,V.puL,V.puL,V.puL,V.puL,hc]; rfl
 exact goP [xP 1 h] pp pc
section
variable {α:Type}{L:α→Prop}{how mode which n:Nat}{f i:Int}{iv hv wv pv wh nv Q1 Q2:V}{x8 x9 x10 x11 x12 x13 x14:Option V}{w:List Nat}{k:Fl→LV→AH→Tr α}{xs:List V}{b:Bool}{o:Option Int}
noncomputable abbrev dM (how mode:Nat) (f:Int) (iv hv wv pv wh:V) (x8 x9 x10 x11 x12 x13 x14:Option V):LV:=[some (.int how),some (.int mode),some (.int f),some iv,some hv,some wv,some pv,some wh,x8,x9,x10,x11,x12,x13,x14]
noncomputable abbrev dB (i:Nat) (m:LV) (k:Fl→LV→AH→Tr α):Tr α:=evB (evS 8 jb) (gW.body.drop i) m [] k
theorem MJ (h:how=3) (m4:decide (0<f.fmod 4)=true):(dB 0 (dM how mode f iv hv wv pv wh none none none none none none none) iq).tt (fF false (.ok (cq uF oE))):=by
 exact goT (rfl:Res.ok (cq uF oE)=.ok (cq uF oE)) [xC 3 (nT h),xC 4 m4]
theorem OR (h:how=3→decide (0<f.fmod 4)=false) (hs:cu [wh,.int ((xs.length:Int) - 1)] (.ok (.tup [S w,nv]))) (q:(dB 2 (dM how mode f (.lst xs) hv wv pv wh (some (S w)) (some nv) none none none none none) k).tt L):(dB 0 (dM how mode f (.lst xs) hv wv pv wh none none none none none none none) k).tt L:=by
 by_cases z:how=3
 ·exact goK q 1 [xC 3 (nT z),xC 4 (h z),xP 4 hs]
 ·exact goK q 1 [xC 3 (nF z),xC 1 (nF z),xP 4 hs]
theorem MK:(dB 2 (dM how mode f iv hv wv pv wh (some (S [49,121])) (some .none) none none none none none) iq).tt (fF false (.ok (cq mP jU))):=by
 exact goT (rfl:Res.ok (cq mP jU)=.ok (cq mP jU)) []
theorem OS (i:Int):nu [] ⟨⟨[109,97,120]⟩⟩ [.int i,.int 0]=some (.int (i.toNat:Nat)):=congrArg (fun i=>some (V.int i)) (by
 show (if i<(0:Int) then 0 else i)=_
 by_cases h:i<0
 ·rw [if_pos h,Int.toNat_of_nonpos (Int.le_of_lt h)]; rfl
 ·rw [if_neg h]; exact (Int.toNat_of_nonneg (Int.not_lt.mp h)).symm)
noncomputable abbrev noV (f:Int):V:=.tup [S [103,97,118,101],S (rg f)]
theorem OT (b1:(f.fmod 2==1)=bit f 1) (q:(dB 5 (dM how mode f iv hv wv pv wh x8 (some (.int i.toNat)) none (some (noV f)) none none none) k).tt L):(dB 2 (dM how mode f iv hv wv pv wh x8 (some (.int i)) none none none none none) k).tt L:=by
 have mx:=OS i
 unfold noV rg at q
 cases c1:bit f 1 with
 | true=>rw [c1] at b1 q; exact goK q 0 [xC 8 b1,xC 1 b1,xV 1 mx]
 | false=>cases c4:bit f 4 with
  | true=>rw [c1] at b1 q; rw [c4] at q; exact goK q 0 [xC 8 b1,xC 5 ((show ((f.fdiv 4).fmod 2==1)=true from c4)),xV 1 mx]
  | false=>rw [c1] at b1 q; rw [c4] at q; exact goK q 0 [xC 8 b1,xC 5 ((show ((f.fdiv 4).fmod 2==1)=false from c4)),xV 1 mx]
theorem ML (hw:w.isEmpty=false) (hl:xs.length≤n):(dB 5 (dM how mode f (.lst xs) hv wv pv wh (some (S w)) (some (.int n)) none (some (noV f)) none none none) iq).tt (fF false (.ok (noV f))):=by
 have h:¬ w=[]:=fun e=>by rw [e] at hw; exact ff hw.symm
 exact goT (rfl:Res.ok (noV f)=.ok (noV f)) [xC 3 (nB (seF h)),xC 5 (leT hl)]
theorem OU (hl:w.isEmpty=false→n<xs.length) (q:(dB 6 (dM how mode f (.lst xs) hv wv pv wh (some (S w)) (some (.int n)) none (some nv) none none none) k).tt L):(dB 5 (dM how mode f (.lst xs) hv wv pv wh (some (S w)) (some (.int n)) none (some nv) none none none) k).tt L:=by
 cases w with
 | nil=>exact goK q 6 []
 | cons a w=>exact goK q 0 [xC 9 (leF (hl rfl))]
theorem MM (h:0<how) (hn:bA [.tup [S w,.none]] (.ok (cq (cc [49,120]) bu))):(dB 6 (dM how 2 f iv hv (.tup [S w,.none]) pv wh x8 x9 none x11 none none none) iq).tt (fF false (.ok (cq (cc [49,120]) bu))):=by
 exact goT (rfl:Res.ok (cq (cc [49,120]) bu)=.ok (cq (cc [49,120]) bu)) [xC 3 (ltT h),xP 10 hn]
theorem OV (h:¬ (0<how∧mode=2∧o=none)) (q:(dB 7 (dM how mode f iv hv (.tup [S w,mE o]) pv wh x8 x9 none x11 none none none) k).tt L):(dB 6 (dM how mode f iv hv (.tup [S w,mE o]) pv wh x8 x9 none x11 none none none) k).tt L:=by
 by_cases z:0<how
 ·by_cases y:mode=2
  ·cases o with
   | none=>exact absurd ⟨z,y,rfl⟩ h
   | some j=>exact goK q 5 [xC 3 (ltT z),xC 3 (nT y)]
  ·exact goK q 0 [xC 3 (ltT z),xC 3 (nF y),xC 1 (nF y)]
 ·exact goK q 0 [xC 3 (ltF (Nat.not_lt.mp z)),xC 1 (ltF (Nat.not_lt.mp z))]
theorem MN (h:1<how) (z4:(f.fmod 4==0)=true) (hs:fk [.int how,.int mode,.int f,hv,.int n,wv] (.ok Q1)) (q:(dB 8 (dM how mode f iv hv wv pv wh x8 (some (.int n)) none x11 (some Q1) (some (.tup [])) none) k).tt L):(dB 7 (dM how mode f iv hv wv pv wh x8 (some (.int n)) none x11 none none none) k).tt L:=by
 exact goK q 0 [xC 3 (ltT h),xC 4 z4,xP 6 hs]
theorem HL (z4:1<how→(f.fmod 4==0)=false) (hs:dw [.int how,.int mode,.int f,hv,.int n,wv,pv] (.ok (.tup [Q1,Q2]))) (q:(dB 8 (dM how mode f iv hv wv pv wh x8 (some (.int n)) none x11 (some Q1) (some Q2) none) k).tt L):(dB 7 (dM how mode f iv hv wv pv wh x8 (some (.int n)) none x11 none none none) k).tt L:=by
 by_cases z:1<how
 ·exact goK q 1 [xC 3 (ltT z),xC 4 (z4 z),xP 7 hs]
 ·exact goK q 1 [xC 3 (ltF (Nat.not_lt.mp z)),xC 1 (ltF (Nat.not_lt.mp z)),xP 7 hs]
theorem OX:(dB 8 (dM how mode f iv hv wv pv wh x8 x9 none x11 x12 (some (cq (cc [49,120]) bu)) none) iq).tt (fF false (.ok (cq (cc [49,120]) bu))):=by
 exact goT (rfl:Res.ok (cq (cc [49,120]) bu)=.ok (cq (cc [49,120]) bu)) []
end
end
section
theorem MP {ws:List (List Nat)}(h:∀ w∈ws,okT w=true):aG [] .Eq (.lst (ws.map S)) (.lst [])=some ws.isEmpty:=by
 have k:=rV (g:=fun w=>PyData.str ⟨⟨w⟩⟩) (n:=1) fun w hw=>⟨h w hw,Nat.zero_le 1⟩
 exact yC ((G3 (uo (g:=fun w=>PyData.str ⟨⟨w⟩⟩) (fun _=>rfl) ws) (show V.data (.lst [])=some (.list []) from rfl) (Bool.and_eq_true_iff.mpr ⟨Bool.and_eq_true_iff.mpr ⟨k.1,rfl⟩,eH (Nat.le_trans (Nat.succ_le_succ k.2) (by decide))⟩)).trans (by cases ws <;> rfl))
theorem J4:((List.range 20).all fun k=>okT (dig k))=true:=by kernel_rfl
section
variable {how mode sh n start:Nat}{f i:Int}{which:Nat}{gs:List (List Wo)}{ps:List Pc}{wt:Wo}{hv wv pv wh:V}{x8 x9:Option V}{P:List Nat}
theorem AV {inl:Bool}(hg:∀ g∈gs,Grp mode sh g) (hn:gs.length≤20) (hP:∀ k∈P,k<gs.length):∀ w∈oF inl gs P,okT w=true:=by
 intro w hw
 obtain ⟨k,hk,rfl⟩:=List.mem_map.mp hw
 have hk:=hP k hk
 cases inl with
 | false=>exact List.all_eq_true.mp J4 k (List.mem_range.mpr (Nat.lt_of_lt_of_le hk hn))
 | true =>
  show okT (bl (gs.getD k []))=true
  rw [List.getD_eq_getElem?_getD,List.getElem?_eq_getElem hk]
  exact G8 (Hd (hg _ (List.getElem_mem hk)))
noncomputable abbrev duE:=sE (at_ gW.body 9)
theorem MQ {x12 x13:Option V}{k:Nat}(hk:k<gs.length) (hn:gs.length≤20):(cR jb 23 duE (dM how mode f (aq gs) hv wv pv wh x8 x9 none (some (noV f)) x12 x13 none) (.int k) []).tt fun x=>x=(some (S (if bit f 4=true then bl (gs.getD k []) else dig k)),[]):=by
 cases c:bit f 4 with
 | true =>
  have it:aF [] (aq gs) (.int k)=some (S (bl (gs.getD k []))):=jk _ (by rw [List.getD_eq_getElem?_getD,List.getElem?_eq_getElem hk]; rfl)
  have c:((f.fdiv 4).fmod 2==1)=true:=c
  exact goC [xC 5 c,xV 2 it]
 | false =>
  have st:=AT (G:=[]) (Nat.lt_of_lt_of_le hk hn)
  have c:((f.fdiv 4).fmod 2==1)=false:=c
  exact goC [xC 5 c,xV 1 st]
theorem MR {O:List (List Nat)}(b1:(f.fmod 2==1)=bit f 1) (hc:cQ (cR jb 23 duE (dM how mode f (aq gs) hv wv pv wh x8 x9 none (some (noV f)) (some (be P)) (some (.tup [])) none)) (P.map fun k=>.int (k:Nat)) [] (O.map S) [])
  (hk:∀ w∈O,okT w=true) (hj:bH [.lst (O.map S)] (.ok (S (cf [32] (O.map enc))))) :
  (dB 8 (dM how mode f (aq gs) hv wv pv wh x8 x9 none (some (noV f)) (some (be P)) (some (.tup [])) none) iq).tt (fF false (.ok (Out.gave (if bit f 1=true then cf [32] (O.map enc) else O.headD (if bit f 4=true then [] else [45,49]))).v)):=by
 have hnil:=MP hk
 cases O with
 | nil =>
  have e:(if bit f 1=true then cf [32] (([]:List (List Nat)).map enc) else ([]:List (List Nat)).headD (if bit f 4=true then [] else [45,49]))=rg f:=by unfold rg; cases bit f 1 <;> cases bit f 4 <;> rfl
  rw [e]
  exact goT (rfl:Res.ok (noV f)=.ok (noV f)) [xQ 6 hc]
 | cons a O =>
  cases c:bit f 1 with
  | true =>
   rw [c] at b1
   exact goT (rfl:Res.ok (Out.gave (cf [32] ((a::O).map enc))).v=.ok (Out.gave (cf [32] ((a::O).map enc))).v) [xQ 6 hc,xB 1 hnil,xC 6 b1,xP 1 hj]
  | false =>
   rw [c] at b1
   exact goT (rfl:Res.ok (Out.gave a).v=.ok (Out.gave a).v) [xQ 6 hc,xB 1 hnil,xC 6 b1]
theorem HM (q:Fq f) (hg:∀ g∈gs,Grp mode sh g) (hn:gs.length≤20) (hP:∀ k∈P,k<gs.length) (hl:P.length≤20) :
  (dB 8 (dM how mode f (aq gs) hv wv pv wh x8 x9 none (some (noV f)) (some (be P)) (some (.tup [])) none) iq).tt (fF false (.ok (Out.gave (EQ (bit f 1) (bit f 4) gs P)).v)):=by
 have hok:=Dp (inl:=bit f 4) hg hn hP
 have hol:(oF (bit f 4) gs P).length=P.length:=List.length_map ..
 have hj:=lj (ws:=oF (bit f 4) gs P) (fun w hw=>Nat.le_trans (hok w hw).2 (by decide)) (by rw [hol]; exact Nat.le_trans hl (by decide)) (Nat.le_trans (pV fun w hw=>(hok w hw).2) (by rw [hol]; exact Nat.le_trans (Nat.mul_le_mul_right _ hl) (by decide)))
 refine MR q.b1 ?_ (AV hg hn hP) hj
 rw [oF,List.map_map]
 exact dj P fun k hk=>MQ (hP k hk) hn
theorem Qv (q:Fq f) (r:Row how mode sh f which gs ps wt) (hw:how≠0→cw mode wt) (hst:start≤gs.length) :
  (dB 7 (dM how mode f (aq gs) (.lst ((a9 sh gs).map Wo.v)) wt.v (.lst (ps.map Pc.v)) wh x8 (some (.int start)) none (some (noV f)) none none none) iq).tt (fF false (.ok (vj f gs (dR how mode sh f gs ps wt start)).v)):=by
 have hn:gs.length≤big:=Nat.le_trans r.n (by decide)
 have hn2:gs.length≤20:=Nat.le_trans r.n (by decide)
 have z4:=q.z4
 unfold dR
 by_cases c:1<how∧bit f 1=false∧bit f 2=false
 ·rw [if_pos c]
  refine bW c fun c1 c2 c3=>?_
  rw [c2,c3] at z4
  refine ar (qh (how:=how) (F:=ssF f mode sh wt gs) hst) fun p1 p2=>?_
  exact MN c1 z4 (rN r.hm (hw (Nat.ne_of_gt (Nat.lt_of_succ_lt c1))) (r.srt c1).1 hn hst) (HM q r.g hn2 p1 (Nat.le_trans p2 (by decide)))
 ·rw [if_neg c]
  have hl:=rL (how:=how) (mode:=mode) (f:=f) (pl:=ps) (wt:=wt) (hs:=a9 sh gs) (start:=start) ⟨r.hm,hw,fun w hw'=>by
   obtain ⟨g,hg,rfl⟩:=List.mem_map.mp hw'
   exact ow (r.g g hg),r.pc,by rw [a9,List.length_map]; exact hn,q.b0⟩ (Nat.le_trans hst hn)
  have eh:((a9 sh gs).drop start).map (gP how mode (bit f 8) ps wt)=(gs.drop start).map fun g=>gP how mode (bit f 8) ps wt (aN sh g):=by
   unfold a9
   rw [← List.map_drop,List.map_map]
   rfl
  rw [eh] at hl
  have z:1<how→(f.fmod 4==0)=false:=fun h=>by
   rw [z4]
   cases e:bit f 1||bit f 2 with
   | true=>rfl
   | false=>exact absurd ⟨h,Bool.or_eq_false_iff.mp e⟩ c
  cases hv:iT (bit f 1) (bit f 2) ((gs.drop start).map fun g=>gP how mode (bit f 8) ps wt (aN sh g)) start [] with
  | some P =>
   refine ar (oH _ _ _ _ hv nofun (Nat.zero_le _)) fun p1 p2=>?_
   rw [List.length_map,List.length_drop,Nat.add_sub_of_le hst] at p1 p2
   exact HL z (hl.1 P hv) (HM q r.g hn2 p1 (Nat.le_trans p2 hn2))
  | none=>exact HL z (hl.2 hv) OX
end
end
section
theorem rh {c:Prop} [Decidable c] {a b:Out}(ha:a.v.pu=true) (hb:b.v.pu=true):(if c then a else b).v.pu=true:=by
 split
 ·exact ha
 ·exact hb
section
variable {how mode sh n start:Nat}{f i:Int}{which:Nat}{gs:List (List Wo)}{ps:List Pc}{wt:Wo}{hv wv pv wh:V}{x8 x9:Option V}{P:List Nat}
theorem HN {P:Option (List Nat)}:(vj f gs P).v.pu=true:=by cases P <;> rfl
theorem Qw (q:Fq f) (r:Row how mode sh f which gs ps wt) (hst:start≤gs.length) :
  (dB 6 (dM how mode f (aq gs) (.lst ((a9 sh gs).map Wo.v)) wt.v (.lst (ps.map Pc.v)) wh x8 (some (.int start)) none (some (noV f)) none none none) iq).tt (fF false (.ok (if 0<how∧mode=2∧wt.n=none then Out.raised (cc [49,120]) bu else vj f gs (dR how mode sh f gs ps wt start)).v)):=by
 by_cases c:0<how∧mode=2∧wt.n=none
 ·rw [if_pos c]
  have wd:=r.wd
  obtain ⟨c1,rfl,c3⟩:=c
  have ht:=yL wd c3
  have ew:wt.v=.tup [S [49,120],.none]:=by rw [Wo.v,ht,c3]; rfl
  rw [ew]
  exact MM c1 lr
 ·rw [if_neg c]
  exact OV c (Qv q r (fun h0=>⟨r.wd,fun e=>Option.isSome_iff_ne_none.mpr fun z=>c ⟨Nat.pos_of_ne_zero h0,e,z⟩⟩) hst)
theorem Qx (q:Fq f) (r:Row how mode sh f which gs ps wt) :
  (dB 2 (dM how mode f (aq gs) (.lst ((a9 sh gs).map Wo.v)) wt.v (.lst (ps.map Pc.v)) wh (some (S (bI which))) (some (mE (lx which ((gs.length:Int) - 1)))) none none none none none) iq).tt (fF false (.ok (if which=11 then Out.raised mP jU else if 3≤which∧gs.length≤d0 which gs.length then Out.gave (rg f) else if 0<how∧mode=2∧wt.n=none then Out.raised (cc [49,120]) bu else vj f gs (dR how mode sh f gs ps wt (d0 which gs.length))).v)):=by
 have el:(gs.map itS).length=gs.length:=List.length_map ..
 by_cases q11:which=11
 ·rw [if_pos q11]
  subst q11
  exact MK
 ·rw [if_neg q11]
  have hx:∃ i,lx which ((gs.length:Int) - 1)=some i:=by
   rcases Nat.lt_or_ge which 3 with z | z
   ·match which,z with
    | 0,_=>exact ⟨_,rfl⟩
    | 1,_=>exact ⟨_,rfl⟩
    | 2,_=>exact ⟨_,rfl⟩
   ·exact ae (uH (last:=(gs.length:Int) - 1) z (Nat.lt_of_le_of_ne (Nat.le_of_lt_succ r.hw) q11)) fun i e _=>⟨i,e⟩
  obtain ⟨i,hi⟩:=hx
  have e:d0 which gs.length=i.toNat:=by rw [d0,hi]; rfl
  rw [hi,e]
  refine OT q.b1 ?_
  by_cases c:3≤which∧gs.length≤i.toNat
  ·rw [if_pos c]
   exact ML (uI c.1 r.hw) (by rw [el]; exact c.2)
  ·rw [if_neg c]
   have hl:i.toNat≤gs.length:=by
    rcases Nat.lt_or_ge which 3 with z | z
    ·have e0:d0 which gs.length=0:=by
      match which,z with
      | 0,_=>rfl
      | 1,_=>rfl
      | 2,_=>rfl
     rw [← e,e0]; exact Nat.zero_le _
    ·exact Nat.le_of_not_le fun h=>c ⟨z,h⟩
   refine OU (fun h=>?_) (Qw q r hl)
   rw [el]
   rcases Nat.lt_or_ge which 3 with z | z
   ·rw [wK z] at h; exact ff h.symm
   ·exact Nat.not_le.mp fun h=>c ⟨z,h⟩
theorem HO (q:Fq f) (r:Row how mode sh f which gs ps wt):jc [.int how,.int mode,.int f,aq gs,.lst ((a9 sh gs).map Wo.v),wt.v,.lst (ps.map Pc.v),.int which] (.ok (yU how mode sh f which gs ps wt).v):=by
 have p1:=a8 og (a9 sh gs)
 have p2:=a8 (f:=Pc.v) (fun _=>rfl) ps
 have pp:(V.puL [.int how,.int mode,.int f,aq gs,.lst ((a9 sh gs).map Wo.v),wt.v,.lst (ps.map Pc.v),.int which]&&bo gW [.int how,.int mode,.int f,aq gs,.lst ((a9 sh gs).map Wo.v),wt.v,.lst (ps.map Pc.v),.int which])=true:=by
  rw [V.puL,V.puL,V.puL,V.puL,V.puL,V.puL,V.puL,uA,V.pu,p1,og,V.pu,p2]; rfl
 have el:(gs.map itS).length=gs.length:=List.length_map ..
 have ls:=ly (which:=which) (last:=(gs.length:Int) - 1) r.hw
 refine ⟨rh rfl (rh rfl (rh rfl (rh rfl HN))),pp,?_⟩
 show (dB 0 (dM how mode f (aq gs) (.lst ((a9 sh gs).map Wo.v)) wt.v (.lst (ps.map Pc.v)) (.int which) none none none none none none none) iq).tt (fF false _)
 unfold yU
 have m4:=q.m4
 cases hb:(how==3)&&(bit f 1||bit f 2) with
 | true =>
  rw [if_pos rfl]
  exact MJ (eq_of_beq (an hb).1) (m4.trans (an hb).2)
 | false =>
  rw [if_neg (by decide)]
  refine OR (fun h=>?_) (by rw [el]; exact ls) (Qx q r)
  rw [h] at hb
  exact m4.trans hb
theorem Co (r:Row how mode sh f which gs ps wt):cv [.lst ((wsN how mode sh f which gs ps wt).map S)] (.ok (yU how mode sh f which gs ps wt).v):=by
 have h:=yV r
 have hp:=a8 (f:=S) (fun _=>rfl) (wsN how mode sh f which gs ps wt)
 have hc:∀ w c,yU how mode sh f which gs ps wt=.raised w c→c.pu=true:=by
  intro w c e
  have k:(yU how mode sh f which gs ps wt).v.pu=true:=rh rfl (rh rfl (rh rfl (rh rfl HN)))
  rw [e,Out.v,cq,V.pu,V.puL,V.puL,V.puL,V.puL,V.puL] at k
  exact (an (an (an (an k).2).2).2).1
 generalize yU how mode sh f which gs ps wt=R at *
 cases R with
 | gave t=>exact Cm hp h
 | raised w c=>exact yW hp (hc w c rfl) h
end
end
section
section
variable {H:AH}{i n:Nat}{N:Int}{xs:List V}
noncomputable abbrev pn (H:AH) (i:Nat) (N:Int):AH:=H.set i (.list [.int N])
theorem MS (e:H[i]? = some (.list xs)) {v:V}{k:Nat}(h:xs[k]? = some v):aF H (.ref i) (.int (k:Nat))=some v:=by
 have q:Km H (.ref i) (k:Nat)=_:=cB e
 exact (congrArg Cv.v q).trans (congrArg Cv.v (cB (o:=cS xs (k:Nat)) h))
theorem OY (e:H[i]? = some (.list xs)) {v:V}{k:Nat}(h:k<xs.length):j3 H (.ref i) (.int (k:Nat)) v=some (H.set i (.list (xs.set k v))):=by
 have q:FN H (.ref i) (.int (k:Nat)) v=_:=cB e
 exact (congrArg Cv.v q).trans (congrArg Cv.v (fu (eH h)))
theorem eG (hi:i<H.length) (c:(Nat.blt 0 n&&Nat.ble n 999999)=true):fH [.ref i,.int n] (pn H i N) (.ok (.int (N.fmod n))) (pn H i (N.fdiv n)):=by
 have e:(pn H i N)[i]? = some (.list [.int N]):=List.getElem?_set_self hi
 have i0:=MS e (k:=0) rfl
 have f1:cC .Mod (.int N) (.int n)=some (.int (N.fmod n)):=congrArg Cv.v (fu c)
 have f2:cC .FloorDiv (.int N) (.int n)=some (.int (N.fdiv n)):=congrArg Cv.v (fu c)
 have s0:=OY e (v:=.int (N.fdiv n)) (k:=0) (Nat.zero_lt_one)
 rw [List.set_set] at s0
 exact goH [xV 1 i0,xV 1 f1,xV 1 i0,xV 1 f2,xH 1 s0] rfl
theorem Q3 (hi:i<H.length):(pn H i N).length=H.length:=List.length_set
theorem fm {a:Int}{m:Nat}(h:0<m):∃ j:Nat,a.fmod m=j∧j<m:=by
 have e:=Int.fmod_eq_emod_of_nonneg a (Int.natCast_nonneg m)
 have h1:=Int.emod_nonneg a (Int.natCast_ne_zero.mpr (Nat.ne_of_gt h))
 have h2:=Int.emod_lt_of_pos a (Int.natCast_pos.mpr h)
 rw [← e] at h1 h2
 obtain ⟨j,hj⟩:=Int.eq_ofNat_of_zero_le h1
 rw [hj] at h2 ⊢
 exact ⟨j,rfl,Int.ofNat_lt.mp h2⟩
noncomputable def qi (v:V):Prop:=(∃ t:List Nat,v=S t∧(∀ c∈t,c∈bv)∧t.length≤2)∨(∃ i:Nat,v=.int i)
theorem lz:dL [] (.ok (.lst (bT.map Wo.v))):=gR
theorem AW:(bv.map fun c=>eQ .sindex (S bv) [S [c]])=bv.map fun c=>some (.int (bv.idxOf c:Nat)):=by kernel_rfl
theorem J5 {c:Nat}(h:c∈bv):eQ .sindex (S bv) [S [c]]=some (.int (bv.idxOf c:Nat)):=List.map_inj_left.mp AW c h
variable {md tv rv sz:V}{x4 x9:Option V}{t made:List Nat}{k:Nat}{m':LV}{G':AH}
noncomputable abbrev lwM (md tv rv:V) (i:Nat) (x4:Option V) (t made:List Nat) (sz:V) (x9:Option V):LV:=[some md,some tv,some rv,some (.ref i),x4,some (S t),some (S bv),some (S made),some sz,x9]
noncomputable abbrev lwF:=fR ms 7 (at_ ju.body 4)
theorem HP (hi:i<H.length) (ht:∀ c∈t,c∈bv) (hm:made.length≤10):∃ c∈bv,∃ y9,∀ m' G',lwF xs (lwM md tv rv i (some (.int k)) t (made++[c]) sz y9) (pn H i (N.fdiv 10)) .next m' G'→lwF (.int k::xs) (lwM md tv rv i x4 t made sz x9) (pn H i N) .next m' G':=by
 have hd:=eG (N:=N) (n:=10) hi rfl
 have key:∀ old:Nat,∃ c∈bv,cC .Mod (.int ((old:Int)+N.fmod 10)) (.int 10)=some (.int (bv.idxOf c:Nat))∧aF (pn H i (N.fdiv 10)) (S bv) (.int (bv.idxOf c:Nat))=some (S [c]):=fun old=>by
  obtain ⟨j,e,hj⟩:=fm (a:=(old:Int)+N.fmod 10) (m:=10) (by decide)
  have k1:((List.range 10).all fun j=>bv.contains (bv.getD j 0)&&bv.idxOf (bv.getD j 0)==j)=true:=by kernel_rfl
  refine an2 (List.all_eq_true.mp k1 j (List.mem_range.mpr hj)) fun p q=>⟨bv.getD j 0,List.contains_iff_mem.mp p,?_,?_⟩
  ·rw [eq_of_beq q,← e]; rfl
  ·exact lh _ (by rw [eq_of_beq q,List.getD_eq_getElem?_getD,List.getElem?_eq_getElem (show j<bv.length from hj)]; rfl)
 have ad:∀ c,cC .Add (S made) (S [c])=some (S (made++[c])):=fun c=>t8 (Nat.le_trans (Nat.add_le_add_right hm 1) (by decide))
 by_cases q:k<t.length
 ·have it:=lh (pn H i N) (List.getElem?_eq_getElem q)
  have ix:=J5 (ht _ (List.getElem_mem q))
  obtain ⟨c,hc,f,jt⟩:=key (bv.idxOf t[k])
  have ad:=ad c
  refine ⟨c,hc,some (.int (bv.idxOf t[k]:Nat)),fun m' G' ih=>?_⟩
  clear key
  generalize bv.idxOf t[k]=old at *
  generalize bv.idxOf c=nw at *
  exact fI ih [xC 5 (ltT q),xV 3 it,xV 0 ix,xR 4 hd,xV 1 f,xV 0 jt,xV 0 ad]
 ·obtain ⟨c,hc,f,jt⟩:=key 0
  have ad:=ad c
  refine ⟨c,hc,some (.int 0),fun m' G' ih=>?_⟩
  clear key
  generalize bv.idxOf c=nw at *
  exact fI ih [xC 5 (ltF (Nat.not_lt.mp q)),xR 4 hd,xV 1 f,xV 0 jt,xV 0 ad]
theorem Du (hi:i<H.length) (ht:∀ c∈t,c∈bv):∀ (n k:Nat) (made:List Nat) (N:Int) (x4 x9:Option V),made.length+n≤10→(∀ c∈made,c∈bv) →
  ∃ (made':List Nat) (N':Int) (y4 y9:Option V),made'.length=made.length+n∧(∀ c∈made',c∈bv)∧lwF ((List.range' k n).map fun i=>.int (i:Nat)) (lwM md tv rv i x4 t made sz x9) (pn H i N) .next (lwM md tv rv i y4 t made' sz y9) (pn H i N')
 | 0,k,made,N,x4,x9,hl,hc=>⟨made,N,x4,x9,rfl,hc,fN⟩
 | n+1,k,made,N,x4,x9,hl,hc=>by
  obtain ⟨c,hcs,y9,w⟩:=HP (md:=md) (tv:=tv) (rv:=rv) (x4:=x4) (sz:=sz) (x9:=x9) (k:=k) (N:=N) (xs:=(List.range' (k+1) n).map fun i=>.int (i:Nat)) hi ht (Nat.le_trans (Nat.le_add_right ..) hl)
  have e:(made++[c]).length=made.length+1:=List.length_append
  obtain ⟨made',N',y4,y9',l1,l2,ih⟩:=Du hi ht n (k+1) (made++[c]) (N.fdiv 10) (some (.int k)) y9 (by rw [e,Nat.add_assoc,Nat.add_comm 1]; exact hl) fun d hd=>(List.mem_append.mp hd).elim (hc d) fun h=>List.mem_singleton.mp h ▸ hcs
  exact ⟨made',N',y4,y9',by rw [l1,e,Nat.add_assoc,Nat.add_comm 1],l2,w _ _ ih⟩
theorem ES:∀ made:List Nat,made.length≤2→(∀ c∈made,c∈bv)→made∈bV
 | [],_,_=>.head _
 | [a],_,h=>List.mem_append_left _ (List.mem_cons_of_mem _ (List.mem_map_of_mem (h a (.head _))))
 | [a,b],_,h=>List.mem_append_right _ (List.mem_flatMap.mpr ⟨a,h a (.head _),List.mem_map_of_mem (h b (.tail _ (.head _)))⟩)
 | _::_::_::l,hl,_=>absurd (show l.length+3≤2 from hl) (Nat.not_le.mpr (Nat.le_add_left 3 _))
end
end
section
section
variable {H:AH}{i mode:Nat}{N:Int}{tv:V}{right:Bool}{t:List Nat}{z p:Nat}
theorem AX:((List.range 12).all fun j=>(bT.getD j ⟨[],none⟩).n.isSome&&Nat.blt j bT.length)=true:=by kernel_rfl
theorem OZ {p m:Nat}(h:0<m):(p:Int).fmod m=(p % m:Nat):=by rw [Int.fmod_eq_emod_of_nonneg _ (Int.natCast_nonneg m)]; rfl
theorem AY {q:Nat}{w:Wo}(G:AH) (h:bT[q]? = some w):aF G (.lst (bT.map Wo.v)) (.int q)=some w.v:=bS G (by rw [List.getElem?_map,h]; rfl)
theorem O0 (hi:i<H.length) (hp:cC .Mod (.int ((z:Int)+N.fmod 48)) (.int 48)=some (.int (12:Nat))):bp [.int 2,.int z,.bool false,.ref i] (pn H i N) (.ok (⟨[49,120],none⟩:Wo).v) (pn H i (N.fdiv 48)):=by
 have hd:=eG (N:=N) (n:=48) hi rfl
 exact goH [xR 10 hd,xV 1 hp] rfl
theorem Qy {q:Nat}{w:Wo}(hi:i<H.length) (hp:cC .Mod (.int ((z:Int)+N.fmod 48)) (.int 48)=some (.int p)) (hr:p=12→right=true) (e:(p:Int).fmod 12=(q:Nat)) (hq:bT[q]? = some w):bp [.int 2,.int z,.bool right,.ref i] (pn H i N) (.ok w.v) (pn H i (N.fdiv 48)):=by
 have hd:=eG (N:=N) (n:=48) hi rfl
 have sp:=lz
 have it:=AY (pn H i (N.fdiv 48)) hq
 have fm:cC .Mod (.int p) (.int 12)=some (.int q):=by rw [← e]; rfl
 generalize bT.map Wo.v=sv at *
 by_cases c:p=12
 ·have hr:=hr c
  subst hr
  exact goH [xR 10 hd,xV 1 hp,xP 0 sp,xC 3 (nT c),xV 5 fm,xV 0 it] rfl
 ·exact goH [xR 10 hd,xV 1 hp,xP 0 sp,xC 3 (nF c),xC 1 (nF c),xV 1 fm,xV 0 it] rfl
theorem MT (hi:i<H.length) (hp:cC .Mod (.int ((0:Nat)+N.fmod 48)) (.int 48)=some (.int (12:Nat))):bp [.int 2,S t,.bool false,.ref i] (pn H i N) (.ok (⟨[49,120],none⟩:Wo).v) (pn H i (N.fdiv 48)):=by
 have hd:=eG (N:=N) (n:=48) hi rfl
 exact goH [xR 9 hd,xV 1 hp] rfl
theorem O3 {q:Nat}{w:Wo}(hi:i<H.length) (hp:cC .Mod (.int ((0:Nat)+N.fmod 48)) (.int 48)=some (.int p)) (hr:p=12→right=true) (e:(p:Int).fmod 12=(q:Nat)) (hq:bT[q]? = some w):bp [.int 2,S t,.bool right,.ref i] (pn H i N) (.ok w.v) (pn H i (N.fdiv 48)):=by
 have hd:=eG (N:=N) (n:=48) hi rfl
 have sp:=lz
 have it:=AY (pn H i (N.fdiv 48)) hq
 have fm:cC .Mod (.int p) (.int 12)=some (.int q):=by rw [← e]; rfl
 generalize bT.map Wo.v=sv at *
 by_cases c:p=12
 ·have hr:=hr c
  subst hr
  exact goH [xR 9 hd,xV 1 hp,xP 0 sp,xC 3 (nT c),xV 5 fm,xV 0 it] rfl
 ·exact goH [xR 9 hd,xV 1 hp,xP 0 sp,xC 3 (nF c),xC 1 (nF c),xV 1 fm,xV 0 it] rfl
theorem MU {sz:Nat}{made:List Nat}{N':Int}{y4 y9:Option V}(hi:i<H.length) (hm:¬ mode=2) (hz:cC .Mod (.int ((t.length:Int)+N.fmod 3)) (.int 3)=some (.int sz)) (hs:sz≤3)
  (hl:lwF ((List.range' 0 sz).map fun i=>.int (i:Nat)) (lwM (.int mode) (S t) (.bool right) i none t [] (.int sz) none) (pn H i (N.fdiv 3)) .next (lwM (.int mode) (S t) (.bool right) i y4 t made (.int sz) y9) (pn H i N')) :
  bp [.int mode,S t,.bool right,.ref i] (pn H i N) (.ok (⟨made,none⟩:Wo).v) (pn H i N'):=by
 have hd:=eG (N:=N) (n:=3) hi rfl
 have ir:=bR (a:=0) (b:=sz) (Nat.le_trans hs (by decide)) (Nat.zero_le _)
 rw [Nat.sub_zero] at ir
 generalize (List.range' 0 sz).map (fun i=>V.int (i:Nat))=R at *
 exact goH [xC 3 (nF hm),xR 8 hd,xV 1 hz,xL 2 ir,xS 0 hl] rfl
theorem MV {sz:Nat}{made:List Nat}{N':Int}{y4 y9:Option V}(hi:i<H.length) (hm:¬ mode=2) (hz:cC .Mod (.int ((0:Nat)+N.fmod 3)) (.int 3)=some (.int sz)) (hs:sz≤3)
  (hl:lwF ((List.range' 0 sz).map fun i=>.int (i:Nat)) (lwM (.int mode) (.int z) (.bool right) i none [] [] (.int sz) none) (pn H i (N.fdiv 3)) .next (lwM (.int mode) (.int z) (.bool right) i y4 [] made (.int sz) y9) (pn H i N')) :
  bp [.int mode,.int z,.bool right,.ref i] (pn H i N) (.ok (⟨made,none⟩:Wo).v) (pn H i N'):=by
 have hd:=eG (N:=N) (n:=3) hi rfl
 have ir:=bR (a:=0) (b:=sz) (Nat.le_trans hs (by decide)) (Nat.zero_le _)
 rw [Nat.sub_zero] at ir
 generalize (List.range' 0 sz).map (fun i=>V.int (i:Nat))=R at *
 exact goH [xC 3 (nF hm),xR 7 hd,xV 1 hz,xL 2 ir,xS 0 hl] rfl
theorem HQ (hi:i<H.length) (tv:V) (ht:(∃ t,tv=S t)∨∃ z:Nat,tv=.int z):∃ (w:Wo) (N':Int),w∈dom 2∧(right=true→cw 2 w)∧bp [.int (2:Nat),tv,.bool right,.ref i] (pn H i N) (.ok w.v) (pn H i N'):=by
 have key:∀ z:Nat,∃ p:Nat,cC .Mod (.int ((z:Int)+N.fmod 48)) (.int 48)=some (.int p):=fun z=>ae (fm (a:=(z:Int)+N.fmod 48) (m:=48) (by decide)) fun p e _=>⟨p,congrArg (fun i=>some (V.int i)) e⟩
 have sel:∀ p:Nat,(p=12→right=true)→∃ (q:Nat) (w:Wo),(p:Int).fmod 12=(q:Nat)∧bT[q]? = some w∧w∈bT∧w.n.isSome=true:=fun p _=>by
  have k:=an (List.all_eq_true.mp AX (p % 12) (List.mem_range.mpr (Nat.mod_lt _ (by decide))))
  have hl:p % 12<bT.length:=aX k.2
  have k1:=k.1
  rw [List.getD_eq_getElem?_getD,List.getElem?_eq_getElem hl] at k1
  exact ⟨p % 12,bT[p % 12],OZ (by decide),List.getElem?_eq_getElem hl,List.getElem_mem hl,k1⟩
 have last:(⟨[49,120],none⟩:Wo)∈bT:=List.mem_of_getElem? (i:=12) rfl
 rcases ht with ⟨t,rfl⟩ | ⟨z,rfl⟩
 ·obtain ⟨p,hp⟩:=key 0
  by_cases c:p=12∧right=false
  ·obtain ⟨rfl,rfl⟩:=c
   exact ⟨_,_,last,nofun,MT hi hp⟩
  ·have hr:p=12→right=true:=fun h=>Bool.not_eq_false _ ▸ fun h2=>c ⟨h,h2⟩
   obtain ⟨q,w,e,hq,hw,hn⟩:=sel p hr
   exact ⟨w,_,hw,fun _=>⟨hw,fun _=>hn⟩,O3 hi hp hr e hq⟩
 ·obtain ⟨p,hp⟩:=key z
  by_cases c:p=12∧right=false
  ·obtain ⟨rfl,rfl⟩:=c
   exact ⟨_,_,last,nofun,O0 hi hp⟩
  ·have hr:p=12→right=true:=fun h=>Bool.not_eq_false _ ▸ fun h2=>c ⟨h,h2⟩
   obtain ⟨q,w,e,hq,hw,hn⟩:=sel p hr
   exact ⟨w,_,hw,fun _=>⟨hw,fun _=>hn⟩,Qy hi hp hr e hq⟩
theorem AZ {l:Nat}(hm:¬ mode=2) (ht:∀ c∈t,c∈bv) (hi:i<H.length) (right:Bool) (md tv rv:V):∃ (sz:Nat) (made:List Nat) (N':Int) (y4 y9:Option V),sz≤3∧((⟨made,none⟩:Wo)∈dom mode∧(right=true→cw mode ⟨made,none⟩))∧cC .Mod (.int ((l:Int)+N.fmod 3)) (.int 3)=some (.int sz) ∧
  lwF ((List.range' 0 sz).map fun i=>.int (i:Nat)) (lwM md tv rv i none t [] (.int sz) none) (pn H i (N.fdiv 3)) .next (lwM md tv rv i y4 t made (.int sz) y9) (pn H i N'):=by
 obtain ⟨sz,e,hs⟩:=fm (a:=(l:Int)+N.fmod 3) (m:=3) (by decide)
 obtain ⟨made,N',y4,y9,l1,l2,w⟩:=Du (md:=md) (tv:=tv) (rv:=rv) (sz:=.int sz) hi ht sz 0 [] (N.fdiv 3) none none (by rw [List.length_nil,Nat.zero_add]; exact Nat.le_trans (Nat.le_of_lt hs) (by decide)) nofun
 rw [List.length_nil,Nat.zero_add] at l1
 have hd:(⟨made,none⟩:Wo)∈dom mode:=by
  rw [dom,if_neg hm]
  exact List.mem_map_of_mem (ES made (by rw [l1]; exact Nat.le_of_lt_succ hs) l2)
 exact ⟨sz,made,N',y4,y9,Nat.le_of_lt hs,⟨hd,fun _=>⟨hd,fun h=>absurd h hm⟩⟩,congrArg (fun i=>some (V.int i)) e,w⟩
theorem wL (hi:i<H.length) (ht:qi tv):∃ (w:Wo) (N':Int),w∈dom mode∧(right=true→cw mode w)∧bp [.int mode,tv,.bool right,.ref i] (pn H i N) (.ok w.v) (pn H i N'):=by
 by_cases hm:mode=2
 ·subst hm
  exact HQ hi tv (ht.imp (fun ⟨t,e,_⟩=>⟨t,e⟩) id)
 ·rcases ht with ⟨t,rfl,h1,h2⟩ | ⟨z,rfl⟩
  ·obtain ⟨sz,made,N',y4,y9,hs,hd,hz,w⟩:=AZ (l:=t.length) (N:=N) (H:=H) hm h1 hi right (.int mode) (S t) (.bool right)
   exact ⟨_,N',hd.1,hd.2,MU hi hm hz hs w⟩
  ·obtain ⟨sz,made,N',y4,y9,hs,hd,hz,w⟩:=AZ (t:=[]) (l:=0) (N:=N) (H:=H) hm nofun hi right (.int mode) (.int z) (.bool right)
   exact ⟨_,N',hd.1,hd.2,MV hi hm hz hs w⟩
end
end
section
structure ke where
 a0:Nat
 a1:Nat
 a2:Nat
 a3:Nat
 a4:Nat
 ws:List V
 pi:List Nat
 a7:Nat
 wv:V
noncomputable def ke.v (r:ke):V:=.tup [.int r.a0,.int r.a1,.int r.a2,.int r.a3,.int r.a4,.lst r.ws,be r.pi,.int r.a7,r.wv]
structure A0 (r:ke):Prop where
 w:∀ v∈r.ws,qi v
 n:r.ws.length≤6
 p:r.pi.length≤10
 v:qi r.wv
noncomputable def wN (sh:Nat):Nat:=if sh=0 then 1 else 2
noncomputable def mN (sh:Nat):Nat:=if sh=0 then 7 else 4
noncomputable def yX:List V:=[S [],S [],S [],S [],S [],S []]
theorem yY {E:V→AH→Tr (Option V × AH)}{x v:V}{xs vs:List V}{G G1 G':AH}(h:(E x G).tt fun p=>p=(some v,G1)) (q:cQ E xs G1 vs G'):cQ E (x::xs) G (v::vs) G':=Tr.tt_mono (fun p e=>by subst e; exact ⟨_,rfl,q⟩) _ h
theorem HR {E:V→AH→Tr (Option V × AH)}{x:V}{xs vs:List V}{G G1 G':AH}(h:(E x G).tt fun p=>p=(none,G1)) (q:cQ E xs G1 vs G'):cQ E (x::xs) G vs G':=Tr.tt_mono (fun p e=>by subst e; exact q) _ h
section
variable {α:Type}{L:α→Prop}{r:ke}{H:AH}{i how mode sh fl which size n k:Nat}{N N1 N2 N3 N4 N5 z1 z2 z3 z4 z5:Int}{xs:List V}{c:Fl→LV→AH→Tr α}{x12:V}{ws:List Wo}
noncomputable abbrev Dr (H:AH) (i m:Nat) (N z N':Int):Prop:=fH [.ref i,.int m] (pn H i N) (.ok (.int z)) (pn H i N')
noncomputable abbrev Mo (a z:Int) (m k:Nat):Prop:=cC .Mod (.int (a+z)) (.int m)=some (.int k)
theorem dr (hi:i<H.length) (m:Nat) (hm:(Nat.blt 0 m&&Nat.ble m 999999)=true) (a N:Int):∃ (z N':Int) (k:Nat),Dr H i m N z N'∧Mo a z m k∧k<m:=by
 obtain ⟨k,e,hk⟩:=fm (a:=a+N.fmod m) (m:=m) (aX (an hm).1)
 exact ⟨_,_,k,eG hi hm,(congrArg Cv.v (fu hm)).trans (congrArg (fun i=>some (V.int i)) e),hk⟩
noncomputable abbrev rM (r:ke) (i how mode sh fl which:Nat) (xs:LV):LV:=some r.v::some (.ref i)::some (.int how)::some (.int mode)::some (.int sh)::some (.int fl)::some (.int which)::some (.int (wN sh))::xs
noncomputable abbrev rB (i:Nat) (m:LV) (G:AH) (k:Fl→LV→AH→Tr α):Tr α:=evB (evS 8 bU) (bB.body.drop i) m G k
theorem r0 (d1:Dr H i 4 N z1 N1) (d2:Dr H i 3 N1 z2 N2) (d3:Dr H i 3 N2 z3 N3) (d4:Dr H i 128 N3 z4 N4) (d5:Dr H i 12 N4 z5 N5) (e1:Mo r.a0 z1 4 how) (e2:Mo r.a1 z2 3 mode) (e3:Mo r.a2 z3 3 sh) (e4:Mo r.a3 z4 128 fl) (e5:Mo r.a4 z5 12 which)
  (q:(rB 3 (rM r i how mode sh fl which [none,none,none,none,none,none,none,none,none,none,none,none,none,none]) (pn H i N5) c).tt L):(rB 0 [some r.v,some (.ref i),none,none,none,none,none,none,none,none,none,none,none,none,none,none,none,none,none,none,none,none] (pn H i N) c).tt L:=by
 by_cases s:sh=0
 ·have ew:wN sh=1:=if_pos s
  rw [rM,ew] at q
  exact goK q 0 [xR 3 d1,xV 1 e1,xR 3 d2,xV 1 e2,xR 3 d3,xV 1 e3,xR 3 d4,xV 1 e4,xR 3 d5,xV 1 e5,xC 3 (nT s)]
 ·have ew:wN sh=2:=if_neg s
  rw [rM,ew] at q
  exact goK q 0 [xR 3 d1,xV 1 e1,xR 3 d2,xV 1 e2,xR 3 d3,xV 1 e3,xR 3 d4,xV 1 e4,xR 3 d5,xV 1 e5,xC 3 (nF s)]
theorem r3 (hl:r.ws.length≤6) (d1:Dr H i (mN sh) N z1 N1) (e1:Mo ((r.ws.length:Int).fdiv (wN sh)) z1 (mN sh) size)
  (q:(rB 6 (rM r i how mode sh fl which [some (.int (mN sh)),some (.int size),some (.lst (r.ws++yX)),none,none,none,none,none,none,none,none,none,none,none]) (pn H i N1) c).tt L):(rB 3 (rM r i how mode sh fl which [none,none,none,none,none,none,none,none,none,none,none,none,none,none]) (pn H i N) c).tt L:=by
 have al:=yq (vs:=r.ws) (us:=yX) (Nat.le_trans (Nat.add_le_add_right hl 6) (by decide))
 by_cases s:sh=0
 ·have ew:wN sh=1:=if_pos s
  have em:mN sh=7:=if_pos s
  rw [rM,ew,em] at q
  rw [rM,ew]
  rw [em] at d1
  rw [em,ew] at e1
  exact goK q 0 [xC 3 (nT s),xR 7 d1,xV 2 e1,xV 3 al]
 ·have ew:wN sh=2:=if_neg s
  have em:mN sh=4:=if_neg s
  rw [rM,ew,em] at q
  rw [rM,ew]
  rw [em] at d1
  rw [em,ew] at e1
  exact goK q 0 [xC 3 (nF s),xR 7 d1,xV 2 e1,xV 3 al]
end
end
section
theorem J6:((List.range 101).all fun a=>(List.range 101).all fun b=>w4 (a:Nat) (b:Nat))=true:=by kernel_rfl
theorem yZ {a b:Nat}(ha:a≤100) (hb:b≤100):cC .Mult (.int a) (.int b)=some (.int (a*b:Nat)):=by
 have k:=List.all_eq_true.mp (List.all_eq_true.mp J6 a (List.mem_range.mpr (Nat.lt_succ_of_le ha))) b (List.mem_range.mpr (Nat.lt_succ_of_le hb))
 exact congrArg Cv.v (fu k)
section
variable {α:Type}{L:α→Prop}{r:ke}{H G:AH}{i how mode sh fl which size n k:Nat}{N N1 N2 N3 N4 N5 z1 z2 z3 z4 z5:Int}{xs told:List V}{c:Fl→LV→AH→Tr α}{x8 x9 x10 x11 x12:Option V}{ws:List Wo}{w:Wo}{P:List Nat}
noncomputable abbrev rE (j:Nat):Expr:=sE (at_ bB.body j)
noncomputable abbrev rC (j:Nat) (r:ke) (i how mode sh fl which:Nat) (xs:LV):V→AH→Tr (Option V × AH):=cR bU 23 (rE j) (rM r i how mode sh fl which xs)
theorem e6 {v:V}{x11 x12 x13 x14 x15 x16 x17 x18 x19 x20 x21:Option V}(hk:told[k]? = some v) (hs:bp [.int mode,v,.bool (decide ((1:Int)<(how:Nat))),.ref i] (pn H i N) (.ok w.v) (pn H i N1)):(rC 6 r i how mode sh fl which [x8,x9,some (.lst told),x11,x12,x13,x14,x15,x16,x17,x18,x19,x20,x21] (.int k) (pn H i N)).tt fun p=>p=(some w.v,pn H i N1):=by
 have it:=bS (pn H i N) hk
 exact goC [xV 3 it,xR 3 hs]
theorem uK (hi:i<H.length) (ht:∀ v∈told,qi v):∀ (n k:Nat) (N:Int),k+n≤told.length →
  ∃ (ws:List Wo) (N':Int),ws.length=n∧(∀ w∈ws,w∈dom mode∧(1<how→cw mode w))∧cQ (rC 6 r i how mode sh fl which [x8,x9,some (.lst told),none,none,none,none,none,none,none,none,none,none,none]) ((List.range' k n).map fun i=>.int (i:Nat)) (pn H i N) (ws.map Wo.v) (pn H i N')
 | 0,k,N,h=>⟨[],N,rfl,nofun,rfl,rfl⟩
 | n+1,k,N,h=>by
  have hk:k<told.length:=Nat.lt_of_lt_of_le (Nat.lt_add_of_pos_right (Nat.succ_pos n)) h
  obtain ⟨w,N1,hw,hr,hs⟩:=wL (N:=N) (mode:=mode) (right:=decide ((1:Int)<(how:Nat))) hi (ht _ (List.getElem_mem hk))
  obtain ⟨ws,N',l1,l2,ih⟩:=uK hi ht n (k+1) N1 (by rw [Nat.add_assoc,Nat.add_comm 1]; exact h)
  refine ⟨w::ws,N',congrArg (·+1) l1,fun x hx=>?_,?_⟩
  ·rcases List.mem_cons.mp hx with rfl | hx
   ·exact ⟨hw,fun h=>hr (ltT h)⟩
   ·exact l2 x hx
  ·exact yY (e6 (List.getElem?_eq_getElem hk) hs) ih
theorem r6 (m1:cC .Mult (.int size) (.int (wN sh))=some (.int n)) (hn:n≤100) (hc:cQ (rC 6 r i how mode sh fl which [x8,some (.int size),x10,none,none,none,none,none,none,none,none,none,none,none]) ((List.range' 0 n).map fun i=>.int (i:Nat)) G xs H)
  (q:(rB 7 (rM r i how mode sh fl which [x8,some (.int size),x10,some (.lst xs),none,none,none,none,none,none,none,none,none,none]) H c).tt L):(rB 6 (rM r i how mode sh fl which [x8,some (.int size),x10,none,none,none,none,none,none,none,none,none,none,none]) G c).tt L:=by
 have ir:=bR (a:=0) (b:=n) (Nat.le_trans hn (by decide)) (Nat.zero_le _)
 rw [Nat.sub_zero] at ir
 generalize (List.range' 0 n).map (fun i=>V.int (i:Nat))=R at *
 exact goK q 0 [xV 2 m1,xL 1 ir,xQ 0 hc]
theorem e7 {b:Bool}(hk:ws[k]? = some w) (hb:decide ((9:Int)<(w.t.length:Nat))=b):(rC 7 r i how mode sh fl which [x8,x9,x10,some (.lst (ws.map Wo.v)),none,none,none,none,none,none,none,none,none,none] (.int k) G).tt fun p=>p=(if b=true then some (.int k) else none,G):=by
 have it:aF G (.lst (ws.map Wo.v)) (.int k)=some w.v:=bS G (by rw [List.getElem?_map,hk]; rfl)
 generalize ws.map Wo.v=wv at *
 cases b with
 | true=>exact goC [xV 2 it,xC 4 hb]
 | false=>exact goC [xV 2 it,xC 4 hb]
theorem uL:∀ (n k:Nat),k+n≤ws.length→∃ P:List Nat,P.length≤n∧(∀ j∈P,∃ w,ws[j]? = some w∧9<w.t.length)∧cQ (rC 7 r i how mode sh fl which [x8,x9,x10,some (.lst (ws.map Wo.v)),none,none,none,none,none,none,none,none,none,none]) ((List.range' k n).map fun i=>.int (i:Nat)) G (P.map fun i=>.int (i:Nat)) G
 | 0,k,h=>⟨[],Nat.le_refl _,nofun,rfl,rfl⟩
 | n+1,k,h=>by
  have hk:k<ws.length:=Nat.lt_of_lt_of_le (Nat.lt_add_of_pos_right (Nat.succ_pos n)) h
  have e:=List.getElem?_eq_getElem hk
  obtain ⟨P,h1,h2,ih⟩:=uL n (k+1) (by rw [Nat.add_assoc,Nat.add_comm 1]; exact h)
  by_cases z:9<ws[k].t.length
  ·refine ⟨k::P,Nat.succ_le_succ h1,fun j hj=>?_,yY (e7 e (ltT z)) ih⟩
   rcases List.mem_cons.mp hj with rfl | hj
   ·exact ⟨_,e,z⟩
   ·exact h2 j hj
  ·exact ⟨P,Nat.le_succ_of_le h1,h2,HR (e7 e (ltF (Nat.not_lt.mp z))) ih⟩
theorem r7 (hn:ws.length≤100) (hc:cQ (rC 7 r i how mode sh fl which [x8,x9,x10,some (.lst (ws.map Wo.v)),none,none,none,none,none,none,none,none,none,none]) ((List.range' 0 ws.length).map fun i=>.int (i:Nat)) G xs G)
  (q:(rB 8 (rM r i how mode sh fl which [x8,x9,x10,some (.lst (ws.map Wo.v)),some (.lst xs),none,none,none,none,none,none,none,none,none]) G c).tt L):(rB 7 (rM r i how mode sh fl which [x8,x9,x10,some (.lst (ws.map Wo.v)),none,none,none,none,none,none,none,none,none,none]) G c).tt L:=by
 have e:(ws.map Wo.v).length=ws.length:=List.length_map ..
 have ir:=bR (a:=0) (b:=(ws.map Wo.v).length) (by rw [e]; exact Nat.le_trans hn (by decide)) (Nat.zero_le _)
 rw [Nat.sub_zero] at ir
 rw [← e] at hc
 generalize ws.map Wo.v=wv at *
 generalize (List.range' 0 wv.length).map (fun i=>V.int (i:Nat))=R at *
 exact goK q 0 [xL 3 ir,xQ 0 hc]
noncomputable def ten:Wo:=⟨[49,48],some 10⟩
theorem e8 {d:Nat}{b:Bool}(hd:d=if how=0 then 0 else 1) (hP:P.length≤100) (hk:ws[k]? = some w) (hb:aG G .In (.int k) (be (P.drop d))=some b):(rC 8 r i how mode sh fl which [x8,x9,x10,some (.lst (ws.map Wo.v)),some (be P),none,none,none,none,none,none,none,none,none] (.int k) G).tt fun p=>p=(some (if b=true then ten else w).v,G):=by
 have it:aF G (.lst (ws.map Wo.v)) (.int k)=some w.v:=bS G (by rw [List.getElem?_map,hk]; rfl)
 have sl:=uj (vs:=P.map fun i=>V.int (i:Nat)) (i:=d) (Nat.le_trans (Nat.le_of_eq List.length_drop) (Nat.le_trans (Nat.sub_le ..) (by rw [List.length_map]; exact Nat.le_trans hP (by decide))))
 have sl:bG (be P) (some (.int d)) none none=some (be (P.drop d)):=by rw [be,be,List.map_drop]; exact sl
 generalize be (P.drop d)=nd at *
 generalize be P=np at *
 generalize ws.map Wo.v=wv at *
 by_cases h0:how=0
 ·rw [if_pos h0] at hd
  subst hd
  cases b with
  | true=>exact goC [xC 5 (nT h0),xV 0 sl,xB 0 hb]
  | false=>exact goC [xC 5 (nT h0),xV 0 sl,xB 0 hb,xV 4 it]
 ·rw [if_neg h0] at hd
  subst hd
  cases b with
  | true=>exact goC [xC 5 (nF h0),xV 0 sl,xB 0 hb]
  | false=>exact goC [xC 5 (nF h0),xV 0 sl,xB 0 hb,xV 4 it]
theorem r8 (hn:ws.length≤100) (hc:cQ (rC 8 r i how mode sh fl which [x8,x9,x10,some (.lst (ws.map Wo.v)),x12,none,none,none,none,none,none,none,none,none]) ((List.range' 0 ws.length).map fun i=>.int (i:Nat)) G xs G)
  (q:(rB 9 (rM r i how mode sh fl which [x8,x9,x10,some (.lst xs),x12,none,none,none,none,none,none,none,none,none]) G c).tt L):(rB 8 (rM r i how mode sh fl which [x8,x9,x10,some (.lst (ws.map Wo.v)),x12,none,none,none,none,none,none,none,none,none]) G c).tt L:=by
 have e:(ws.map Wo.v).length=ws.length:=List.length_map ..
 have ir:=bR (a:=0) (b:=(ws.map Wo.v).length) (by rw [e]; exact Nat.le_trans hn (by decide)) (Nat.zero_le _)
 rw [Nat.sub_zero] at ir
 rw [← e] at hc
 generalize ws.map Wo.v=wv at *
 generalize (List.range' 0 wv.length).map (fun i=>V.int (i:Nat))=R at *
 exact goK q 0 [xL 3 ir,xQ 0 hc]
end
end
section
section
variable {α:Type}{L:α→Prop}{r:ke}{H G:AH}{i how mode sh fl which size n k many pick:Nat}{N N1 N2 N3 z1 z2:Int}{xs told:List V}{c:Fl→LV→AH→Tr α}{x8 x9 x10 x11 x12 x13 x14 x15 x16 x17:Option V}{ws:List Wo}{w:Wo}{P:List Nat}{gs gs':List (List Wo)}{p:Pc}{hv wv pv:V}
noncomputable def qj (sh:Nat) (ws:List Wo) (k:Nat):List Wo:=(ws.drop (k*wN sh)).take (wN sh)
theorem HS:wN sh≤100:=by unfold wN; split <;> decide
theorem e9 (hk:k≤99) (hn:ws.length≤100):(rC 9 r i how mode sh fl which [x8,x9,x10,some (.lst (ws.map Wo.v)),x12,none,none,none,none,none,none,none,none,none] (.int k) G).tt fun p=>p=(some (ip (qj sh ws k)),G):=by
 have m1:=yZ (a:=k) (b:=wN sh) (Nat.le_trans hk (by decide)) HS
 have m2:cC .Mult (.int ((k:Int)+1)) (.int (wN sh))=some (.int ((k+1)*wN sh:Nat)):=yZ (a:=k+1) (b:=wN sh) (Nat.succ_le_succ hk) HS
 have e1:(k+1)*wN sh - k*wN sh=wN sh:=by rw [Nat.add_mul,Nat.one_mul,Nat.add_sub_cancel_left]
 have sl:=GZ (vs:=ws.map Wo.v) (i:=k*wN sh) (j:=(k+1)*wN sh) (Nat.le_trans (Nat.le_of_eq List.length_take) (Nat.le_trans (Nat.min_le_right ..) (Nat.le_trans (Nat.le_of_eq List.length_drop) (Nat.le_trans (Nat.sub_le ..) (by rw [List.length_map]; exact Nat.le_trans hn (by decide))))))
 rw [e1,← List.map_drop,← List.map_take] at sl
 have sl:bG (.lst (ws.map Wo.v)) (some (.int (k*wN sh:Nat))) (some (.int ((k+1)*wN sh:Nat))) none=some (ip (qj sh ws k)):=sl
 generalize ip (qj sh ws k)=gv at *
 generalize ws.map Wo.v=wv at *
 generalize ((k+1)*wN sh:Nat)=y2 at *
 generalize (k*wN sh:Nat)=y1 at *
 exact goC [xV 3 m1,xV 3 m2,xV 0 sl]
theorem r9 (hn:size≤99) (hw:ws.length≤100) (q:(rB 10 (rM r i how mode sh fl which [x8,some (.int size),x10,some (.lst (ws.map Wo.v)),x12,some (aA ((List.range' 0 size).map (qj sh ws))),none,none,none,none,none,none,none,none]) G c).tt L) :
  (rB 9 (rM r i how mode sh fl which [x8,some (.int size),x10,some (.lst (ws.map Wo.v)),x12,none,none,none,none,none,none,none,none,none]) G c).tt L:=by
 have ir:=bR (a:=0) (b:=size) (Nat.le_trans hn (by decide)) (Nat.zero_le _)
 rw [Nat.sub_zero] at ir
 have hc:cQ (rC 9 r i how mode sh fl which [x8,some (.int size),x10,some (.lst (ws.map Wo.v)),x12,none,none,none,none,none,none,none,none,none]) ((List.range' 0 size).map fun i=>.int (i:Nat)) G ((List.range' 0 size).map fun k=>ip (qj sh ws k)) G:=dj (List.range' 0 size) fun k hk=>e9 (by rw [List.mem_range'_1,Nat.zero_add] at hk; exact Nat.le_trans (Nat.le_of_lt hk.2) hn) hw
 rw [aA,List.map_map] at q
 have q:(rB 10 (rM r i how mode sh fl which [x8,some (.int size),x10,some (.lst (ws.map Wo.v)),x12,some (.lst ((List.range' 0 size).map fun k=>ip (qj sh ws k))),none,none,none,none,none,none,none,none]) G c).tt L:=q
 generalize ((List.range' 0 size).map fun k=>ip (qj sh ws k))=gv at *
 generalize (List.range' 0 size).map (fun i=>V.int (i:Nat))=R at *
 generalize ws.map Wo.v=wv at *
 exact goK q 0 [xL 2 ir,xQ 0 hc]
theorem r10 (h:1<how→cY [.int mode,.int sh,.int fl,aA gs] (.ok (aA gs'))) (h':¬ 1<how→gs'=gs) (q:(rB 11 (rM r i how mode sh fl which [x8,x9,x10,x11,x12,some (aA gs'),none,none,none,none,none,none,none,none]) G c).tt L) :
  (rB 10 (rM r i how mode sh fl which [x8,x9,x10,x11,x12,some (aA gs),none,none,none,none,none,none,none,none]) G c).tt L:=by
 by_cases z:1<how
 ·have hi:=h z
  unfold aA at *
  generalize gs.map ip=g1 at *
  generalize gs'.map ip=g2 at *
  exact goK q 3 [xC 3 (ltT z),xP 4 hi]
 ·obtain rfl:=h' z
  generalize aA gs'=g1 at *
  exact goK q 0 [xC 3 (ltF (Nat.not_lt.mp z))]
theorem e11 {g:List Wo}(hg:Grp mode sh g):(rC 11 r i how mode sh fl which [x8,x9,x10,x11,x12,x13,none,none,none,none,none,none,none,none] (ip g) G).tt fun p=>p=(some (aN sh g).v,G):=by
 refine hg.el (fun a s _ e=>?_) fun a b s _ _ e=>?_
 ·subst e
  have s2:¬ sh=2:=fun h=>by rw [h] at s; exact absurd s (by decide)
  rw [show aN sh [a]=a from if_neg s2]
  exact goC [xC 4 (nF s2)]
 ·subst e
  by_cases s2:sh=2
  ·rw [show aN sh [a,b]=b from if_pos s2]
   exact goC [xC 4 (nT s2)]
  ·rw [show aN sh [a,b]=a from if_neg s2]
   exact goC [xC 4 (nF s2)]
theorem r11 (hg:∀ g∈gs,Grp mode sh g) (q:(rB 12 (rM r i how mode sh fl which [x8,x9,x10,x11,x12,some (aA gs),some (.lst ((a9 sh gs).map Wo.v)),none,none,none,none,none,none,none]) G c).tt L) :
  (rB 11 (rM r i how mode sh fl which [x8,x9,x10,x11,x12,some (aA gs),none,none,none,none,none,none,none,none]) G c).tt L:=by
 have hc:cQ (rC 11 r i how mode sh fl which [x8,x9,x10,x11,x12,some (aA gs),none,none,none,none,none,none,none,none]) (gs.map ip) G (gs.map fun g=>(aN sh g).v) G:=dj gs fun g h=>e11 (hg g h)
 have e:(a9 sh gs).map Wo.v=gs.map fun g=>(aN sh g).v:=by rw [a9,List.map_map]; rfl
 rw [e] at q
 generalize (gs.map fun g=>(aN sh g).v)=hv at *
 unfold aA at *
 generalize gs.map ip=g1 at *
 exact goK q 0 [xQ 2 hc]
theorem r12 (d:Dr H i 4 N z1 N1) (e:Mo ((r.pi.map fun k=>V.int (k:Nat)).length:Nat) z1 4 many) (q:(rB 13 (rM r i how mode sh fl which [x8,x9,x10,x11,x12,x13,x14,some (.int many),none,none,none,none,none,none]) (pn H i N1) c).tt L) :
  (rB 12 (rM r i how mode sh fl which [x8,x9,x10,x11,x12,x13,x14,none,none,none,none,none,none,none]) (pn H i N) c).tt L:=by
 exact goK q 0 [xR 4 d,xV 1 e]
theorem e13 {a:Nat}(ha:a=if k<r.pi.length then r.pi.getD k 0 else 0) (d:Dr H i 12 N z1 N1) (e:Mo a z1 12 n) (hp:pcs[n]? = some p):(rC 13 r i how mode sh fl which [x8,x9,x10,x11,x12,x13,x14,x15,none,none,none,none,none,none] (.int k) (pn H i N)).tt fun q=>q=(some p.v,pn H i N1):=by
 have ps:=AK
 have it:aF (pn H i N1) (.lst (pcs.map Pc.v)) (.int n)=some p.v:=bS _ (by rw [List.getElem?_map,hp]; rfl)
 have el:(r.pi.map fun k=>V.int (k:Nat)).length=r.pi.length:=List.length_map ..
 generalize pcs.map Pc.v=pv at *
 generalize p.v=p1 at *
 by_cases z:k<r.pi.length
 ·rw [if_pos z] at ha
  have ik:aF (pn H i N) (be r.pi) (.int k)=some (.int a):=bS _ (by rw [List.getElem?_map,ha,List.getD_eq_getElem?_getD,List.getElem?_eq_getElem z]; rfl)
  rw [← el] at z
  exact goC [xP 0 ps,xC 6 (ltT z),xV 3 ik,xR 1 d,xV 1 e,xV 0 it]
 ·rw [if_neg z] at ha
  subst ha
  rw [← el] at z
  exact goC [xP 0 ps,xC 6 (ltF (Nat.not_lt.mp z)),xR 1 d,xV 1 e,xV 0 it]
theorem r13 {ps:List Pc}(hn:many≤100) (hc:cQ (rC 13 r i how mode sh fl which [x8,x9,x10,x11,x12,x13,x14,some (.int many),none,none,none,none,none,none]) ((List.range' 0 many).map fun i=>.int (i:Nat)) H (ps.map Pc.v) G) (q:(rB 14 (rM r i how mode sh fl which [x8,x9,x10,x11,x12,x13,x14,some (.int many),some (.lst (ps.map Pc.v)),none,none,none,none,none]) G c).tt L) :
  (rB 13 (rM r i how mode sh fl which [x8,x9,x10,x11,x12,x13,x14,some (.int many),none,none,none,none,none,none]) H c).tt L:=by
 have ir:=bR (a:=0) (b:=many) (Nat.le_trans hn (by decide)) (Nat.zero_le _)
 rw [Nat.sub_zero] at ir
 generalize ps.map Pc.v=pv at *
 generalize (List.range' 0 many).map (fun i=>V.int (i:Nat))=R at *
 exact goK q 0 [xL 2 ir,xQ 0 hc]
theorem r14 (d:Dr H i 8 N z1 N1) (e:Mo r.a7 z1 8 pick) (q:(rB 15 (rM r i how mode sh fl which [x8,x9,x10,x11,x12,x13,x14,x15,x16,some (.int pick),none,none,none,none]) (pn H i N1) c).tt L) :
  (rB 14 (rM r i how mode sh fl which [x8,x9,x10,x11,x12,x13,x14,x15,x16,none,none,none,none,none]) (pn H i N) c).tt L:=by
 exact goK q 0 [xR 3 d,xV 1 e]
theorem Qz {ws:List Wo}(h:ws[pick]? = some w) (q:(rB 16 (rM r i how mode sh fl which [x8,x9,x10,x11,x12,x13,some (.lst (ws.map Wo.v)),x15,x16,some (.int pick),some w.v,none,none,none]) G c).tt L) :
  (rB 15 (rM r i how mode sh fl which [x8,x9,x10,x11,x12,x13,some (.lst (ws.map Wo.v)),x15,x16,some (.int pick),none,none,none,none]) G c).tt L:=by
 have lt:pick<(ws.map Wo.v).length:=by rw [List.length_map]; exact bc h
 have it:aF G (.lst (ws.map Wo.v)) (.int pick)=some w.v:=bS G (by rw [List.getElem?_map,h]; rfl)
 generalize ws.map Wo.v=wv at *
 generalize w.v=w1 at *
 exact goK q 0 [xC 5 (ltT lt),xV 2 it]
theorem QA {ws:List Wo}(h:ws.length≤pick) (hs:bp [.int mode,r.wv,.bool false,.ref i] H (.ok wv) G) (q:(rB 16 (rM r i how mode sh fl which [x8,x9,x10,x11,x12,x13,some (.lst (ws.map Wo.v)),x15,x16,some (.int pick),some wv,none,none,none]) G c).tt L) :
  (rB 15 (rM r i how mode sh fl which [x8,x9,x10,x11,x12,x13,some (.lst (ws.map Wo.v)),x15,x16,some (.int pick),none,none,none,none]) H c).tt L:=by
 have lt:(ws.map Wo.v).length≤pick:=by rw [List.length_map]; exact h
 generalize ws.map Wo.v=hv at *
 exact goK q 0 [xC 5 (ltF lt),xR 4 hs]
end
end
section
theorem wM:∀ l:List (List Nat),cf [] l=l.flatten
 | []=>rfl
 | [x]=>(List.append_nil x).symm
 | x::y::r=>by
  show x++[]++cf [] (y::r)=_
  rw [wM (y::r),List.append_nil]; rfl
theorem J7:(pcs.all fun p=>Nat.ble p.k.w.length 5)=true:=by kernel_rfl
theorem r5 {a b:List Nat}(ha:okT a=true) (hb:okT b=true):okT (a++b)=true:=by
 unfold okT PyData.strOk at *
 rw [← Array.all_toList] at *
 show (a++b).all _=true
 rw [List.all_append]
 exact Bool.and_eq_true_iff.mpr ⟨ha,hb⟩
theorem J8 {a:List Nat}(h:okT a=true):okT (enc a)=true:=by
 unfold enc
 split
 ·exact r5 (a:=[123]) (by kernel_rfl) (r5 h (b:=[125]) (by kernel_rfl))
 ·exact h
theorem A2:∀ {l:List (List Nat)},(∀ w∈l,okT w=true)→okT (cf [32] l)=true
 | [],_=>by kernel_rfl
 | [a],h=>h a (.head _)
 | a::b::r,h=>r5 (r5 (h a (.head _)) (b:=[32]) (by kernel_rfl)) (A2 fun w hw=>h w (.tail _ hw))
theorem wO {t:List Nat}(h:okT t=true):kc (Out.gave t).v=true:=by
 have h1:okT [103,97,118,101]=true:=by kernel_rfl
 show (((true&&okT [103,97,118,101])&&(okT t&&true))&&_)=true
 rw [h,h1]; rfl
section
variable {how mode sh:Nat}{f:Int}{which start:Nat}{gs:List (List Wo)}{ps:List Pc}{wt:Wo}{P:List Nat}{all inl:Bool}
theorem HT (hg:∀ g∈gs,Grp mode sh g) (hn:gs.length≤20) (hP:∀ k∈P,k<gs.length):okT (EQ all inl gs P)=true:=by
 have h:=AV (inl:=inl) hg hn hP
 unfold EQ
 cases all with
 | true =>
  refine A2 fun w hw=>?_
  obtain ⟨v,hv,rfl⟩:=List.mem_map.mp hw
  exact J8 (h v hv)
 | false =>
  show okT ((oF inl gs P).headD _)=true
  cases e:oF inl gs P with
  | nil=>cases inl <;> kernel_rfl
  | cons a r=>exact h a (e ▸ .head _)
theorem EU (r:Row how mode sh f which gs ps wt) (hst:start≤gs.length) (e:dR how mode sh f gs ps wt start=some P):∀ k∈P,k<gs.length:=by
 unfold dR at e
 by_cases c:1<how∧bit f 1=false∧bit f 2=false
 ·rw [if_pos c] at e
  obtain rfl:=sj e
  exact (qh (how:=how) (F:=ssF f mode sh wt gs) hst).1
 ·rw [if_neg c] at e
  have p1:=(oH _ _ _ _ e nofun (Nat.zero_le _)).1
  rw [List.length_map,List.length_drop,Nat.add_sub_of_le hst] at p1
  exact p1
theorem Dv {c:Prop} [Decidable c] {a b:Out}(ha:kc a.v=true) (hb:¬ c→kc b.v=true):kc (if c then a else b).v=true:=by
 by_cases h:c
 ·rw [if_pos h]; exact ha
 ·rw [if_neg h]; exact hb h
theorem HU (r:Row how mode sh f which gs ps wt):kc (yU how mode sh f which gs ps wt).v=true:=by
 refine Dv (by kernel_rfl) fun _=>Dv (by kernel_rfl) fun _=>Dv ?_ fun c5=>Dv (by kernel_rfl) fun _=>?_
 ·refine wO ?_
  unfold rg
  cases (bit f 1||bit f 4) <;> kernel_rfl
 ·have hl:d0 which gs.length≤gs.length:=by
   rcases Nat.lt_or_ge which 3 with z | z
   ·have e0:d0 which gs.length=0:=by
     match which,z with
     | 0,_=>rfl
     | 1,_=>rfl
     | 2,_=>rfl
    rw [e0]; exact Nat.zero_le _
   ·exact Nat.le_of_not_le fun h=>c5 ⟨z,h⟩
  cases e:dR how mode sh f gs ps wt (d0 which gs.length) with
  | none=>kernel_rfl
  | some P=>exact wO (HT r.g (Nat.le_trans r.n (by decide)) (EU r hl e))
end
section
variable {α:Type}{L:α→Prop}{r:ke}{H G:AH}{i how mode sh fl which n k:Nat}{c:Fl→LV→AH→Tr α}{x8 x9 x10 x11 x12 x13 x14 x15 x16 x17:Option V}{wt:Wo}{gs:List (List Wo)}{ps:List Pc}{hv pv:V}
theorem e16 {p:Pc}{m:LV}:(cR bU 21 (aE (aE (sE (at_ bB.body 16)) 1) 0) m p.v G).tt fun q=>q=(some (S p.k.w),G):=by
 exact goC []
theorem r16 (hp:∀ p∈ps,p∈pcs) (hn:ps.length≤10) (q:(rB 17 (rM r i how mode sh fl which [x8,x9,x10,x11,x12,x13,x14,x15,some (.lst (ps.map Pc.v)),x17,some wt.v,some (S (bD how ps wt)),none,none]) G c).tt L) :
  (rB 16 (rM r i how mode sh fl which [x8,x9,x10,x11,x12,x13,x14,x15,some (.lst (ps.map Pc.v)),x17,some wt.v,none,none,none]) G c).tt L:=by
 by_cases h0:how=0
 ·have hj:eQ .join (S []) [.lst ((ps.map fun p=>p.k.w).map S)]=some (S (mK ps)):=by
   have h:=pV (f:=fun p:Pc=>p.k.w.length) (B:=5) (l:=ps) fun p h=>aX (List.all_eq_true.mp J7 p (hp p h))
   have k:=pT (sep:=[]) (us:=ps.map fun p=>p.k.w) (by rw [List.map_map]; exact Nat.le_trans (Nat.le_trans h (Nat.mul_le_mul_right 5 hn)) (by decide))
   rw [wM] at k
   exact k
  rw [List.map_map] at hj
  have hc:∀ m,cQ (cR bU 21 (aE (aE (sE (at_ bB.body 16)) 1) 0) m) (ps.map Pc.v) G (ps.map fun p=>S p.k.w) G:=fun m=>dj ps fun p _=>e16
  have hc:=hc (rM r i how mode sh fl which [x8,x9,x10,x11,x12,x13,x14,x15,some (.lst (ps.map Pc.v)),x17,some wt.v,none,none,none])
  rw [bD,if_pos h0] at q
  have hj:eQ .join (S []) [.lst (ps.map fun p=>S p.k.w)]=some (S (mK ps)):=hj
  generalize (ps.map fun p=>S p.k.w)=gv at *
  generalize ps.map Pc.v=pv at *
  exact goK q 0 [xC 3 (nT h0),xQ 2 hc,xV 0 hj]
 ·rw [bD,if_neg h0] at q
  generalize ps.map Pc.v=pv at *
  exact goK q 2 [xC 3 (nF h0)]
end
end
section
section
variable {α:Type}{L:α→Prop}{r:ke}{H G:AH}{i how mode sh fl which n k:Nat}{N:Int}{c:Fl→LV→AH→Tr α}{x8 x9 x10 x11 x12 x13 x14 x15 x16 x17:Option V}{wt:Wo}{gs:List (List Wo)}{ps:List Pc}{hv pv:V}
theorem r17 (hg:∀ g∈gs,Grp mode sh g) (q:(rB 18 (rM r i how mode sh fl which [x8,x9,x10,x11,x12,some (aA gs),x14,x15,x16,x17,some wt.v,some pv,some (aq gs),none]) G c).tt L) :
  (rB 17 (rM r i how mode sh fl which [x8,x9,x10,x11,x12,some (aA gs),x14,x15,x16,x17,some wt.v,some pv,none,none]) G c).tt L:=by
 have hc:cQ (rC 17 r i how mode sh fl which [x8,x9,x10,x11,x12,some (aA gs),x14,x15,x16,x17,some wt.v,some pv,none,none]) (gs.map ip) G (gs.map itS) G:=dj gs fun g h=>by
  have hi:fJ [ip g] (.ok (S (bl g))):=wn (fun w hw=>Nat.le_trans (dx ((hg g h).w w hw)).2 (by decide)) (by rw [(hg g h).n]; split <;> decide)
  generalize ip g=g1 at *
  exact goC [xP 1 hi]
 unfold aA aq at *
 generalize gs.map ip=g1 at *
 generalize gs.map itS=g2 at *
 exact goK q 0 [xQ 2 hc]
theorem r18 {ws:List V}{t:List Nat}(hs:cu [.int which,.int 0] (.ok (.tup [S t,hv]))) (ho:dG [.int how,.int mode,.int sh,.int fl,S t] (.ok (.lst ws))) (hl:bH [aq gs] (.ok pv)) (hn:ws.length≤100000) {p1:V}
  (q:(rB 19 (rM r i how mode sh fl which [x8,x9,x10,x11,x12,x13,x14,x15,x16,x17,some wt.v,some p1,some (aq gs),some (.lst (ws++[pv,p1]))]) G c).tt L) :
  (rB 18 (rM r i how mode sh fl which [x8,x9,x10,x11,x12,x13,x14,x15,x16,x17,some wt.v,some p1,some (aq gs),none]) G c).tt L:=by
 have al:=yq (vs:=ws) (us:=[pv,p1]) (Nat.le_trans (Nat.add_le_add_right hn 2) (by decide))
 generalize aq gs=iv at *
 exact goK q 0 [xP 5 hs,xP 1 ho,xP 1 hl,xV 1 al]
theorem r19 {ws:List V}{rv iv:V}(hn:ws.length≤100000) (hh:cv [.lst (S [108,115,101,97,114,99,104]::ws)] (.ok rv)) (hd:jc [.int how,.int mode,.int fl,iv,hv,wt.v,pv,.int which] (.ok rv)) (he:aG G .Eq rv rv=some true) :
  (rB 19 (rM r i how mode sh fl which [x8,x9,x10,x11,x12,x13,some hv,x15,some pv,x17,some wt.v,x14,some iv,some (.lst ws)]) G iq).tt fun p=>FZ p (.ok (.bool true)) G:=by
 have al:=yq (vs:=[S [108,115,101,97,114,99,104]]) (us:=ws) (Nat.le_trans (Nat.add_le_add_left hn 1) (by decide))
 have al:cC .Add (.lst [S [108,115,101,97,114,99,104]]) (.lst ws)=some (.lst (S [108,115,101,97,114,99,104]::ws)):=al
 generalize wt.v=w1 at *
 exact goT (⟨rfl,rfl⟩:Res.ok (.bool true)=.ok (.bool true)∧G=G) [xV 1 al,xP 0 hh,xP 8 hd,xB 0 he]
end
end
section
section
variable {r:ke}{H G:AH}{i how mode sh fl which n k:Nat}{N:Int}{x8 x9 x10 x11 x12 x13 x14 x15 x16 x17:Option V}{gs:List (List Wo)}{ws:List Wo}
noncomputable abbrev To_ (m:LV) (G:AH) (a:Nat) (m':LV) (G':AH) (b:Nat):Prop:=∀ L:Fl × AH→Prop,(rB b m' G' iq).tt L→(rB a m G iq).tt L
noncomputable abbrev m0 (r:ke) (i:Nat):LV:=[some r.v,some (.ref i),none,none,none,none,none,none,none,none,none,none,none,none,none,none,none,none,none,none,none,none]
theorem stA (hi:i<H.length) (N:Int):∃ (how mode sh fl which:Nat) (N':Int),(how<4∧mode<3∧sh<3∧fl<128∧which<12)∧To_ (m0 r i) (pn H i N) 0 (rM r i how mode sh fl which [none,none,none,none,none,none,none,none,none,none,none,none,none,none]) (pn H i N') 3 :=
 lX (dr hi 4 rfl r.a0 N) fun z1 N1 how d1 e1 h1=>lX (dr hi 3 rfl r.a1 N1) fun z2 N2 mode d2 e2 h2=>lX (dr hi 3 rfl r.a2 N2) fun z3 N3 sh d3 e3 h3=>lX (dr hi 128 rfl r.a3 N3) fun z4 N4 fl d4 e4 h4=>lX (dr hi 12 rfl r.a4 N4) fun z5 N5 which d5 e5 h5 =>
  ⟨how,mode,sh,fl,which,N5,⟨h1,h2,h3,h4,h5⟩,fun L q=>r0 d1 d2 d3 d4 d5 e1 e2 e3 e4 e5 q⟩
theorem QC:(Nat.blt 0 (mN sh)&&Nat.ble (mN sh) 999999)=true:=by unfold mN; split <;> rfl
theorem Dw {size:Nat}(h:size<mN sh):size*wN sh≤6:=by
 unfold mN at h
 unfold wN
 by_cases s:sh=0
 ·rw [if_pos s] at h ⊢; rw [Nat.mul_one]; exact Nat.le_of_lt_succ h
 ·rw [if_neg s] at h ⊢; exact Nat.mul_le_mul_right 2 (Nat.le_of_lt_succ h)
theorem A3 {size:Nat}(h:size<mN sh):size≤6:=by
 unfold mN at h
 by_cases s:sh=0
 ·rw [if_pos s] at h; exact Nat.le_of_lt_succ h
 ·rw [if_neg s] at h; exact Nat.le_trans (Nat.le_of_lt h) (by decide)
theorem HV (ok:A0 r):∀ v∈r.ws++yX,qi v:=fun v hv=>(List.mem_append.mp hv).elim (ok.w v) fun h=>by
 have e:v=S []:=by
  have k:yX=List.replicate 6 (S []):=rfl
  rw [k] at h
  exact List.eq_of_mem_replicate h
 exact .inl ⟨[],e,nofun,Nat.zero_le _⟩
noncomputable abbrev Wok (how mode:Nat) (ws:List Wo):Prop:=∀ w∈ws,w∈dom mode∧(1<how→cw mode w)
theorem stB (ok:A0 r) (hi:i<H.length) (N:Int):∃ (size:Nat) (ws:List Wo) (N':Int),size<mN sh∧ws.length=size*wN sh∧Wok how mode ws ∧
  To_ (rM r i how mode sh fl which [none,none,none,none,none,none,none,none,none,none,none,none,none,none]) (pn H i N) 3 (rM r i how mode sh fl which [some (.int (mN sh)),some (.int size),some (.lst (r.ws++yX)),some (.lst (ws.map Wo.v)),none,none,none,none,none,none,none,none,none,none]) (pn H i N') 7 :=
 lX (dr hi (mN sh) QC ((r.ws.length:Int).fdiv (wN sh)) N) fun z1 N1 size d1 e1 h1=>by
  have h6:=Dw h1
  obtain ⟨ws,N',l1,l2,hc⟩:=uK (r:=r) (how:=how) (mode:=mode) (sh:=sh) (fl:=fl) (which:=which) (x8:=some (.int (mN sh))) (x9:=some (.int size)) (told:=r.ws++yX) hi (HV ok) (size*wN sh) 0 N1 (by rw [Nat.zero_add,List.length_append]; exact Nat.le_trans h6 (Nat.le_add_left ..))
  exact ⟨size,ws,N',h1,l1,l2,fun L q=>r3 ok.n d1 e1 (r6 (yZ (Nat.le_trans (A3 h1) (by decide)) HS) (Nat.le_trans h6 (by decide)) hc q)⟩
theorem HW:(bV.all fun t=>Nat.ble t.length 9)=true:=by kernel_rfl
theorem HX:ten∈bT:=List.mem_of_getElem? (i:=4) rfl
theorem MW {w:Wo}(h:w∈dom mode) (hl:9<w.t.length):ten∈dom mode∧(1<how→cw mode ten):=by
 have hm:mode=2:=Classical.byContradiction fun hm=>absurd (aX (List.all_eq_true.mp HW _ (dy h hm).1)) (Nat.not_le.mpr hl)
 subst hm
 exact ⟨HX,fun _=>⟨HX,fun _=>rfl⟩⟩
theorem stC (hw:Wok how mode ws) (hl:ws.length≤6):∃ (ws':List Wo) (x:V),ws'.length=ws.length∧Wok how mode ws' ∧
  To_ (rM r i how mode sh fl which [x8,x9,x10,some (.lst (ws.map Wo.v)),none,none,none,none,none,none,none,none,none,none]) G 7 (rM r i how mode sh fl which [x8,x9,x10,some (.lst (ws'.map Wo.v)),some x,none,none,none,none,none,none,none,none,none]) G 9:=by
 have hl2:ws.length≤100:=Nat.le_trans hl (by decide)
 obtain ⟨P,h1,h2,hc⟩:=uL (r:=r) (i:=i) (how:=how) (mode:=mode) (sh:=sh) (fl:=fl) (which:=which) (x8:=x8) (x9:=x9) (x10:=x10) (G:=G) (ws:=ws) ws.length 0 (Nat.le_of_eq (Nat.zero_add _))
 have hP:P.length≤100:=Nat.le_trans h1 hl2
 have e:∀ k,k<ws.length→ws[k]? = some (ws.getD k ten):=fun k hk=>by rw [List.getD_eq_getElem?_getD,List.getElem?_eq_getElem hk]; rfl
 have hk:∀ k∈List.range' 0 ws.length,k<ws.length:=fun k hk=>by rw [List.mem_range'_1,Nat.zero_add] at hk; exact hk.2
 have c8:cQ (rC 8 r i how mode sh fl which [x8,x9,x10,some (.lst (ws.map Wo.v)),some (be P),none,none,none,none,none,none,none,none,none]) ((List.range' 0 ws.length).map fun i=>.int (i:Nat)) G ((List.range' 0 ws.length).map fun k=>(if (P.drop (if how=0 then 0 else 1)).contains k=true then ten else ws.getD k ten).v) G :=
  dj (List.range' 0 ws.length) fun k h=>e8 rfl hP (e k (hk k h)) ou
 refine ⟨(List.range' 0 ws.length).map fun k=>if (P.drop (if how=0 then 0 else 1)).contains k=true then ten else ws.getD k ten,be P,by rw [List.length_map,List.length_range'],fun w hw'=>?_,fun L q=>r7 hl2 hc (r8 hl2 c8 ?_)⟩
 ·obtain ⟨k,hk',rfl⟩:=List.mem_map.mp hw'
  by_cases z:(P.drop (if how=0 then 0 else 1)).contains k=true
  ·rw [if_pos z]
   obtain ⟨w,hw1,hw2⟩:=h2 k (List.mem_of_mem_drop (List.contains_iff_mem.mp z))
   exact MW (hw w (List.mem_of_getElem? hw1)).1 hw2
  ·rw [if_neg z]
   exact hw _ (List.mem_of_getElem? (e k (hk k hk')))
 ·rw [List.map_map] at q
  exact q
theorem J9 {size:Nat}(hw:Wok how mode ws) (hl:ws.length=size*wN sh):∀ g∈(List.range' 0 size).map (qj sh ws),Grp mode sh g∧∀ w∈g,1<how→cw mode w:=by
 intro g hg
 obtain ⟨k,hk,rfl⟩:=List.mem_map.mp hg
 rw [List.mem_range'_1,Nat.zero_add] at hk
 have hm:∀ x∈qj sh ws k,x∈ws:=fun x hx=>List.mem_of_mem_drop (List.mem_of_mem_take hx)
 refine ⟨⟨fun x hx=>(hw x (hm x hx)).1,?_⟩,fun x hx=>(hw x (hm x hx)).2⟩
 have h1:(k+1)*wN sh≤size*wN sh:=Nat.mul_le_mul_right _ hk.2
 rw [Nat.add_mul,Nat.one_mul,← hl,Nat.add_comm] at h1
 have:(qj sh ws k).length=wN sh:=by
  rw [qj,List.length_take,List.length_drop]
  exact Nat.min_eq_left (Nat.le_sub_of_add_le h1)
 exact this
theorem HY {g:List Wo}(h:Grp mode sh g):aN sh g∈g:=h.el (fun a s _ e=>by
  subst e
  have s2:¬ sh=2:=fun h=>by rw [h] at s; exact absurd s (by decide)
  rw [show aN sh [a]=a from if_neg s2]; exact .head _) fun a b s _ _ e=>by
  subst e
  by_cases s2:sh=2
  ·rw [show aN sh [a,b]=b from if_pos s2]; exact .tail _ (.head _)
  ·rw [show aN sh [a,b]=a from if_neg s2]; exact .head _
noncomputable abbrev Gok (how mode sh fl:Nat) (gs:List (List Wo)):Prop:=gs.length≤6∧(∀ g∈gs,Grp mode sh g)∧(1<how→j9 mode sh gs∧oy mode sh (bit (fl:Nat) 8) (bit (fl:Nat) 16) gs)
theorem stD {size:Nat}(hm:mode<3) (hs:sh<3) (hsz:size≤6) (hw:Wok how mode ws) (hl:ws.length=size*wN sh) (h6:ws.length≤6):∃ gs,Gok how mode sh fl gs ∧
  To_ (rM r i how mode sh fl which [x8,some (.int size),x10,some (.lst (ws.map Wo.v)),x12,none,none,none,none,none,none,none,none,none]) G 9 (rM r i how mode sh fl which [x8,some (.int size),x10,some (.lst (ws.map Wo.v)),x12,some (aA gs),some (.lst ((a9 sh gs).map Wo.v)),none,none,none,none,none,none,none]) G 12:=by
 have hg:=J9 hw hl
 have hn:((List.range' 0 size).map (qj sh ws)).length≤6:=by rw [List.length_map,List.length_range']; exact hsz
 have h9:=fun (L:Fl × AH→Prop)=>r9 (L:=L) (r:=r) (G:=G) (c:=iq) (i:=i) (how:=how) (mode:=mode) (sh:=sh) (fl:=fl) (which:=which) (size:=size) (x8:=x8) (x10:=x10) (x12:=x12) (ws:=ws) (Nat.le_trans hsz (by decide)) (Nat.le_trans h6 (by decide))
 generalize (List.range' 0 size).map (qj sh ws)=gs at *
 by_cases z:1<how
 ·have hh:j9 mode sh gs:=fun g h=>(hg g h).2 _ (HY (hg g h).1) z
  obtain ⟨gs',p,ps,hi⟩:=u9 ⟨hm,hs,fun g h=>(hg g h).1,Nat.le_trans hn (by decide)⟩ hh (fl:Nat)
  have hg':∀ g∈gs',Grp mode sh g:=fun g h=>(hg g (p.mem_iff.mp h)).1
  exact ⟨gs',⟨by rw [p.length_eq]; exact hn,hg',fun _=>⟨fun g h=>hh g (p.mem_iff.mp h),ps⟩⟩,fun L q=>h9 L (r10 (fun _=>hi) (fun h=>absurd z h) (r11 hg' q))⟩
 ·exact ⟨gs,⟨hn,fun g h=>(hg g h).1,fun h=>absurd h z⟩,fun L q=>h9 L (r10 (fun h=>absurd h z) (fun _=>rfl) (r11 (fun g h=>(hg g h).1) q))⟩
end
end
section
section
variable {r:ke}{H G:AH}{i how mode sh fl which n k:Nat}{N:Int}{x8 x9 x10 x11 x12 x13 x14 x15 x16 x17:Option V}{gs:List (List Wo)}{ws:List Wo}
theorem rj (hi:i<H.length):∀ (n k:Nat) (N:Int),∃ (ps:List Pc) (N':Int),ps.length=n∧(∀ p∈ps,p∈pcs) ∧
  cQ (rC 13 r i how mode sh fl which [x8,x9,x10,x11,x12,x13,x14,x15,none,none,none,none,none,none]) ((List.range' k n).map fun i=>.int (i:Nat)) (pn H i N) (ps.map Pc.v) (pn H i N')
 | 0,k,N=>⟨[],N,rfl,nofun,rfl,rfl⟩
 | n+1,k,N=>lX (dr hi 12 rfl ((if k<r.pi.length then r.pi.getD k 0 else 0:Nat):Int) N) fun z1 N1 j d e h=>by
  have hj:j<pcs.length:=h
  obtain ⟨ps,N',l1,l2,ih⟩:=rj hi n (k+1) N1
  refine ⟨pcs[j]::ps,N',congrArg (·+1) l1,fun x hx=>?_,yY (e13 rfl d e (List.getElem?_eq_getElem hj)) ih⟩
  rcases List.mem_cons.mp hx with rfl | hx
  ·exact List.getElem_mem hj
  ·exact l2 x hx
theorem stE (ok:A0 r) (hi:i<H.length) (hg:∀ g∈gs,Grp mode sh g) (N:Int):∃ (ps:List Pc) (wt:Wo) (x15 x17:V) (N':Int),ps.length≤3∧(∀ p∈ps,p∈pcs)∧wt∈dom mode ∧
  To_ (rM r i how mode sh fl which [x8,x9,x10,x11,x12,some (aA gs),some (.lst ((a9 sh gs).map Wo.v)),none,none,none,none,none,none,none]) (pn H i N) 12 (rM r i how mode sh fl which [x8,x9,x10,x11,x12,some (aA gs),some (.lst ((a9 sh gs).map Wo.v)),some x15,some (.lst (ps.map Pc.v)),some x17,some wt.v,some (S (bD how ps wt)),none,none]) (pn H i N') 17 :=
 lX (dr hi 4 rfl ((r.pi.map fun k=>V.int (k:Nat)).length:Nat) N) fun z1 N1 many d1 e1 h1=>by
  obtain ⟨ps,N2,p1,p2,hc⟩:=rj (r:=r) (how:=how) (mode:=mode) (sh:=sh) (fl:=fl) (which:=which) (x8:=x8) (x9:=x9) (x10:=x10) (x11:=x11) (x12:=x12) (x13:=some (aA gs)) (x14:=some (.lst ((a9 sh gs).map Wo.v))) (x15:=some (.int many)) hi many 0 N1
  obtain ⟨z2,N3,pick,d2,e2,h2⟩:=dr hi 8 rfl r.a7 N2
  have p3:ps.length≤3:=by rw [p1]; exact Nat.le_of_lt_succ h1
  have main:=fun (L:Fl × AH→Prop) q=>r12 (L:=L) (r:=r) (i:=i) (how:=how) (mode:=mode) (sh:=sh) (fl:=fl) (which:=which) (x8:=x8) (x9:=x9) (x10:=x10) (x11:=x11) (x12:=x12) (x13:=some (aA gs)) (x14:=some (.lst ((a9 sh gs).map Wo.v))) (c:=iq) d1 e1 (r13 (Nat.le_trans (Nat.le_of_lt h1) (by decide)) hc (r14 d2 e2 q))
  by_cases z:pick<(a9 sh gs).length
  ·refine ⟨ps,(a9 sh gs)[pick],.int many,.int pick,N3,p3,p2,?_,fun L q=>main L (Qz (List.getElem?_eq_getElem z) (r16 p2 (Nat.le_trans p3 (by decide)) q))⟩
   obtain ⟨g,hg',e⟩:=List.mem_map.mp (List.getElem_mem z)
   rw [← e]
   exact ow (hg g hg')
  ·obtain ⟨wt,N4,w1,_,w3⟩:=wL (N:=N3) (mode:=mode) (right:=false) hi ok.v
   exact ⟨ps,wt,.int many,.int pick,N4,p3,p2,w1,fun L q=>main L (QA (Nat.not_lt.mp z) w3 (r16 p2 (Nat.le_trans p3 (by decide)) q))⟩
theorem EV {st:List Nat}(hh:how<4) (hm:mode<3) (hs:sh<3) {f:Int}:(dW how mode sh f st).length≤100:=by
 have k:∀ {L:List Og},(L.map (Og.ws st)).flatten.length≤2*L.length:=fun {L}=>by
  induction L with
  | nil=>exact Nat.le_refl _
  | cons g L ih =>
   rw [List.map_cons,List.flatten_cons,List.length_append,List.length_cons,Nat.mul_succ,Nat.add_comm]
   refine Nat.add_le_add ih ?_
   cases g <;> first | exact Nat.le_refl 2 | exact Nat.le_succ 1
 have e:(dW how mode sh f st).length=((AQ how mode sh f st).map (Og.ws st)).flatten.length:=List.length_map ..
 rw [e]
 exact Nat.le_trans k (Nat.le_trans (Nat.mul_le_mul_left 2 AS) (by decide))
theorem stF {ps:List Pc}{wt:Wo}{hw:fl<128}(w:Row how mode sh (fl:Nat) which gs ps wt) :
  (rB 17 (rM r i how mode sh fl which [x8,x9,x10,x11,x12,some (aA gs),some (.lst ((a9 sh gs).map Wo.v)),x15,some (.lst (ps.map Pc.v)),x17,some wt.v,some (S (bD how ps wt)),none,none]) G iq).tt fun p=>FZ p (.ok (.bool true)) G:=by
 have hs:=ly (which:=which) (last:=0) w.hw
 have ho:=p9 (f:=(fl:Nat)) (st:=bI which) w.hh w.hm w.hs
 have hl:=lj (ws:=gs.map bl) (fun x hx=>by
  obtain ⟨g,hg,rfl⟩:=List.mem_map.mp hx
  exact Nat.le_trans (w.g g hg).plain.2 (by decide)) (by rw [List.length_map]; exact Nat.le_trans w.n (by decide)) (Nat.le_trans (Dt w.g w.n) (by decide))
 rw [List.map_map] at hl
 have hl:bH [aq gs] (.ok (S (gf gs))):=hl
 have wl:=EV (st:=bI which) w.hh w.hm w.hs (f:=(fl:Nat))
 have hh:=Co w
 have es:(wsN how mode sh (fl:Nat) which gs ps wt).map S=S [108,115,101,97,114,99,104]::((dW how mode sh (fl:Nat) (bI which)).map S++[S (gf gs),S (bD how ps wt)]):=uJ
 rw [es] at hh
 refine r17 w.g (r18 hs ho hl (by rw [List.length_map]; exact Nat.le_trans wl (by decide)) (r19 ?_ hh (HO (fq hw) w) (yC (AA (HU w)))))
 rw [List.length_append,List.length_map]
 exact Nat.le_trans (Nat.add_le_add_right wl _) (show 100+2≤100000 by decide)
theorem uM (ok:A0 r) (hi:i<H.length) (N:Int):∃ N':Int,cJ [r.v,.ref i] (pn H i N) (.ok (.bool true)) (pn H i N'):=by
 obtain ⟨how,mode,sh,fl,which,N1,hb,tA⟩:=stA (r:=r) hi N
 obtain ⟨size,ws,N2,l1,l2,l3,tB⟩:=stB (how:=how) (mode:=mode) (sh:=sh) (fl:=fl) (which:=which) ok hi N1
 have l4:ws.length≤6:=by rw [l2]; exact Dw l1
 obtain ⟨ws',x,c1,c2,tC⟩:=stC (r:=r) (i:=i) (how:=how) (mode:=mode) (sh:=sh) (fl:=fl) (which:=which) (G:=pn H i N2) (x8:=some (.int (mN sh))) (x9:=some (.int size)) (x10:=some (.lst (r.ws++yX))) l3 l4
 obtain ⟨gs,g1,tD⟩:=stD (r:=r) (i:=i) (how:=how) (mode:=mode) (sh:=sh) (fl:=fl) (which:=which) (G:=pn H i N2) (x8:=some (.int (mN sh))) (x10:=some (.lst (r.ws++yX))) (x12:=some x) hb.2.1 hb.2.2.1 (A3 l1) c2 (c1.trans l2) (by rw [c1]; exact l4)
 obtain ⟨ps,wt,x15,x17,N3,p1,p2,p3,tE⟩:=stE (how:=how) (fl:=fl) (which:=which) (x8:=some (.int (mN sh))) (x9:=some (.int size)) (x10:=some (.lst (r.ws++yX))) (x11:=some (.lst (ws'.map Wo.v))) (x12:=some x) ok hi g1.2.1 N2
 refine ⟨N3,rfl,?_⟩
 show (rB 0 (m0 r i) (pn H i N) iq).tt fun p=>FZ p (.ok (.bool true)) (pn H i N3)
 exact tA _ (tB _ (tC _ (tD _ (tE _ (stF (hw:=hb.2.2.2.1) ⟨hb.1,hb.2.1,hb.2.2.1,hb.2.2.2.2,g1.2.1,g1.1,p2,p1,p3,g1.2.2⟩)))))
end
end
section
noncomputable def gt:List ke:=[
 ⟨0,0,0,1,0,[S [97,98],S [98],S [97],S [65,98],S [42,97]],[6,0],0,S []⟩,
 ⟨0,0,0,45,0,[S [65,49],S [95],S [98,57],S [233],S [66,42]],[3,1],0,S []⟩,
 ⟨0,2,1,2,0,[.int 0,.int 7,.int 4,.int 12],[5,0],0,S []⟩,
 ⟨1,0,0,0,4,[S [98],S [97],S [98],S [66],S [98]],[],0,S []⟩,
 ⟨1,0,0,15,8,[S [97],S [66],S [201],S [98],S [233]],[],4,S []⟩,
 ⟨1,2,0,65,0,[.int 0,.int 5,.int 1,.int 2,.int 4],[],2,S []⟩,
 ⟨1,1,2,4,0,[S [97],S [98],S [98],S [66],S [65],S [98]],[],0,S []⟩,
 ⟨2,0,0,0,0,[S [98],S [97],S [98],S [66],S [97,49],S [98]],[],5,S []⟩,
 ⟨3,2,0,32,0,[.int 5,.int 0,.int 4,.int 6],[],1,.int 0⟩,
 ⟨3,1,0,16,0,[S [97,57],S [65,49],S [98],S [97,49]],[],5,S [97]⟩,
 ⟨3,0,0,0,4,[S [98],S [97],S [57]],[],5,S [49]⟩,
 ⟨3,0,0,1,0,[S [97],S [98]],[],0,S []⟩,
 ⟨1,2,0,0,0,[.int 4,.int 12,.int 0],[],2,.int 0⟩,
 ⟨2,2,2,100,0,[.int 0,.int 4,.int 1,.int 8,.int 3,.int 5],[],2,.int 0⟩]
theorem EX:g8 [] (.ok (.lst (gt.map ke.v))):=gR
noncomputable def Dx:V→Bool
 | .str ⟨⟨t⟩⟩=>t.all (fun c=>bv.contains c)&&Nat.ble t.length 2
 | .int i=>match i with
  | .ofNat _=>true
  | _=>false
 | _=>false
theorem Dy {v:V}(h:Dx v=true):qi v:=by
 unfold Dx at h
 split at h
 ·rename_i t
  exact .inl ⟨t,rfl,fun c hc=>List.contains_iff_mem.mp (List.all_eq_true.mp (an h).1 c hc),aX (an h).2⟩
 ·rename_i i
  cases i with
  | ofNat k=>exact .inr ⟨k,rfl⟩
  | negSucc k=>exact ff h
 ·exact ff h
theorem HZ:(gt.all fun r=>(r.ws.all Dx&&Nat.ble r.ws.length 6)&&(Nat.ble r.pi.length 10&&Dx r.wv))=true:=by kernel_rfl
theorem H5 {r:ke}(h:r∈gt):A0 r :=
 have k:=an (List.all_eq_true.mp HZ r h)
 ⟨fun v hv=>Dy (List.all_eq_true.mp (an k.1).1 v hv),aX (an k.1).2,aX (an k.2).1,Dy (an k.2).2⟩
theorem uN {α β:Type}{f:α→β}{l:List α}{lo hi st:Option Int}:a6 (l.map f) lo hi st=(a6 l lo hi st).map f:=by
 unfold a6
 rw [List.length_map,List.map_filterMap]
 congr 1
 funext i
 rw [List.getElem?_map]
theorem A4 {α:Type} (l:List α) (lo:Option Int) {s:Int}(hs:0<s):(a6 l lo none (some s)).length≤l.length∧∀ x∈a6 l lo none (some s),x∈l:=by
 constructor
 ·unfold a6
  refine Nat.le_trans (List.length_filterMap_le _ _) (sliceRange_length_le _ _ _ _ (fun hc=>?_) fun hc=>?_)
  ·simp only [sliceBounds] at hc ⊢
   simp only [hc,if_true]
   constructor
   ·cases lo with
    | none=>simp
    | some i=>simp only; lia
   ·simp
  ·simp only [sliceBounds,Option.getD_some] at hc
   exact absurd hs hc
 ·intro x hx
  unfold a6 at hx
  refine ae (List.mem_filterMap.mp hx) fun i _ hi=>?_
  exact List.mem_of_getElem? hi
theorem A5:∀ l:List Int,eM (l.map V.int)=some l
 | []=>rfl
 | a::l=>by rw [List.map_cons,eM,A5 l]; rfl
theorem wP {B:Nat}:∀ l:List Int,(∀ x∈l,x.natAbs≤B)→l.sum.natAbs≤l.length*B
 | [],_=>Nat.zero_le _
 | a::l,h=>by
  rw [List.sum_cons,List.length_cons,Nat.add_mul,Nat.one_mul,Nat.add_comm (l.length*B)]
  exact Nat.le_trans (Int.natAbs_add_le a l.sum) (Nat.add_le_add (h a (.head _)) (wP l fun x hx=>h x (.tail _ hx)))
section
variable {l:List Int}{K k:Nat}{G:AH}{lv sv:List V}{Z a:Int}
theorem MX {n m:Nat}(h:n<2 ^ m) (hm:0<m):n.log2<m:=by
 rcases Nat.eq_zero_or_pos n with z | z
 ·rw [z]; exact hm
 ·exact (Nat.log2_lt (Nat.ne_of_gt z)).mpr h
theorem Ka:((List.range 14).all fun k=>decide (((10:Int) ^ 30+57+(k:Nat)).natAbs.log2<2000))=true:=by kernel_rfl
theorem Kb (hK:K≤1048576) (hk:k<14) (hZ:Z.natAbs≤63*2 ^ K):cC .Mult (.int Z) (.int ((10:Int) ^ 30+57+(k:Nat)))=some (.int (Z*((10:Int) ^ 30+57+(k:Nat)))):=by
 have h3:2 ^ (6+K)=64*2 ^ K:=Nat.pow_add ..
 have hl:Z.natAbs.log2<6+K:=MX (Nat.lt_of_le_of_lt hZ (by rw [h3]; exact Nat.mul_lt_mul_of_pos_right (by decide) (Nat.two_pow_pos _))) (Nat.lt_add_right _ (by decide))
 have c:w4 Z ((10:Int) ^ 30+57+(k:Nat))=true:=Bool.and_eq_true_iff.mpr ⟨decide_eq_true (Nat.lt_of_lt_of_le hl (Nat.le_trans (Nat.add_le_add_left hK 6) (by decide))),List.all_eq_true.mp Ka k (List.mem_range.mpr hk)⟩
 exact congrArg Cv.v (fu c)
theorem EY (h:(a6 lv (some a) none (some 14)).length≤big):bG (.lst lv) (some (.int a)) none (some (.int 14))=some (.lst (a6 lv (some a) none (some 14))) :=
 have k:=eH h
 have q:∀ P:SlS (.lst lv) (some (.int a)) none (some (.int 14)) (.lst (a6 lv (some a) none (some 14))),Cv.v (P:=SlS (.lst lv) (some (.int a)) none (some (.int 14))) (wh (Nat.ble (a6 lv (some a) none (some 14)).length big) fun hn=>yes (.lst (a6 lv (some a) none (some 14))) P)=some (.lst (a6 lv (some a) none (some 14))):=fun P=>congrArg Cv.v (fu k)
 q (fun {_ _ _ _ _ _ _ _ _ _ _ _ _ _}=>sR (lo:=(some a)) (hi:=none) (k:=some 14) rfl rfl rfl (by decide) k)
theorem O4 {ns:List Int}(h:eM sv=some ns):nu G ⟨⟨[115,117,109]⟩⟩ [.lst sv]=some (.int ns.sum):=by
 have q:Nm G [.lst sv]=_:=cB h
 exact congrArg (fun c=>Cv.v (blI G ⟨⟨[115,117,109]⟩⟩ [.lst sv] ⟨⟨[115,117,109]⟩⟩ c (by decide +kernel) none)) q
theorem Kc (he:aG G .Eq (.lst lv) (.lst [])=some true):fQ [.lst lv,.int k,.int 14] G (.ok (.ref G.length)) (G++[.list [.int 0]]):=by
 exact goH [xB 1 he] rfl
theorem H7 {M:Int}(he:aG G .Eq (.lst lv) (.lst [])=some false) (hm:cC .Mod (.int k) (.int (lv.length:Nat))=some (.int a)) (hs:bG (.lst lv) (some (.int a)) none (some (.int 14))=some (.lst sv)) (hu:nu G ⟨⟨[115,117,109]⟩⟩ [.lst sv]=some (.int Z)) (hx:cC .Mult (.int Z) (.int ((10:Int) ^ 30+57+(k:Nat)))=some (.int M)):fQ [.lst lv,.int k,.int 14] G (.ok (.ref G.length)) (G++[.list [.int M]]):=by
 exact goH [xB 1 he,xV 6 hm,xV 1 hs,xV 0 hu,xV 4 hx] rfl
theorem H8 (hK:K≤1048576) (hl:l.length≤63) (hb:∀ x∈l,x.natAbs≤2 ^ K) (hk:k<14) (G:AH):∃ N:Int,fQ [.lst (l.map .int),.int k,.int 14] G (.ok (.ref G.length)) (G++[.list [.int N]]):=by
 have he:aG G .Eq (.lst (l.map .int)) (.lst [])=some (decide (l=[])):=yC (G6 l [])
 have e:(l.map V.int).length=l.length:=List.length_map ..
 by_cases z:l=[]
 ·rw [decide_eq_true z] at he
  exact ⟨0,Kc he⟩
 ·rw [decide_eq_false z] at he
  have c:(Nat.blt 0 (l.map V.int).length&&Nat.ble (l.map V.int).length 999999)=true:=by
   rw [e]
   exact Bool.and_eq_true_iff.mpr ⟨eH (List.length_pos_iff.mpr z),eH (Nat.le_trans hl (by decide))⟩
  have hm:cC .Mod (.int k) (.int ((l.map V.int).length:Nat))=some (.int ((k:Int).fmod ((l.map V.int).length:Nat))):=congrArg Cv.v (fu c)
  generalize (k:Int).fmod ((l.map V.int).length:Nat)=a at *
  have h14:=A4 l (some a) (s:=14) (by decide)
  have hs:=EY (lv:=l.map V.int) (a:=a) (by rw [uN,List.length_map]; exact Nat.le_trans h14.1 (Nat.le_trans hl (by decide)))
  rw [uN] at hs
  have hu:=O4 (G:=G) (A5 (a6 l (some a) none (some 14)))
  have hZ:=wP (B:=2 ^ K) (a6 l (some a) none (some 14)) fun x hx=>hb x (h14.2 x hx)
  exact ⟨_,H7 he hm hs hu (Kb hK hk (Nat.le_trans hZ (Nat.mul_le_mul_right _ (Nat.le_trans h14.1 hl))))⟩
end
end
section
section
variable {l:List Int}{K k i:Nat}{G H H':AH}{lv tv:List V}{rv:V}{x2:Option V}{xs:List V}{m':LV}{G':AH}
noncomputable abbrev Ke:=fR z7 7 (at_ z6.body 1)
noncomputable abbrev EZ (lv tv:List V) (x2:Option V):LV:=[some (.lst lv),some (.lst tv),x2,none,none,none]
theorem E0 (hk:tv[k]? = some rv) (hp:fQ [.lst lv,.int k,.int (tv.length:Nat)] G (.ok (.ref i)) H) (hr:cJ [rv,.ref i] H (.ok (.bool true)) H') (ih:Ke xs (EZ lv tv (some (.int k))) H' .next m' G'):Ke (.int k::xs) (EZ lv tv x2) G .next m' G':=by
 have it:=bS G hk
 exact fI ih [xV 2 it,xR 4 hp,xR 0 hr]
theorem A6 (hK:K≤1048576) (hl:l.length≤63) (hb:∀ x∈l,x.natAbs≤2 ^ K):∀ (n k:Nat) (x2:Option V) (G:AH),k+n=14 →
  ∃ (y2:Option V) (G':AH),Ke ((List.range' k n).map fun i=>.int (i:Nat)) (EZ (l.map .int) (gt.map ke.v) x2) G .next (EZ (l.map .int) (gt.map ke.v) y2) G'
 | 0,k,x2,G,h=>⟨x2,G,fN⟩
 | n+1,k,x2,G,h=>by
  have hk:k<14:=by rw [← h]; exact Nat.lt_add_of_pos_right (Nat.succ_pos n)
  have e:=List.getElem?_eq_getElem (show k<gt.length from hk)
  have hm:gt[k]∈gt:=List.getElem_mem _
  obtain ⟨N,hp⟩:=H8 hK hl hb hk G
  have hi:G.length<(G++[AO.list [.int N]]).length:=by rw [List.length_append]; exact Nat.lt_succ_self _
  obtain ⟨N',hr⟩:=uM (H5 hm) hi N
  have es:pn (G++[AO.list [.int N]]) G.length N=G++[.list [.int N]]:=fW List.getElem?_concat_length
  rw [es] at hr
  obtain ⟨y2,G',ih⟩:=A6 hK hl hb n (k+1) (some (.int k)) (pn (G++[AO.list [.int N]]) G.length N') (by rw [Nat.add_assoc,Nat.add_comm 1]; exact h)
  exact ⟨y2,G',E0 (by rw [List.getElem?_map,e]; rfl) hp hr ih⟩
theorem H9 (ht:g8 [] (.ok (.lst tv))) (he:tv.length=14) (hr:Ke ((List.range' 0 tv.length).map fun i=>.int (i:Nat)) (EZ lv tv none) [] .next (EZ lv tv x2) G):v9 [.lst lv] [] (.ok (.bool true)) G:=by
 have ir:=bR (a:=0) (b:=tv.length) (by rw [he]; decide) (Nat.zero_le _)
 rw [Nat.sub_zero] at ir
 generalize (List.range' 0 tv.length).map (fun i=>V.int (i:Nat))=R at *
 exact goH [xP 0 ht,xL 3 ir,xS 0 hr] rfl
theorem Ia (hK:K≤1048576) (hl:l.length≤63) (hb:∀ x∈l,x.natAbs≤2 ^ K):∃ G,v9 [.lst (l.map .int)] [] (.ok (.bool true)) G:=by
 obtain ⟨y2,G,h⟩:=A6 hK hl hb 14 0 none [] rfl
 exact ⟨G,H9 EX (List.length_map ..) h⟩
end
end
end Mine
end
section
open PySem PySem.W PyProof.Rows
namespace Mine.Z
theorem law_all (l:List Int) (hl:l.length≤63) (hb:∀ x∈l,Builtin.Int.intBits x≤1048576):∃ G,v9 [.lst (l.map .int)] [] (.ok (.bool true)) G:=by
 obtain ⟨K,hK⟩:∃ K:Nat,K=1048576:=⟨_,rfl⟩
 rw [← hK] at hb
 exact Ia (K:=K) (Nat.le_of_eq hK) hl fun x hx=>Nat.le_of_lt (intBits_le_iff.mp (hb x hx))
end Mine.Z
end
theorem PySem.Challenge.cw_np0151_01_holds : PySem.Challenge.rw_np0151_01.Holds :=
 Mine.Z.holds_of Mine.Z.law_all
