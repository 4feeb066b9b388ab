import PyProof.Rows.All
import Wide.All
import OpenK.AllK
import Wide.FinOn
import Lean
import PySem.Challenge.RW_np0151_01
set_option Elab.async false
set_option linter.all false
section
namespace Mine
theorem ff {p:Prop}(h:false=true):p:=nomatch h
theorem tf {p:Prop}(h:true=false):p:=nomatch h
theorem nS {α:Type}{a:α}{p:Prop}(h:none=some a):p:=nomatch h
theorem sN {α:Type}{a:α}{p:Prop}(h:some a=none):p:=nomatch h
theorem gg {G:Prop}(h:∀ T:Prop,(G→T)→T):G:=h G id
theorem sj {α:Type}{a b:α}(h:some a=some b):a=b:=Option.some.inj h
theorem ar {p q G:Prop}(h:p∧q) (k:p→q→G):G:=k h.1 h.2
theorem bW {p q r G:Prop}(h:p∧q∧r) (k:p→q→r→G):G:=k h.1 h.2.1 h.2.2
theorem uS {p q r s G:Prop}(h:p∧q∧r∧s) (k:p→q→r→s→G):G:=k h.1 h.2.1 h.2.2.1 h.2.2.2
theorem Pm {p q r s t G:Prop}(h:p∧q∧r∧s∧t) (k:p→q→r→s→t→G):G:=k h.1 h.2.1 h.2.2.1 h.2.2.2.1 h.2.2.2.2
theorem Rf {p q r s t u G:Prop}(h:p∧q∧r∧s∧t∧u) (k:p→q→r→s→t→u→G):G:=k h.1 h.2.1 h.2.2.1 h.2.2.2.1 h.2.2.2.2.1 h.2.2.2.2.2
theorem KT {p q r s t u v G:Prop}(h:p∧q∧r∧s∧t∧u∧v) (k:p→q→r→s→t→u→v→G):G:=k h.1 h.2.1 h.2.2.1 h.2.2.2.1 h.2.2.2.2.1 h.2.2.2.2.2.1 h.2.2.2.2.2.2
theorem aj {α:Type}{p:α→Prop}{G:Prop}(h:∃ a,p a) (k:∀ a,p a→G):G:=h.elim fun a h=>k a h
theorem ae {α:Type}{p q:α→Prop}{G:Prop}(h:∃ a,p a∧q a) (k:∀ a,p a→q a→G):G:=h.elim fun a h=>k a h.1 h.2
theorem dA {α:Type}{p q r:α→Prop}{G:Prop}(h:∃ a,p a∧q a∧r a) (k:∀ a,p a→q a→r a→G):G:=h.elim fun a h=>k a h.1 h.2.1 h.2.2
theorem Bd {α:Type}{p q r s:α→Prop}{G:Prop}(h:∃ a,p a∧q a∧r a∧s a) (k:∀ a,p a→q a→r a→s a→G):G:=h.elim fun a h=>k a h.1 h.2.1 h.2.2.1 h.2.2.2
theorem E8 {α:Type}{p q r s t:α→Prop}{G:Prop}(h:∃ a,p a∧q a∧r a∧s a∧t a) (k:∀ a,p a→q a→r a→s a→t a→G):G:=h.elim fun a h=>k a h.1 h.2.1 h.2.2.1 h.2.2.2.1 h.2.2.2.2
theorem Rg {α:Type}{p q r s t u:α→Prop}{G:Prop}(h:∃ a,p a∧q a∧r a∧s a∧t a∧u a) (k:∀ a,p a→q a→r a→s a→t a→u a→G):G:=h.elim fun a h=>k a h.1 h.2.1 h.2.2.1 h.2.2.2.1 h.2.2.2.2.1 h.2.2.2.2.2
theorem Rh {α:Type}{p q r s t u v:α→Prop}{G:Prop}(h:∃ a,p a∧q a∧r a∧s a∧t a∧u a∧v a) (k:∀ a,p a→q a→r a→s a→t a→u a→v a→G):G:=h.elim fun a h=>k a h.1 h.2.1 h.2.2.1 h.2.2.2.1 h.2.2.2.2.1 h.2.2.2.2.2.1 h.2.2.2.2.2.2
theorem sq {α β:Type}{p:α→β→Prop}{G:Prop}(h:∃ a b,p a b) (k:∀ a b,p a b→G):G:=h.elim fun a h=>h.elim fun b h=>k a b h
theorem cN {α β:Type}{p q:α→β→Prop}{G:Prop}(h:∃ a b,p a b∧q a b) (k:∀ a b,p a b→q a b→G):G:=h.elim fun a h=>h.elim fun b h=>k a b h.1 h.2
theorem cz {α β:Type}{p q r:α→β→Prop}{G:Prop}(h:∃ a b,p a b∧q a b∧r a b) (k:∀ a b,p a b→q a b→r a b→G):G:=h.elim fun a h=>h.elim fun b h=>k a b h.1 h.2.1 h.2.2
theorem cP {α β:Type}{p q r s:α→β→Prop}{G:Prop}(h:∃ a b,p a b∧q a b∧r a b∧s a b) (k:∀ a b,p a b→q a b→r a b→s a b→G):G:=h.elim fun a h=>h.elim fun b h=>k a b h.1 h.2.1 h.2.2.1 h.2.2.2
theorem mT {α β:Type}{p q r s t:α→β→Prop}{G:Prop}(h:∃ a b,p a b∧q a b∧r a b∧s a b∧t a b) (k:∀ a b,p a b→q a b→r a b→s a b→t a b→G):G:=h.elim fun a h=>h.elim fun b h=>k a b h.1 h.2.1 h.2.2.1 h.2.2.2.1 h.2.2.2.2
theorem M8 {α β:Type}{p q r s t u:α→β→Prop}{G:Prop}(h:∃ a b,p a b∧q a b∧r a b∧s a b∧t a b∧u a b) (k:∀ a b,p a b→q a b→r a b→s a b→t a b→u a b→G):G:=h.elim fun a h=>h.elim fun b h=>k a b h.1 h.2.1 h.2.2.1 h.2.2.2.1 h.2.2.2.2.1 h.2.2.2.2.2
theorem Ri {α β:Type}{p q r s t u v:α→β→Prop}{G:Prop}(h:∃ a b,p a b∧q a b∧r a b∧s a b∧t a b∧u a b∧v a b) (k:∀ a b,p a b→q a b→r a b→s a b→t a b→u a b→v a b→G):G:=h.elim fun a h=>h.elim fun b h=>k a b h.1 h.2.1 h.2.2.1 h.2.2.2.1 h.2.2.2.2.1 h.2.2.2.2.2.1 h.2.2.2.2.2.2
theorem Pn {α β γ:Type}{p:α→β→γ→Prop}{G:Prop}(h:∃ a b c,p a b c) (k:∀ a b c,p a b c→G):G:=h.elim fun a h=>h.elim fun b h=>h.elim fun c h=>k a b c h
theorem DF {α β γ:Type}{p q:α→β→γ→Prop}{G:Prop}(h:∃ a b c,p a b c∧q a b c) (k:∀ a b c,p a b c→q a b c→G):G:=h.elim fun a h=>h.elim fun b h=>h.elim fun c h=>k a b c h.1 h.2
theorem l7 {α β γ:Type}{p q r:α→β→γ→Prop}{G:Prop}(h:∃ a b c,p a b c∧q a b c∧r a b c) (k:∀ a b c,p a b c→q a b c→r a b c→G):G:=h.elim fun a h=>h.elim fun b h=>h.elim fun c h=>k a b c h.1 h.2.1 h.2.2
theorem Po {α β γ:Type}{p q r s:α→β→γ→Prop}{G:Prop}(h:∃ a b c,p a b c∧q a b c∧r a b c∧s a b c) (k:∀ a b c,p a b c→q a b c→r a b c→s a b c→G):G:=h.elim fun a h=>h.elim fun b h=>h.elim fun c h=>k a b c h.1 h.2.1 h.2.2.1 h.2.2.2
theorem Ij {α β γ:Type}{p q r s t:α→β→γ→Prop}{G:Prop}(h:∃ a b c,p a b c∧q a b c∧r a b c∧s a b c∧t a b c) (k:∀ a b c,p a b c→q a b c→r a b c→s a b c→t a b c→G):G:=h.elim fun a h=>h.elim fun b h=>h.elim fun c h=>k a b c h.1 h.2.1 h.2.2.1 h.2.2.2.1 h.2.2.2.2
theorem DG {α β γ:Type}{p q r s t u:α→β→γ→Prop}{G:Prop}(h:∃ a b c,p a b c∧q a b c∧r a b c∧s a b c∧t a b c∧u a b c) (k:∀ a b c,p a b c→q a b c→r a b c→s a b c→t a b c→u a b c→G):G:=h.elim fun a h=>h.elim fun b h=>h.elim fun c h=>k a b c h.1 h.2.1 h.2.2.1 h.2.2.2.1 h.2.2.2.2.1 h.2.2.2.2.2
theorem Rj {α β γ:Type}{p q r s t u v:α→β→γ→Prop}{G:Prop}(h:∃ a b c,p a b c∧q a b c∧r a b c∧s a b c∧t a b c∧u a b c∧v a b c) (k:∀ a b c,p a b c→q a b c→r a b c→s a b c→t a b c→u a b c→v a b c→G):G:=h.elim fun a h=>h.elim fun b h=>h.elim fun c h=>k a b c h.1 h.2.1 h.2.2.1 h.2.2.2.1 h.2.2.2.2.1 h.2.2.2.2.2.1 h.2.2.2.2.2.2
theorem KU {α β γ δ:Type}{p:α→β→γ→δ→Prop}{G:Prop}(h:∃ a b c d,p a b c d) (k:∀ a b c d,p a b c d→G):G:=h.elim fun a h=>h.elim fun b h=>h.elim fun c h=>h.elim fun d h=>k a b c d h
theorem zk {α β γ δ:Type}{p q:α→β→γ→δ→Prop}{G:Prop}(h:∃ a b c d,p a b c d∧q a b c d) (k:∀ a b c d,p a b c d→q a b c d→G):G:=h.elim fun a h=>h.elim fun b h=>h.elim fun c h=>h.elim fun d h=>k a b c d h.1 h.2
theorem E9 {α β γ δ:Type}{p q r:α→β→γ→δ→Prop}{G:Prop}(h:∃ a b c d,p a b c d∧q a b c d∧r a b c d) (k:∀ a b c d,p a b c d→q a b c d→r a b c d→G):G:=h.elim fun a h=>h.elim fun b h=>h.elim fun c h=>h.elim fun d h=>k a b c d h.1 h.2.1 h.2.2
theorem M9 {α β γ δ:Type}{p q r s:α→β→γ→δ→Prop}{G:Prop}(h:∃ a b c d,p a b c d∧q a b c d∧r a b c d∧s a b c d) (k:∀ a b c d,p a b c d→q a b c d→r a b c d→s a b c d→G):G:=h.elim fun a h=>h.elim fun b h=>h.elim fun c h=>h.elim fun d h=>k a b c d h.1 h.2.1 h.2.2.1 h.2.2.2
theorem DH {α β γ δ:Type}{p q r s t:α→β→γ→δ→Prop}{G:Prop}(h:∃ a b c d,p a b c d∧q a b c d∧r a b c d∧s a b c d∧t a b c d) (k:∀ a b c d,p a b c d→q a b c d→r a b c d→s a b c d→t a b c d→G):G:=h.elim fun a h=>h.elim fun b h=>h.elim fun c h=>h.elim fun d h=>k a b c d h.1 h.2.1 h.2.2.1 h.2.2.2.1 h.2.2.2.2
theorem Rk {α β γ δ:Type}{p q r s t u:α→β→γ→δ→Prop}{G:Prop}(h:∃ a b c d,p a b c d∧q a b c d∧r a b c d∧s a b c d∧t a b c d∧u a b c d) (k:∀ a b c d,p a b c d→q a b c d→r a b c d→s a b c d→t a b c d→u a b c d→G):G:=h.elim fun a h=>h.elim fun b h=>h.elim fun c h=>h.elim fun d h=>k a b c d h.1 h.2.1 h.2.2.1 h.2.2.2.1 h.2.2.2.2.1 h.2.2.2.2.2
theorem Na {α β γ δ:Type}{p q r s t u v:α→β→γ→δ→Prop}{G:Prop}(h:∃ a b c d,p a b c d∧q a b c d∧r a b c d∧s a b c d∧t a b c d∧u a b c d∧v a b c d) (k:∀ a b c d,p a b c d→q a b c d→r a b c d→s a b c d→t a b c d→u a b c d→v a b c d→G):G:=h.elim fun a h=>h.elim fun b h=>h.elim fun c h=>h.elim fun d h=>k a b c d h.1 h.2.1 h.2.2.1 h.2.2.2.1 h.2.2.2.2.1 h.2.2.2.2.2.1 h.2.2.2.2.2.2
noncomputable def Nb (P:Nat→Prop) (a:Nat):Nat→Prop
 | 0=>True
 | k+1=>P a∧Nb P (a+1) k
theorem wX {P:Nat→Prop}{w:Nat}:∀ {k a:Nat},Nb P a k→a≤w→w<a+k→P w
 | 0,_,_,h1,h2=>absurd h2 (Nat.not_lt.mpr h1)
 | k+1,a,h,h1,h2=>(Nat.lt_or_eq_of_le h1).elim (fun q=>wX h.2 q (Nat.add_right_comm a 1 k ▸ h2)) fun q=>q ▸ h.1
end Mine
end
section
open PySem PySem.W PyProof.Rows
set_option maxRecDepth 100000
namespace Mine
noncomputable def Pp {b:Program}(_:({ p:Program // b=p }→True)→Nat):Program:=b
theorem ofS (s:String):Str.ofString s=⟨⟨s.toList.map Char.toNat⟩⟩:=Str.ofString_eq_toList s
noncomputable abbrev Ps (a b d:Nat):Pos:=⟨a,b,a,d⟩
theorem psE (a b d:Nat):Pos.mk a b a d=Ps a b d:=rfl
set_option maxHeartbeats 0 in
noncomputable def pwL:Program:=by
 have e:{ p:Program // PySem.Challenge.pw_np0151_01=p }→True:=fun _=>trivial
 delta PySem.Challenge.pw_np0151_01 at e
 simp only [ofS,psE,String.reduceToList,List.map_cons,List.map_nil,Char.reduceToNat] at e
 exact Pp fun _:type_of% e=>0
theorem pwE:PySem.Challenge.pw_np0151_01=pwL:=by kernel_rfl
noncomputable def pwS:{ p:Program // PySem.Challenge.pw_np0151_01=p }:=⟨pwL,pwE⟩
noncomputable def Fa (den:Code→Sem Fin) (p:Program) (w:World) (n₀:Nat) (ann:Option Value):Nat→SharedT→Thread→Option SharedT
 | 0,_,_=>none
 | n+1,s,t=>match through t with
  | true=>some s
  | false=>match stepOk n₀ ann t with
   | false=>none
   | true=>match stepT den p w s t with
    | some (s',t')=>Fa den p w n₀ ann n s' t'
    | none=>none
theorem vp {tb:String→Option Builtin}{p:Program}{w:World}{n₀:Nat}{ann:Option Value}:∀ {n:Nat}{s s':SharedT}{t:Thread},Fa (denote tb) p w n₀ ann n s t=some s'→topRun tb p w n₀ ann n s.abs t=some s'.abs
 | 0,_,_,_,h=>by exact nS h
 | n+1,s,s',t,h=>by
  unfold Fa at h
  unfold topRun
  cases he:through t with
  | true=>rw [he] at h; replace h:=sj h; subst h; rfl
  | false =>
   rw [he] at h
   cases hk:stepOk n₀ ann t with
   | false=>rw [hk] at h; exact nS h
   | true =>
    rw [hk] at h
    cases hs:stepT (denote tb) p w s t with
    | none=>rw [hs] at h; exact nS h
    | some r=>obtain ⟨s₂,t₂⟩:=r; rw [hs] at h; dsimp only; rw [stepT_spec hs]; exact vp h
noncomputable abbrev KV:Code→Sem Fin:=Fast.tw11892475500146522536 Fast.tw14364793385576792824
noncomputable def Ik (p:Program) (w:World) (n₀:Nat) (ann:Option Value):Nat→SharedT→Thread→Option SharedT
 | 0,_,_=>none
 | n+1,s,t=>match through t with
  | true=>some s
  | false=>match Fast.tw6613529449190102663 n₀ ann t with
   | false=>none
   | true=>match Fast.tw10156331382660048174 KV p w s t with
    | some (s',t')=>Ik p w n₀ ann n s' t'
    | none=>none
termination_by structural n=>n
theorem Cy (p:Program) (w:World) (n₀:Nat) (ann:Option Value):∀ (n:Nat) (s:SharedT) (t:Thread),Ik p w n₀ ann n s t=Fa (denote treeTable) p w n₀ ann n s t
 | 0,_,_=>rfl
 | n+1,s,t=>by
  unfold Ik Fa
  rw [← Fast.te6613529449190102663,show KV=denote treeTable by unfold KV; rw [← Fast.te11892475500146522536,← Fast.te14364793385576792824],← Fast.te10156331382660048174]
  simp only [Cy p w n₀ ann n]
noncomputable def KW (l:List Obj):BT:=(l.foldl (fun (a:BT × Nat) o=>(a.1.ins a.2 o,a.2+1)) (.nil,0)).1
noncomputable def Ko (P:Params) (os:OsState):SharedT:=⟨KW [boot_o_0 P,boot_o_1 P,boot_o_2 P,boot_o_3 P,boot_o_4 P,boot_o_5 P,boot_o_6 P,boot_o_7 P,boot_o_8 P,boot_o_9 P,boot_o_10 P],11,{},#[],boot_drawn,boot_toks,os⟩
theorem DI (P:Params) (os:OsState):(Ko P os).abs=⟨boot_heap P,#[],boot_drawn,boot_toks,os⟩:=by kernel_rfl
end Mine
end
section
open PySem PySem.W PyProof.Rows
set_option maxRecDepth 1000000
namespace Mine
noncomputable def su:List Str:=[⟨⟨[82,97,105,115,101,100]⟩⟩,⟨⟨[101,114,114,111,114]⟩⟩,⟨⟨[119,114,111,110,103,95,97,114,103,115]⟩⟩,⟨⟨[108,105,115,116,105,110,103]⟩⟩,⟨⟨[112,105,99,107]⟩⟩,⟨⟨[99,117,116]⟩⟩,⟨⟨[110,111,116,101]⟩⟩,⟨⟨[110,111,116,101,95,114,111,119]⟩⟩,⟨⟨[105,110,95,115,101,116]⟩⟩,⟨⟨[98,101,104,105,110,100,95,111,110,101]⟩⟩,⟨⟨[112,117,116,95,112,108,97,99,101,115]⟩⟩,⟨⟨[102,111,108,100,101,100]⟩⟩,⟨⟨[102,105,116,115]⟩⟩,⟨⟨[105,115,95,98,108,97,110,107]⟩⟩,⟨⟨[100,105,103,105,116]⟩⟩,⟨⟨[100,105,103,105,116,115,95,118,97,108,117,101]⟩⟩,⟨⟨[98,97,115,101,95,111,102]⟩⟩,⟨⟨[119,104,111,108,101,95,111,102]⟩⟩,⟨⟨[110,101,101,100,95,119,104,111,108,101]⟩⟩,⟨⟨[109,111,118,101,100]⟩⟩,⟨⟨[105,110,100,101,120,95,111,102]⟩⟩,⟨⟨[104,101,120,95,115,105,103,110]⟩⟩,⟨⟨[111,99,116,97,108,95,115,105,103,110]⟩⟩,⟨⟨[98,97,99,107,115,108,97,115,104]⟩⟩,⟨⟨[99,104,101,99,107,95,98,101,104,105,110,100]⟩⟩,⟨⟨[98,114,97,99,101,100,95,101,108,101,109,101,110,116]⟩⟩,⟨⟨[113,117,111,116,101,100,95,101,108,101,109,101,110,116]⟩⟩,⟨⟨[98,97,114,101,95,101,108,101,109,101,110,116]⟩⟩,⟨⟨[102,105,110,100,95,101,108,101,109,101,110,116]⟩⟩,⟨⟨[115,112,108,105,116,95,108,105,115,116]⟩⟩,⟨⟨[109,111,100,101,95,111,102]⟩⟩,⟨⟨[101,115,99,97,112,101,100]⟩⟩,⟨⟨[113,117,111,116,101]⟩⟩,⟨⟨[106,111,105,110,95,108,105,115,116]⟩⟩,⟨⟨[99,111,109,112,97,114,101]⟩⟩,⟨⟨[116,104,114,101,101,95,119,97,121]⟩⟩,⟨⟨[100,105,103,105,116,115,95,98,101,104,105,110,100]⟩⟩,⟨⟨[110,111,117,103,104,116,115,95,98,101,104,105,110,100]⟩⟩,⟨⟨[99,97,115,101,95,111,114,100,101,114]⟩⟩,⟨⟨[100,105,99,116,105,111,110,97,114,121]⟩⟩,⟨⟨[107,101,121,95,98,121]⟩⟩,⟨⟨[99,111,109,112,97,114,101,95,107,101,121,115]⟩⟩,⟨⟨[99,104,101,99,107,95,105,110,100,101,120]⟩⟩,⟨⟨[112,97,116,104,95,111,102]⟩⟩,⟨⟨[112,97,114,116,95,97,116]⟩⟩,⟨⟨[115,116,114,105,100,101,95,111,102]⟩⟩,⟨⟨[79,112,116,105,111,110,115]⟩⟩,⟨⟨[112,117,116,95,102,108,97,103]⟩⟩,⟨⟨[112,117,116,95,118,97,108,117,101]⟩⟩,⟨⟨[114,101,97,100,95,111,112,116,105,111,110,115]⟩⟩,⟨⟨[99,97,108,108,101,100,95,111,114,100,101,114]⟩⟩,⟨⟨[111,114,100,101,114,95,111,102]⟩⟩,⟨⟨[109,101,114,103,101,100]⟩⟩,⟨⟨[115,111,114,116,95,112,108,97,99,101,115]⟩⟩,⟨⟨[109,101,114,103,101,95,115,111,114,116]⟩⟩,⟨⟨[115,101,97,114,99,104,95,111,112,116,105,111,110,115]⟩⟩,⟨⟨[105,115,95,104,105,116]⟩⟩,⟨⟨[115,101,97,114,99,104,95,108,105,110,101,97,114]⟩⟩,⟨⟨[115,101,97,114,99,104,95,115,111,114,116,101,100]⟩⟩,⟨⟨[108,115,101,97,114,99,104,95,97,99,116,105,111,110]⟩⟩,⟨⟨[95,108,97,119,95,115,112,101,108,108,105,110,103,115]⟩⟩,⟨⟨[95,108,97,119,95,112,105,101,99,101,115]⟩⟩,⟨⟨[95,108,97,119,95,116,111,108,100]⟩⟩,⟨⟨[95,108,97,119,95,114,101,102,117,115,97,108,115]⟩⟩,⟨⟨[95,108,97,119,95,100,114,97,119]⟩⟩,⟨⟨[95,108,97,119,95,112,101,110]⟩⟩,⟨⟨[95,108,97,119,95,119,111,114,100]⟩⟩,⟨⟨[95,108,97,119,95,108,105,115,116,101,100]⟩⟩,⟨⟨[95,108,97,119,95,100,105,99,116,105,111,110,97,114,121]⟩⟩,⟨⟨[95,108,97,119,95,107,101,121]⟩⟩,⟨⟨[95,108,97,119,95,111,114,100,101,114]⟩⟩,⟨⟨[95,108,97,119,95,102,105,116,115]⟩⟩,⟨⟨[95,108,97,119,95,115,116,97,114,116]⟩⟩,⟨⟨[95,108,97,119,95,111,112,116,105,111,110,115]⟩⟩,⟨⟨[95,108,97,119,95,110,111,95,110,117,109,98,101,114]⟩⟩,⟨⟨[95,108,97,119,95,108,105,110,101,97,114]⟩⟩,⟨⟨[95,108,97,119,95,115,111,114,116,101,100]⟩⟩,⟨⟨[95,108,97,119,95,100,117,101]⟩⟩,⟨⟨[95,108,97,119,95,104,101,97,114,100]⟩⟩,⟨⟨[95,108,97,119,95,105,116,101,109]⟩⟩,⟨⟨[95,108,97,119,95,105,110,95,111,114,100,101,114]⟩⟩,⟨⟨[95,108,97,119,95,114,111,119,95,114,105,103,104,116]⟩⟩]
noncomputable def qN:Program:=view pwS.1 [90]
noncomputable def Kq (P:Params) (S:SharedT):=((staticsOk (importedModules pwS.1.main.body) (boot_heap P) S.abs.heap&&namesBound pwS.1 S.abs.heap&&gensDone S.abs&&laidKept (boot_heap P) S.abs.heap),Fast.tw4187177175401517315 qN su (importedModules pwS.1.main.body) (fun _=>true) true S.abs)
end Mine
end
section
open PySem PySem.W PyProof.Rows
set_option maxRecDepth 20000
set_option backward.match.sparseCases false
set_option genSizeOf false
set_option genInjectivity false
namespace Mine
section
noncomputable def wh {α:Type} (c:Bool) (f:c=true→Option α):Option α:=match c,f with
 | true,f=>f rfl
 | false,_=>none
theorem fx {α:Type}{c:Bool}{f:c=true→Option α} (h:c=true):wh c f=f h:=by subst h; rfl
theorem zl {α:Type}{c:Bool}{f:c=true→Option α}{x:α}{P:Prop}(h:wh c f=some x) (k:∀ e:c=true,f e=some x→P):P:=by
 cases c with
 | true=>exact k rfl h
 | false=>exact nS h
noncomputable def opt {α β:Type} (o:Option α) (f:∀ a,o=some a→Option β):Option β:=match o,f with
 | some a,f=>f a rfl
 | none,_=>none
theorem cC {α β:Type}{o:Option α}{a:α}{f:∀ a,o=some a→Option β} (h:o=some a):opt o f=f a h:=by subst h; rfl
section
variable {α:Type}{P:α→Prop}
noncomputable abbrev Cv (P:α→Prop):Type:=Option {r:α // P r}
noncomputable def Cv.v (o:Cv P):Option α:=match o with
 | some r=>some r.1
 | none=>none
noncomputable abbrev yes (r:α) (h:P r):Cv P:=some ⟨r,h⟩
theorem lK {o:Cv P}{r:α}(h:o.v=some r):P r:=by
 cases o with
 | none=>exact nS h
 | some r'=>exact sj h ▸ r'.2
end
theorem cvT {P:Prop}{o:Cv (fun _:Unit=>P)} (h:o.isSome=true):P:=by
 cases o with
 | none=>exact ff h
 | some r=>exact r.2
noncomputable abbrev Ck (P:Prop):Type:=Cv (fun _:Unit=>P)
noncomputable def bd {P Q:Prop}(c:Ck P) (f:P→Ck Q):Ck Q:=match c with
 | some u=>f u.2
 | none=>none
noncomputable abbrev ys {P:Prop}(h:P):Ck P:=yes () h
theorem an {a b:Bool}(h:(a&&b)=true):a=true∧b=true:=Bool.and_eq_true_iff.mp h
inductive V where
 | none
 | bool (b:Bool)
 | int (i:Int)
 | str (s:Str)
 | tup (vs:List V)
 | lst (vs:List V)
 | dS (ks:List Str) (vs:List V)
 | dI (ks:List Int)
 | inst (C:Addr) (ks:List Str) (vs:List V)
 | rng (a b:Int)
 | ref (i:Nat)
noncomputable abbrev big:Nat:=1000000
noncomputable def iz (h:Heap) (a:Addr) (xs:Array Value):Prop:=xs.size≤big∧∃ n,h.get? a=some { cls:=.type "list",dict:=none,data:=.seq xs n,slots:=#[] }
noncomputable def Cz (h:Heap) (a:Addr) (xs:Array Value):Prop:=xs.size≤big∧h.get? a=some { cls:=.type "tuple",dict:=none,data:=.seq xs,slots:=#[] }
theorem iz.isList {h:Heap}{a:Addr}{xs:Array Value}(x:iz h a xs):h.IsList a xs:=let ⟨_,n,e⟩:=x; ⟨_,e,rfl,n,rfl⟩
theorem Cz.isTup {h:Heap}{a:Addr}{xs:Array Value}(x:Cz h a xs):IsTup h a xs:=⟨_,x.2,rfl,0,rfl⟩
section rep
variable (prog:Program) (w:World) (h:Heap) (ok:Addr→Prop) (al:List Addr)
mutual
noncomputable def Rep:V→Value→Prop
 | .none,v=>v=.none
 | .bool b,v=>v=.bool b
 | .int i,v=>∃ t,v=.int i t
 | .str s,v=>∃ t,v=.str s t∧s.length≤big
 | .tup vs,v=>∃ a xs,v=.ref a∧ok a∧Cz h a xs∧RepL vs xs.toList
 | .lst vs,v=>∃ a xs,v=.ref a∧ok a∧iz h a xs∧RepL vs xs.toList
 | .dS ks vs,v=>∃ a xs ep,v=.ref a∧ok a∧(a==sysModules)=false∧h.DictAt (strKind prog w) a (ks.zip xs) ep∧ks.length=xs.length∧RepL vs xs
 | .dI ks,v=>∃ a ep,v=.ref a∧ok a∧(a==sysModules)=false∧h.DictAt (intKind prog w) a (ks.map fun k=>(k,Value.bool true)) ep∧ks.length≤big
 | .inst C ks vs,v=>∃ a d xs ep,v=.ref a∧ok a∧ok d∧h.get? a=some (instObj C d)∧h.DictAt (strKind prog w) d (ks.zip xs) ep∧ks.length=xs.length∧RepL vs xs
 | .rng a b,v=>∃ r t u x,v=.ref r∧ok r∧IsRange h r a b 1 t u x
 | .ref i,v=>∃ a,al[i]? = some a∧v=.ref a
noncomputable def RepL:List V→List Value→Prop
 | [],xs=>xs=[]
 | v::vs,xs=>∃ x ys,xs=x::ys∧Rep v x∧RepL vs ys
end
end rep
theorem qp {h h':Heap}{a:Addr}{xs:Array Value}(k:∀ o,h.get? a=some o→h'.get? a=some o) (x:IsTup h a xs):IsTup h' a xs :=
 let ⟨o,ho,r⟩:=x; ⟨o,k o ho,r⟩
theorem iz.keeps {h h':Heap}{a:Addr}{xs:Array Value}(k:∀ o,h.get? a=some o→h'.get? a=some o) (x:iz h a xs):iz h' a xs :=
 let ⟨b,n,e⟩:=x; ⟨b,n,k _ e⟩
theorem bE {prog:Program}{w:World}{K:Type} [DecidableEq K] {knd:KeyKind prog w K}{h h':Heap}{a:Addr}{kvs:List (K × Value)}{ep:Nat}
  (k:∀ o,h.get? a=some o→h'.get? a=some o) (x:h.DictAt knd a kvs ep):h'.DictAt knd a kvs ep:=cN x fun o es ho r=>⟨o,es,k o ho,r⟩
section mono
variable {prog:Program}{w:World}{h h':Heap}{ok ok':Addr→Prop}{al al':List Addr}
mutual
noncomputable def V.pu:V→Bool
 | .ref _=>false
 | .tup vs=>V.puL vs
 | .lst vs=>V.puL vs
 | .dS _ vs=>V.puL vs
 | .inst _ _ vs=>V.puL vs
 | _=>true
noncomputable def V.puL:List V→Bool
 | []=>true
 | v::vs=>v.pu&&V.puL vs
end
noncomputable abbrev Kp (h h':Heap) (ok ok':Addr→Prop):Prop:=∀ b o,h.get? b=some o→ok b→h'.get? b=some o∧ok' b
theorem Kp.dict {K:Type} [DecidableEq K] {knd:KeyKind prog w K}{a:Addr}{kvs:List (K × Value)}{ep:Nat}(k:Kp h h' ok ok') (h1:ok a) (x:h.DictAt knd a kvs ep):ok' a∧h'.DictAt knd a kvs ep :=
 cN x fun o es ho r=>⟨(k a o ho h1).2,o,es,(k a o ho h1).1,r⟩
theorem Rep.mono0 (k:Kp h h' ok ok') (v:V):∀ x,(v.pu=true∨∀ (i:Nat) (a:Addr),al[i]? = some a→al'[i]? = some a)→Rep prog w h ok al v x→Rep prog w h' ok' al' v x :=
 V.rec (motive_1:=fun v=>∀ x,(v.pu=true∨∀ (i:Nat) (a:Addr),al[i]? = some a→al'[i]? = some a)→Rep prog w h ok al v x→Rep prog w h' ok' al' v x)
  (motive_2:=fun vs=>∀ xs,(V.puL vs=true∨∀ (i:Nat) (a:Addr),al[i]? = some a→al'[i]? = some a)→RepL prog w h ok al vs xs→RepL prog w h' ok' al' vs xs)
  (fun _ _ r=>r) (fun _ _ _ r=>r) (fun _ _ _ r=>r) (fun _ _ _ r=>r)
  (fun vs i x c r=>cP r fun a xs e h1 h2 h3=>⟨a,xs,e,(k a _ h2.2 h1).2,⟨h2.1,(k a _ h2.2 h1).1⟩,i _ c h3⟩)
  (fun vs i x c r=>cP r fun a xs e h1 h2 h3=>h2.2.elim fun n h2'=>⟨a,xs,e,(k a _ h2' h1).2,⟨h2.1,n,(k a _ h2' h1).1⟩,i _ c h3⟩)
  (fun ks vs i x c r=>DG r fun a xs ep e h1 hz h2 h3 h4=>⟨a,xs,ep,e,(k.dict h1 h2).1,hz,(k.dict h1 h2).2,h3,i _ c h4⟩)
  (fun ks x c r=>mT r fun a ep e h1 hz h2 h3=>⟨a,ep,e,(k.dict h1 h2).1,hz,(k.dict h1 h2).2,h3⟩)
  (fun C ks vs i x c r=>Na r fun a d xs ep e h1 h1' ha h2 h3 h4=>⟨a,d,xs,ep,e,(k a _ ha h1).2,(k.dict h1' h2).1,(k a _ ha h1).1,(k.dict h1' h2).2,h3,i _ c h4⟩)
  (fun a b x c r=>E9 r fun r t u y e h1 h2=>⟨r,t,u,y,e,(k r _ h2 h1).2,(k r _ h2 h1).1⟩)
  (fun i x c r=>ae r fun a h1 h2=>⟨a,c.elim ff fun c=>c _ _ h1,h2⟩)
  (fun _ _ r=>r)
  (fun v vs i j xs c r=>cz r fun x ys e r1 r2=>⟨x,ys,e,i _ (c.imp (fun c=>(Bool.and_eq_true_iff.mp c).1) id) r1,j _ (c.imp (fun c=>(Bool.and_eq_true_iff.mp c).2) id) r2⟩) v
theorem RepL.mono0 (k:Kp h h' ok ok'):∀ {vs:List V}{xs:List Value},(V.puL vs=true∨∀ (i:Nat) (a:Addr),al[i]? = some a→al'[i]? = some a)→RepL prog w h ok al vs xs→RepL prog w h' ok' al' vs xs
 | [],_,_,r=>r
 | v::vs,xs,c,r=>cz r fun x ys e r1 r2=>⟨x,ys,e,Rep.mono0 k v x (c.imp (fun c=>(Bool.and_eq_true_iff.mp c).1) id) r1,RepL.mono0 k (c.imp (fun c=>(Bool.and_eq_true_iff.mp c).2) id) r2⟩
theorem Rep.mono {v:V}{x:Value}(pre:∀ (i:Nat) (a:Addr),al[i]? = some a→al'[i]? = some a) (k:Kp h h' ok ok'):Rep prog w h ok al v x→Rep prog w h' ok' al' v x:=Rep.mono0 k v x (.inr pre)
theorem RepL.mono {vs:List V}{xs:List Value}(pre:∀ (i:Nat) (a:Addr),al[i]? = some a→al'[i]? = some a) (k:Kp h h' ok ok'):RepL prog w h ok al vs xs→RepL prog w h' ok' al' vs xs:=RepL.mono0 k (.inr pre)
theorem RepL.nil:RepL prog w h ok al [] []:=rfl
theorem RepL.cons {v:V}{x:Value}{vs:List V}{xs:List Value}(r:Rep prog w h ok al v x) (q:RepL prog w h ok al vs xs):RepL prog w h ok al (v::vs) (x::xs):=⟨x,xs,rfl,r,q⟩
theorem RepL.ind {P:List V→List Value→Prop}(n:P [] []) (c:∀ v x vs xs,Rep prog w h ok al v x→RepL prog w h ok al vs xs→P vs xs→P (v::vs) (x::xs)):∀ {vs:List V}{xs:List Value},RepL prog w h ok al vs xs→P vs xs
 | [],_,r=>(show _=[] from r) ▸ n
 | v::vs,_,r=>let ⟨x,ys,e,r1,r2⟩:=r; e ▸ c v x vs ys r1 r2 (RepL.ind n c r2)
theorem RepL.length {vs:List V}{xs:List Value}(r:RepL prog w h ok al vs xs):vs.length=xs.length:=r.ind (P:=fun vs xs=>vs.length=xs.length) rfl fun _ _ _ _ _ _ i=>congrArg (·+1) i
theorem RepL.get {vs:List V}{xs:List Value}(r:RepL prog w h ok al vs xs):∀ {i:Nat}{v:V},vs[i]? = some v→∃ x,xs[i]? = some x∧Rep prog w h ok al v x :=
 r.ind (P:=fun vs xs=>∀ {i:Nat}{v:V},vs[i]? = some v→∃ x,xs[i]? = some x∧Rep prog w h ok al v x) (fun e=>nS e) fun u x vs xs r1 _ ih {i v} e=>match i with
  | 0=>⟨x,rfl,sj e ▸ r1⟩
  | i+1=>ih (i:=i) e
theorem RepL.append {vs us:List V}{xs ys:List Value}(r:RepL prog w h ok al vs xs) (q:RepL prog w h ok al us ys):RepL prog w h ok al (vs++us) (xs++ys) :=
 r.ind (P:=fun vs xs=>RepL prog w h ok al (vs++us) (xs++ys)) q fun _ _ _ _ r1 _ i=>.cons r1 i
theorem RepL.drop {vs:List V}{xs:List Value}(r:RepL prog w h ok al vs xs):∀ n:Nat,RepL prog w h ok al (vs.drop n) (xs.drop n) :=
 r.ind (P:=fun vs xs=>∀ n:Nat,RepL prog w h ok al (vs.drop n) (xs.drop n)) (fun n=>by simp only [List.drop_nil]; exact .nil) fun _ _ _ _ r1 r2 i n=>match n with
  | 0=>.cons r1 r2
  | n+1=>i n
theorem RepL.take {vs:List V}{xs:List Value}(r:RepL prog w h ok al vs xs):∀ n:Nat,RepL prog w h ok al (vs.take n) (xs.take n) :=
 r.ind (P:=fun vs xs=>∀ n:Nat,RepL prog w h ok al (vs.take n) (xs.take n)) (fun n=>by simp only [List.take_nil]; exact .nil) fun _ _ _ _ r1 r2 i n=>match n with
  | 0=>.nil
  | n+1=>.cons r1 (i n)
end mono
end
end Mine
end
section
open PySem PySem.W PyProof.Rows
set_option maxRecDepth 20000
set_option genSizeOf false
namespace Mine
structure Fn where
 addr:Addr
 name:Str
 qual:Str
 params:Arguments
 body:List Stmt
 scope:Scope
 dfl:List V
noncomputable abbrev st (i:Nat):Stmt:=(pwL.main.body[i]?).getD (.Pass ⟨0,0,0,0⟩)
noncomputable abbrev Kr (s:Stmt) (k:Nat):Stmt:=match s with
 | .ClassDef _ _ _ body _ _ _ _ _ _ _=>(body[k]?).getD (.Pass ⟨0,0,0,0⟩)
 | _=>.Pass ⟨0,0,0,0⟩
noncomputable def Fb:Arguments:=⟨[],[],none,[],[],none,[]⟩
noncomputable def CA:Scope:={ kind:=.function,names:=[],isGenerator:=false,isCoroutine:=false,more:=[] }
noncomputable abbrev aD (s:Stmt) (a:Addr) (dfl:List V):Fn:=match s with
 | .FunctionDef name args body _ _ _ scope _ _ _=>⟨a,name,name,args,body,scope,dfl⟩
 | _=>⟨a, "", "",Fb,[],CA,dfl⟩
noncomputable def av:Fn:={ aD (Kr (st 1) 0) 30 [.tup [.str "NONE"],.int 0,.int 0] with qual:="Raised.__init__" }
noncomputable def CB:Fn:=aD (st 2) 45 [.tup [.str "NONE"]]
noncomputable def mU:Fn:=aD (st 3) 52 []
noncomputable def vq:Fn:=aD (st 4) 59 []
noncomputable def Fc:Fn:=aD (st 5) 66 []
noncomputable def Nc:Fn:=aD (st 6) 73 []
noncomputable def KY:Fn:=aD (st 7) 80 []
noncomputable def Be:Fn:=aD (st 8) 87 []
noncomputable def zm:Fn:=aD (st 10) 94 []
noncomputable def mV:Fn:=aD (st 11) 101 []
noncomputable def mW:Fn:=aD (st 12) 108 []
noncomputable def zn:Fn:=aD (st 13) 115 []
noncomputable def Fe:Fn:=aD (st 14) 123 [.bool false]
noncomputable def sx:Fn:=aD (st 16) 130 []
noncomputable def CC:Fn:=aD (st 17) 137 []
noncomputable def ki:Fn:=aD (st 18) 144 []
noncomputable def vr:Fn:=aD (st 19) 151 []
noncomputable def sy:Fn:=aD (st 20) 158 []
noncomputable def mX:Fn:=aD (st 21) 165 []
noncomputable def CD:Fn:=aD (st 22) 172 []
noncomputable def sA:Fn:=aD (st 23) 179 []
noncomputable def Bf:Fn:=aD (st 25) 186 []
noncomputable def wY:Fn:=aD (st 26) 193 []
noncomputable def zo:Fn:=aD (st 27) 200 []
noncomputable def kj:Fn:=aD (st 29) 207 []
noncomputable def iX:Fn:=aD (st 30) 214 []
noncomputable def oO:Fn:=aD (st 31) 221 []
noncomputable def kl:Fn:=aD (st 32) 228 []
noncomputable def km:Fn:=aD (st 33) 235 []
noncomputable def mY:Fn:=aD (st 34) 242 []
noncomputable def vt:Fn:=aD (st 35) 249 []
noncomputable def DJ:Fn:=aD (st 36) 256 []
noncomputable def CE:Fn:=aD (st 37) 264 [.bool false]
noncomputable def qr:Fn:=aD (st 38) 271 []
noncomputable def vv:Fn:=aD (st 40) 278 []
noncomputable def qs:Fn:=aD (st 42) 285 []
noncomputable def jX:Fn:=aD (st 43) 292 []
noncomputable def iY:Fn:=aD (st 44) 299 []
noncomputable def mZ:Fn:=aD (st 45) 306 []
noncomputable def m5:Fn:=aD (st 46) 313 []
noncomputable def zp:Fn:=aD (st 47) 320 []
noncomputable def kq:Fn:=aD (st 48) 327 []
noncomputable def lO:Fn:=aD (st 49) 334 []
noncomputable def vz:Fn:=aD (st 50) 341 []
noncomputable def vA:Fn:=aD (st 51) 348 []
noncomputable def zq:Fn:=aD (st 52) 355 []
noncomputable def au:Fn:={ aD (Kr (st 53) 0) 369 [] with qual:="Options.__init__" }
noncomputable def sB:Fn:=aD (st 54) 383 []
noncomputable def qt:Fn:=aD (st 55) 390 []
noncomputable def kr:Fn:=aD (st 56) 397 []
noncomputable def sC:Fn:=aD (st 57) 404 []
noncomputable def sD:Fn:=aD (st 58) 411 []
noncomputable def zr:Fn:=aD (st 59) 418 []
noncomputable def lP:Fn:=aD (st 60) 425 []
noncomputable def m6:Fn:=aD (st 61) 433 [.bool false]
noncomputable def iZ:Fn:=aD (st 62) 440 []
noncomputable def zt:Fn:=aD (st 63) 447 []
noncomputable def jY:Fn:=aD (st 64) 454 []
noncomputable def jZ:Fn:=aD (st 65) 461 []
noncomputable def i3:Fn:=aD (st 66) 468 []
noncomputable def j0:Fn:=aD (st 68) 475 []
noncomputable def m8:Fn:=aD (st 69) 482 []
noncomputable def sF:Fn:=aD (st 70) 489 []
noncomputable def kt:Fn:=aD (st 71) 496 []
noncomputable def sG:Fn:=aD (st 72) 503 []
noncomputable def vB:Fn:=aD (st 73) 510 []
noncomputable def sH:Fn:=aD (st 74) 517 []
noncomputable def m9:Fn:=aD (st 75) 522 []
noncomputable def i4:Fn:=aD (st 76) 529 []
noncomputable def vC:Fn:=aD (st 77) 534 []
noncomputable def qu:Fn:=aD (st 78) 541 []
noncomputable def sI:Fn:=aD (st 79) 548 []
noncomputable def qv:Fn:=aD (st 80) 555 []
noncomputable def lQ:Fn:=aD (st 81) 560 []
noncomputable def j1:Fn:=aD (st 82) 567 []
noncomputable def na:Fn:=aD (st 83) 574 []
noncomputable def nf:Fn:=aD (st 84) 581 []
noncomputable def vD:Fn:=aD (st 85) 586 []
noncomputable def qw:Fn:=aD (st 86) 593 []
noncomputable def sJ:Fn:=aD (st 87) 598 []
noncomputable def ku:Fn:=aD (st 88) 603 []
noncomputable def j2:Fn:=aD (st 89) 608 []
noncomputable def zu:Fn:=aD (st 90) 615 []
noncomputable def ai:Addr:=33
noncomputable def ak:Addr:=372
noncomputable def TAB:List Fn:=[CB,mU,vq,Fc,Nc,KY,Be,zm,mV,mW,zn,Fe,sx,CC,ki,vr,sy,mX,CD,sA,Bf,wY,zo,kj,iX,oO,kl,km,mY,vt,DJ,CE,qr,vv,qs,jX,iY,mZ,m5,zp,kq,lO,vz,vA,zq,sB,qt,kr,sC,sD,zr,lP,m6,iZ,zt,jY,jZ,i3,j0,m8,sF,kt,sG,vB,sH,m9,i4,vC,qu,sI,qv,lQ,j1,na,nf,vD,qw,sJ,ku,j2,zu]
inductive MO where
 | list (vs:List V)
 | dS (ks:List Str) (vs:List V)
 | dI (ks:List Int)
 | inst (C d:Addr) (ks:List Str) (vs:List V)
 | exc (d:Addr) (tb:Option (Addr × Value)) (ks:List Str) (vs:List V)
 | made (d:Option Addr) (ks:List Str) (vs:List V)
 | dead
noncomputable abbrev MH:=List (Addr × MO)
noncomputable def MO.addrs (a:Addr):MO→List Addr
 | .inst _ d _ _=>[a,d]
 | .exc d (some T) _ _=>[a,d,T.1]
 | .exc d none _ _=>[a,d]
 | .made d _ _=>a::d.toList
 | .dead=>[]
 | _=>[a]
noncomputable def MO.isFly:MO→Bool
 | .exc ..=>true
 | _=>false
noncomputable def bC (H:MH):List Addr:=(H.filter fun p=>!p.2.isFly).map (·.1)
noncomputable def aW (H:MH):List Addr:=H.flatMap fun p=>p.2.addrs p.1
noncomputable def f9:List Str:=["len", "ord", "str", "range", "min", "max", "sum", "sorted", "isinstance", "Exception"]
noncomputable def Kt (prog:Program) (w:World) (base:Heap) (dV:Value) (dfl:List V):Prop :=
 (dfl=[]∧dV=.none)∨∃ t xs,dV=.ref t∧IsTup base t xs∧RepL prog w base (fun _=>True) [] dfl xs.toList
noncomputable abbrev Fn.data (F:Fn) (dV pm cd:Value):FuncData:=fnOf F.name F.qual F.params F.body F.scope dV .none .none pm none cd .none
noncomputable def Bg (prog:Program) (w:World) (base:Heap) (F:Fn):Prop :=
 ∃ o pm cd dV,base.get? F.addr=some o∧o.data=.func (F.data dV pm cd)∧base.CodeRec cd F.qual∧Kt prog w base dV F.dfl
noncomputable def aU:List Str:=["mode", "how", "is_decreasing", "command", "path", "stride", "start", "flags", "code", "value", "errorcode", "level", "ret", "info", "is_noted", "line", "extra"]
noncomputable def mc (K:Frag) (C:Addr) (ga:String):Bool :=
 findIn K (.ref C) "__getattribute__"==some (some (.builtin ga))&&(clsIn K C).any (·.hasDict)&&aU.all fun n=>findIn K (.ref C) n==some none
noncomputable def Bh (K:Frag):Bool :=
 findIn K (.ref ai) "__getattr__"==some none&&mroIn K ai (.type "BaseException")==some true &&
 findIn K (.ref ai) "__setattr__"==some (some (.builtin "object.__setattr__"))&&findIn K (.ref ak) "__setattr__"==some (some (.builtin "object.__setattr__")) &&
 (clsIn K ak).any (fun cd=>onlyObject cd.mro)&&(clsIn K ai).any (fun cd=>cd.mro==[.ref ai,.type "Exception",.type "BaseException",.type "object"])
noncomputable abbrev oP:List Value:=[.type "Exception",.type "BaseException",.type "object"]
structure de (h:Heap):Prop where
 obj:∃ nm q N bs hdct sn sub ab col dd k0 k1 k2 k3 k5,h.get? ai=some (excClassObj nm q ai N bs oP hdct sn sub ab col dd k0 k1 k2 k3 k5 "Exception.__new__")
theorem de.el {h:Heap}{G:Prop}(Y:de h) (f:∀ nm q N bs hdct sn sub ab col dd k0 k1 k2 k3 k5,h.get? ai=some (excClassObj nm q ai N bs oP hdct sn sub ab col dd k0 k1 k2 k3 k5 "Exception.__new__")→G):G:=by
 obtain ⟨nm,q,N,bs,hdct,sn,sub,ab,col,dd,k0,k1,k2,k3,k5,hC⟩:=Y
 exact f _ _ _ _ _ _ _ _ _ _ _ _ _ _ _ hC
theorem oQ {α:Type}{l:List α}{n:Nat}{G:Prop}(h:l.length=n+1) (k:∀ a t,l=a::t→t.length=n→G):G:=sq (List.exists_cons_of_length_eq_add_one h) fun a t e=>k a t e (Nat.succ.inj ((congrArg List.length e).symm.trans h))
theorem six {α:Type}{l:List α}(h:l.length=6):∃ a b c d e f,l=[a,b,c,d,e,f] :=
 oQ h fun a l e h=>oQ h fun b l e1 h=>oQ h fun c l e2 h=>oQ h fun d l e3 h=>oQ h fun x l e4 h=>oQ h fun y l e5 h=>⟨a,b,c,d,x,y,by rw [e,e1,e2,e3,e4,e5,List.eq_nil_of_length_eq_zero h]⟩
theorem DK {h:Heap}{o:Obj}{cd:ClassData}(e:h.get? ai=some o) (h1:(o.cls==.type "type")=true) (h0:o.data=.cls cd) (h2:(cd.mro==.ref ai::oP&&!cd.hasDel)=true) (h3:(o.slots.size==6&&o.slots[4]?==some (some (.builtin "Exception.__new__")))=true):de h:=by
 have h2:=Bool.and_eq_true_iff.mp h2
 have h3:=Bool.and_eq_true_iff.mp h3
 obtain ⟨c,dd,d,⟨sl⟩⟩:=o
 obtain ⟨k0,k1,k2,k3,k4,k5,hl⟩:=six (eq_of_beq h3.1)
 have h4:=eq_of_beq h3.2
 have h1:=eq_of_beq h1
 have h5:=eq_of_beq h2.1
 obtain ⟨nm,bs,mro,ns,qn,hd,sn,sub,ab,col,del⟩:=cd
 dsimp only at h1 h0 h4 h5 hl
 have h6:del=false:=by cases del <;> first | rfl | exact ff h2.2
 subst h1 h0 h5 h6 hl
 rw [show k4=_ from sj h4] at e
 exact ⟨nm,qn,ns,bs,hd,sn,sub,ab,col,dd,k0,k1,k2,k3,k5,e⟩
noncomputable def Pq (K:Frag):Cv (fun _:Unit=>∀ h:Heap,K.In h→de h):=match e:K.lookup ai with
 | some o=>match h0:o.data with
  | .cls cd=>wh (o.cls==.type "type") fun h1=>wh (cd.mro==.ref ai::oP&&!cd.hasDel) fun h2=>wh (o.slots.size==6&&o.slots[4]?==some (some (.builtin "Exception.__new__"))) fun h3=>yes () fun h X=>DK (X _ _ e) h1 h0 h2 h3
  | _=>none
 | none=>none
noncomputable def Ff (K:Frag):Bool:=(Pq K).isSome
noncomputable def zv (K:Frag):Bool :=
 Ff K&&keepIn K (.ref ai)&&findIn K (.ref ai) "__init__"==some (some (.ref av.addr))&&typeIn K (.ref av.addr)==some (.type "function") &&
 makesIn K ak&&keepIn K (.ref ak)&&findIn K (.ref ak) "__init__"==some (some (.ref au.addr))&&typeIn K (.ref au.addr)==some (.type "function")
noncomputable def sK (K:Frag):Bool:=mc K ak "object.__getattribute__"&&mc K ai "BaseException.__getattribute__"&&Bh K&&zv K
theorem Bi {α:Type}{o:Option α}{p:α→Bool}(h:o.any p=true):∃ a,o=some a∧p a=true:=by
 cases o with
 | none=>exact ff h
 | some a=>exact ⟨a,rfl,h⟩
structure Fg (K:Frag) (C:Addr) (ga:String):Prop where
 ga:findIn K (.ref C) "__getattribute__"=some (some (.builtin ga))
 cls:∃ cd,clsIn K C=some cd∧cd.hasDict=true
 at_:∀ n∈aU,findIn K (.ref C) n=some none
theorem Nd {K:Frag}{C:Addr}{ga:String}(h:mc K C ga=true):Fg K C ga :=
 have h:=Bool.and_eq_true_iff.mp h; have h1:=Bool.and_eq_true_iff.mp h.1
 ⟨eq_of_beq h1.1,Bi h1.2,fun n hn=>eq_of_beq (List.all_eq_true.mp h.2 n hn)⟩
structure wZ (K:Frag):Prop where
 o:Fg K ak "object.__getattribute__"
 r:Fg K ai "BaseException.__getattribute__"
 ga:findIn K (.ref ai) "__getattr__"=some none
 mro:mroIn K ai (.type "BaseException")=some true
 sr:findIn K (.ref ai) "__setattr__"=some (some (.builtin "object.__setattr__"))
 so:findIn K (.ref ak) "__setattr__"=some (some (.builtin "object.__setattr__"))
 co:∃ cd,clsIn K ak=some cd∧onlyObject cd.mro=true
 cr:∃ cd,clsIn K ai=some cd∧(cd.mro==[.ref ai,.type "Exception",.type "BaseException",.type "object"])=true
 r1:∀ h:Heap,K.In h→de h
 r2:keepIn K (.ref ai)=true
 r3:findIn K (.ref ai) "__init__"=some (some (.ref av.addr))
 r4:typeIn K (.ref av.addr)=some (.type "function")
 o1:makesIn K ak=true
 o2:keepIn K (.ref ak)=true
 o3:findIn K (.ref ak) "__init__"=some (some (.ref au.addr))
 o4:typeIn K (.ref au.addr)=some (.type "function")
theorem KZ {K:Frag}(h:sK K=true):wZ K :=
 have a {x y:Bool}(h:(x&&y)=true):=Bool.and_eq_true_iff.mp h
 have c:=a h; have b:=a c.1; have d:=a b.1
 have e6:=a b.2; have e5:=a e6.1; have e4:=a e5.1; have e3:=a e4.1; have e2:=a e3.1
 have f8:=a c.2; have f7:=a f8.1; have f6:=a f7.1; have f5:=a f6.1; have f4:=a f5.1; have f3:=a f4.1; have f2:=a f3.1
 ⟨Nd d.1,Nd d.2,eq_of_beq e2.1,eq_of_beq e2.2,eq_of_beq e3.2,eq_of_beq e4.2,Bi e5.2,Bi e6.2,
  cvT f2.1,f2.2,eq_of_beq f3.2,eq_of_beq f4.2,f5.2,f6.2,eq_of_beq f7.2,eq_of_beq f8.2⟩
structure Wd (prog:Program) (w:World) (base:Heap):Prop where
 nolimit:base.NoLimit
 sysm:∃ o,base.get? sysModules=some o
 glob:∃ mg,base.Ns mainGlobals mg∧(∀ F∈TAB,mg F.name=some (.ref F.addr))∧mg "Raised"=some (.ref ai)∧mg "Options"=some (.ref ak)∧∀ x∈f9,mg x=none
 blt:∃ mb,base.Ns builtinsNs mb∧∀ x∈f9,mb x=bootBuiltins x
 cls:∃ K:Frag,K.In base∧wZ K
 fns:∀ F∈av::au::TAB,Bg prog w base F
structure Fm where
 prog:Program
 w:World
 base:Heap
 A:Around
 env:Env
 fenvs:List Env
 names:List Str
 own:List Addr
 outs:List Addr
 int:List Addr
 gens:Array GenState
 os:OsState
 drawn:Drawn
 fr:Addr
noncomputable abbrev Fm.M (fm:Fm):Model:=model fm.prog fm.w
noncomputable def Fm.X (fm:Fm) (H:MH):List Addr:=fm.own++fm.outs++aW H
noncomputable def Fm.ok (fm:Fm) (H:MH) (a:Addr):Prop:=a ∉ fm.X H∧a ∉ fm.int
noncomputable abbrev Fm.R (fm:Fm) (H:MH) (h:Heap):V→Value→Prop:=Rep fm.prog fm.w h (fm.ok H) (bC H)
noncomputable abbrev Fm.RL (fm:Fm) (H:MH) (h:Heap):List V→List Value→Prop:=RepL fm.prog fm.w h (fm.ok H) (bC H)
noncomputable def K3 (h:Heap) (fs:Array Value):Option (Addr × Value)→Prop
 | none=>fs[1]? = some .none
 | some (T,fl)=>fs[1]? = some (.ref T)∧∃ oT ts,h.get? T=some oT∧oT.data=.fields ts∧ts[3]? = some fl
noncomputable def kx (prog:Program) (w:World) (P:List V→List Value→Prop) (h:Heap) (a:Addr):MO→Prop
 | .list vs=>∃ xs,iz h a xs∧P vs xs.toList
 | .dS ks vs=>∃ xs ep,h.DictAt (strKind prog w) a (ks.zip xs) ep∧ks.length=xs.length∧P vs xs
 | .dI ks=>∃ ep,h.DictAt (intKind prog w) a (ks.map fun k=>(k,Value.bool true)) ep∧ks.length≤big
 | .inst C d ks vs=>h.get? a=some (instObj C d)∧∃ xs ep,h.DictAt (strKind prog w) d (ks.zip xs) ep∧ks.length=xs.length∧P vs xs
 | .exc d tb ks vs=>(∃ fs sl,h.get? a=some ⟨Value.ref ai,some d,.fields fs,sl⟩∧K3 h fs tb)∧∃ xs ep,h.DictAt (strKind prog w) d (ks.zip xs) ep∧ks.length=xs.length∧P vs xs
 | .made d ks vs=>(∃ fs sl,h.get? a=some ⟨Value.ref ai,d,.fields fs,sl⟩∧fs[1]? = some .none) ∧
  match d with
  | none=>ks=[]∧vs=[]
  | some d=>∃ xs ep,h.DictAt (strKind prog w) d (ks.zip xs) ep∧ks.length=xs.length∧P vs xs
 | .dead=>True
noncomputable abbrev dC (fm:Fm) (H:MH) (h:Heap) (a:Addr) (mo:MO):Prop:=kx fm.prog fm.w (fm.RL H h) h a mo
theorem kx.conv {prog:Program}{w:World}{P P':List V→List Value→Prop}{h h':Heap}{a:Addr}{mo:MO}(c:∀ {vs:List V}{xs:List Value},P vs xs→P' vs xs) (ka:∀ b∈mo.addrs a,∀ o,h.get? b=some o→h'.get? b=some o) (r:kx prog w P h a mo):kx prog w P' h' a mo:=by
 cases mo with
 | list vs=>exact ae r fun xs h1 h2=>⟨xs,iz.keeps (ka a (.head _)) h1,c h2⟩
 | dS ks vs=>exact cz r fun xs ep h1 hl h2=>⟨xs,ep,bE (ka a (.head _)) h1,hl,c h2⟩
 | dI ks=>exact ae r fun ep h1 h2=>⟨ep,bE (ka a (.head _)) h1,h2⟩
 | inst C d ks vs=>exact ar r fun h0 r=>cz r fun xs ep h1 hl h2=>⟨ka a (.head _) _ h0,xs,ep,bE (ka d (.tail _ (.head _))) h1,hl,c h2⟩
 | exc d tb ks vs =>
  refine ar r fun r0 r=>cN r0 fun fs sl h0 h0'=>cz r fun xs ep h1 hl h2=>?_
  cases tb with
  | none=>exact ⟨⟨fs,sl,ka a (.head _) _ h0,h0'⟩,xs,ep,bE (ka d (.tail _ (.head _))) h1,hl,c h2⟩
  | some T=>exact ⟨⟨fs,sl,ka a (.head _) _ h0,ar h0' fun q1 q=>cN q fun oT ts q2 q3=>⟨q1,oT,ts,ka T.1 (.tail _ (.tail _ (.head _))) _ q2,q3⟩⟩,xs,ep,bE (ka d (.tail _ (.head _))) h1,hl,c h2⟩
 | made d ks vs =>
  refine ar r fun r0 r=>cN r0 fun fs sl h0 h0'=>⟨⟨fs,sl,ka a (.head _) _ h0,h0'⟩,?_⟩
  cases d with
  | none=>exact r
  | some d=>exact cz r fun xs ep h1 hl h2=>⟨xs,ep,bE (ka d (.tail _ (.head _))) h1,hl,c h2⟩
 | dead=>exact trivial
theorem dC.conv {fm fm':Fm}{H H':MH}{h h':Heap}{a:Addr}{mo:MO}(hp:fm'.prog=fm.prog) (hw:fm'.w=fm.w) (c:∀ {vs:List V}{xs:List Value},fm.RL H h vs xs→fm'.RL H' h' vs xs)
  (ka:∀ b∈mo.addrs a,∀ o,h.get? b=some o→h'.get? b=some o) (r:dC fm H h a mo):dC fm' H' h' a mo:=by
 unfold dC
 rw [hp,hw]
 exact kx.conv c ka r
noncomputable def d6 (h:Heap) (env:Env) (x:Str) (val:Value):Prop:=match env.kindOf x with
 | some .local=>∃ m,h.Ns env.locals m∧m x=some val
 | some .cell=>∃ c,env.cells.lookup x=some c∧h.IsCell c (some val)
 | _=>False
noncomputable abbrev Loc:=Nat→Option V
structure Sat (fm:Fm) (m:Loc) (H:MH) (s:Shared):Prop where
 base:∀ b o,fm.base.get? b=some o→s.heap.get? b=some o
 funs:s.heap.FunFrames fm.base fm.fenvs
 ns:∃ mm,s.heap.Ns fm.env.locals mm
 cells:∀ x c,fm.env.kindOf x=some .cell→fm.env.cells.lookup x=some c→∃ v,s.heap.IsCell c v
 vars:∀ i x v,fm.names[i]? = some x→(fm.env.kindOf x=some .local∨fm.env.kindOf x=some .cell)→m i=some v→∃ val,d6 s.heap fm.env x val∧fm.R H s.heap v val
 objs:∀ p∈H,dC fm H s.heap p.1 p.2
 nodup:(aW H).Nodup
 apart:∀ a∈aW H,a ∉ fm.own∧a ∉ fm.outs∧a ∉ fm.int∧fm.base.get? a=none
 alive:∀ a,a∈fm.own∨a∈fm.outs∨a∈fm.int→∃ o,s.heap.get? a=some o
 gens:s.gens=fm.gens
 os:s.os=fm.os
 drawn:s.drawn=fm.drawn
structure ay (fm:Fm):Prop where
 frames:fm.A.frames=some fm.fenvs
 kind:fm.env.scope.kind=.function
 glob:fm.env.globals=mainGlobals
 blt:fm.env.builtins=builtinsNs
 locals:fm.env.locals∈fm.own
 cellsOwn:∀ x c,fm.env.kindOf x=some .cell→fm.env.cells.lookup x=some c→(c∈fm.own∨c∈fm.outs)∧c≠fm.env.locals
 cellsInj:∀ x y c,fm.env.kindOf x=some .cell→fm.env.kindOf y=some .cell→fm.env.cells.lookup x=some c→fm.env.cells.lookup y=some c→x=y
 names:fm.names.Nodup
 ownBase:∀ a,a∈fm.own∨a∈fm.outs∨a∈fm.int→fm.base.get? a=none
 ownFm:∀ a∈fm.own,a ∉ fm.int
 outsFm:∀ a∈fm.outs,a ∉ fm.int
 ownOuts:∀ a∈fm.own,a ∉ fm.outs
 frIn:fm.fr∈fm.own∨fm.fr∈fm.outs
 frEnv:fm.env.frame=some fm.fr
 wd:Wd fm.prog fm.w fm.base
 fenvsIn:∀ e∈fm.fenvs,∀ L,e.frame=some L→L=fm.fr∨L∈fm.outs
structure af (fm:Fm) (H:MH) (h:Heap) (H':MH) (h':Heap):Prop where
 keep:∀ b o,h.get? b=some o→b ∉ fm.X H→h'.get? b=some o∧b ∉ fm.X H'
 outs:∀ L∈fm.outs,∀ o,h.get? L=some o→∃ sl,h'.get? L=some { o with slots:=sl }
 pre:∀ (i:Nat) (a:Addr),(bC H)[i]? = some a→(bC H')[i]? = some a
theorem af.refl (fm:Fm) (H:MH) (h:Heap):af fm H h H h :=
 ⟨fun _ _ e n=>⟨e,n⟩,fun _ _ o e=>⟨o.slots,e⟩,fun _ _ e=>e⟩
theorem af.trans {fm:Fm}{H₁ H₂ H₃:MH}{h₁ h₂ h₃:Heap}(x:af fm H₁ h₁ H₂ h₂) (y:af fm H₂ h₂ H₃ h₃):af fm H₁ h₁ H₃ h₃ :=
 ⟨fun b o e n=>let ⟨e',n'⟩:=x.keep b o e n; y.keep b o e' n',
  fun L hL o e=>let ⟨_,e'⟩:=x.outs L hL o e; let ⟨sl,e''⟩:=y.outs L hL _ e'; ⟨sl,e''⟩,
  fun i a e=>y.pre i a (x.pre i a e)⟩
theorem af.rep {fm:Fm}{H H':MH}{h h':Heap}(T:af fm H h H' h') {v:V}{x:Value}(r:fm.R H h v x):fm.R H' h' v x :=
 Rep.mono T.pre (fun b o e q=>let ⟨e',n'⟩:=T.keep b o e q.1; ⟨e',n',q.2⟩) r
theorem af.repL {fm:Fm}{H H':MH}{h h':Heap}(T:af fm H h H' h') {v:List V}{x:List Value}(r:fm.RL H h v x):fm.RL H' h' v x :=
 RepL.mono T.pre (fun b o e q=>let ⟨e',n'⟩:=T.keep b o e q.1; ⟨e',n',q.2⟩) r
theorem af.of_keeps {fm:Fm}{H:MH}{h h':Heap}(k:∀ b o,h.get? b=some o→h'.get? b=some o):af fm H h H h' :=
 ⟨fun b o e n=>⟨k b o e,n⟩,fun _ _ o e=>⟨o.slots,k _ _ e⟩,fun _ _ e=>e⟩
theorem d6.keeps {h h':Heap}{env:Env}{x:Str}{val:Value}(k:∀ b o,h.get? b=some o→h'.get? b=some o) (v:d6 h env x val):d6 h' env x val:=by
 unfold d6 at v ⊢
 split
 ·rename_i e
  rw [e] at v
  refine ae v fun m n q=>?_
  exact ⟨m,n.keeps k,q⟩
 ·rename_i e
  rw [e] at v
  obtain ⟨c,hc,o,ho,hd⟩:=v
  exact ⟨c,hc,o,k _ _ ho,hd⟩
 ·rename_i h1 h2
  split at v
  ·rename_i e; exact absurd e h1
  ·rename_i e; exact absurd e h2
  ·exact v
theorem dC.mono {fm:Fm}{H H':MH}{h h':Heap}{a:Addr}{mo:MO}(pre:∀ (i:Nat) (a:Addr),(bC H)[i]? = some a→(bC H')[i]? = some a) (k:∀ b o,h.get? b=some o→fm.ok H b→h'.get? b=some o∧fm.ok H' b)
  (ka:∀ b∈mo.addrs a,∀ o,h.get? b=some o→h'.get? b=some o) (r:dC fm H h a mo):dC fm H' h' a mo:=kx.conv (RepL.mono pre k) ka r
theorem bm {H:MH}{p:Addr × MO}(hp:p∈H) {b:Addr}(hb:b∈p.2.addrs p.1):b∈aW H:=List.mem_flatMap.mpr ⟨p,hp,hb⟩
theorem Sat.keeps {fm:Fm}{m:Loc}{H:MH}{s s':Shared}(S:Sat fm m H s) (k:∀ b o,s.heap.get? b=some o→s'.heap.get? b=some o)
  (hg:s'.gens=s.gens) (ho:s'.os=s.os) (hd:s'.drawn=s.drawn):Sat fm m H s' where
 base:=fun b o e=>k b o (S.base b o e)
 funs:=S.funs.of_keeps fun b o e _=>⟨o,k b o e,rfl⟩
 ns:=let ⟨mm,n⟩:=S.ns; ⟨mm,n.keeps k⟩
 cells:=fun x c h1 h2=>let ⟨v,o,h3,h4⟩:=S.cells x c h1 h2; ⟨v,o,k _ _ h3,h4⟩
 vars:=fun i x v h1 h2 h3=>let ⟨val,h4,h5⟩:=S.vars i x v h1 h2 h3; ⟨val,h4.keeps k,(af.of_keeps k).rep h5⟩
 objs:=fun p hp=>dC.mono (fun _ _ e=>e) (fun b o e q=>⟨k b o e,q⟩) (fun b _ o e=>k b o e) (S.objs p hp)
 nodup:=S.nodup
 apart:=S.apart
 alive:=fun a ha=>let ⟨o,h⟩:=S.alive a ha; ⟨o,k a o h⟩
 gens:=hg.trans S.gens
 os:=ho.trans S.os
 drawn:=hd.trans S.drawn
theorem Sat.toks {fm:Fm}{m:Loc}{H:MH}{s:Shared}(S:Sat fm m H s) (tk:Nat):Sat fm m H { s with toks:=tk } :=
 S.keeps (fun _ _ e=>e) rfl rfl rfl
theorem Sat.push {fm:Fm}{m:Loc}{H:MH}{s:Shared}(S:Sat fm m H s) (o:Obj):Sat fm m H { s with heap:=s.heap.push o } :=
 S.keeps (fun _ _ e=>Heap.get?_push_of_some o e) rfl rfl rfl
theorem Bj {fm:Fm}{m:Loc}{H:MH}{s:Shared}(O:ay fm) (S:Sat fm m H s) {b:Addr}(hb:b∈fm.X H):fm.base.get? b=none:=by
 unfold Fm.X at hb
 rcases List.mem_append.mp hb with h | h
 ·rcases List.mem_append.mp h with h | h
  ·exact O.ownBase b (.inl h)
  ·exact O.ownBase b (.inr (.inl h))
 ·exact (S.apart b h).2.2.2
end Mine
end
section
open PySem PySem.W PyProof.Rows
set_option maxRecDepth 1000000
set_option backward.match.sparseCases false
namespace Mine.Z
section
noncomputable def uT (S:SharedT) (a:Addr):Option Obj:=wh (Nat.blt a S.n) fun _=>(S.tree.get a).bind alive
theorem gU {S:SharedT}{a:Addr}{o:Obj}(h:uT S a=some o):S.abs.heap.get? a=some o :=
 zl h fun e h=>ae (Option.bind_eq_some_iff.mp h) fun o' h1 h2=>(abs_get (Nat.le_of_ble_eq_true e) h1).trans h2
noncomputable def Fh (o:Option Obj):Option FuncData:=match o with
 | some o=>match o with
  | ⟨_,_,d,_⟩=>match d with
   | .func f=>some { f with defaults:=.none,code:=.none,pyModule:=.none }
   | _=>none
 | none=>none
section
variable (prog:Program) (w:World) (S:SharedT)
noncomputable def Nf (v:Value) (q:Str):Ck (S.abs.heap.CodeRec v q):=match v with
 | .ref c=>opt (uT S c) fun o e=>match o,e with
  | ⟨_,_,d,_⟩,e=>match d,e with
   | .fields vs,e=>opt (vs[1]?:Option Value) fun x ex=>match x,ex with
    | .str y t,ex=>wh (y==q) fun h=>ys ⟨c,_,vs,t,rfl,gU e,rfl,eq_of_beq h ▸ ex⟩
    | _,_=>none
   | _,_=>none
 | _=>none
noncomputable def atC (v:V) (x:Value):Ck (Rep prog w S.abs.heap (fun _=>True) [] v x):=match v with
 | .none=>match x with
  | .none=>ys rfl
  | _=>none
 | .bool b=>match x with
  | .bool c=>wh (b==c) fun h=>ys (eq_of_beq h ▸ rfl)
  | _=>none
 | .int i=>match x with
  | .int j t=>wh (i==j) fun h=>ys ⟨t,eq_of_beq h ▸ rfl⟩
  | _=>none
 | .str s=>match x with
  | .str y t=>wh (s==y) fun h=>wh (Nat.ble s.length big) fun h1=>ys ⟨t,eq_of_beq h ▸ rfl,Nat.le_of_ble_eq_true h1⟩
  | _=>none
 | _=>none
theorem K4 {vs:List V}{a:Addr}{t:String}{d:Option Addr}{xs:Array Value}{n:Nat}{sl:Array (Option Value)}(e:uT S a=some ⟨.type t,d,.seq xs n,sl⟩) (h:(t=="tuple"&&n==0&&d.isNone&&sl.isEmpty&&Nat.ble xs.size big)=true) (r:RepL prog w S.abs.heap (fun _=>True) [] vs xs.toList):Rep prog w S.abs.heap (fun _=>True) [] (.tup vs) (.ref a):=by
 refine ar (an h) fun h h5=>ar (an h) fun h h4=>ar (an h) fun h h3=>ar (an h) fun h1 h2=>?_
 obtain rfl:=eq_of_beq h1
 obtain rfl:=eq_of_beq h2
 obtain rfl:=Option.isNone_iff_eq_none.mp h3
 obtain rfl:=Array.isEmpty_iff.mp h4
 exact ⟨a,xs,rfl,trivial,⟨Nat.le_of_ble_eq_true h5,gU e⟩,r⟩
noncomputable def Fi {R:V→Value→Prop}(c:∀ v x,Ck (R v x)) {P:List V→List Value→Prop}(p0:P [] []) (p1:∀ {v x vs xs},R v x→P vs xs→P (v::vs) (x::xs)):∀ (vs:List V) (xs:List Value),Ck (P vs xs)
 | [],xs=>match xs with
  | []=>ys p0
  | _::_=>none
 | v::vs,xs=>match xs with
  | []=>none
  | x::xs=>bd (c v x) fun h1=>bd (Fi c p0 p1 vs xs) fun h2=>ys (p1 h1 h2)
noncomputable def Pr (v:V) (x:Value):Ck (Rep prog w S.abs.heap (fun _=>True) [] v x):=match v with
 | .tup vs=>match x with
  | .ref a=>opt (uT S a) fun o e=>match o,e with
   | ⟨c,d,dt,sl⟩,e=>match dt,e with
    | .seq xs n,e=>match c,e with
     | .type t,e=>wh (t=="tuple"&&n==0&&d.isNone&&sl.isEmpty&&Nat.ble xs.size big) fun h=>bd (Fi (atC prog w S) RepL.nil RepL.cons vs xs.toList) fun r=>ys (K4 prog w S e h r)
     | _,_=>none
    | _,_=>none
  | _=>none
 | v=>atC prog w S v x
noncomputable def Pu (x:Value) (l:List V):Ck (Kt prog w S.abs.heap x l):=match x with
 | .none=>match l with
  | []=>ys (.inl ⟨rfl,rfl⟩)
  | _::_=>none
 | .ref t=>opt (uT S t) fun o e=>match o,e with
  | ⟨c,d,dt,sl⟩,e=>match dt,e with
   | .seq xs n,e=>match c,e with
    | .type t,e=>wh (t=="tuple") fun h=>bd (Fi (Pr prog w S) RepL.nil RepL.cons l xs.toList) fun r=>ys (.inr ⟨_,xs,rfl,⟨_,gU e,congrArg Value.type (eq_of_beq h),n,rfl⟩,r⟩)
    | _,_=>none
   | _,_=>none
 | _=>none
noncomputable def fnC (F:Fn):Ck (Fh (uT S F.addr)=some (F.data .none .none .none)→Bg prog w S.abs.heap F):=opt (uT S F.addr) fun o e=>match o,e with
 | ⟨_,_,d,_⟩,e=>match d,e with
  | .func f,e=>bd (Nf S f.code F.qual) fun h1=>bd (Pu prog w S f.defaults F.dfl) fun h2=>ys fun h =>
   have h:_=some _:=(congrArg Fh e).symm.trans h
   ⟨_,f.pyModule,f.code,f.defaults,gU e,congrArg (fun g:FuncData=>Data.func { g with defaults:=f.defaults,code:=f.code,pyModule:=f.pyModule }) (sj h),h1,h2⟩
  | _,_=>none
end
end
end Mine.Z
end
section
open PySem PySem.W PyProof.Rows
set_option maxRecDepth 1000000
namespace Mine.Z
noncomputable def Fj:List Fn:=av::au::TAB
noncomputable def CF (S:SharedT):Frag:=(List.range 40++(List.range 40).map (·+355)).filterMap fun a=>(uT S a).map (a,·)
noncomputable def nsM (S:SharedT) (x:Str):Option Value:=Fast.tw8920871248978507458 S.abs.heap mainGlobals x
noncomputable def Fk (prog:Program) (w:World) (S:SharedT):=(Fj.map (fun F=>Fh (uT S F.addr)),Fj.all (fun F=>(fnC prog w S F).isSome),TAB.map (fun F=>nsM S F.name),(nsM S "Raised",nsM S "Options"),f9.map (nsM S),sK (CF S),(uT S sysModules).isSome)
noncomputable def Fo:=(Fj.map (fun F=>some (F.data .none .none .none)),true,TAB.map (fun F=>some (Value.ref F.addr)),(some (Value.ref ai),some (Value.ref ak)),f9.map (fun _=>(none:Option Value)),true,true)
theorem big (prog:Program) (w' w:World) (os:OsState):(Ik pwS.1 w 11 (some (.ref 6)) 4000 (Ko w.params os) (topStub pwS.1)).map (fun S=>(Kq w.params S,Fk prog w' S))=some ((true,openGood qN su),Fo):=by kernel_rfl
noncomputable def sL (mg:Str→Option Value) (h:Heap):Prop :=
 (∀ F∈TAB,mg F.name=some (.ref F.addr))∧mg "Raised"=some (.ref ai)∧mg "Options"=some (.ref ak)∧(∀ x∈f9,mg x=none) ∧
 (∃ o,h.get? sysModules=some o)∧(∃ K:Frag,K.In h∧sK K=true)∧∀ prog w,∀ F∈Fj,Bg prog w h F
theorem Bg.keeps {prog:Program}{w:World}{h h':Heap}{F:Fn}(k:∀ b o,h.get? b=some o→h'.get? b=some o) (x:Bg prog w h F):Bg prog w h' F:=by
 refine M9 x fun o pm cd dV h1 h2 h3 h4=>?_
 refine ⟨o,pm,cd,dV,k _ _ h1,h2,h3.keeps k,?_⟩
 rcases h4 with q | ⟨t,xs,q1,q2,q3⟩
 ·exact .inl q
 ·exact .inr ⟨t,xs,q1,qp (fun o=>k _ o) q2,RepL.mono (fun _ _ e=>e) (fun b o e q=>⟨k b o e,q⟩) q3⟩
theorem sL.keeps (mg:Str→Option Value) (h h':Heap) (x:sL mg h) (k:∀ b o,h.get? b=some o→h'.get? b=some o):sL mg h':=by
 refine KT x fun a b c d z8=>?_; obtain ⟨o,e⟩:=z8; intro z8; obtain ⟨K,f,g⟩:=z8; intro i
 exact ⟨a,b,c,d,⟨o,k _ _ e⟩,⟨K,f.keeps k,g⟩,fun prog w F hF=>Bg.keeps k (i prog w F hF)⟩
noncomputable def XtN (s:Shared):Bool:=@decide (sL (s.heap.nsMap mainGlobals) s.heap) (Classical.propDecidable _)
theorem Fp (s:Shared) (h:XtN s=true):sL (s.heap.nsMap mainGlobals) s.heap:=by unfold XtN at h; exact @of_decide_eq_true _ (Classical.propDecidable _) h
theorem sM {K W:Type} [BEq K] [LawfulBEq K] {a:K}{b:W}:∀ {l:List (K × W)},l.lookup a=some b→(a,b)∈l
 | [],h=>by exact nS h
 | (k,v)::l,h=>by
  rw [List.lookup_cons] at h
  cases e:a==k with
  | true=>rw [e] at h; replace h:=sj h; subst h; obtain rfl:=beq_iff_eq.mp e; exact .head _
  | false=>rw [e] at h; exact .tail _ (sM h)
theorem Fr (S:SharedT):(CF S).In S.abs.heap:=by
 intro a o h
 unfold CF at h
 have:=sM h
 refine ae (List.mem_filterMap.mp this) fun b _ hb=>?_
 refine ae (Option.map_eq_some_iff.mp hb) fun o' h1 h2=>?_
 cases h2
 exact gU h1
theorem w4 {α β:Type}{f g:α→β}:∀ {l:List α},l.map f=l.map g→∀ x∈l,f x=g x
 | [],_,x,hx=>by cases hx
 | a::l,h,x,hx=>by
  simp only [List.map_cons,List.cons.injEq] at h
  rcases List.mem_cons.mp hx with rfl | hx
  ·exact h.1
  ·exact w4 h.2 x hx
theorem Bk {S:SharedT}(w:World) (h:∀ prog w,Fk prog w S=Fo):sL (S.abs.heap.nsMap mainGlobals) S.abs.heap:=by
 refine KT (by simpa only [Fk,Fo,Prod.mk.injEq] using h pwS.1 w) fun h1 h2 h3 z8=>?_; obtain ⟨h4,h5⟩:=z8; intro h6 h7 h8
 have e:nsM S=S.abs.heap.nsMap mainGlobals:=by
  funext x; unfold nsM; rw [← Fast.te8920871248978507458]
 rw [e] at h3 h4 h5 h6
 have k (prog w):∀ F∈Fj,(fnC prog w S F).isSome=true:=List.all_eq_true.mp (congrArg (·.2.1) (h prog w))
 exact ⟨w4 h3,h4,h5,w4 h6,Option.isSome_iff_exists.mp h8 |>.imp fun _=>gU,⟨CF S,Fr S,h7⟩,fun prog w F hF=>(cvT (k prog w F hF):_→_) (w4 h1 F hF)⟩
theorem ope:opening pwS.1=plainProg pwS.1.main.scope.names:=by kernel_rfl
theorem fen (s:Shared):fenceModules? pwS.1 s=some s:=by kernel_rfl
theorem sz (P:Params):((boot_heap P).isNs mainGlobals&&(#[]:Array GenState).size==0,(boot_heap P).objs.size,(boot_heap P).nsMap mainGlobals "__annotations__")=(true,11,some (.ref 6)):=by kernel_rfl
theorem Pv:LeftO pwS.1 qN su XtN (fun _=>()) (fun _=>()) 4000:=fun w=>by
 obtain ⟨⟨h,gs,d,k,os⟩,e,e'⟩:=Option.map_eq_some_iff.mp (boot_open (N:=4000) ope (by decide) fen w)
 obtain ⟨rfl,rfl,rfl,rfl⟩:h=boot_heap w.params∧gs=#[]∧d=boot_drawn∧k=boot_toks:=by simpa using e'
 obtain ⟨z1,z2,z3⟩:_∧_∧_:=by simpa only [Prod.mk.injEq] using sz w.params
 obtain ⟨S,hS,hl⟩:=Option.map_eq_some_iff.mp (big pwS.1 w w os)
 simp only [Prod.mk.injEq] at hl
 obtain ⟨l0,l1⟩:=hl
 have hS0:=hS
 rw [Cy] at hS
 have r:=vp hS
 rw [DI] at r
 unfold Kq at l0
 rw [Prod.mk.injEq,← Fast.te4187177175401517315] at l0
 obtain ⟨la,lb⟩:=l0
 have hx:XtN S.abs=true:=by unfold XtN; exact @decide_eq_true _ (Classical.propDecidable _) (Bk w fun prog w'=>by simpa only [hS0,Option.map_some,Option.some.injEq,Prod.mk.injEq] using congrArg (Option.map (·.2)) (big prog w' w os))
 have t:topFrom treeTable pwS.1 w 4000 ⟨boot_heap w.params,#[],boot_drawn,boot_toks,os⟩=some S.abs:=by
  unfold topFrom
  dsimp only
  rw [z1,z2,z3,r]
  show (match staticsOk (importedModules pwS.1.main.body) (boot_heap w.params) S.abs.heap&&namesBound pwS.1 S.abs.heap&&gensDone S.abs&&laidKept (boot_heap w.params) S.abs.heap with | true=>_ | false=>_)=_
  rw [la]
 unfold openEnds
 rw [e,Option.bind_some,t,Option.map_some]
 have hs:openSeen qN su (importedModules pwS.1.main.body) XtN true S.abs=openGood qN su:=by
  rw [← lb]
  unfold openSeen
  rw [hx]
 exact congrArg some (Prod.ext hs rfl)
noncomputable def rwN:OpenLaw:={ PySem.Challenge.rw_np0151_01 with prog:=pwS.1 }
theorem Ng:PySem.Challenge.rw_np0151_01=rwN:=(congrArg (fun p=>{ PySem.Challenge.rw_np0151_01 with prog:=p }) pwS.2:{ PySem.Challenge.rw_np0151_01 with prog:=PySem.Challenge.pw_np0151_01 }=_)
noncomputable def dN:DefRec:=match defOf qN rwN.row.name with
 | some (d,_)=>d
 | none=>⟨"",Fb,[],CA,⟨0,0,0,0⟩⟩
theorem Nh:defOf qN rwN.row.name=some (dN,[]):=by kernel_rfl
theorem hpN:rwN.row.prog.theDef rwN.row.name=some (dN.params,dN.body,dN.scope):=by kernel_rfl
theorem hkN:kwWritten? dN.params.kwonlyargs dN.params.kw_defaults=some []:=by kernel_rfl
theorem Ni:dN.name=zu.name:=by kernel_rfl
theorem okN:(chainsOk qN&&opensWell rwN.row.prog&&(frees rwN.row.toRowW&&rwN.row.within.isEmpty))=true:=by kernel_rfl
theorem Nj:rwN.row.prog.bare:=⟨rfl,rfl,rfl,rfl,rfl,by decide +kernel⟩
theorem Nk:rwN.row.toRowW.promised:=⟨[.list []],by decide +kernel,by decide +kernel⟩
theorem Nl {lk lk':Look}{l:List Stmt}(e:lk=lk') (h:Fast.tw8326940854005059898 lk' l=true):Fast.tw8326940854005059898 lk l=true:=e ▸ h
set_option maxHeartbeats 0 in
theorem Nm:rwN.wellSaid=true:=by
 rw [PySem.W.Fast.te9446332074065402090]
 delta PySem.W.Fast.tw9446332074065402090
 repeat' with_reducible apply look_both
 delta PySem.W.Fast.tw17960256430627541270 PySem.W.Fast.tw2436336058641802641 PySem.W.Fast.tw12908688711261696721
 repeat' with_reducible apply look_both
 all_goals try with_reducible refine Nl (lk':={ strict:=false,foot:=none,bare:=[] }) (by as_aux_lemma=>kernel_rfl) ?_
 all_goals as_aux_lemma=>kernel_rfl
end Mine.Z
end
section
open PySem PySem.W PyProof.Rows
set_option maxRecDepth 20000
set_option genSizeOf false
namespace Mine
section
section
variable {M:Model}{Ar:Around}{E:Value→Shared→Prop}{s:Shared}{α:Type}{Q:α→Shared→Prop}{c:Prop} [Decidable c] {a b:Sem α}
theorem sO (h:¬ c) (k:wpAny M Ar b Q E s):wpAny M Ar (ite c a b) Q E s:=wpAny_ite_false (decide_eq_false h) k
theorem Bl (h:c) (k:wpAny M Ar a Q E s):wpAny M Ar (ite c a b) Q E s:=wpAny_ite_true (decide_eq_true h) k
end
noncomputable abbrev QV:=V→MH→Prop
noncomputable abbrev QX:=List Str→List V→MH→Prop
noncomputable def w5 (fm:Fm):Option (Addr × Value)→Prop
 | none=>True
 | some (_,fl)=>fl=.none∨∃ L,fm.env.frame=some L∧fl=rawInt L
inductive PX (fm:Fm) (m:Loc) (H:MH) (h:Heap) (QE:QX) (x:Value) (s':Shared):Prop
 | mk (e:Addr) (d:Addr) (tb:Option (Addr × Value)) (ks:List Str) (vs:List V) (H':MH) (m':Loc) (a:x=.ref e) (b:af fm H h ((e,.exc d tb ks vs)::H') s'.heap) (c:Sat fm m' ((e,.exc d tb ks vs)::H') s') (f:w5 fm tb) (g:QE ks vs H')
inductive PV (fm:Fm) (m:Loc) (H:MH) (h:Heap) (Q:QV) (x:Value) (s':Shared):Prop
 | mk (v:V) (H':MH) (a:af fm H h H' s'.heap) (b:Sat fm m H' s') (c:fm.R H' s'.heap v x) (d:Q v H')
inductive PL (fm:Fm) (m:Loc) (H:MH) (h:Heap) (Q:List V→MH→Prop) (xs:List Value) (s':Shared):Prop
 | mk (vs:List V) (H':MH) (a:af fm H h H' s'.heap) (b:Sat fm m H' s') (c:fm.RL H' s'.heap vs xs) (d:Q vs H')
inductive PB (fm:Fm) (m:Loc) (H:MH) (h:Heap) (Q:Bool→MH→Prop) (b:Bool) (s':Shared):Prop
 | mk (H':MH) (a:af fm H h H' s'.heap) (c:Sat fm m H' s') (d:Q b H')
theorem PX.back {fm:Fm}{m:Loc}{H H₁:MH}{h h₁:Heap}{QE:QX}{x:Value}{s':Shared}(T:af fm H h H₁ h₁) (p:PX fm m H₁ h₁ QE x s'):PX fm m H h QE x s' :=
 let ⟨e,d,tb,ks,vs,H',m',a,b,c,f,g⟩:=p; ⟨e,d,tb,ks,vs,H',m',a,T.trans b,c,f,g⟩
theorem PV.back {fm:Fm}{m:Loc}{H H₁:MH}{h h₁:Heap}{Q:QV}{x:Value}{s':Shared}(T:af fm H h H₁ h₁) (p:PV fm m H₁ h₁ Q x s'):PV fm m H h Q x s' :=
 let ⟨v,H',b,c,d,e⟩:=p; ⟨v,H',T.trans b,c,d,e⟩
theorem PB.back {fm:Fm}{m:Loc}{H H₁:MH}{h h₁:Heap}{Q:Bool→MH→Prop}{x:Bool}{s':Shared}(T:af fm H h H₁ h₁) (p:PB fm m H₁ h₁ Q x s'):PB fm m H h Q x s' :=
 let ⟨H',b,c,d⟩:=p; ⟨H',T.trans b,c,d⟩
theorem PL.back {fm:Fm}{m:Loc}{H H₁:MH}{h h₁:Heap}{Q:List V→MH→Prop}{x:List Value}{s':Shared}(T:af fm H h H₁ h₁) (p:PL fm m H₁ h₁ Q x s'):PL fm m H h Q x s' :=
 let ⟨v,H',b,c,d,e⟩:=p; ⟨v,H',T.trans b,c,d,e⟩
noncomputable def EW (fm:Fm) (e:Expr) (m:Loc) (H:MH) (Q:QV) (QE:QX):Prop :=
 ∀ s,Sat fm m H s→wpAny fm.M fm.A (eval e fm.env) (PV fm m H s.heap Q) (PX fm m H s.heap QE) s
noncomputable def TW (fm:Fm) (e:Expr) (m:Loc) (H:MH) (Q:Bool→MH→Prop) (QE:QX):Prop :=
 ∀ s,Sat fm m H s→wpAny fm.M fm.A (isTrue e fm.env (eval e fm.env)) (PB fm m H s.heap Q) (PX fm m H s.heap QE) s
noncomputable def LW (fm:Fm) (pos:Pos) (es:List Expr) (m:Loc) (H:MH) (Q:List V→MH→Prop) (QE:QX):Prop :=
 ∀ s,Sat fm m H s→wpAny fm.M fm.A (spliced (backTo pos (starEach es fm.env))) (PL fm m H s.heap Q) (PX fm m H s.heap QE) s
noncomputable def OW (fm:Fm) (t:Sem Value) (m:Loc) (H:MH) (Q:QV) (QE:QX) (s:Shared):Prop:=wpAny fm.M fm.A t (PV fm m H s.heap Q) (PX fm m H s.heap QE) s
section
variable {fm:Fm}{m:Loc}{H:MH}{Q:QV}{QE:QX}
theorem dD {s s':Shared}{v:V}{x:Value}(S:Sat fm m H s) (k:∀ b o,s.heap.get? b=some o→s'.heap.get? b=some o) (hg:s'.gens=s.gens) (ho:s'.os=s.os) (hd:s'.drawn=s.drawn)
  (r:fm.R H s'.heap v x) (q:Q v H):PV fm m H s.heap Q x s' :=
 ⟨v,H,af.of_keeps k,S.keeps k hg ho hd,r,q⟩
theorem aK {s:Shared}{tk:Nat}{v:V}{x:Value}(S:Sat fm m H s) (r:fm.R H s.heap v x) (q:Q v H):PV fm m H s.heap Q x { s with toks:=tk } :=
 dD S (fun _ _ e=>e) rfl rfl rfl r q
theorem gb {s:Shared}{v:V}{x:Value}(S:Sat fm m H s) (r:fm.R H s.heap v x) (q:Q v H):PV fm m H s.heap Q x s:=⟨v,H,af.refl ..,S,r,q⟩
theorem w6 {h:Heap}:fm.R H h .none .none:=rfl
theorem g7 {h:Heap}{b:Bool}:fm.R H h (.bool b) (.bool b):=rfl
theorem d7 {h:Heap}{i:Int}{t:Tok}:fm.R H h (.int i) (.int i t):=⟨t,rfl⟩
theorem iB {h:Heap}{x:Str}{t:Tok}(hl:x.length≤big):fm.R H h (.str x) (.str x t):=⟨t,rfl,hl⟩
theorem Nn {h:Heap}{i:Nat}{a:Addr}(e:(bC H)[i]? = some a):fm.R H h (.ref i) (.ref a):=⟨a,e,rfl⟩
theorem PV.el {s':Shared}{h:Heap}{x:Value}{P:Prop}(p:PV fm m H h Q x s') (k:∀ v H',af fm H h H' s'.heap→Sat fm m H' s'→fm.R H' s'.heap v x→Q v H'→P):P:=let ⟨v,H',a,b,c,d⟩:=p; k v H' a b c d
theorem PL.el {s':Shared}{h:Heap}{QL:List V→MH→Prop}{x:List Value}{P:Prop}(p:PL fm m H h QL x s') (k:∀ v H',af fm H h H' s'.heap→Sat fm m H' s'→fm.RL H' s'.heap v x→QL v H'→P):P:=let ⟨v,H',a,b,c,d⟩:=p; k v H' a b c d
theorem PX.el {s':Shared}{h:Heap}{x:Value}{P:Prop}(p:PX fm m H h QE x s') (k:∀ e d tb ks vs H' m',x=.ref e→af fm H h ((e,.exc d tb ks vs)::H') s'.heap→Sat fm m' ((e,.exc d tb ks vs)::H') s'→w5 fm tb→QE ks vs H'→P):P:=let ⟨e,d,tb,ks,vs,H',m',a,b,c,f,g⟩:=p; k e d tb ks vs H' m' a b c f g
theorem PX.mono {m':Loc}{h:Heap}{QE':QX}{x:Value}{s':Shared}(p:PX fm m H h QE x s') (k:∀ ks vs H',QE ks vs H'→QE' ks vs H'):PX fm m' H h QE' x s':=p.el fun e d tb ks vs H' m' a b c f g=>⟨e,d,tb,ks,vs,H',m',a,b,c,f,k _ _ _ g⟩
theorem EW.run {e:Expr}{s:Shared}{R:Value→Shared→Prop}{E:Value→Shared→Prop}(h:EW fm e m H Q QE) (S:Sat fm m H s) (k:∀ y s1 v H1,af fm H s.heap H1 s1.heap→Sat fm m H1 s1→fm.R H1 s1.heap v y→Q v H1→R y s1) (x:∀ y s1,PX fm m H s.heap QE y s1→E y s1):wpAny fm.M fm.A (eval e fm.env) R E s :=
 wpAny_mono (h s S) (fun y s1 p=>p.el (k y s1)) x
theorem LW.run {pos:Pos}{es:List Expr}{QL:List V→MH→Prop}{s:Shared}{R:List Value→Shared→Prop}{E:Value→Shared→Prop}(h:LW fm pos es m H QL QE) (S:Sat fm m H s) (k:∀ y s1 v H1,af fm H s.heap H1 s1.heap→Sat fm m H1 s1→fm.RL H1 s1.heap v y→QL v H1→R y s1) (x:∀ y s1,PX fm m H s.heap QE y s1→E y s1) :
  wpAny fm.M fm.A (spliced (backTo pos (starEach es fm.env))) R E s:=wpAny_mono (h s S) (fun y s1 p=>p.el (k y s1)) x
theorem EW.mono {e:Expr}{Q':QV}{QE':QX}(x:EW fm e m H Q QE) (h1:∀ v H',Q v H'→Q' v H') (h2:∀ ks vs H',QE ks vs H'→QE' ks vs H'):EW fm e m H Q' QE' :=
 fun s S=>wpAny_mono (x s S) (fun _ _ ⟨v,H',a,b,c,d⟩=>⟨v,H',a,b,c,h1 _ _ d⟩) fun _ _ ⟨e,d,tb,ks,vs,H',m',a,b,c,f,g⟩=>⟨e,d,tb,ks,vs,H',m',a,b,c,f,h2 _ _ _ g⟩
theorem Il {k pos} (q:Q .none H):EW fm (.Constant .none k pos) m H Q QE:=fun s S=>wpAny_Constant_none (gb S w6 q)
theorem Im {b k pos} (q:Q (.bool b) H):EW fm (.Constant (.bool b) k pos) m H Q QE:=fun s S=>wpAny_Constant_bool (gb S g7 q)
theorem K5 {i k pos} (q:Q (.int i) H):EW fm (.Constant (.int i) k pos) m H Q QE:=fun s S=>wpAny_Constant_int (aK S d7 q)
theorem K6 {x k pos} (hl:x.length≤big) (q:Q (.str x) H):EW fm (.Constant (.str x) k pos) m H Q QE:=fun s S=>wpAny_Constant_str (aK S (iB hl) q)
theorem K7 {x:Str}{pos:Pos}{i:Nat}{v:V}(O:ay fm) (hi:fm.names[i]? = some x) (hk:fm.env.kindOf x=some .local∨fm.env.kindOf x=some .cell) (hd:(x==("__debug__":Str))=false)
  (hm:m i=some v) (q:Q v H):EW fm (.Name x pos) m H Q QE:=fun s S=>by
 refine ae (S.vars i x v hi hk hm) fun val hv r=>?_
 refine wpAny_Name ?_ hd
 unfold d6 at hv
 rcases hk with hk | hk
 ·rw [hk] at hv
  refine ae hv fun mm hn he=>?_
  exact wpAny_loadName_local O.kind hk hn he (gb S r q)
 ·rw [hk] at hv
  refine ae hv fun c hc hx=>?_
  exact wpAny_loadName_cell O.kind hk hc hx (gb S r q)
theorem K8 {l r:Expr}{op:Operator}{pos:Pos}
  (h:EW fm l m H (fun va H1=>EW fm r m H1 (fun vb H2=>∀ s xa xb,Sat fm m H2 s→fm.R H2 s.heap va xa→fm.R H2 s.heap vb xb→OW fm (binaryOp op xa xb) m H2 Q QE s) QE) QE) :
  EW fm (.BinOp l op r pos) m H Q QE:=fun s S=>by
 refine wpAny_BinOp (wpAny_mono (h s S) (fun xa s1 p=>?_) fun _ _ p=>p)
 obtain ⟨va,H1,T1,S1,r1,q1⟩:=p
 refine wpAny_mono (q1 s1 S1) (fun xb s2 p=>?_) fun _ _ p=>p.back T1
 obtain ⟨vb,H2,T2,S2,r2,q2⟩:=p
 exact wpAny_mono (q2 s2 xa xb S2 (T2.rep r1) r2) (fun _ _ p=>p.back (T1.trans T2)) fun _ _ p=>p.back (T1.trans T2)
theorem No {x:Expr}{op:UnaryOp}{pos:Pos}
  (h:EW fm x m H (fun va H1=>∀ s xa,Sat fm m H1 s→fm.R H1 s.heap va xa→OW fm (unaryOp op xa) m H1 Q QE s) QE) :
  EW fm (.UnaryOp op x pos) m H Q QE:=fun s S=>by
 refine wpAny_UnaryOp (wpAny_mono (h s S) (fun xa s1 p=>?_) fun _ _ p=>p)
 obtain ⟨va,H1,T1,S1,r1,q1⟩:=p
 exact wpAny_mono (q1 s1 xa S1 r1) (fun _ _ p=>p.back T1) fun _ _ p=>p.back T1
noncomputable def zw (fm:Fm) (v:V) (H:MH):Bool→Prop:=fun b=>∀ (m:Loc) (s:Shared) (x:Value) (Q:Bool→Shared→Prop) (E:Value→Shared→Prop),Sat fm m H s→fm.R H s.heap v x→(∀ tk,Q b { s with toks:=tk }) →
 wpAny fm.M fm.A (truthy x) Q E s
theorem K9 {e₁ e₂:Expr}{rest:List Expr}{pos:Pos}
  (h:EW fm e₁ m H (fun v H1=>∃ b,zw fm v H1 b∧if b then EW fm (.BoolOp .And (e₂::rest) pos) m H1 Q QE else Q v H1) QE) :
  EW fm (.BoolOp .And (e₁::e₂::rest) pos) m H Q QE:=fun s S=>by
 refine BoolOp_and (wpAny_mono (h s S) (fun xa s1 p=>?_) fun _ _ p=>p)
 obtain ⟨va,H1,T1,S1,r1,b,tr,q1⟩:=p
 refine tr m s1 xa _ _ S1 r1 fun tk=>?_
 cases b with
 | true=>exact wpAny_mono (q1 _ (S1.toks tk)) (fun _ _ p=>p.back T1) fun _ _ p=>p.back T1
 | false=>exact (aK S1 r1 q1).back T1
theorem Np {e₁ e₂:Expr}{rest:List Expr}{pos:Pos}
  (h:EW fm e₁ m H (fun v H1=>∃ b,zw fm v H1 b∧if b then Q v H1 else EW fm (.BoolOp .Or (e₂::rest) pos) m H1 Q QE) QE) :
  EW fm (.BoolOp .Or (e₁::e₂::rest) pos) m H Q QE:=fun s S=>by
 refine BoolOp_or (wpAny_mono (h s S) (fun xa s1 p=>?_) fun _ _ p=>p)
 obtain ⟨va,H1,T1,S1,r1,b,tr,q1⟩:=p
 refine tr m s1 xa _ _ S1 r1 fun tk=>?_
 cases b with
 | false=>exact wpAny_mono (q1 _ (S1.toks tk)) (fun _ _ p=>p.back T1) fun _ _ p=>p.back T1
 | true=>exact (aK S1 r1 q1).back T1
theorem La {t b o:Expr}{pos:Pos}(h:TW fm t m H (fun c H1=>if c then EW fm b m H1 Q QE else EW fm o m H1 Q QE) QE):EW fm (.IfExp t b o pos) m H Q QE:=fun s S=>by
 refine wpAny_IfExp (wpAny_mono (h s S) (fun c s1 p=>?_) fun _ _ p=>p)
 obtain ⟨H1,T1,S1,q1⟩:=p
 cases c with
 | true=>exact wpAny_mono (q1 s1 S1) (fun _ _ p=>p.back T1) fun _ _ p=>p.back T1
 | false=>exact wpAny_mono (q1 s1 S1) (fun _ _ p=>p.back T1) fun _ _ p=>p.back T1
variable {QB:Bool→MH→Prop}
theorem Lb {x:Expr}{pos:Pos}(h:TW fm x m H (fun b H1=>QB (!b) H1) QE):TW fm (.UnaryOp .Not x pos) m H QB QE:=fun s S =>
 wpAny_isTrue_Not (wpAny_mono (h s S) (fun _ _ ⟨H1,a,b,c⟩=>⟨H1,a,b,c⟩) fun _ _ p=>p)
theorem Lc {t b o:Expr}{pos:Pos}(h:TW fm t m H (fun c H1=>if c then TW fm b m H1 QB QE else TW fm o m H1 QB QE) QE):TW fm (.IfExp t b o pos) m H QB QE:=fun s S=>by
 refine isTrue_IfExp (wpAny_mono (h s S) (fun c s1 p=>?_) fun _ _ p=>p)
 obtain ⟨H1,T1,S1,q1⟩:=p
 cases c with
 | true=>exact wpAny_mono (q1 s1 S1) (fun _ _ p=>p.back T1) fun _ _ p=>p.back T1
 | false=>exact wpAny_mono (q1 s1 S1) (fun _ _ p=>p.back T1) fun _ _ p=>p.back T1
noncomputable def w7 (fm:Fm) (op:BoolOp) (es:List Expr) (m:Loc) (H:MH) (Q:Bool→MH→Prop) (QE:QX):Prop :=
 ∀ s,Sat fm m H s→wpAny fm.M fm.A (allTrue op es fm.env) (PB fm m H s.heap Q) (PX fm m H s.heap QE) s
theorem Fs {op:BoolOp}{es:List Expr}{pos:Pos}(h:w7 fm op es m H QB QE):TW fm (.BoolOp op es pos) m H QB QE:=fun s S=>wpAny_isTrue_BoolOp (h s S)
theorem w8 (h:QB true H):w7 fm .And [] m H QB QE:=fun s S=>wpAny_allTrue_And_nil ⟨H,af.refl ..,S,h⟩
theorem zx (h:QB false H):w7 fm .Or [] m H QB QE:=fun s S=>wpAny_allTrue_Or_nil ⟨H,af.refl ..,S,h⟩
theorem zy {x:Expr}{rest:List Expr}(h:TW fm x m H (fun b H1=>if b then w7 fm .And rest m H1 QB QE else QB false H1) QE):w7 fm .And (x::rest) m H QB QE:=fun s S=>by
 refine wpAny_allTrue_And_cons (wpAny_mono (h s S) (fun b s1 p=>?_) fun _ _ p=>p)
 obtain ⟨H1,T1,S1,q1⟩:=p
 cases b with
 | true=>exact wpAny_mono (q1 s1 S1) (fun _ _ p=>p.back T1) fun _ _ p=>p.back T1
 | false=>exact ⟨H1,T1,S1,q1⟩
theorem CG {x:Expr}{rest:List Expr}(h:TW fm x m H (fun b H1=>if b then QB true H1 else w7 fm .Or rest m H1 QB QE) QE):w7 fm .Or (x::rest) m H QB QE:=fun s S=>by
 refine wpAny_allTrue_Or_cons (wpAny_mono (h s S) (fun b s1 p=>?_) fun _ _ p=>p)
 obtain ⟨H1,T1,S1,q1⟩:=p
 cases b with
 | false=>exact wpAny_mono (q1 s1 S1) (fun _ _ p=>p.back T1) fun _ _ p=>p.back T1
 | true=>exact ⟨H1,T1,S1,q1⟩
theorem Ld {e:Expr}(he:isTrue e fm.env (eval e fm.env)=(do let v ← eval e fm.env; standAt e.pos; holding [v] (truthy v))) (h:EW fm e m H (fun v H1=>∃ b,zw fm v H1 b∧QB b H1) QE):TW fm e m H QB QE:=fun s S=>by
 refine wpAny_isTrue_value (wpAny_mono (h s S) (fun xa s1 p=>?_) fun _ _ p=>p) he
 obtain ⟨va,H1,T1,S1,r1,b,tr,q1⟩:=p
 exact tr m s1 xa _ _ S1 r1 fun tk=>⟨H1,T1,S1.toks tk,q1⟩
theorem Bm {pos:Pos}{QL:List V→MH→Prop}(q:QL [] H):LW fm pos [] m H QL QE:=fun s S=>wpAny_items_nil ⟨[],H,af.refl ..,S,RepL.nil,q⟩
theorem rR {pos:Pos}{e:Expr}{rest:List Expr}{QL:List V→MH→Prop}(he:starEach (e::rest) fm.env=(false,eval e fm.env)::starEach rest fm.env)
  (h:EW fm e m H (fun v H1=>LW fm pos rest m H1 (fun vs H2=>QL (v::vs) H2) QE) QE):LW fm pos (e::rest) m H QL QE:=fun s S=>by
 refine wpAny_items_cons (wpAny_mono (h s S) (fun xa s1 p=>?_) fun _ _ p=>p) he
 obtain ⟨va,H1,T1,S1,r1,q1⟩:=p
 refine wpAny_mono (q1 s1 S1) (fun xs s2 p=>?_) fun _ _ p=>p.back T1
 obtain ⟨vs,H2,T2,S2,r2,q2⟩:=p
 exact ⟨va::vs,H2,T1.trans T2,S2,RepL.cons (T2.rep r1) r2,q2⟩
end
end
theorem d6.slots {h h':Heap}{env:Env}{x:Str}{val:Value}(k:∀ b o,(b=env.locals∨∃ c,env.cells.lookup x=some c∧env.kindOf x=some .cell∧b=c)→h.get? b=some o→∃ sl,h'.get? b=some { o with slots:=sl })
  (v:d6 h env x val):d6 h' env x val:=by
 unfold d6 at v ⊢
 split
 ·rename_i e
  rw [e] at v
  refine ae v fun m z8=>?_; obtain ⟨o,es,ep,ho,hd,r⟩:=z8; intro q
  refine aj (k _ o (.inl rfl) ho) fun sl hs=>?_
  exact ⟨m,⟨_,es,ep,hs,hd,r⟩,q⟩
 ·rename_i e
  rw [e] at v
  obtain ⟨c,hc,o,ho,hd⟩:=v
  refine aj (k c o (.inr ⟨c,hc,e,rfl⟩) ho) fun sl hs=>?_
  exact ⟨c,hc,_,hs,hd⟩
 ·rename_i h1 h2
  split at v
  ·rename_i e; exact absurd e h1
  ·rename_i e; exact absurd e h2
  ·exact v
theorem Sat.upd {fm:Fm}{m:Loc}{H H':MH}{s s':Shared}(O:ay fm) (S:Sat fm m H s)
  (kX:∀ b o,s.heap.get? b=some o→b ∉ fm.X H→s'.heap.get? b=some o∧b ∉ fm.X H')
  (kF:∀ L,L∈fm.own∨L∈fm.outs→∀ o,s.heap.get? L=some o→∃ sl,s'.heap.get? L=some { o with slots:=sl })
  (objs:∀ p∈H',dC fm H' s'.heap p.1 p.2) (nodup:(aW H').Nodup)
  (apart:∀ a∈aW H',a ∉ fm.own∧a ∉ fm.outs∧a ∉ fm.int∧fm.base.get? a=none)
  (hg:s'.gens=s.gens) (ho:s'.os=s.os) (hd:s'.drawn=s.drawn) (pre:∀ (i:Nat) (a:Addr),(bC H)[i]? = some a→(bC H')[i]? = some a):Sat fm m H' s'∧af fm H s.heap H' s'.heap:=by
 have T:af fm H s.heap H' s'.heap:=⟨kX,fun L hL o e=>kF L (.inr hL) o e,pre⟩
 refine ⟨⟨fun b o e=>?_,?_,?_,?_,?_,objs,nodup,apart,?_,hg.trans S.gens,ho.trans S.os,hd.trans S.drawn⟩,T⟩
 ·exact (kX b o (S.base b o e) fun q=>by rw [Bj O S q] at e; exact nS e).1
 ·have hin:=O.fenvsIn
  have hf:=S.funs
  generalize fm.fenvs=l at hin hf
  induction l with
  | nil=>trivial
  | cons e r ih =>
   refine bW hf fun a z8=>?_; obtain ⟨L,o,h1,h2,h3,h4⟩:=z8; intro h5
   refine aj (kF L ((hin e (.head _) L h1).elim (fun (q:L=fm.fr)=>q ▸ O.frIn) .inr) o h3) fun sl hs=>?_
   exact ⟨a,⟨L,_,h1,h2,hs,h4⟩,ih (fun e he=>hin e (.tail _ he)) h5⟩
 ·refine zk S.ns fun mm o es ep h1 h2=>?_
  refine aj (kF _ (.inl O.locals) o h1) fun sl hs=>?_
  exact ⟨mm,_,es,ep,hs,h2⟩
 ·intro x c h1 h2
  refine cN (S.cells x c h1 h2) fun v o h3 h4=>?_
  refine aj (kF c (O.cellsOwn x c h1 h2).1 o h3) fun sl hs=>?_
  exact ⟨v,_,hs,h4⟩
 ·intro i x v h1 h2 h3
  refine ae (S.vars i x v h1 h2 h3) fun val h4 h5=>?_
  refine ⟨val,h4.slots fun b o hb e=>?_,T.rep h5⟩
  rcases hb with rfl | ⟨c,hc,hk,rfl⟩
  ·exact kF _ (.inl O.locals) o e
  ·exact kF _ (O.cellsOwn x _ hk hc).1 o e
 ·intro a ha
  refine aj (S.alive a ha) fun o h=>?_
  rcases ha with h1 | h1 | h1
  ·refine aj (kF a (.inl h1) o h) fun sl q=>?_; exact ⟨_,q⟩
  ·refine aj (kF a (.inr h1) o h) fun sl q=>?_; exact ⟨_,q⟩
  ·refine ⟨o,(kX a o h fun q=>?_).1⟩
   rcases List.mem_append.mp q with q | q
   ·rcases List.mem_append.mp q with q | q
    ·exact O.ownFm a q h1
    ·exact O.outsFm a q h1
   ·exact (S.apart a q).2.2.1 h1
theorem jo (p:Addr × MO) (H:MH):aW (p::H)=p.2.addrs p.1++aW H:=by simp [aW]
theorem ax {fm:Fm}{H:MH}{b:Addr}:b∈fm.X H↔b∈fm.own∨b∈fm.outs∨b∈aW H:=by simp [Fm.X,or_assoc]
theorem Ft {a:Addr}{P:Addr→Prop}(ha:P a):∀ c∈[a],P c:=fun c hc=>List.mem_singleton.mp hc ▸ ha
theorem Fu {a b:Addr}{P:Addr→Prop}(ha:P a) (hb:P b):∀ c∈[a,b],P c:=fun c hc=>(List.mem_cons.mp hc).elim (fun e=>e ▸ ha) (Ft hb c)
theorem Pw {a b d:Addr}{P:Addr→Prop}(ha:P a) (hb:P b) (hd:P d):∀ c∈[a,b,d],P c:=fun c hc=>(List.mem_cons.mp hc).elim (fun e=>e ▸ ha) (Fu hb hd c)
theorem gV {prog:Program}{w:World}{K:Type} [DecidableEq K] {knd:KeyKind prog w K}{h:Heap}{a:Addr}{kvs:List (K × Value)}{ep:Nat}(x:h.DictAt knd a kvs ep):∃ o,h.get? a=some o:=cN x fun o es ho _=>⟨o,ho⟩
theorem kx.alive {prog:Program}{w:World}{P:List V→List Value→Prop}{h:Heap}{a:Addr}{mo:MO}(r:kx prog w P h a mo):∀ b∈mo.addrs a,∃ o,h.get? b=some o:=by
 cases mo with
 | list vs=>exact ae r fun xs h1 h2=>Ft (h1.2.elim fun n e=>⟨_,e⟩)
 | dS ks vs=>exact cz r fun xs ep h1 hl h2=>Ft (gV h1)
 | dI ks=>exact ae r fun ep h1 h2=>Ft (gV h1)
 | inst C d ks vs=>exact ar r fun h0 r=>cz r fun xs ep h1 hl h2=>Fu ⟨_,h0⟩ (gV h1)
 | exc d tb ks vs =>
  refine ar r fun r0 r=>cN r0 fun fs sl h0 h0'=>cz r fun xs ep h1 hl h2=>?_
  cases tb with
  | none=>exact Fu ⟨_,h0⟩ (gV h1)
  | some T=>exact Pw ⟨_,h0⟩ (gV h1) (ar h0' fun q1 q=>cN q fun oT ts q2 q3=>⟨_,q2⟩)
 | made d ks vs =>
  refine ar r fun r0 r=>cN r0 fun fs sl h0 h0'=>?_
  cases d with
  | none=>exact Ft ⟨_,h0⟩
  | some d=>exact Fu ⟨_,h0⟩ (cz r fun xs ep h1 hl h2=>gV h1)
 | dead=>exact fun _ hb=>absurd hb List.not_mem_nil
theorem Sat.fresh_owned {fm:Fm}{m:Loc}{H:MH}{s:Shared}(S:Sat fm m H s) {a:Addr}(h:s.heap.get? a=none):a ∉ aW H:=fun q =>
 ae (List.mem_flatMap.mp q) fun p hp hb=>aj ((S.objs p hp).alive a hb) fun o e=>nS (h.symm.trans e)
theorem Sat.fresh_apart {fm:Fm}{m:Loc}{H:MH}{s:Shared}(S:Sat fm m H s) {a:Addr}(h:s.heap.get? a=none):a ∉ fm.own∧a ∉ fm.outs∧a ∉ fm.int∧fm.base.get? a=none:=by
 have z:∀ {P:Prop},(∃ o,s.heap.get? a=some o)→P:=fun ⟨o,q⟩=>by rw [h] at q; exact nS q
 refine ⟨fun q=>z (S.alive a (.inl q)),fun q=>z (S.alive a (.inr (.inl q))),fun q=>z (S.alive a (.inr (.inr q))),?_⟩
 cases hb:fm.base.get? a with
 | none=>rfl
 | some o=>exact z ⟨o,S.base a o hb⟩
theorem Sat.fresh_X {fm:Fm}{m:Loc}{H:MH}{s:Shared}(S:Sat fm m H s) {a:Addr}(h:s.heap.get? a=none):a ∉ fm.X H:=fun q=>by
 have f:=S.fresh_apart h
 rcases ax.mp q with q | q | q
 ·exact f.1 q
 ·exact f.2.1 q
 ·exact S.fresh_owned h q
theorem Sat.fresh_ok {fm:Fm}{m:Loc}{H:MH}{s:Shared}(S:Sat fm m H s) {a:Addr}(h:s.heap.get? a=none):fm.ok H a:=⟨S.fresh_X h,(S.fresh_apart h).2.2.1⟩
theorem aV (h:Heap):h.get? h.objs.size=none:=by
 unfold Heap.get?
 simp
theorem vE {d:Addr}{tb:Option (Addr × Value)}{ks:List Str}{vs:List V}{e:Addr}:(MO.exc d tb ks vs).addrs e=[e,d]++(tb.map (·.1)).toList:=by
 cases tb <;> rfl
theorem Sat.exc_obj {fm:Fm}{m:Loc}{H:MH}{s:Shared}{e d:Addr}{tb:Option (Addr × Value)}{ks:List Str}{vs:List V}(S:Sat fm m ((e,.exc d tb ks vs)::H) s) :
  ∃ fs sl,s.heap.get? e=some ⟨Value.ref ai,some d,.fields fs,sl⟩∧K3 s.heap fs tb:=(S.objs _ (.head _)).1
theorem dH {d:Addr}{tb:Option (Addr × Value)}{ks:List Str}{vs:List V}{e b:Addr}{H:MH}:b∈aW ((e,.exc d tb ks vs)::H)↔b=e∨b=d∨tb.map (·.1)=some b∨b∈aW H:=by
 rw [jo,List.mem_append]
 show b∈(MO.exc d tb ks vs).addrs e∨_↔_
 rw [vE,List.mem_append,List.mem_cons,List.mem_singleton,Option.mem_toList,or_assoc,or_assoc]
theorem Bn {d:Addr}{tb:Option (Addr × Value)}{ks:List Str}{vs:List V}{e:Addr}{H:MH}:(aW ((e,.exc d tb ks vs)::H)).Nodup↔(e≠d∧∀ T,tb.map (·.1)=some T→T≠e∧T≠d∧T ∉ aW H)∧(e ∉ aW H∧d ∉ aW H)∧(aW H).Nodup:=by
 rw [jo]
 show ((MO.exc d tb ks vs).addrs e++aW H).Nodup↔_
 rw [vE]
 generalize tb.map (·.1)=t
 generalize aW H=O
 cases t with
 | none =>
  show (e::d::O).Nodup↔_
  rw [List.nodup_cons,List.nodup_cons,List.mem_cons,not_or]
  exact ⟨fun h=>⟨⟨h.1.1,nofun⟩,⟨h.1.2,h.2.1⟩,h.2.2⟩,fun h=>⟨⟨h.1.1,h.2.1.1⟩,h.2.1.2,h.2.2⟩⟩
 | some T =>
  show (e::d::T::O).Nodup↔_
  rw [List.nodup_cons,List.nodup_cons,List.nodup_cons,List.mem_cons,List.mem_cons,List.mem_cons,not_or,not_or,not_or]
  exact ⟨fun h=>⟨⟨h.1.1,fun T' q=>sj q ▸ ⟨fun z=>h.1.2.1 z.symm,fun z=>h.2.1.1 z.symm,h.2.2.1⟩⟩,⟨h.1.2.2,h.2.1.2⟩,h.2.2.2⟩,
   fun h=>have t:=h.1.2 T rfl; ⟨⟨h.1.1,fun z=>t.1 z.symm,h.2.1.1⟩,⟨fun z=>t.2.1 z.symm,h.2.1.2⟩,t.2.2,h.2.2⟩⟩
theorem Sat.exc_upd {fm:Fm}{m:Loc}{H:MH}{s s':Shared}{e d:Addr}{tb tb':Option (Addr × Value)}{ks:List Str}{vs:List V}(O:ay fm) (S:Sat fm m ((e,.exc d tb ks vs)::H) s)
  (k:∀ b o,s.heap.get? b=some o→b≠e→(∀ T,tb.map (·.1)=some T→b≠T)→b ∉ fm.own→b ∉ fm.outs→s'.heap.get? b=some o)
  (kF:∀ L,L∈fm.own∨L∈fm.outs→∀ o,s.heap.get? L=some o→∃ sl,s'.heap.get? L=some { o with slots:=sl })
  (he:∃ fs sl,s'.heap.get? e=some ⟨Value.ref ai,some d,.fields fs,sl⟩∧K3 s'.heap fs tb')
  (ht:∀ T,tb'.map (·.1)=some T→tb.map (·.1)=some T∨s.heap.get? T=none)
  (hg:s'.gens=s.gens) (ho:s'.os=s.os) (hd:s'.drawn=s.drawn) :
  Sat fm m ((e,.exc d tb' ks vs)::H) s'∧af fm ((e,.exc d tb ks vs)::H) s.heap ((e,.exc d tb' ks vs)::H) s'.heap:=by
 have nd:=Bn.mp S.nodup
 have mo:∀ {b},b∈aW ((e,.exc d tb' ks vs)::H)→b∈aW ((e,.exc d tb ks vs)::H)∨s.heap.get? b=none:=fun h =>
  (dH.mp h).elim (fun q=>.inl (dH.mpr (.inl q))) fun h=>h.elim (fun q=>.inl (dH.mpr (.inr (.inl q)))) fun h=>h.elim (fun q=>(ht _ q).imp (fun q=>dH.mpr (.inr (.inr (.inl q)))) id) fun q=>.inl (dH.mpr (.inr (.inr (.inr q))))
 have inX:∀ {b},b∈fm.X ((e,.exc d tb' ks vs)::H)→b∈fm.X ((e,.exc d tb ks vs)::H)∨s.heap.get? b=none:=fun hb =>
  (ax.mp hb).elim (fun q=>.inl (ax.mpr (.inl q))) fun q=>q.elim (fun q=>.inl (ax.mpr (.inr (.inl q)))) fun q=>(mo q).imp (fun q=>ax.mpr (.inr (.inr q))) id
 have eX:e∈aW ((e,.exc d tb ks vs)::H):=dH.mpr (.inl rfl)
 have dX:d∈aW ((e,.exc d tb ks vs)::H):=dH.mpr (.inr (.inl rfl))
 have kX:∀ b o,s.heap.get? b=some o→b ∉ fm.X ((e,.exc d tb ks vs)::H)→s'.heap.get? b=some o∧b ∉ fm.X ((e,.exc d tb' ks vs)::H):=fun b o hb hn =>
  ⟨k b o hb (fun q=>hn (ax.mpr (.inr (.inr (q ▸ eX))))) (fun T hT q=>hn (ax.mpr (.inr (.inr (dH.mpr (.inr (.inr (.inl (q ▸ hT)))))))) ) (fun q=>hn (ax.mpr (.inl q))) fun q=>hn (ax.mpr (.inr (.inl q))),fun q=>(inX q).elim hn fun q=>nS (q.symm.trans hb)⟩
 have okk:∀ b o,s.heap.get? b=some o→fm.ok ((e,.exc d tb ks vs)::H) b→s'.heap.get? b=some o∧fm.ok ((e,.exc d tb' ks vs)::H) b:=fun b o hb q=>have z:=kX b o hb q.1; ⟨z.1,z.2,q.2⟩
 refine Sat.upd O S kX kF (fun p hp=>(List.mem_cons.mp hp).elim (fun q=>?_) fun hp=>?_) (Bn.mpr ⟨⟨nd.1.1,fun T hT=>(ht T hT).elim (nd.1.2 T) fun q=>?_⟩,nd.2⟩) (fun a ha=>(mo ha).elim (S.apart a) S.fresh_apart) hg ho hd (fun _ _ e=>e)
 ·subst q
  have ap:=S.apart d dX
  exact cz (S.objs _ (.head _)).2 fun xs ep h1 hl h2=>⟨he,xs,ep,bE (fun o ho=>k d o ho (fun q=>nd.1.1 q.symm) (fun T hT q=>(nd.1.2 T hT).2.1 q.symm) ap.1 ap.2.1) h1,hl,RepL.mono (fun _ _ e=>e) okk h2⟩
 ·refine dC.mono (H:=(e,.exc d tb ks vs)::H) (fun _ _ e=>e) okk (fun b hb o ho=>?_) (S.objs p (.tail _ hp))
  have hb:=bm hp hb
  have ap:=S.apart b (dH.mpr (.inr (.inr (.inr hb))))
  exact k b o ho (fun q=>nd.2.1.1 (q ▸ hb)) (fun T hT q=>(nd.1.2 T hT).2.2 (q ▸ hb)) ap.1 ap.2.1
 ·have hf:=S.fresh_owned q
  exact ⟨fun z=>hf (z ▸ eX),fun z=>hf (z ▸ dX),fun z=>hf (dH.mpr (.inr (.inr (.inr z))))⟩
section
section
variable {fm:Fm}{m:Loc}{H:MH}{s:Shared}{e d:Addr}{ks:List Str}{vs:List V}{Q:Unit→Shared→Prop}{E:Value→Shared→Prop}{A:Around}{M:Model}
theorem DL (O:ay fm) {a:Addr}(h:a∈fm.fenvs.filterMap (·.frame)):a∈fm.own∨a∈fm.outs:=by
 refine ae (List.mem_filterMap.mp h) fun env he hf=>?_
 exact (O.fenvsIn env he a hf).elim (fun (q:a=fm.fr)=>q ▸ O.frIn) .inr
theorem CH (O:ay fm) {outer:List Env}{L:Addr}(hfe:fm.fenvs=fm.env::outer) (hf:fm.env.frame=some L) {tb:Option (Addr × Value)}(S:Sat fm m ((e,.exc d tb ks vs)::H) s)
  {head:Value}{hadNext:Bool}(hQ:∀ T s',Sat fm m ((e,.exc d (some (T,rawInt L)) ks vs)::H) s'→af fm ((e,.exc d tb ks vs)::H) s.heap ((e,.exc d (some (T,rawInt L)) ks vs)::H) s'.heap→Q () s') :
  wpAny M fm.A (do let a ← frameOf fm.env; let pl ← entryPlaceOf L hadNext; let b ← EntryCells.newEntry head a .none (rawInt L) .none pl; setField (.ref e) 1 b) Q E s:=by
 have hfr:fm.A.frames=some (fm.env::outer):=by rw [O.frames,hfe]
 have hl:s.heap.FunFrames fm.base (fm.env::outer):=by rw [← hfe]; exact S.funs
 have hS:∀ a,a∈(fm.env::outer).filterMap (·.frame)→a∈fm.own∨a∈fm.outs:=fun a ha=>DL O (by rw [hfe]; exact ha)
 refine wpAny_bind (wpAny_frameOf_fun hfr hl hf fun h₁ hs₁=>?_)
 refine wpAny_bind (wpAny_entryPlaceOf fun pl hpl=>?_)
 unfold EntryCells.newEntry newFields
 refine wpAny_bind (wpAny_newObj_type ?_ (hpl.sizeOk5 _ _ _ _ _))
 obtain ⟨fs,sl,he,htb⟩:=S.exc_obj
 have eO:e∈aW ((e,MO.exc d tb ks vs)::H):=dH.mpr (.inl rfl)
 have eN:e ∉ (fm.env::outer).filterMap (·.frame):=fun q=>(hS e q).elim (S.apart e eO).1 (S.apart e eO).2.1
 have he₁:h₁.get? e=some ⟨Value.ref ai,some d,.fields fs,sl⟩:=(hs₁.2.1 e eN).trans he
 have sz:1<fs.size:=by
  cases tb with
  | none=>exact (Array.getElem?_eq_some_iff.mp htb).1
  | some T=>exact (Array.getElem?_eq_some_iff.mp htb.1).1
 have he₂:=Heap.get?_push_of_some (h:=h₁) { cls:=.type "traceback",dict:=none,data:=.fields ([head,.ref L,.none,rawInt L,.none]++(if pl.isEmpty then List.replicate 6 Value.none else pl)).toArray } he₁
 refine wpAny_setField he₂ rfl sz ?_
 have hTe:h₁.objs.size≠e:=Nat.ne_of_gt (Heap.lt_size he₁)
 have hTn:s.heap.get? h₁.objs.size=none:=by rw [hs₁.1]; exact aV _
 have up:=Heap.get?_update_self (Obj.mapFields (·.setIfInBounds 1 (Value.ref h₁.objs.size))) he₂ rfl
 have other:∀ b,b≠e→((h₁.push { cls:=.type "traceback",dict:=none,data:=.fields ([head,.ref L,.none,rawInt L,.none]++(if pl.isEmpty then List.replicate 6 Value.none else pl)).toArray }).update e (Obj.mapFields (·.setIfInBounds 1 (Value.ref h₁.objs.size)))).get? b =
   (h₁.push { cls:=.type "traceback",dict:=none,data:=.fields ([head,.ref L,.none,rawInt L,.none]++(if pl.isEmpty then List.replicate 6 Value.none else pl)).toArray }).get? b:=fun b hb=>Heap.get?_update_ne _ _ _ _ hb
 obtain ⟨S',T'⟩:=Sat.exc_upd (tb':=some (h₁.objs.size,rawInt L)) (s':={ s with heap:=(h₁.push { cls:=.type "traceback",dict:=none,data:=.fields ([head,.ref L,.none,rawInt L,.none]++(if pl.isEmpty then List.replicate 6 Value.none else pl)).toArray }).update e (Obj.mapFields (·.setIfInBounds 1 (Value.ref h₁.objs.size))) }) O S
  (fun b o hb h1 h2 h3 h4=>(other b h1).trans (Heap.get?_push_of_some _ ((hs₁.2.1 b fun q=>(hS b q).elim h3 h4).trans hb)))
  (fun b hb o ho=>by
   obtain ⟨sl',hsl⟩:=hs₁.2.2 b o ho
   have ap:=S.apart e eO
   exact ⟨sl',(other b fun q=>(q ▸ hb:e∈fm.own∨e∈fm.outs).elim ap.1 ap.2.1).trans (Heap.get?_push_of_some _ hsl)⟩)
  ⟨_,sl,up,by simp [sz],_,_,(other _ hTe).trans (Heap.get?_push_size _ rfl),rfl,by first | (simp; done) | (rcases hpl with rfl | ⟨_,_,_,_,_,_,_,rfl⟩ <;> simp)⟩
  (fun T hT=>.inr (sj hT ▸ hTn)) rfl rfl rfl
 exact hQ _ _ S' T'
theorem Sat.fl_upd (O:ay fm) {T:Addr}{fl:Value}(S:Sat fm m ((e,.exc d (some (T,fl)) ks vs)::H) s) (fl':Value) {fs ts:Array Value}{sl:Array (Option Value)}{oT:Obj}
  (he:s.heap.get? e=some ⟨Value.ref ai,some d,.fields fs,sl⟩) (h1:fs[1]? = some (.ref T)) (hT:s.heap.get? T=some oT) (hdT:oT.data=.fields ts) (h3:ts[3]? = some fl) :
  Sat fm m ((e,.exc d (some (T,fl')) ks vs)::H) { s with heap:=s.heap.update T (Obj.mapFields (·.setIfInBounds 3 fl')) }∧af fm ((e,.exc d (some (T,fl)) ks vs)::H) s.heap ((e,.exc d (some (T,fl')) ks vs)::H) (s.heap.update T (Obj.mapFields (·.setIfInBounds 3 fl'))):=by
 have sz3:3<ts.size:=(Array.getElem?_eq_some_iff.mp h3).1
 have eT:T≠e:=((Bn.mp S.nodup).1.2 T rfl).1
 have ap:=S.apart T (dH.mpr (.inr (.inr (.inl rfl))))
 exact Sat.exc_upd (s':={ s with heap:=s.heap.update T (Obj.mapFields (·.setIfInBounds 3 fl')) }) O S
  (fun b o hb h1 h2 h3 h4=>(Heap.get?_update_ne _ _ _ _ (h2 T rfl)).trans hb)
  (fun b hb o ho=>⟨o.slots,(Heap.get?_update_ne _ _ _ _ fun (q:b=T)=>(q ▸ hb:T∈fm.own∨T∈fm.outs).elim ap.1 ap.2.1).trans ho⟩)
  ⟨fs,sl,(Heap.get?_update_ne _ _ _ _ fun q=>eT q.symm).trans he,h1,_,_,Heap.get?_update_self _ hT (Obj.isFreed_of_fields (Obj.data_mapFields hdT _)),Obj.data_mapFields hdT _,Array.getElem?_setIfInBounds_self_of_lt sz3⟩
  (fun T hT=>.inl hT) rfl rfl rfl
theorem Fv {T:Addr}:(Value.ref T != Value.none)=true:=by simp
theorem iC (O:ay fm) {T:Addr}{fl:Value}(S:Sat fm m ((e,.exc d (some (T,fl)) ks vs)::H) s) {fr:Option Addr}
  (hQ:∀ s',Sat fm m ((e,.exc d (some (T,fr.elim .none fun f=>rawInt f)) ks vs)::H) s'→af fm ((e,.exc d (some (T,fl)) ks vs)::H) s.heap ((e,.exc d (some (T,fr.elim .none fun f=>rawInt f)) ks vs)::H) s'.heap→Q () s') :
  wpAny M A (setFlight (.ref e) fr) Q E s:=cN S.exc_obj fun fs sl he htb=>cz htb.2 fun oT ts hT hdT h3=>by
 unfold setFlight
 refine wpAny_bind (wpAny_field he rfl htb.1 (Bl Fv (wpAny_setField hT hdT (Array.getElem?_eq_some_iff.mp h3).1 ?_)))
 exact ar (S.fl_upd O (fr.elim .none fun f=>rawInt f) he htb.1 hT hdT h3) (hQ _)
theorem ky (O:ay fm) {outer:List Env}{L:Addr}(hfe:fm.fenvs=fm.env::outer) (hf:fm.env.frame=some L) {tb:Option (Addr × Value)}(ht:w5 fm tb) (S:Sat fm m ((e,.exc d tb ks vs)::H) s)
  (hQ:∀ T s',Sat fm m ((e,.exc d (some (T,rawInt L)) ks vs)::H) s'→af fm ((e,.exc d tb ks vs)::H) s.heap ((e,.exc d (some (T,rawInt L)) ks vs)::H) s'.heap→Q () s') :
  wpAny M fm.A (noteFrame (.ref e) fm.env) Q E s:=by
 refine cN S.exc_obj fun fs sl he htb=>?_
 unfold noteFrame
 rw [hf]
 cases tb with
 | none=>exact wpAny_bind (wpAny_field he rfl htb (sO (by decide) (CH O hfe hf S hQ)))
 | some p=>exact cz htb.2 fun oT ts hT hdT h3=>wpAny_bind (wpAny_field he rfl htb.1 (Bl Fv (wpAny_bind (wpAny_field hT hdT h3 (ht.elim
   (fun z=>by
    rw [z]
    refine sO (show ¬ ((Value.none==rawInt L)=true) from by simp [rawInt]) (wpAny_bind (wpAny_setField hT hdT (Array.getElem?_eq_some_iff.mp h3).1 ?_))
    exact ar (S.fl_upd O .none he htb.1 hT hdT h3) fun S' T'=>CH O hfe hf S' fun T s' x y=>hQ T s' x (T'.trans y))
   fun z=>ae z fun L' hL' z=>by
    obtain ⟨T,fl⟩:=p
    obtain rfl:fl=_:=z
    obtain rfl:L=L':=Option.some.inj (hf.symm.trans hL')
    exact Bl (show (rawInt L==rawInt L)=true from by simp) (wpAny_pure (hQ T s S (af.refl ..))))))))
theorem DM (O:ay fm) {outer:List Env}{L:Addr}(hfe:fm.fenvs=fm.env::outer) (hf:fm.env.frame=some L) {tb:Option (Addr × Value)}(ht:w5 fm tb) (S:Sat fm m ((e,.exc d tb ks vs)::H) s)
  (hQ:∀ T s',Sat fm m ((e,.exc d (some (T,.none)) ks vs)::H) s'→af fm ((e,.exc d tb ks vs)::H) s.heap ((e,.exc d (some (T,.none)) ks vs)::H) s'.heap→Q () s') :
  wpAny M fm.A (leaving fm.env (.ref e)) Q E s:=by
 unfold leaving
 refine wpAny_bind (ky O hfe hf ht S fun T s' S' T'=>?_)
 exact iC O S' (fr:=none) fun s'' S'' T''=>hQ T s'' S'' (T'.trans T'')
end
end
section
noncomputable def uU (n:Nat) (A:Around):Prop:=A.depth+4*n<900∧A.units+16*n<8000
noncomputable def qy (n:Nat) (A:Around):Prop:=A.depth+4*n+2<900∧A.units+16*n+8<8000
theorem uU.deeper {n:Nat}{A:Around}{env:Env}(R:uU (n+1) A):qy n (A.deeper env):=by
 have h:∀ a e b k m,a+(k*n+k)<m→e+b≤k→a+e+k*n+b<m:=fun a e b k m q h=>by
  rw [Nat.add_right_comm a,Nat.add_assoc (a+k*n)]
  rw [← Nat.add_assoc a] at q
  exact Nat.lt_of_le_of_lt (Nat.add_le_add_left h _) q
 exact ⟨h _ 1 2 4 _ R.1 (by decide),by rw [Around.deeper_units]; exact h A.units 3 8 16 _ R.2 (by decide)⟩
theorem qy.room {n:Nat}{A:Around}(R:qy n A):uU n A:=⟨Nat.lt_of_le_of_lt (Nat.le_add_right _ 2) R.1,Nat.lt_of_le_of_lt (Nat.le_add_right _ 8) R.2⟩
theorem uU.less {n k:Nat}{A:Around}(R:uU n A) (h:k≤n):uU k A:=⟨Nat.lt_of_le_of_lt (Nat.add_le_add_left (Nat.mul_le_mul_left 4 h) _) R.1,Nat.lt_of_le_of_lt (Nat.add_le_add_left (Nat.mul_le_mul_left 16 h) _) R.2⟩
noncomputable def qz (fm:Fm) (body:List Stmt) (m:Loc) (H:MH) (Q:QV) (QE:QX):Prop :=
 ∀ s,Sat fm m H s→wpAny fm.M fm.A (execs body fm.env) (fun f s'=>∃ m',PV fm m' H s.heap Q (match f with | .ret v=>v | _=>.none) s') (PX fm m H s.heap QE) s
noncomputable def j3 (n:Nat) (f:Addr) (vs:List V) (H:MH) (Q:QV) (QE:QX):Prop :=
 ∀ fm m s xs,ay fm→fm.A.handled=none→uU n fm.A→Sat fm m H s→fm.RL H s.heap vs xs→codeAny fm.M fm.A (.call (.ref f) ⟨xs,[]⟩) (fun r s'=>match r with | .ok (.ret v)=>PV fm m H s.heap Q v s' | .ok _=>False | .error e=>PX fm m H s.heap QE e s') s
noncomputable def ng (F:Fn) (names:List Str):Bool :=
 F.scope.kind==.function&&!F.scope.isGenerator&&!F.scope.isCoroutine&&decide names.Nodup
noncomputable def oR (F:Fn) (ps:List Str):Bool:=ps.all fun x=>F.scope.names.lookup x==some .local||(F.scope.names.lookup x==some .cell&&((cellsFrom 0 F.scope.names []).lookup x).isSome)
noncomputable def w9 (F:Fn) (n:Nat) (ps:List Str):Prop:=∀ (s:Shared) (dV pm cd:Value) (ds xs:List Value),xs.length=n →
 ((dV=.none∧ds=[])∨∃ t,dV=.ref t∧IsTup s.heap t ds.toArray)→ds.length=F.dfl.length→BindsTo s (F.data dV pm cd) ⟨xs,[]⟩ (ps.zip (xs++ds.drop (n+F.dfl.length - ps.length)))
noncomputable def g8 (names ps:List Str) (vs:List V):Loc:=fun i=>(names[i]?).bind fun x=>(ps.zip vs).lookup x
section binds
variable {prog:Program}{w:World}{h:Heap}{ok:Addr→Prop}{al:List Addr}{kindOf:Str→Option NameKind}{f:List (Str × Value)→(Str→Option Value)→Str→Option Value}{c:Str→Prop} [DecidablePred c] {x:Str}
theorem zz (e0:∀ m,f [] m=m) (e:∀ n v r m,f ((n,v)::r) m=f r (if c n then fun y=>if y=n then some v else m y else m)):∀ {ps:List Str}{ys:List Value}{m:Str→Option Value},x ∉ ps→f (ps.zip ys) m x=m x
 | [],_,m,_=>congrFun (e0 m) x
 | _::_,[],m,_=>congrFun (e0 m) x
 | p::ps,y::ys,m,hn=>by
  refine (congrFun (e p y (ps.zip ys) m) x).trans ((zz e0 e fun q=>hn (.tail _ q)).trans ?_)
  by_cases hc:c p
  ·rw [if_pos hc]
   exact if_neg fun (q:x=p)=>hn (q ▸ .head _)
  ·rw [if_neg hc]
theorem sP (e0:∀ m,f [] m=m) (e:∀ n v r m,f ((n,v)::r) m=f r (if c n then fun y=>if y=n then some v else m y else m)) {v:V}(hx:c x):∀ {ps:List Str}{vs:List V}{ys:List Value}{m:Str→Option Value},ps.Nodup→RepL prog w h ok al vs ys→(ps.zip vs).lookup x=some v →
  ∃ val,f (ps.zip ys) m x=some val∧Rep prog w h ok al v val
 | [],_,_,_,_,_,q=>nS q
 | _::_,[],_,_,_,_,q=>nS q
 | p::ps,u::vs,ys,m,nd,r,q=>cz r fun y zs e1 r1 r2=>by
  subst e1
  have n:=List.nodup_cons.mp nd
  have k:=fun m'=>congrFun (e p y (ps.zip zs) m') x
  replace q:(match x==p with | true=>some u | false=>(ps.zip vs).lookup x)=some v:=q
  by_cases hp:x=p
  ·subst hp
   rw [beq_self_eq_true] at q
   refine ⟨y,(k m).trans ((zz e0 e n.1).trans ?_),sj q ▸ r1⟩
   rw [if_pos hx]
   exact if_pos rfl
  ·rw [beq_eq_false_iff_ne.mpr hp] at q
   exact (sP e0 e hx n.2 r2 q).imp fun _ z=>⟨(k m).trans z.1,z.2⟩
theorem DN {v:V}(hx:kindOf x=some .local) {ps:List Str}{vs:List V}{ys:List Value}{m:Str→Option Value}(n:ps.Nodup) (r:RepL prog w h ok al vs ys) (q:(ps.zip vs).lookup x=some v):∃ val,bindL kindOf (ps.zip ys) m x=some val∧Rep prog w h ok al v val :=
 sP (c:=fun n=>kindOf n=some .local) (fun _=>rfl) (fun _ _ _ _=>rfl) hx n r q
theorem DO {v:V}(hx:kindOf x=some .cell) {ps:List Str}{vs:List V}{ys:List Value}{m:Str→Option Value}(n:ps.Nodup) (r:RepL prog w h ok al vs ys) (q:(ps.zip vs).lookup x=some v):∃ val,bindC kindOf (ps.zip ys) m x=some val∧Rep prog w h ok al v val :=
 sP (c:=fun n=>¬ kindOf n=some .local) (fun _=>rfl) (fun n v r m=>congrArg (bindC kindOf r) (ite_not ..).symm) (by rw [hx]; decide) n r q
end binds
noncomputable def CI (p:Fm) (F:Fn) (names:List Str) (dV pm cd:Value) (L:Addr):Fm :=
 let env:=callEnvC (F.data dV pm cd) L F.addr
 {p with A:=p.A.deeper env,env,fenvs:=env::p.fenvs,names,own:=L::env.cells.filterMap fun p=>env.cells.lookup p.1,fr:=L }
noncomputable abbrev Fm.hand (fm:Fm):Fm:={ fm with outs:=fm.fr::fm.outs,int:=fm.own.filter (· != fm.fr)++fm.int }
noncomputable abbrev Fm.callee (fm:Fm) (F:Fn) (names:List Str) (dV pm cd:Value) (L:Addr):Fm:=CI fm.hand F names dV pm cd L
theorem jp {x:Str}:∀ (names:List (Str × NameKind)) (n n':Nat),((cellsFrom n names []).lookup x).isSome=((cellsFrom n' names []).lookup x).isSome:=by
 intro names n n'
 have h:=cellsFrom_names names n n' [] [] rfl
 have key:∀ (a b:List (Str × Addr)),a.map (·.1)=b.map (·.1)→(a.lookup x).isSome=(b.lookup x).isSome:=by
  intro a
  induction a with
  | nil=>intro b e; cases b with | nil=>rfl | cons _ _=>simp at e
  | cons p a ih =>
   intro b e
   cases b with
   | nil=>simp at e
   | cons q b =>
    simp only [List.map_cons,List.cons.injEq] at e
    obtain ⟨p1,p2⟩:=p
    obtain ⟨q1,q2⟩:=q
    simp only at e
    obtain ⟨rfl,e⟩:=e
    simp only [List.lookup_cons]
    cases x==p1 with
    | true=>rfl
    | false=>exact ih b e
 exact key _ _ h
theorem Ku {a:Bool}(h:(!a)=true):a=false:=by
 cases a with
 | false=>rfl
 | true=>exact ff h
section enter
variable {p:Fm}{F:Fn}{names ps:List Str}{dV pm cd:Value}{s s₁:Shared}{H:MH}{cm m:Str→Option Value}
noncomputable abbrev nuE (F:Fn) (dV pm cd:Value) (s:Shared):Env:=callEnvC (F.data dV pm cd) s.heap.objs.size F.addr
noncomputable abbrev nuF (p:Fm) (F:Fn) (names:List Str) (dV pm cd:Value) (s:Shared):Fm:=CI p F names dV pm cd s.heap.objs.size
theorem nh {c:Addr}:c∈(nuF p F names dV pm cd s).own↔c=s.heap.objs.size∨∃ y,(nuE F dV pm cd s).cells.lookup y=some c :=
 List.mem_cons.trans (or_congr Iff.rfl ⟨fun q=>ae (List.mem_filterMap.mp q) fun p _ hp=>⟨p.1,hp⟩,fun q=>q.elim fun y q=>List.mem_filterMap.mpr ⟨(y,c),mem_of_lookup q,q⟩⟩)
theorem gW (x:InCallC s s.heap.objs.size m (nuE F dV pm cd s).cells cm s₁) {c:Addr}(hc:c∈(nuF p F names dV pm cd s).own):s.heap.get? c=none:=by
 have lt:s.heap.objs.size≤c:=(nh.mp hc).elim (fun e=>Nat.le_of_eq e.symm) fun q=>q.elim fun y hy=>Nat.le_of_lt (x.above y c (mem_of_lookup hy))
 cases hq:s.heap.get? c with
 | none=>rfl
 | some o=>exact absurd (Heap.lt_size hq) (Nat.not_lt.mpr lt)
theorem ay.new (k1:F.scope.kind=.function) (k4:names.Nodup) (W:Wd p.prog p.w p.base) (hfr:p.A.frames=some p.fenvs) (base:∀ b o,p.base.get? b=some o→s.heap.get? b=some o)
  (b0:∀ a,a∈p.outs∨a∈p.int→p.base.get? a=none∧∃ o,s.heap.get? a=some o) (dis:∀ a∈p.outs,a ∉ p.int) (fe:∀ e∈p.fenvs,∀ L,e.frame=some L→L∈p.outs)
  (x:InCallC s s.heap.objs.size m (nuE F dV pm cd s).cells cm s₁):ay (nuF p F names dV pm cd s) where
 frames:=congrArg (Option.map (nuE F dV pm cd s::·)) hfr
 kind:=k1
 glob:=rfl
 blt:=rfl
 locals:=nh.mpr (.inl rfl)
 cellsOwn:=fun y c _ hc=>⟨.inl (nh.mpr (.inr ⟨y,hc⟩)),Nat.ne_of_gt (x.above y c (mem_of_lookup hc))⟩
 cellsInj:=fun y z c _ _ hy hz=>name_of_addr x.apart (mem_of_lookup hy) (mem_of_lookup hz)
 names:=k4
 ownBase:=fun a ha=>ha.elim (fun q=>by
  cases e:p.base.get? a with
  | none=>exact e
  | some o=>exact nS ((gW x q).symm.trans (base a o e))) fun q=>(b0 a q).1
 ownFm:=fun a ha q=>(b0 a (.inr q)).2.elim fun o e=>nS ((gW x ha).symm.trans e)
 outsFm:=dis
 ownOuts:=fun a ha q=>(b0 a (.inl q)).2.elim fun o e=>nS ((gW x ha).symm.trans e)
 frIn:=.inl (nh.mpr (.inl rfl))
 frEnv:=rfl
 wd:=W
 fenvsIn:=fun e he L hL=>(List.mem_cons.mp he).elim (fun q=>by subst q; exact .inl (sj hL).symm) fun q=>.inr (fe e q L hL)
theorem Io {names ps:List Str}{us:List V}{i:Nat}{y:Str}{v:V}(hi:names[i]? = some y) (hm:g8 names ps us i=some v):(ps.zip us).lookup y=some v:=by
 unfold g8 at hm
 rw [hi] at hm
 exact hm
theorem Sat.new {us:List V}{ys:List Value}(k1:F.scope.kind=.function) (ha:oR F ps=true) (hp:ps.Nodup) (base:∀ b o,p.base.get? b=some o→s.heap.get? b=some o)
  (b0:∀ a,a∈p.outs∨a∈p.int→p.base.get? a=none∧∃ o,s.heap.get? a=some o) (funs:s₁.heap.FunFrames p.base p.fenvs)
  (objs:∀ q∈H,dC (nuF p F names dV pm cd s) H s₁.heap q.1 q.2) (nodup:(aW H).Nodup) (apart:∀ a∈aW H,a ∉ p.outs∧a ∉ p.int∧p.base.get? a=none∧s.heap.get? a≠none)
  (hg:s₁.gens=p.gens) (ho:s₁.os=p.os) (hd:s₁.drawn=p.drawn) (rIn:(nuF p F names dV pm cd s).RL H s₁.heap us ys)
  (x:InCallC s s.heap.objs.size (bindL (nuE F dV pm cd s).kindOf (ps.zip ys) fun _=>none) (nuE F dV pm cd s).cells (bindC (nuE F dV pm cd s).kindOf (ps.zip ys) fun _=>none) s₁) :
  Sat (nuF p F names dV pm cd s) (g8 names ps us) H s₁ where
 base:=fun b o e=>x.toInCall.keep b o (base b o e)
 funs:=by
  obtain ⟨oL,es,ep,hoL,hdL,_⟩:=x.toInCall.ns
  refine ⟨fun q=>(nomatch k1.symm.trans q),⟨s.heap.objs.size,oL,rfl,?_,hoL,fun vs q=>(nomatch hdL.symm.trans q)⟩,funs⟩
  cases e:p.base.get? s.heap.objs.size with
  | none=>exact e
  | some o=>exact absurd (Heap.lt_size (base _ o e)) (Nat.lt_irrefl _)
 ns:=⟨_,x.toInCall.ns⟩
 cells:=fun y c _ hc=>⟨_,x.cell y c hc⟩
 vars:=fun i y v hi hv hm=>by
  replace hm:=Io hi hm
  unfold d6
  rcases hv with hv | hv
  ·exact ae (DN (m:=fun _=>none) hv hp rIn hm) fun val q1 q2=>⟨val,by rw [hv]; exact ⟨_,x.toInCall.ns,q1⟩,q2⟩
  ·refine ae (DO (m:=fun _=>none) hv hp rIn hm) fun val q1 q2=>?_
   have q:=List.all_eq_true.mp ha _ (List.of_mem_zip (mem_of_lookup hm)).1
   have hv':F.scope.names.lookup y=some .cell:=hv
   rw [hv',jp _ 0 (s.heap.objs.size+1)] at q
   refine aj (Option.isSome_iff_exists.mp ((Bool.or_eq_true_iff.mp q).elim ff fun q=>(an q).2)) fun c hc=>?_
   exact ⟨val,by rw [hv]; exact ⟨c,hc,q1 ▸ x.cell y c hc⟩,q2⟩
 objs:=objs
 nodup:=nodup
 apart:=fun a h=>⟨fun q=>(apart a h).2.2.2 (gW x q),(apart a h).1,(apart a h).2.1,(apart a h).2.2.1⟩
 alive:=fun a h=>h.elim (fun q=>(nh.mp q).elim (fun e=>by subst e; exact DF x.toInCall.ns fun oL _ _ e _=>⟨oL,e⟩) fun q=>q.elim fun y hy=>let ⟨o,e,_⟩:=x.cell y a hy; ⟨o,e⟩) fun q=>(b0 a q).2.elim fun o e=>⟨o,x.toInCall.keep a o e⟩
 gens:=hg
 os:=ho
 drawn:=hd
theorem sQ {R:Result→Shared→Prop}{ok:Addr→Prop}{vs:List V}{xs:List Value}(hF:F∈av::au::TAB) (hk:ng F names=true) (ha:oR F ps=true) (hp:ps.Nodup)
  (hb:w9 F vs.length ps) (W:Wd p.prog p.w p.base) (hfr:p.A.frames=some p.fenvs) (hroom:p.A.depth<recursionLimit) (base:∀ b o,p.base.get? b=some o→s.heap.get? b=some o∧ok b)
  (b0:∀ a,a∈p.outs∨a∈p.int→p.base.get? a=none∧∃ o,s.heap.get? a=some o) (dis:∀ a∈p.outs,a ∉ p.int) (fe:∀ e∈p.fenvs,∀ L,e.frame=some L→L∈p.outs)
  (funs:s.heap.FunFrames p.base p.fenvs) (hok:∀ b,ok b→b ∉ p.outs∧b ∉ aW H∧b ∉ p.int)
  (objs:∀ q∈H,kx p.prog p.w (RepL p.prog p.w s.heap ok (bC H)) s.heap q.1 q.2) (nodup:(aW H).Nodup) (apart:∀ a∈aW H,a ∉ p.outs∧a ∉ p.int∧p.base.get? a=none∧s.heap.get? a≠none)
  (hg:s.gens=p.gens) (ho:s.os=p.os) (hd:s.drawn=p.drawn) (r:RepL p.prog p.w s.heap ok (bC H) vs xs)
  (k:∀ dV pm cd h₁ tk,(∀ b o,s.heap.get? b=some o→h₁.get? b=some o)→(∀ a∈(nuF p F names dV pm cd s).own,s.heap.get? a=none)→ay (nuF p F names dV pm cd s) →
   Sat (nuF p F names dV pm cd s) (g8 names ps (vs++F.dfl.drop (vs.length+F.dfl.length - ps.length))) H { s with heap:=h₁,toks:=tk } →
   codeAny (model p.prog p.w) p.A (.func F.body (nuE F dV pm cd s)) R { s with heap:=h₁,toks:=tk }) :
  codeAny (model p.prog p.w) p.A (.call (.ref F.addr) ⟨xs,[]⟩) R s:=by
 refine M9 (W.fns F hF) fun o pm cd dV h1 h2 h3 h4=>?_
 refine ar (an hk) fun hk k4=>ar (an hk) fun hk k3=>ar (an hk) fun k1 k2=>?_
 replace k1:=eq_of_beq k1
 refine codeAny_call_function hroom (base _ _ h1).1 h2 (Ku k3) (Ku k2) rfl (h3.keeps fun b o e=>(base b o e).1) ?_
 have key:∃ ds:List Value,((dV=.none∧ds=[])∨∃ t,dV=.ref t∧IsTup s.heap t ds.toArray)∧ds.length=F.dfl.length∧RepL p.prog p.w s.heap ok (bC H) F.dfl ds:=by
  rcases h4 with ⟨q1,q2⟩ | ⟨t,ys,q1,q2,q3⟩
  ·exact ⟨[],.inl ⟨q2,rfl⟩,q1 ▸ rfl,q1 ▸ RepL.nil⟩
  ·exact ⟨ys.toList,.inr ⟨t,q1,qp (fun o e=>(base t o e).1) q2⟩,q3.length.symm,RepL.mono (fun _ _ e=>nS e) (fun b o e _=>base b o e) q3⟩
 refine dA key fun ds hds hdl rd=>hb s dV pm cd ds xs r.length.symm hds hdl _ _ _ _ (wpAny_newFunctionEnv_cells k1 (fun x hx=>?_) fun env he s₁ x=>?_)
 ·have q:=List.all_eq_true.mp ha _ (List.of_mem_zip hx).1
  rw [jp _ 0 (s.heap.objs.size+1)] at q
  exact (Bool.or_eq_true_iff.mp q).imp eq_of_beq fun q=>⟨eq_of_beq (an q).1,(an q).2⟩
 ·have he':env=nuE F dV pm cd s:=he
  subst he'
  have keep:=x.toInCall.keep
  obtain ⟨h₁,tk,rfl⟩:=x.toInCall.same
  have kp:Kp s.heap h₁ ok ((nuF p F names dV pm cd s).ok H):=fun b o e q=>⟨keep b o e,fun z=>(List.mem_append.mp z).elim (fun z=>(List.mem_append.mp z).elim (fun z=>nS ((gW x z).symm.trans e)) (hok b q).1) (hok b q).2.1,(hok b q).2.2⟩
  have rAll:=RepL.append r (RepL.drop rd (vs.length+F.dfl.length - ps.length))
  refine ⟨(W.nolimit.keeps fun b o e=>(base b o e).1).keeps keep,k dV pm cd h₁ tk keep (fun a=>gW x) (ay.new k1 (of_decide_eq_true k4) W hfr (fun b o e=>(base b o e).1) b0 dis fe x) ?_⟩
  exact Sat.new k1 ha hp (fun b o e=>(base b o e).1) b0 (funs.of_keeps fun b o e _=>⟨o,keep b o e,rfl⟩) (fun q hq=>kx.conv (RepL.mono (fun _ _ e=>e) kp) (fun b _ o=>keep b o) (objs q hq)) nodup apart hg ho hd (RepL.mono (fun _ _ e=>e) kp rAll) x
end enter
section back
variable {fm:Fm}{F:Fn}{names:List Str}{dV pm cd:Value}{m m':Loc}{H H':MH}{s s':Shared}{h₁:Heap}
theorem eL {a:Addr}:a∈fm.hand.int↔(a∈fm.own∧a≠fm.fr)∨a∈fm.int:=by rw [List.mem_append,List.mem_filter,bne_iff_ne]
theorem CJ {b:Addr}(q:(nuF fm.hand F names dV pm cd s).ok H' b):fm.ok H' b:=by
 refine ⟨fun z=>?_,fun z=>q.2 (eL.mpr (.inr z))⟩
 rcases ax.mp z with z | z | z
 ·by_cases hb:b=fm.fr
  ·exact q.1 (ax.mpr (.inr (.inl (hb ▸ .head _))))
  ·exact q.2 (eL.mpr (.inl ⟨z,hb⟩))
 ·exact q.1 (ax.mpr (.inr (.inl (.tail _ z))))
 ·exact q.1 (ax.mpr (.inr (.inr z)))
theorem Fw {h:Heap}{v:V}{x:Value}(r:(nuF fm.hand F names dV pm cd s).R H' h v x):fm.R H' h v x:=Rep.mono (fun _ _ e=>e) (fun _ _ e q=>⟨e,CJ q⟩) r
theorem qA (O:ay fm) (S:Sat fm m H s) (keep:∀ b o,s.heap.get? b=some o→h₁.get? b=some o) (fresh:∀ a∈(nuF fm.hand F names dV pm cd s).own,s.heap.get? a=none)
  (S₂:Sat (nuF fm.hand F names dV pm cd s) m' H' s') (T₂:af (nuF fm.hand F names dV pm cd s) H h₁ H' s'.heap):Sat fm m H' s'∧af fm H s.heap H' s'.heap:=by
 refine Sat.upd O S (fun b o hb hn=>?_) (fun L hL o ho=>?_) (fun p hp=>kx.conv (RepL.mono (fun _ _ e=>e) fun _ _ e q=>⟨e,CJ q⟩) (fun _ _ _ e=>e) (S₂.objs p hp)) S₂.nodup (fun a ha=>?_) (S₂.gens.trans S.gens.symm) (S₂.os.trans S.os.symm) (S₂.drawn.trans S.drawn.symm) T₂.pre
 ·have z:=T₂.keep b o (keep b o hb) fun q=>by
   rcases ax.mp q with q | q | q
   ·exact nS ((fresh b q).symm.trans hb)
   ·exact hn (ax.mpr ((List.mem_cons.mp q).elim (fun e=>e ▸ O.frIn.imp id .inl) fun q=>.inr (.inl q)))
   ·exact hn (ax.mpr (.inr (.inr q)))
  exact ⟨z.1,fun q=>(ax.mp q).elim (fun q=>hn (ax.mpr (.inl q))) fun q=>q.elim (fun q=>hn (ax.mpr (.inr (.inl q)))) fun q=>z.2 (ax.mpr (.inr (.inr q)))⟩
 ·by_cases hf:L=fm.fr
  ·exact T₂.outs L (hf ▸ .head _) o (keep L o ho)
  ·refine hL.elim (fun hL=>?_) fun hL=>T₂.outs L (.tail _ hL) o (keep L o ho)
   refine ⟨o.slots,(T₂.keep L o (keep L o ho) fun q=>?_).1⟩
   rcases ax.mp q with q | q | q
   ·exact nS ((fresh L q).symm.trans ho)
   ·exact (List.mem_cons.mp q).elim hf (O.ownOuts L hL)
   ·exact (S.apart L q).1 hL
 ·obtain ⟨p1,p2,p3,p4⟩:=S₂.apart a ha
  refine ⟨fun q=>?_,fun q=>p2 (.tail _ q),fun q=>p3 (eL.mpr (.inr q)),p4⟩
  by_cases hb:a=fm.fr
  ·exact p2 (hb ▸ .head _)
  ·exact p3 (eL.mpr (.inl ⟨q,hb⟩))
end back
theorem Fx {n:Nat}{F:Fn}{names ps:List Str}{vs:List V}{H:MH}{Q:QV}{QE:QX}(hF:F∈av::au::TAB) (hk:ng F names=true) (ha:oR F ps=true) (hp:ps.Nodup)
  (hb:w9 F vs.length ps)
  (body:∀ fm' dV pm cd L (fm:Fm),fm'=fm.callee F names dV pm cd L→ay fm'→fm'.A.handled=none→qy n fm'.A→qz fm' F.body (g8 names ps (vs++F.dfl.drop (vs.length+F.dfl.length - ps.length))) H Q QE) :
  j3 (n+1) F.addr vs H Q QE:=by
 intro fm m s xs O hh R S r
 refine sQ (p:=fm.hand) (ok:=fm.ok H) hF hk ha hp hb O.wd O.frames (Nat.lt_trans (Nat.lt_of_le_of_lt (Nat.le_add_right ..) R.1) (by decide)) (fun b o e=>⟨S.base b o e,fun q=>nS ((Bj O S q).symm.trans e),fun q=>nS ((O.ownBase b (.inr (.inr q))).symm.trans e)⟩)
  (fun a q=>?_) (fun a q z=>?_) (fun e he L hL=>(O.fenvsIn e he L hL).elim (fun e=>e ▸ .head _) (.tail _)) S.funs (fun b q=>?_) S.objs S.nodup (fun a q=>?_) S.gens S.os S.drawn r fun dV pm cd h₁ tk keep fresh O' S'=>?_
 ·have q:a∈fm.own∨a∈fm.outs∨a∈fm.int:=q.elim (fun q=>(List.mem_cons.mp q).elim (fun e=>e ▸ O.frIn.imp id .inl) fun q=>.inr (.inl q)) fun q=>(eL.mp q).imp (·.1) .inr
  exact ⟨O.ownBase a q,S.alive a q⟩
 ·refine (List.mem_cons.mp q).elim (fun e=>?_) fun q=>(eL.mp z).elim (fun z=>O.ownOuts a z.1 q) (O.outsFm a q)
  subst e
  exact (eL.mp z).elim (fun z=>z.2 rfl) fun z=>O.frIn.elim (fun q=>O.ownFm _ q z) fun q=>O.outsFm _ q z
 ·exact ⟨fun z=>q.1 (ax.mpr ((List.mem_cons.mp z).elim (fun e=>e ▸ O.frIn.imp id .inl) fun z=>.inr (.inl z))),fun z=>q.1 (ax.mpr (.inr (.inr z))),fun z=>(eL.mp z).elim (fun z=>q.1 (ax.mpr (.inl z.1))) q.2⟩
 ·have ap:=S.apart a q
  exact ⟨fun z=>(List.mem_cons.mp z).elim (fun e=>O.frIn.elim (e ▸ ap.1) (e ▸ ap.2.1)) ap.2.1,fun z=>(eL.mp z).elim (fun z=>ap.1 z.1) ap.2.2.1,ap.2.2.2,fun e=>S.fresh_owned e q⟩
 ·refine codeAny_func (wpAny_mono (body _ dV pm cd _ fm rfl O' hh R.deeper _ S') (fun f s' hq=>?_) fun x s' hq=>?_)
  ·obtain ⟨m',v,H',T₂,S₂,r₂,q₂⟩:=hq
   refine ar (qA O S keep fresh S₂ T₂) fun S₃ T₃=>?_
   exact ⟨v,H',T₃,S₃,Fw r₂,q₂⟩
  ·obtain ⟨e,d,tb,ks,us,H',m',rfl,T₂,S₂,ht,q₂⟩:=hq
   refine DM (M:=fm.M) (Q:=fun _ s''=>PX fm m H s.heap QE (.ref e) s'') (E:=fun e' s''=>PX fm m H s.heap QE e' s'') O' (outer:=fm.fenvs) rfl O'.frEnv ht S₂ fun T s'' S₃ T₃=>?_
   refine ar (qA O S keep fresh S₃ (T₂.trans T₃)) fun S₄ T₄=>?_
   exact ⟨e,d,_,ks,us,H',m,rfl,T₄,S₄,.inl rfl,q₂⟩
end
section
section
variable {fm:Fm}{m:Loc}{H:MH}{Q:QV}{QE:QX}
structure gy (fm:Fm) (id:Str) (f:Value):Prop where
 read:∀ (m:Loc) (H:MH) (s:Shared) (pos:Pos) (Q:Value→Shared→Prop) (E:Value→Shared→Prop),Sat fm m H s→Q f s→wpAny fm.M fm.A (eval (.Name id pos) fm.env) Q E s
 keep:∀ h:Heap,(∀ b o,fm.base.get? b=some o→h.get? b=some o)→∃ k,(k=Keeper.frame∨k=Keeper.machine∨k=Keeper.boundFrame)∧Looks fm.M h (keeperOf f) k
theorem DP (O:ay fm) {F:Fn}(hF:F∈TAB) (hk:fm.env.kindOf F.name=some .globalImplicit) (hd:(F.name==("__debug__":Str))=false):gy fm F.name (.ref F.addr) where
 read:=fun m H s pos Q E S q=>by
  obtain ⟨mg,h1,h2,_⟩:=O.wd.glob
  exact Calls.Name_function_global O.kind hk (Calls.loadGlobal_global (by rw [O.glob]; exact h1.keeps S.base) (h2 F hF) q) hd
 keep:=fun h k=>by
  refine E9 (O.wd.fns F (.tail _ (.tail _ hF))) fun o pm cd dV h1 h2 _=>?_
  refine ⟨.frame,.inl rfl,fun A Q E s k' q=>?_⟩
  unfold keeperOf
  refine wpAny_bind (wpAny_load (k' _ _ (k _ _ h1)) ?_)
  rw [h2]
  exact wpAny_pure q
theorem jq (O:ay fm) {x:Str}{f:Value}(hx:x∈f9) (hv:bootBuiltins x=some f) (hf:∀ a,f≠.ref a) (hk:fm.env.kindOf x=some .globalImplicit) (hd:(x==("__debug__":Str))=false):gy fm x f where
 read:=fun m H s pos Q E S q=>by
  refine E8 O.wd.glob fun mg h1 _ _ _ h2=>?_
  refine ae O.wd.blt fun mb h3 h4=>?_
  exact Calls.Name_function_global O.kind hk (Calls.loadGlobal_builtin (by rw [O.glob]; exact h1.keeps S.base) (h2 x hx) (by rw [O.blt]; exact h3.keeps S.base) ((h4 x hx).trans hv) q) hd
 keep:=fun h k=>⟨.machine,.inr (.inl rfl),Looks.of_pure (by cases f <;> first | rfl | exact absurd rfl (hf _))⟩
noncomputable def bb:List Expr→Bool
 | []=>true
 | .Starred ..::_=>false
 | _::r=>bb r
theorem dJ {env:Env}:∀ {es:List Expr},bb es=true→(starEach es env)=es.map fun e=>(false,eval e env)
 | [],_=>rfl
 | e::r,h=>by
  cases e <;> first | (cases h; done) | (show _::starEach r env=_; rw [dJ (es:=r) h]; rfl)
theorem cu {e:Expr}{r:List Expr}(h:bb (e::r)=true):bb r=true∧∀ env,starEach (e::r) env=(false,eval e env)::starEach r env:=by
 cases e <;> first | (cases h; done) | exact ⟨h,fun _=>rfl⟩
theorem zA {pos:Pos}{es:List Expr}{env:Env}(hs:bb es=true):((backTo pos (starEach es env)).any (·.1)||([]:List (Option Str × Sem Value)).any (·.1.isNone))=false:=by
 rw [dJ hs]
 unfold backTo
 simp
theorem vF {s:Shared}{f:Value}{args:List Expr}{pos:Pos}{E:Value→Shared→Prop}{K:List Value→Shared→Prop}{Q:Args→Shared→Prop}(hs:bb args=true) (h:wpAny fm.M fm.A (spliced (backTo pos (starEach args fm.env))) K E s)
  (k:∀ xs s1,K xs s1→Q { pos:=xs } s1):wpAny fm.M fm.A (evalArgs f true (backTo pos (starEach args fm.env)) []) Q E s:=by
 cases args with
 | nil =>
  unfold evalArgs
  refine wpAny_bind (wpAny_mono h (fun xs s1 q=>?_) fun _ _ p=>p)
  refine wpAny_bind (wpAny_pure (wpAny_holding ?_))
  exact wpAny_bind (wpAny_pure (wpAny_bind (wpAny_pure (wpAny_pure (k xs s1 q)))))
 | cons e r =>
  rw [(cu hs).2] at h ⊢
  exact Calls.evalArgs_plain (wpAny_mono h k fun _ _ p=>p)
theorem sR {id:Str}{p pos:Pos}{args:List Expr}{f:Value}(hn:gy fm id f) (hs:bb args=true)
  (h:∀ s,Sat fm m H s→wpAny fm.M fm.A (spliced (backTo pos (starEach args fm.env))) (fun xs s1=>(∀ b o,fm.base.get? b=some o→s1.heap.get? b=some o)∧wpAny fm.M fm.A (call f xs) (PV fm m H s.heap Q) (PX fm m H s.heap QE) s1) (PX fm m H s.heap QE) s) :
  EW fm (.Call (.Name id p) args [] pos) m H Q QE:=fun s S =>
 wpAny_Call_NameR (hn.read m H s p _ _ S (callWith_of (P:=fun h=>∀ b o,fm.base.get? b=some o→h.get? b=some o) (zA hs) hn.keep (vF hs (h s S) fun xs s1 q=>q)))
theorem rS {id:Str}{p pos:Pos}{args:List Expr}{f:Value}(hn:gy fm id f) (hs:bb args=true)
  (h:LW fm pos args m H (fun vs H1=>∀ s xs,Sat fm m H1 s→fm.RL H1 s.heap vs xs→OW fm (call f xs) m H1 Q QE s) QE):EW fm (.Call (.Name id p) args [] pos) m H Q QE :=
 sR hn hs fun s S=>wpAny_mono (h s S) (fun xs s1 p=>p.el fun vs H1 T1 S1 r1 q1=>⟨S1.base,wpAny_mono (q1 s1 xs S1 r1) (fun _ _ p=>p.back T1) fun _ _ p=>p.back T1⟩) fun _ _ p=>p
end
end
end Mine
end
section
open PySem PySem.W PyProof.Rows Builtin.Str
set_option maxRecDepth 20000
set_option backward.match.sparseCases false
set_option genSizeOf false
set_option genInjectivity false
namespace Mine
section
set_option genCtorIdx false in
inductive AO where
 | list (vs:List V)
 | dS (ks:List Str) (vs:List V)
 | dI (ks:List Int)
 | inst (C:Addr) (ks:List Str) (vs:List V)
 | exc (ks:List Str) (vs:List V)
 | dead
noncomputable def MO.abs:MO→AO
 | .list vs=>.list vs
 | .dS ks vs=>.dS ks vs
 | .dI ks=>.dI ks
 | .inst C _ ks vs=>.inst C ks vs
 | .exc _ _ ks vs=>.exc ks vs
 | .made _ ks vs=>.exc ks vs
 | .dead=>.dead
noncomputable abbrev AH:=List AO
noncomputable def aa (H:MH):AH:=(H.filter fun p=>!p.2.isFly).map (·.2.abs)
noncomputable def Q3 (x:Str):Bool:=Nat.ble x.length big
noncomputable def Q4 {α:Type} (l:List α):Bool:=Nat.ble l.length big
theorem aX {a b:Nat}(h:Nat.ble a b=true):a≤b:=Nat.le_of_ble_eq_true h
theorem bX {n:Nat}(h:n≤11000000):n≤sizeLine:=by rw [sizeLine_eq]; lia
section
variable {fm:Fm}{m:Loc}{H:MH}{Q:QV}{QE:QX}{s:Shared}
theorem iD {vs:List V}{xs:Array Value}(hl:xs.size≤big) (S:Sat fm m H s) (r:fm.RL H s.heap vs xs.toList) (q:Q (.lst vs) H) :
  PV fm m H s.heap Q (.ref s.heap.objs.size) { s with heap:=s.heap.push { cls:=.type "list",data:=.seq xs } } :=
 dD (v:=.lst vs) S (fun _ _ e=>Heap.get?_push_of_some _ e) rfl rfl rfl ⟨_,xs,rfl,S.fresh_ok (aV _),⟨hl,0,Heap.get?_push_size _ rfl⟩,(af.of_keeps fun _ _ e=>Heap.get?_push_of_some _ e).repL r⟩ q
theorem me {vs:List V}{xs:Array Value}(hl:xs.size≤big) (S:Sat fm m H s) (r:fm.RL H s.heap vs xs.toList) (q:Q (.tup vs) H) :
  PV fm m H s.heap Q (.ref s.heap.objs.size) { s with heap:=s.heap.push { cls:=.type "tuple",data:=.seq xs } } :=
 dD (v:=.tup vs) S (fun _ _ e=>Heap.get?_push_of_some _ e) rfl rfl rfl ⟨_,xs,rfl,S.fresh_ok (aV _),⟨hl,Heap.get?_push_size _ rfl⟩,(af.of_keeps fun _ _ e=>Heap.get?_push_of_some _ e).repL r⟩ q
theorem ni:∀ (l:List (Array Value)) (acc:Array Value),(List.foldl (fun x1 x2=>x1++x2) acc l).toList=acc.toList++(l.map Array.toList).flatten
 | [],acc=>by simp
 | x::l,acc=>by simp only [List.foldl_cons,ni l,List.map_cons,List.flatten_cons,Array.toList_append,List.append_assoc]
theorem oS (k:Nat) (xs:Array Value):(List.foldl (fun x1 x2=>x1++x2) #[] (List.replicate (if xs.isEmpty=true then 0 else k) xs):Array Value).toList=(List.replicate k xs.toList).flatten:=by
 rw [ni]
 split
 ·rename_i h
  obtain rfl:xs=#[]:=by simpa using h
  simp
 ·simp
theorem RepL.flatten {prog:Program}{w:World}{h:Heap}{ok:Addr→Prop}{al:List Addr}{vs:List V}{xs:List Value}(r:RepL prog w h ok al vs xs):∀ n:Nat,RepL prog w h ok al (List.replicate n vs).flatten (List.replicate n xs).flatten
 | 0=>.nil
 | n+1=>.append r (RepL.flatten r n)
end
noncomputable abbrev zB (op:Operator) (a b r:V):Prop:=∀ {fm:Fm}{m:Loc}{H:MH}{Q:QV}{QE:QX}{s:Shared}{xa xb:Value},Sat fm m H s→fm.R H s.heap a xa→fm.R H s.heap b xb→Q r H→OW fm (binaryOp op xa xb) m H Q QE s
theorem lC {op:Operator}{a b c:Int}(h:∀ {fm:Fm}{m:Loc}{Q:Value→Shared→Prop}{E:Value→Shared→Prop}{s:Shared}{t u:Tok},(∀ tk t,Q (.int c t) { s with toks:=tk })→wpAny fm.M fm.A (binaryOp op (.int a t) (.int b u)) Q E s):zB op (.int a) (.int b) (.int c) :=
 fun {fm m H Q QE s xa xb} S ra rb q=>by
  refine aj ra fun t e=>aj rb fun u e'=>?_
  rw [e,e']
  exact h (m:=m) fun tk t=>aK S d7 q
noncomputable def xd (a b:Int):Bool:=decide (a.natAbs.log2<2000000)&&decide (b.natAbs.log2<2000)
theorem vG (a:Int):Builtin.Int.intBits a≤a.natAbs.log2+1:=by
 unfold Builtin.Int.intBits
 split
 ·exact Nat.zero_le _
 ·exact Nat.le_refl _
theorem Fy {a b:Int}(hb:xd a b=true):IntMulOk a b:=by
 obtain ⟨b1,b2⟩:=an hb
 have b1:=of_decide_eq_true b1
 have b2:=of_decide_eq_true b2
 have h1:=vG a
 have h2:=vG b
 unfold IntMulOk
 simp only [Bool.and_eq_true,decide_eq_true_eq,Builtin.Int.intTooBig]
 intro z
 exact absurd z.2 (Int.not_lt.mpr (Int.ofNat_le.mpr (Nat.le_trans (Nat.add_le_add (Nat.le_trans h1 b1) (Nat.le_trans h2 b2)) (by decide:2000000+2000≤2 ^ 27))))
theorem zC {a b:Str}(h:Nat.ble (a.length+b.length) big=true):zB .Add (.str a) (.str b) (.str (a++b)):=fun {fm m H Q QE s xa xb} S ra rb q=>by
 refine ae ra fun t e _=>ae rb fun u e' _=>?_
 have h:=aX h
 rw [e,e']
 have hl:(a++b).length≤big:=by
  show (a.cps++b.cps).size≤_
  rw [Array.size_append]; exact h
 exact add_str (fun _ _=>aK S (iB hl) q) (bX (Nat.le_trans h (by decide)))
theorem zD {a b:List V}(h:Nat.ble (a.length+b.length) big=true):zB .Add (.lst a) (.lst b) (.lst (a++b)):=fun {fm m H Q QE s xa xb} S ra rb q=>by
 refine cP ra fun l xs e _ hl r1=>cP rb fun b ys e' _ hb r2=>?_
 rw [e,e']
 refine aj hl.2 fun n ho=>aj hb.2 fun n2 ho2=>?_
 have h:=aX h
 rw [r1.length,r2.length,Array.length_toList,Array.length_toList] at h
 exact concat_meets ⟨_,ho,rfl⟩ ⟨_,ho2,rfl⟩ noFill_list_add seq_list_add PySem.F.slot_list_add PySem.F.entry_list_add (PySem.F.args_list_add_2 _ _) (list_addW l b xs ys n n2 none none #[] #[] (bX (Nat.le_trans h (by decide))))
  ⟨ho,ho2,iD (by rw [Array.size_append]; exact h) S (by rw [Array.toList_append]; exact RepL.append r1 r2) q⟩
theorem zE {a:List V}{b:Int}(h:(Builtin.List.listFitsIndex b&&Nat.ble (a.length*b.toNat) big)=true):zB .Mult (.lst a) (.int b) (.lst (List.replicate b.toNat a).flatten):=fun {fm m H Q QE s xa xb} S ra rb q=>by
 refine cP ra fun l xs e _ hl r1=>aj rb fun u e'=>?_
 rw [e,e']
 obtain ⟨h,h1⟩:=an h
 have h1:=aX h1
 rw [r1.length,Array.length_toList] at h1
 refine aj hl.2 fun n ho=>?_
 have hsz:=oS b.toNat xs
 have g:¬ (!Builtin.List.listFitsIndex b)=true:=by rw [h]; exact fun q=>ff q
 refine wpAny_binaryOp_repeat_ref (T:="list") (U:="int") (by decide) ⟨_,ho,rfl⟩ (fun s'=>typeIs_int s' b u) noFill_list_mul F.fills_int_mul F.slot_int_rmul repeat_list F.slot_int_index.lookup
  (call_meets F.slot_int_rmul (typeIs_int s b u) F.entry_int_rmul (F.args_int_rmul_2 _ _) (int___rmul___int_list b u l xs n)
  ⟨ho,rfl,⟨_,ho,rfl⟩,call_meets F.slot_list_mul ⟨_,ho,rfl⟩ F.entry_list_mul (F.args_list_mul_2 _ _)
   (AutoListH.list___mul___list_int_3 l xs n b u g (Nat.not_lt.mpr (Nat.le_trans h1 (by decide))) (fun q=>absurd (of_decide_eq_true q) (Nat.not_lt.mpr (bX (Nat.le_trans h1 (by decide)))))) ⟨ho,?_⟩⟩)
 refine iD ?_ S (by rw [hsz]; exact RepL.flatten r1 _) q
 rw [← Array.length_toList,hsz,List.length_flatten]
 simp only [List.map_replicate,List.sum_replicate_nat,Array.length_toList]
 rw [Nat.mul_comm]; exact h1
noncomputable def Px (a b:V):Cv (zB .Add a b):=match a with
 | .int a=>match b with
  | .int b=>yes (.int (a+b)) (lC fun q=>add_int (q _ _))
  | _=>none
 | .str a=>match b with
  | .str b=>wh (Nat.ble (a.length+b.length) big) fun h=>yes (.str (a++b)) (zC h)
  | _=>none
 | .lst a=>match b with
  | .lst b=>wh (Nat.ble (a.length+b.length) big) fun h=>yes (.lst (a++b)) (zD h)
  | _=>none
 | _=>none
theorem FA {n:Nat}(h:(Nat.blt 0 n&&Nat.ble n 999999)=true):Int.ofNat n≠0:=fun e=>by
 obtain rfl:n=0:=Int.ofNat.inj e
 exact ff h
theorem Bo {a b:Nat}(h:(Nat.ble a 10&&Nat.ble b 100)=true):(0:Int)≤.ofNat b∧Int.ofNat b≤1000000∧a<2 ^ 64 :=
 ⟨Int.natCast_nonneg b,Int.ofNat_le.mpr (Nat.le_trans (aX (an h).2) (by decide)),Nat.lt_of_le_of_lt (aX (an h).1) (by decide)⟩
noncomputable def Py (op:Operator) (a b:Int):Cv (zB op (.int a) (.int b)):=match op with
 | .Sub=>yes (.int (a - b)) (lC fun q=>sub_int (q _ _))
 | .Mult=>wh (xd a b) fun h=>yes (.int (a*b)) (lC fun q=>mul_int (q _ _) (Fy h))
 | .FloorDiv=>match b with
  | .ofNat n=>wh (Nat.blt 0 n&&Nat.ble n 999999) fun h=>yes (.int (a.fdiv (.ofNat n))) (lC fun q=>floordiv_int (FA h) (q _ _) (.inl (PyProof.noPylong_small (Nat.lt_of_le_of_lt (aX (an h).2) (by decide)))))
  | _=>none
 | .Mod=>match b with
  | .ofNat n=>wh (Nat.blt 0 n&&Nat.ble n 999999) fun h=>yes (.int (a.fmod (.ofNat n))) (lC fun q=>mod_int (FA h) (q _ _))
  | _=>none
 | .Pow=>match a,b with
  | .ofNat a,.ofNat b=>wh (Nat.ble a 10&&Nat.ble b 100) fun h=>yes (.int (Int.ofNat a ^ b)) (lC fun q=>pow_int_small (a:=.ofNat a) (Bo h).1 (Bo h).2.1 (Bo h).2.2 (q _ _))
  | _,_=>none
 | _=>none
noncomputable def Pz (op:Operator) (a b:V):Cv (zB op a b):=match op with
 | .Add=>Px a b
 | op=>match b with
  | .int b=>match a with
   | .int a=>Py op a b
   | .lst a=>match op with
    | .Mult=>wh (Builtin.List.listFitsIndex b&&Nat.ble (a.length*b.toNat) big) fun h=>yes (.lst (List.replicate b.toNat a).flatten) (zE h)
    | _=>none
   | _=>none
  | _=>none
noncomputable def cA (op:Operator) (a b:V):Option V:=(Pz op a b).v
theorem Le {op:Operator}{a b r:V}(h:cA op a b=some r):zB op a b r:=lK h
end
section
section
variable {fm:Fm}{m:Loc}{H:MH}{Q:QV}{QE:QX}{s:Shared}
theorem abs_get {H:MH}{i:Nat}{ao:AO}(h:(aa H)[i]? = some ao):∃ p,p∈H∧(bC H)[i]? = some p.1∧p.2.abs=ao∧p.2.isFly=false:=by
 unfold aa at h
 rw [List.getElem?_map] at h
 refine ae (Option.map_eq_some_iff.mp h) fun p hp e=>?_
 have hm:=List.mem_filter.mp (List.mem_of_getElem? hp)
 refine ⟨p,hm.1,?_,e,by simpa using hm.2⟩
 unfold bC
 rw [List.getElem?_map,hp]; rfl
theorem xe (O:ay fm) (S:Sat fm m H s) {a:Addr}(h:a∈aW H):(a==sysModules)=false:=by
 refine aj O.wd.sysm fun o ho=>beq_eq_false_iff_ne.mpr fun e=>?_
 rw [← e,(S.apart a h).2.2.2] at ho
 exact nS ho
theorem lD (S:Sat fm m H s) {i:Nat}{ao:AO}{x:Value}(h:(aa H)[i]? = some ao) (r:fm.R H s.heap (.ref i) x) :
  ∃ a mo,x=.ref a∧(a,mo)∈H∧mo.abs=ao∧mo.isFly=false∧dC fm H s.heap a mo :=
 Bd (abs_get h) fun p hp h1 h2 h3=>ae r fun b hb e=>⟨p.1,p.2,by rw [e,sj (hb.symm.trans h1)],hp,h2,h3,S.objs _ hp⟩
noncomputable def AO.l:AO→Option (List V)
 | .list vs=>some vs
 | _=>none
noncomputable def AO.i:AO→Option (List Int)
 | .dI vs=>some vs
 | _=>none
noncomputable def AO.sd:AO→Option (List Str × List V)
 | .dS ks vs=>some (ks,vs)
 | _=>none
theorem nj {mo:MO}{vs:List V}(h:mo.abs=.list vs):mo=.list vs:=by
 have h:mo.abs.l=some vs:=congrArg AO.l h
 cases mo <;> first | exact nS h | exact congrArg _ (sj h)
theorem Bp {mo:MO}{ks:List Int}(h:mo.abs=.dI ks):mo=.dI ks:=by
 have h:mo.abs.i=some ks:=congrArg AO.i h
 cases mo <;> first | exact nS h | exact congrArg _ (sj h)
theorem Bq {mo:MO}{ks:List Str}{vs:List V}(h:mo.abs=.dS ks vs):mo=.dS ks vs:=by
 have h:mo.abs.sd=some (ks,vs):=congrArg AO.sd h
 cases mo <;> first | exact nS h | exact congrArg (fun p=>MO.dS p.1 p.2) (sj h)
theorem g9 (S:Sat fm m H s) {i:Nat}{vs:List V}{x:Value}(h:(aa H)[i]? = some (.list vs)) (r:fm.R H s.heap (.ref i) x) :
  ∃ a xs,x=.ref a∧(a,MO.list vs)∈H∧iz s.heap a xs∧fm.RL H s.heap vs xs.toList :=
 mT (lD S h r) fun a mo e hp h2 _ q=>by
  obtain rfl:=nj h2
  exact ae q fun xs q1 q2=>⟨a,xs,e,hp,q1,q2⟩
theorem xf (O:ay fm) (S:Sat fm m H s) {i:Nat}{ks:List Int}{x:Value}(h:(aa H)[i]? = some (.dI ks)) (r:fm.R H s.heap (.ref i) x) :
  ∃ a ep,x=.ref a∧(a,MO.dI ks)∈H∧(a==sysModules)=false∧s.heap.DictAt (intKind fm.prog fm.w) a (ks.map fun k=>(k,Value.bool true)) ep∧ks.length≤big:=by
 refine mT (lD S h r) fun a mo e hp h2 _ q=>?_
 obtain rfl:=Bp h2
 exact ae q fun ep q1 q2=>⟨a,ep,e,hp,xe O S (bm hp (.head _)),q1,q2⟩
theorem Br (O:ay fm) (S:Sat fm m H s) {i:Nat}{ks:List Str}{vs:List V}{x:Value}(h:(aa H)[i]? = some (.dS ks vs)) (r:fm.R H s.heap (.ref i) x) :
  ∃ a xs ep,x=.ref a∧(a,MO.dS ks vs)∈H∧(a==sysModules)=false∧s.heap.DictAt (strKind fm.prog fm.w) a (ks.zip xs) ep∧ks.length=xs.length∧fm.RL H s.heap vs xs:=by
 refine mT (lD S h r) fun a mo e hp h2 _ q=>?_
 obtain rfl:=Bq h2
 exact cz q fun xs ep q1 q2 q3=>⟨a,xs,ep,e,hp,xe O S (bm hp (.head _)),q1,q2,q3⟩
end
theorem vH {n:Nat}(h:n≤big):(n:Int)<2 ^ 63:=by lia
noncomputable abbrev Lf (G:AH) (v:V) (b:Bool):Prop:=∀ {fm:Fm}{H:MH},ay fm→aa H=G→zw fm v H b
theorem FB {fm:Fm}{s:Shared}{ks:List Int}{a:Addr}{ep:Nat}{Q:Bool→Shared→Prop}{E:Value→Shared→Prop}(hz:(a==sysModules)=false)
  (hd:s.heap.DictAt (intKind fm.prog fm.w) a (ks.map fun k=>(k,Value.bool true)) ep) (hl:ks.length≤big) (q:∀ tk,Q (!ks.isEmpty) { s with toks:=tk }):wpAny fm.M fm.A (truthy (.ref a)) Q E s:=by
 refine wpAny_truthy_dict hz hd.dictOf (by rw [List.length_map]; exact vH hl) ?_
 rw [List.isEmpty_map]
 exact q _
theorem FC {fm:Fm}{s:Shared}{H:MH}{vs:List V}{a:Addr}{xs:Array Value}{Q:Bool→Shared→Prop}{E:Value→Shared→Prop}(hl:iz s.heap a xs) (r:fm.RL H s.heap vs xs.toList) (q:∀ tk,Q (!vs.isEmpty) { s with toks:=tk }):wpAny fm.M fm.A (truthy (.ref a)) Q E s:=by
 refine wpAny_truthy_list hl.isList (vH hl.1) ?_
 have e:xs.isEmpty=vs.isEmpty:=by
  rw [← Array.isEmpty_toList]
  cases vs with
  | nil=>rw [show xs.toList=[] from r]; rfl
  | cons v vs=>exact cz r fun x ys e _ _=>by rw [e]; rfl
 rw [e]
 exact q _
noncomputable def FD (G:AH) (v:V):Cv (Lf G v):=match v with
 | .none=>yes false fun _ _ _ _ _ _ _ _ r q=>(show _=Value.none from r) ▸ truthy_none (q _)
 | .bool b=>yes b fun _ _ _ _ _ _ _ _ r q=>(show _=Value.bool b from r) ▸ wpAny_truthy_bool (q _)
 | .int i=>yes (i != 0) fun _ _ _ _ _ _ _ _ r q=>aj r fun t e=>e ▸ PyProof.Rows.truthy_int (q _)
 | .dI ks=>yes (!ks.isEmpty) fun _ _ _ _ _ _ _ _ r q=>mT r fun a ep e _ hz hd hl=>e ▸ FB hz hd hl q
 | .ref i=>opt G[i]? fun o h=>match o,h with
  | .dI ks,h=>yes (!ks.isEmpty) fun O e _ _ _ _ _ S r q=>mT (xf O S (e ▸ h) r) fun a ep e _ hz hd hl=>e ▸ FB hz hd hl q
  | .list vs,h=>yes (!vs.isEmpty) fun O e _ _ _ _ _ S r q=>cP (g9 S (e ▸ h) r) fun a xs e _ hl r1=>e ▸ FC hl r1 q
  | _,_=>none
 | _=>none
noncomputable def mf (G:AH) (v:V):Option Bool:=(FD G v).v
theorem sS {fm:Fm}(O:ay fm) {v:V}{H:MH}{b:Bool}(h:mf (aa H) v=some b):zw fm v H b:=lK (P:=Lf (aa H) v) h O rfl
noncomputable abbrev UnS (G:AH) (op:UnaryOp) (a r:V):Prop:=∀ {fm:Fm}{m:Loc}{H:MH}{Q:QV}{QE:QX}{s:Shared}{xa:Value},ay fm→aa H=G→Sat fm m H s→fm.R H s.heap a xa→Q r H→OW fm (unaryOp op xa) m H Q QE s
noncomputable def unC (G:AH) (op:UnaryOp) (a:V):Cv (UnS G op a):=match op with
 | .Not=>match FD G a with
  | some b=>yes (.bool (!b.1)) fun O e S r q=>not_value (b.2 O e _ _ _ _ _ S r fun tk=>aK S g7 q)
  | none=>none
 | .USub=>match a with
  | .int i=>yes (.int (-i)) fun O e S r q=>aj r fun t e=>e ▸ PyProof.Rows.neg_int (aK S d7 q)
  | _=>none
 | _=>none
noncomputable def unV (G:AH) (op:UnaryOp) (a:V):Option V:=(unC G op a).v
theorem Nq {fm:Fm}{H:MH}{op:UnaryOp}{a r:V}(h:unV (aa H) op a=some r):UnS (aa H) op a r:=lK h
section
variable {fm:Fm}{m:Loc}{H:MH}{s:Shared}
noncomputable def Bs (fm:Fm) (t:Sem Value) (b:Bool) (s:Shared):Prop:=∀ (Q:Value→Shared→Prop) (E:Value→Shared→Prop),(∀ tk,Q (.bool b) { s with toks:=tk })→wpAny fm.M fm.A t Q E s
noncomputable def bg:V→Bool
 | .none=>true
 | _=>false
structure Shp (v:V) (x:Value):Prop where
 none:(x==Value.none)=bg v
 handed:handedIn x=true
theorem jr {v:V}{x:Value}{a:Addr}(h:bg v=false) (e:x=.ref a):Shp v x:=e ▸ ⟨h ▸ rfl,rfl⟩
theorem gY {h:Heap}{v:V}{x:Value}(r:fm.R H h v x):Shp v x:=by
 cases v with
 | none=>exact (show x=Value.none from r) ▸ ⟨rfl,rfl⟩
 | bool b=>exact (show x=Value.bool b from r) ▸ ⟨rfl,rfl⟩
 | int _=>exact aj r fun t e=>e ▸ ⟨rfl,rfl⟩
 | str _=>exact aj r fun t e=>e.1 ▸ ⟨rfl,rfl⟩
 | ref _=>exact aj r fun t e=>jr rfl e.2
 | tup _=>exact sq r fun _ _ e=>jr rfl e.1
 | lst _=>exact sq r fun _ _ e=>jr rfl e.1
 | dI _=>exact sq r fun _ _ e=>jr rfl e.1
 | dS _ _=>exact Pn r fun _ _ _ e=>jr rfl e.1
 | inst _ _ _=>exact KU r fun _ _ _ _ e=>jr rfl e.1
 | rng _ _=>exact KU r fun _ _ _ _ e=>jr rfl e.1
theorem iE {h:Heap}{a:Addr}{xs:Array Value}(x:Cz h a xs):h.IsTuple a xs:=⟨_,x.2,rfl,0,rfl⟩
end
mutual
noncomputable def V.data:V→Option PyData
 | .none=>some .none
 | .bool b=>some (.bool b)
 | .int i=>some (.int i)
 | .str x=>some (.str x)
 | .tup vs=>(V.datas vs).map .tuple
 | .lst vs=>(V.datas vs).map .list
 | _=>Option.none
noncomputable def V.datas:List V→Option (List PyData)
 | []=>some []
 | v::vs=>(V.data v).bind fun d=>(V.datas vs).map (d::·)
end
theorem gj {α β:Type}{o:Option α}{f:α→β}{b:β}{P:Prop}(h:o.map f=some b) (k:∀ a,o=some a→f a=b→P):P:=ae (Option.map_eq_some_iff.mp h) k
theorem cD {α β:Type}{o:Option α}{f:α→Option β}{b:β}{P:Prop}(h:o.bind f=some b) (k:∀ a,o=some a→f a=some b→P):P:=ae (Option.bind_eq_some_iff.mp h) k
theorem sU {prog:Program}{w:World}{h:Heap}{ok:Addr→Prop}{al:List Addr}(v:V):∀ {d:PyData}{x:Value},V.data v=some d→Rep prog w h ok al v x→∃ as,Reads h x d as :=
 V.rec (motive_1:=fun v=>∀ {d:PyData}{x:Value},V.data v=some d→Rep prog w h ok al v x→∃ as,Reads h x d as)
  (motive_2:=fun vs=>∀ {ds:List PyData}{xs:List Value},V.datas vs=some ds→RepL prog w h ok al vs xs→∃ as,ReadsAll h xs ds as)
  (fun e r=>sj e ▸ (show _=Value.none from r) ▸ ⟨_,.none⟩) (fun b _ _ e r=>sj e ▸ (show _=Value.bool b from r) ▸ ⟨_,.bool b⟩) (fun b _ _ e r=>sj e ▸ aj r fun t e=>e ▸ ⟨_,.int b t⟩) (fun b _ _ e r=>sj e ▸ aj r fun t e=>e.1 ▸ ⟨_,.str b t⟩)
  (fun vs i _ _ e r=>gj e fun ds e' e=>e ▸ cP r fun a xs e h2 h1 r1=>e ▸ aj (i e' r1) fun as q=>⟨_,.tuple h1.2 rfl rfl q⟩)
  (fun vs i _ _ e r=>gj e fun ds e' e=>e ▸ cP r fun a xs e h2 h1 r1=>e ▸ h1.2.elim fun n h1=>aj (i e' r1) fun as q=>⟨_,.list h1 rfl rfl q⟩)
  (fun _ _ _ _ _ e _=>nS e) (fun _ _ _ e _=>nS e) (fun _ _ _ _ _ _ e _=>nS e) (fun _ _ _ _ e _=>nS e) (fun _ _ _ e _=>nS e)
  (fun e r=>sj e ▸ (show _=[] from r) ▸ ⟨_,.nil⟩)
  (fun v vs i j _ _ e r=>cD e fun d e1 e=>gj e fun ds e2 e=>e ▸ cz r fun x ys e r1 r2=>e ▸ aj (i e1 r1) fun as q=>aj (j e2 r2) fun bs q'=>⟨_,.cons q q'⟩) v
end
section
noncomputable abbrev FE (fm:Fm) (o p:CmpOp) (xa xc:Value) (b:Bool) (s:Shared):Prop:=Bs fm (compareOp o xa xc) b s∧Bs fm (compareOp p xa xc) (!b) s
noncomputable abbrev EqS (a c:V) (b:Bool):Prop:=∀ {fm:Fm}{H:MH}{s:Shared}{xa xc:Value},fm.A.units<9000→fm.R H s.heap a xa→fm.R H s.heap c xc→FE fm .Eq .NotEq xa xc b s
theorem Ip {a c:V}{da dc:PyData}(e1:V.data a=some da) (e2:V.data c=some dc) (h:((da.canLay0&&dc.canLay0)&&Nat.ble da.depth 20)=true):EqS a c (PyData.eqv da dc):=fun {fm H s xa xc} hu ra rc =>
 aj (sU _ e1 ra) fun as r1=>aj (sU _ e2 rc) fun bs r2=>by
  have hd:fm.A.units+min da.depth dc.depth<cLine:=Nat.lt_of_le_of_lt (Nat.add_le_add_left (Nat.le_trans (Nat.min_le_left ..) (aX (an h).2)) _) (Nat.lt_of_lt_of_le (Nat.add_lt_add_right hu 20) (by decide))
  exact ⟨fun Q E q=>SeqAt.compareEq_reads r1 r2 (an (an h).1).1 (an (an h).1).2 hd (q _),fun Q E q=>SeqAt.compareNe_reads r1 r2 (an (an h).1).1 (an (an h).1).2 hd (q _)⟩
noncomputable def eqD (a c:V):Cv (EqS a c):=opt (V.data a) fun da h1=>opt (V.data c) fun dc h2=>wh ((da.canLay0&&dc.canLay0)&&Nat.ble da.depth 20) fun h=>yes (PyData.eqv da dc) (Ip h1 h2 h)
noncomputable def eqC (a c:V):Cv (EqS a c):=match a with
 | .int x=>match c with
  | .int y=>yes (x==y) fun _ ra rc=>aj ra fun t e=>aj rc fun u e'=>e ▸ e' ▸ ⟨fun Q E q=>PyProof.Rows.eq_int (q _),fun Q E q=>PyProof.Rows.ne_int (q _)⟩
  | c=>eqD (.int x) c
 | .str x=>match c with
  | .str y=>yes (x==y) fun _ ra rc=>ae ra fun t e _=>ae rc fun u e' _=>e ▸ e' ▸ ⟨fun Q E q=>PyProof.Rows.eq_str (q _),fun Q E q=>PyProof.Rows.ne_str (q _)⟩
  | c=>eqD (.str x) c
 | a=>eqD a c
noncomputable def xg (k:Str):List V→Option Bool
 | []=>some false
 | v::r=>match v with
  | .str x=>(xg k r).map (x==k||·)
  | _=>none
noncomputable def kz (k:Int):List V→Option Bool
 | []=>some false
 | v::r=>match v with
  | .int x=>(kz k r).map (x==k||·)
  | _=>none
noncomputable def eS (k:Str):Value→Bool
 | .str z _=>z==k
 | _=>false
noncomputable def eI (k:Int):Value→Bool
 | .int z _=>z==k
 | _=>false
section
variable {fm:Fm}{H:MH}{s:Shared}{A:Around}{u:Tok}{h:Heap}{vs:List V}{xs:List Value}{b:Bool}
theorem FF {k:Str}(r:fm.RL H h vs xs):∀ {b:Bool},xg k vs=some b→(∀ y∈xs,SeqAt.EqAt A s y (.str k u) (eS k y))∧xs.any (eS k)=b :=
 r.ind (P:=fun vs xs=>∀ {b:Bool},xg k vs=some b→(∀ y∈xs,SeqAt.EqAt A s y (.str k u) (eS k y))∧xs.any (eS k)=b) (fun e=>⟨(fun _ q=>nomatch q),sj e⟩) fun v x vs xs r1 _ ih {b} e=>by
  cases v with
  | str z =>
   refine gj e fun c e' e=>ae r1 fun t ex _=>ar (ih e') fun h1 h2=>?_
   subst ex
   exact ⟨fun y hy=>(List.mem_cons.mp hy).elim (fun q=>q ▸ SeqAt.EqAt.str_str _ _ _ _) (h1 y),by rw [List.any_cons,h2]; exact e⟩
  | _=>exact nS e
theorem FG {k:Int}(r:fm.RL H h vs xs):∀ {b:Bool},kz k vs=some b→(∀ y∈xs,SeqAt.EqAt A s y (.int k u) (eI k y))∧xs.any (eI k)=b :=
 r.ind (P:=fun vs xs=>∀ {b:Bool},kz k vs=some b→(∀ y∈xs,SeqAt.EqAt A s y (.int k u) (eI k y))∧xs.any (eI k)=b) (fun e=>⟨(fun _ q=>nomatch q),sj e⟩) fun v x vs xs r1 _ ih {b} e=>by
  cases v with
  | int z =>
   refine gj e fun c e' e=>aj r1 fun t ex=>ar (ih e') fun h1 h2=>?_
   subst ex
   exact ⟨fun y hy=>(List.mem_cons.mp hy).elim (fun q=>q ▸ SeqAt.EqAt.int_int _ _ _ _) (h1 y),by rw [List.any_cons,h2]; exact e⟩
  | _=>exact nS e
theorem isS {prog:Program}{w:World}{k:Str}{t:Tok}:(PySem.strKind prog w).is k (.str k t)=true:=by simp [PySem.strKind,Value.isStrOf]
theorem isI {prog:Program}{w:World}{k:Int}{t:Tok}:(PySem.intKind prog w).is k (.int k t)=true:=by simp [PySem.intKind,Value.isInt]
theorem gF {K:Type} [DecidableEq K] {a k:K}{x:Value}{l:List (K × Value)}:valueAt ((a,x)::l) k=if a=k then some x else valueAt l k:=by
 unfold valueAt
 rw [List.find?_cons]
 by_cases h:a=k
 ·simp only [h,decide_true,if_true,Option.map_some]
 ·simp only [h,decide_false,if_false]
theorem contains_cons {K:Type} [DecidableEq K] {a k:K}{ks:List K}:(a::ks).contains k=if a=k then true else ks.contains k:=by
 rw [List.contains_cons]
 by_cases h:a=k
 ·rw [if_pos h,h,beq_self_eq_true,Bool.true_or]
 ·rw [if_neg h,beq_eq_false_iff_ne.mpr (Ne.symm h),Bool.false_or]
theorem kA {K:Type} [DecidableEq K] {k:K}:∀ {ks:List K}{xs:List Value},ks.length=xs.length→(valueAt (ks.zip xs) k).isSome=ks.contains k
 | [],_,_=>rfl
 | a::ks,[],h=>nomatch h
 | a::ks,x::xs,h=>by
  rw [List.zip_cons_cons,gF,contains_cons]
  split
  ·rfl
  ·exact kA (Nat.succ.inj h)
theorem iM {k:Int}:∀ {ks:List Int},(valueAt (ks.map fun k=>(k,Value.bool true)) k).isSome=ks.contains k
 | []=>rfl
 | a::ks=>by
  rw [List.map_cons,gF,contains_cons]
  split
  ·rfl
  ·exact iM
theorem Kv {k:Int}{t:Tok}{ks:List Int}{a:Addr}{ep:Nat}(hz:(a==sysModules)=false) (hd:s.heap.DictAt (intKind fm.prog fm.w) a (ks.map fun k=>(k,Value.bool true)) ep):FE fm .In .NotIn (.int k t) (.ref a) (ks.contains k) s :=
 ⟨fun Q E q=>wpAny_in_of isI hz hd.dictOf.mapOf (by rw [iM]; exact q _),fun Q E q=>wpAny_notIn_of isI hz hd.dictOf.mapOf (by rw [iM]; exact q _)⟩
theorem Kw {k:Str}{t:Tok}{ks:List Str}{xs:List Value}{a:Addr}{ep:Nat}(hz:(a==sysModules)=false) (hd:s.heap.DictAt (strKind fm.prog fm.w) a (ks.zip xs) ep) (hl:ks.length=xs.length):FE fm .In .NotIn (.str k t) (.ref a) (ks.contains k) s :=
 ⟨fun Q E q=>wpAny_in_of isS hz hd.dictOf.mapOf (by rw [kA hl]; exact q _),fun Q E q=>wpAny_notIn_of isS hz hd.dictOf.mapOf (by rw [kA hl]; exact q _)⟩
theorem CK {k:Int}{t:Tok}{xs:Array Value}{a:Addr}(hl:iz s.heap a xs) (h:kz k vs=some b) (r:fm.RL H s.heap vs xs.toList):FE fm .In .NotIn (.int k t) (.ref a) b s :=
 ar (FG (s:=s) (A:=fm.A.in1) (u:=t) r h) fun h1 h2=>⟨fun Q E q=>SeqAt.in_listAt _ hl.isList (fun y hy=>h1 y (Array.mem_toList_iff.mpr hy)) (by rw [← Array.any_toList,h2]; exact q _),
  fun Q E q=>SeqAt.notIn_listAt _ hl.isList (fun y hy=>h1 y (Array.mem_toList_iff.mpr hy)) (by rw [← Array.any_toList,h2]; exact q _)⟩
end
noncomputable abbrev InS (G:AH) (a c:V) (b:Bool):Prop:=∀ {fm:Fm}{m:Loc}{H:MH}{s:Shared}{xa xc:Value},ay fm→aa H=G→Sat fm m H s→fm.R H s.heap a xa→fm.R H s.heap c xc→FE fm .In .NotIn xa xc b s
noncomputable def inI (G:AH) (k:Int) (c:V):Cv (InS G (.int k) c):=match c with
 | .dI ks=>yes (ks.contains k) fun _ _ _ ra rc=>aj ra fun t e=>mT rc fun l ep e' _ hz hd _=>e ▸ e' ▸ Kv hz hd
 | .lst vs=>opt (kz k vs) fun b h=>yes b fun _ _ _ ra rc=>aj ra fun t e=>cP rc fun l xs e' _ hl r=>e ▸ e' ▸ CK hl h r
 | .ref i=>match h:G[i]? with
  | some o=>match o,h with
   | .dI ks,h=>yes (ks.contains k) fun O g S ra rc=>aj ra fun t e=>mT (xf O S (g ▸ h) rc) fun l ep e' _ hz hd _=>e ▸ e' ▸ Kv hz hd
   | .list vs,h=>match h':kz k vs with
    | some b=>yes b fun O g S ra rc=>aj ra fun t e=>cP (g9 S (g ▸ h) rc) fun l xs e' _ hl r=>e ▸ e' ▸ CK hl h' r
    | none=>none
   | _,_=>none
  | none=>none
 | _=>none
noncomputable def inS (G:AH) (k:Str) (c:V):Cv (InS G (.str k) c):=match c with
 | .tup vs=>match h:xg k vs with
  | some b=>yes b fun {fm m H s xa xc} _ _ _ ra rc=>ae ra fun t e _=>cP rc fun l xs e' _ hl r=>e ▸ e' ▸ ar (FF (s:=s) (A:=fm.A.in1) (u:=t) r h) fun h1 h2 =>
    ⟨fun Q E q=>SeqAt.in_tupleAt _ (iE hl) (fun y hy=>h1 y (Array.mem_toList_iff.mpr hy)) (by rw [← Array.any_toList,h2]; exact q _),
     fun Q E q=>SeqAt.notIn_tupleAt _ (iE hl) (fun y hy=>h1 y (Array.mem_toList_iff.mpr hy)) (by rw [← Array.any_toList,h2]; exact q _)⟩
  | none=>none
 | .str x=>yes (!(occurrences x k 0 x.length 1).isEmpty) fun _ _ _ ra rc=>ae ra fun t e _=>ae rc fun l e' _=>e ▸ e' ▸ ⟨fun Q E q=>PyProof.Rows.in_str (q _),fun Q E q=>PyProof.Rows.notIn_str (q _)⟩
 | .dS ks _=>yes (ks.contains k) fun _ _ _ ra rc=>ae ra fun t e _=>DG rc fun l xs ep e' _ hz hd hl _=>e ▸ e' ▸ Kw hz hd hl
 | .ref i=>match h:G[i]? with
  | some o=>match o,h with
   | .dS ks vs,h=>yes (ks.contains k) fun O g S ra rc=>ae ra fun t e _=>DG (Br O S (g ▸ h) rc) fun l xs ep e' _ hz hd hl _=>e ▸ e' ▸ Kw hz hd hl
   | _,_=>none
  | none=>none
 | _=>none
noncomputable def inC (G:AH) (a c:V):Cv (InS G a c):=match a with
 | .int k=>inI G k c
 | .str k=>inS G k c
 | _=>none
noncomputable def d8 (a b:Str):Bool:=decide (a.cps.toList<b.cps.toList)
noncomputable abbrev uV (G:AH) (op:CmpOp) (a c:V) (b:Bool):Prop:=∀ {fm:Fm}{m:Loc}{H:MH}{s:Shared}{xa xc:Value},ay fm→fm.A.units<9000→aa H=G→Sat fm m H s→fm.R H s.heap a xa→fm.R H s.heap c xc→Bs fm (compareOp op xa xc) b s
theorem rT {G:AH}{op:CmpOp}{x y:Int}{b:Bool}(h:∀ {fm:Fm}{Q:Value→Shared→Prop}{E:Value→Shared→Prop}{s:Shared}{t u:Tok},(∀ tk,Q (.bool b) { s with toks:=tk })→wpAny fm.M fm.A (compareOp op (.int x t) (.int y u)) Q E s):uV G op (.int x) (.int y) b :=
 fun _ _ _ _ ra rc Q E q=>aj ra fun t e=>aj rc fun u e'=>e ▸ e' ▸ h q
theorem xh {G:AH}{op:CmpOp}{x y:Str}{b:Bool}(h:∀ {fm:Fm}{Q:Value→Shared→Prop}{E:Value→Shared→Prop}{s:Shared}{t u:Tok},(∀ tk,Q (.bool b) { s with toks:=tk })→wpAny fm.M fm.A (compareOp op (.str x t) (.str y u)) Q E s):uV G op (.str x) (.str y) b :=
 fun _ _ _ _ ra rc Q E q=>ae ra fun t e _=>ae rc fun u e' _=>e ▸ e' ▸ h q
noncomputable def Nr (G:AH) (op:CmpOp) (x y:Int):Cv (uV G op (.int x) (.int y)):=match op with
 | .Lt=>yes (decide (x<y)) (rT fun q=>PyProof.Rows.lt_int (q _))
 | .LtE=>yes (decide (x≤y)) (rT fun q=>PyProof.Rows.le_int (q _))
 | .Gt=>yes (decide (y<x)) (rT fun q=>PyProof.Rows.gt_int (q _))
 | .GtE=>yes (decide (y≤x)) (rT fun q=>PyProof.Rows.ge_int (q _))
 | _=>none
noncomputable def Nt (G:AH) (op:CmpOp) (x y:Str):Cv (uV G op (.str x) (.str y)):=match op with
 | .Lt=>yes (d8 x y) (xh fun q=>PyProof.Rows.lt_str (q _))
 | .LtE=>yes (!d8 y x) (xh fun q=>PySem.P.le_str (q _))
 | .Gt=>yes (d8 y x) (xh fun q=>PySem.P.gt_str (q _))
 | _=>none
noncomputable def isC (G:AH) (op:CmpOp) (a:V):Cv (uV G op a .none):=match op with
 | .Is=>yes (bg a) fun {fm m H s xa xc} _ _ _ _ ra rc Q E q=>(show xc=Value.none from rc) ▸ is_none (by rw [(gY ra).none]; exact q _)
 | .IsNot=>yes (!bg a) fun {fm m H s xa xc} _ _ _ _ ra rc Q E q=>(show xc=Value.none from rc) ▸ isNot_none (by rw [(gY ra).none]; exact q _)
 | _=>none
noncomputable def PA (G:AH) (op:CmpOp) (a c:V):Cv (uV G op a c):=match op with
 | .Eq=>match eqC a c with
  | some b=>yes b.1 fun _ hu _ _ ra rc=>(b.2 hu ra rc).1
  | none=>none
 | .NotEq=>match eqC a c with
  | some b=>yes (!b.1) fun _ hu _ _ ra rc=>(b.2 hu ra rc).2
  | none=>none
 | .In=>match inC G a c with
  | some b=>yes b.1 fun O _ g S ra rc=>(b.2 O g S ra rc).1
  | none=>none
 | .NotIn=>match inC G a c with
  | some b=>yes (!b.1) fun O _ g S ra rc=>(b.2 O g S ra rc).2
  | none=>none
 | op=>match c with
  | .none=>isC G op a
  | .int y=>match a with
   | .int x=>Nr G op x y
   | _=>none
  | .str y=>match a with
   | .str x=>Nt G op x y
   | _=>none
  | _=>none
noncomputable def aF (G:AH) (op:CmpOp) (a c:V):Option Bool:=(PA G op a c).v
theorem oU {H:MH}{op:CmpOp}{a c:V}{b:Bool}(h:aF (aa H) op a c=some b):uV (aa H) op a c b:=lK h
end
section
noncomputable def zF (c:Nat):Str:=⟨#[c]⟩
noncomputable def cS {α:Type} (l:List α) (i:Int):Option α:=match i with
 | .ofNat n=>l[n]?
 | .negSucc n=>wh (Nat.ble (n+1) l.length) fun _=>l[l.length - (n+1)]?
theorem DQ {n len:Nat}(h:n<len):seqIndex? (.ofNat n) len=some n:=StrLaws.seqIndex_nonneg (Int.natCast_nonneg n) (Int.ofNat_lt.mpr h)
theorem DR {n len:Nat}(h:n+1≤len):seqIndex? (.negSucc n) len=some (len - (n+1)):=by
 rw [StrLaws.seqIndex_neg (Int.negSucc_lt_zero n) (by rw [Int.negSucc_eq]; lia)]
 rw [Int.negSucc_eq,Int.add_comm,← Int.sub_eq_add_neg]
 exact congrArg some (Int.toNat_sub len (n+1))
structure SG {α:Type} (l:List α) (i:Int) (x:α):Prop where
 lo:-(2 ^ 62)≤i
 hi:i<2 ^ 62
 ix:∃ j,seqIndex? i l.length=some j∧l[j]? = some x
theorem kB {α:Type}{l:List α}{i:Int}{x:α}(h:cS l i=some x) (hl:l.length≤big):SG l i x:=by
 cases i with
 | ofNat n =>
  have h:l[n]? = some x:=h
  have hn:=(List.getElem?_eq_some_iff.mp h).1
  exact ⟨Int.le_trans (by decide) (Int.natCast_nonneg n),Int.ofNat_lt.mpr (Nat.lt_of_lt_of_le hn (Nat.le_trans hl (by decide))),n,DQ hn,h⟩
 | negSucc n =>
  have h:wh (Nat.ble (n+1) l.length) (fun _=>l[l.length - (n+1)]?)=some x:=h
  refine zl h fun hc h=>?_
  have hn:=aX hc
  refine ⟨?_,Int.lt_trans (Int.negSucc_lt_zero n) (by decide),_,DR hn,h⟩
  rw [Int.negSucc_eq]
  exact Int.neg_le_neg (Int.ofNat_le.mpr (Nat.le_trans hn (Nat.le_trans hl (by decide))))
section
variable {fm:Fm}{m:Loc}{H:MH}{Q:QV}{QE:QX}{s:Shared}
theorem RepL.at {prog:Program}{w:World}{h:Heap}{ok:Addr→Prop}{al:List Addr}{vs:List V}{xs:Array Value}{j:Nat}{v:V}(r:RepL prog w h ok al vs xs.toList) (e:vs[j]? = some v):∃ x,xs[j]? = some x∧Rep prog w h ok al v x :=
 ae (r.get e) fun x h1 h2=>⟨x,(Array.getElem?_toList).symm.trans h1,h2⟩
theorem i5 {prog:Program}{w:World}{h:Heap}{ok:Addr→Prop}{al:List Addr}{k:Str}{v:V}{vs:List V}{xs:List Value}(r:RepL prog w h ok al vs xs):∀ {ks:List Str},(ks.zip vs).lookup k=some v →
  ∃ x,valueAt (ks.zip xs) k=some x∧Rep prog w h ok al v x :=
 r.ind (P:=fun vs xs=>∀ {ks:List Str},(ks.zip vs).lookup k=some v→∃ x,valueAt (ks.zip xs) k=some x∧Rep prog w h ok al v x) (fun {ks} e=>by rw [List.zip_nil_right] at e; exact nS e) fun u x vs xs r1 _ ih {ks} e=>by
  cases ks with
  | nil=>exact nS e
  | cons a ks =>
   rw [List.zip_cons_cons,List.lookup_cons] at e
   rw [List.zip_cons_cons,gF]
   by_cases hp:a=k
   ·rw [if_pos hp]
    rw [← hp,beq_self_eq_true] at e
    exact ⟨x,rfl,sj e ▸ r1⟩
   ·rw [if_neg hp]
    rw [beq_eq_false_iff_ne.mpr (Ne.symm hp)] at e
    exact ih e
theorem zG {a:Addr}{xs:Array Value}{i:Int}{t:Tok}{j:Nat}{x:Value}{A:Around}{E:Value→Shared→Prop}{Q:Value→Shared→Prop}(hl:s.heap.IsList a xs) (h1:-(2 ^ 62)≤i) (h2:i<2 ^ 62) (hj:seqIndex? i xs.size=some j) (hx:xs[j]? = some x) (q:Q x s) :
  wpAny fm.M A (getItem (.ref a) (.int i t)) Q E s:=by
 unfold seqIndex? at hj
 dsimp only at hj
 by_cases hi:i<0
 ·rw [if_pos hi] at hj
  split at hj
  ·rename_i hr
   have hr:=of_decide_eq_true (an hr).1
   rw [← sj hj] at hx
   exact wpAny_getItem_list_neg hl hi (by lia) (Int.le_trans (by decide) h1) hx q
  ·exact nS hj
 ·rw [if_neg hi] at hj
  split at hj
  ·rw [← sj hj] at hx
   exact wpAny_getItem_list hl (Int.not_lt.mp hi) (Int.lt_trans h2 (by decide)) hx q
  ·exact nS hj
end
noncomputable abbrev ItS (G:AH) (a i r:V):Prop:=∀ {fm:Fm}{m:Loc}{H:MH}{s:Shared}{xa xi:Value},ay fm→aa H=G→Sat fm m H s→fm.R H s.heap a xa→fm.R H s.heap i xi →
 ∃ T id,s.TypeIs xa T∧typeLookup (.type T) "__getitem__"=pure (some (.builtin id))∧∀ (Q:Value→Shared→Prop) (E:Value→Shared→Prop),(∀ x tk,fm.R H s.heap r x→Q x { s with toks:=tk })→wpAny fm.M fm.A (getItem xa xi) Q E s
section
variable {fm:Fm}{m:Loc}{H:MH}{s:Shared}{G:AH}{vs:List V}{i:Int}{v:V}
theorem CL {a:Addr}{xs:Array Value}{t:Tok}(hl:iz s.heap a xs) (r:fm.RL H s.heap vs xs.toList) (h:cS vs i=some v) :
  ∃ T id,s.TypeIs (.ref a) T∧typeLookup (.type T) "__getitem__"=pure (some (.builtin id))∧∀ (Q:Value→Shared→Prop) (E:Value→Shared→Prop),(∀ x tk,fm.R H s.heap v x→Q x { s with toks:=tk })→wpAny fm.M fm.A (getItem (.ref a) (.int i t)) Q E s:=by
 have e:vs.length=xs.size:=r.length
 have g:=kB h (e ▸ hl.1)
 exact ae g.ix fun j h3 h4=>ae (r.at h4) fun x h5 h6=>⟨_,_,hl.isList.typeIs,PySem.slot_list_getitem.lookup,fun Q E q=>zG hl.isList g.lo g.hi (e ▸ h3) h5 (q x _ h6)⟩
theorem Lg (h:cS vs i=some v):ItS G (.lst vs) (.int i) v:=fun _ _ _ ra ri=>aj ri fun t e=>cP ra fun a xs e' _ hl r=>e ▸ e' ▸ CL hl r h
theorem Lh (h:cS vs i=some v):ItS G (.tup vs) (.int i) v:=fun _ _ _ ra ri=>aj ri fun t e=>cP ra fun a xs e' _ hl r=>by
 have z:vs.length=xs.size:=r.length
 have g:=kB h (z ▸ hl.1)
 rw [e,e']
 exact ae g.ix fun j h3 h4=>ae (r.at h4) fun x h5 h6=>⟨_,_,hl.isTup.typeIs,PyProof.Rows.slot_tuple_getitem.lookup,
  fun Q E q=>PyProof.Rows.getItem_tuple hl.isTup (Int.le_trans (by decide) g.lo) (Int.lt_trans g.hi (by decide)) (z ▸ h3) h5 (q x _ h6)⟩
theorem Li {x:Str}{c:Nat}(h:cS x.cps.toList i=some c):ItS G (.str x) (.int i) (.str (zF c)):=fun _ _ _ ra ri=>aj ri fun t e=>ae ra fun u e' hl=>by
 have g:=kB h hl
 rw [e,e']
 refine ae g.ix fun j h3 h4=>⟨_,_,typeIs_str _ _ _,PyProof.Rows.slot_str_getitem.lookup,fun Q E q=>PyProof.Rows.getItem_str (c:=c) ?_ ?_ (q _ _ (iB (show 1≤big by decide)))⟩
 ·rw [decide_eq_false (Int.not_lt.mpr (Int.le_trans (by decide) g.lo)),decide_eq_false (Int.not_le.mpr (Int.lt_trans g.hi (by decide)))]; rfl
 ·show (seqIndex? _ (List.length _)).bind _=some c
  rw [h3]
  exact (Array.getElem?_toList).symm.trans h4
theorem Nu {ks:List Str}{k:Str}(h:(ks.zip vs).lookup k=some v):ItS G (.dS ks vs) (.str k) v:=fun _ _ _ ra ri=>ae ri fun t e _=>DG ra fun a xs ep e' _ hz hd hl r=>e ▸ e' ▸
 ae (i5 r h) fun x h1 h2=>⟨_,_,hd.dictOf.mapOf.typeIs,PySem.slot_dict_getitem.lookup,fun Q E q=>wpAny_getItem_of isS hd.dictOf.mapOf h1 (q x _ h2)⟩
end
noncomputable def Kx (G:AH) (a:V) (i:Int):Cv (ItS G a (.int i)):=match a with
 | .lst vs=>opt (cS vs i) fun v h=>yes v (Lg h)
 | .tup vs=>opt (cS vs i) fun v h=>yes v (Lh h)
 | .str x=>opt (cS x.cps.toList i) fun c h=>yes (.str (zF c)) (Li h)
 | .ref k=>opt G[k]? fun o h=>match o,h with
   | .list vs,h=>opt (cS vs i) fun v h'=>yes v fun O g S ra ri=>aj ri fun t e=>cP (g9 S (g ▸ h) ra) fun a xs e' _ hl r=>e ▸ e' ▸ CL hl r h'
   | _,_=>none
 | _=>none
noncomputable def Nv (G:AH) (a i:V):Cv (ItS G a i):=match i with
 | .int i=>Kx G a i
 | .str k=>match a with
  | .dS ks vs=>opt ((ks.zip vs).lookup k) fun v h=>yes v (Nu h)
  | _=>none
 | _=>none
noncomputable def aG (G:AH) (a i:V):Option V:=(Nv G a i).v
noncomputable def hG:Expr→Bool
 | .Slice ..=>false
 | _=>true
theorem nk {sl:Expr}(h:hG sl=true) (o i:Value):subscripted sl false o i=operate [o,i] (getItem o i):=by
 cases sl <;> first | exact ff h | rfl
theorem Iq {fm:Fm}{m:Loc}{H:MH}{Q:QV}{QE:QX}{s:Shared}(O:ay fm) {va vi r:V}{xa xi:Value}{value slice:Expr}(hs:hG slice=true) (h:aG (aa H) va vi=some r) (S:Sat fm m H s) (ra:fm.R H s.heap va xa) (ri:fm.R H s.heap vi xi) (q:Q r H) :
  OW fm (subscriptTail value slice xa xi) m H Q QE s :=
 cz (lK (P:=ItS (aa H) va vi) h O rfl S ra ri) fun T id h1 h2 h3=>tail_any (ops:=[xa,xi]) h1 h2 (h3 _ _ fun x tk r=>aK S r q) (nk hs _ _)
end
section
noncomputable def fA (x:Str) (l u:Option Int):Str :=
 if ((1:Int)==1&&(strSliceIndices l u 1 x.length).length==x.length)=true then x else ⟨((strSliceIndices l u 1 x.length).filterMap (x.cps[·]?)).toArray⟩
noncomputable def a6 {α:Type} (l:List α) (lo hi st:Option Int):List α :=
 (sliceRange (sliceBounds lo hi st l.length).1 (sliceBounds lo hi st l.length).2.1 (sliceBounds lo hi st l.length).2.2).filterMap (l[·]?)
noncomputable def i6 (p:Option V):Option (Option Int):=match p with
 | none=>some none
 | some v=>match v with
  | .int i=>some (some i)
  | _=>none
noncomputable def qB (fm:Fm) (H:MH) (h:Heap) (v:Option V) (x:Value):Prop:=(v=none∧x=.none)∨∃ u,v=some u∧fm.R H h u x
section
variable {fm:Fm}{m:Loc}{H:MH}{Q:QV}{QE:QX}{s:Shared}
theorem qB.keep {H H':MH}{h h':Heap}{v:Option V}{x:Value}(T:af fm H h H' h') (r:qB fm H h v x):qB fm H' h' v x:=r.imp id fun ⟨u,e,r⟩=>⟨u,e,T.rep r⟩
theorem gG {h:Heap}{v:Option V}{k:Option Int}{x:Value}(e:i6 v=some k) (r:qB fm H h v x):∃ p:Option (Int × Tok),x=partValue p∧p.map (·.1)=k∧IsPart x k:=by
 cases v with
 | none=>exact r.elim (fun r=>⟨none,r.2,sj e,by rw [r.2,← sj e]; exact .none⟩) fun r=>aj r fun _ q=>nS q.1
 | some v =>
  cases v with
  | int i=>exact r.elim (fun r=>sN r.1) fun r=>ae r fun u q r=>aj (sj q ▸ r:fm.R H h (.int i) x) fun t ex=>⟨some (i,t),ex,sj e,by rw [ex,← sj e]; exact .int _ t⟩
  | _=>exact nS e
theorem RepL.pick {prog:Program}{w:World}{h:Heap}{ok:Addr→Prop}{al:List Addr}{vs:List V}{xs:List Value}(r:RepL prog w h ok al vs xs):∀ is:List Nat,RepL prog w h ok al (is.filterMap (vs[·]?)) (is.filterMap (xs[·]?))
 | []=>.nil
 | i::is=>by
  rw [List.filterMap_cons,List.filterMap_cons]
  cases e:vs[i]? with
  | none =>
   rw [show xs[i]? = none by rw [List.getElem?_eq_none_iff] at e ⊢; rw [← r.length]; exact e]
   exact RepL.pick r is
  | some v=>exact ae (r.get e) fun x h1 h2=>by rw [h1]; exact .cons h2 (RepL.pick r is)
theorem RepL.dropLast {prog:Program}{w:World}{h:Heap}{ok:Addr→Prop}{al:List Addr}{vs:List V}{xs:List Value}(r:RepL prog w h ok al vs xs):RepL prog w h ok al vs.dropLast xs.dropLast:=by
 rw [List.dropLast_eq_take,List.dropLast_eq_take,r.length]
 exact RepL.take r _
end
section tup
variable {prog:Program}{w:World}{A:Around}{E:Value→Shared→Prop}{s:Shared}
theorem zH {n:Nat}(hn:1≤n):Builtin.Slice.sliceAdjust none (some (-1)) 1 (n:Int)=(0,(n:Int) - 1):=by
 unfold Builtin.Slice.sliceAdjust
 simp only [show ¬ ((1:Int)<0) by decide,show ((-1:Int)<0) by decide,if_false,if_true]
 congr 1
 cases n with
 | zero=>exact absurd hn (by decide)
 | succ m =>
  show max (-1+((m:Int)+1)) 0=(m:Int)+1 - 1
  rw [Int.add_sub_cancel,Int.add_comm,Int.add_neg_cancel_right]
  exact Int.max_eq_left (Int.natCast_nonneg m)
theorem zI {n:Nat}(hn:1≤n):Builtin.Slice.slicePlaces 0 ((n:Int) - 1) 1=n - 1:=by
 unfold Builtin.Slice.slicePlaces
 simp only [show (1:Int) > 0 by decide,if_true,Int.ediv_one]
 split <;> rename_i h
 ·cases n with
  | zero=>exact absurd hn (by decide)
  | succ m =>
   rw [Int.sub_zero,Int.sub_add_cancel]
   show ((m:Int)+1 - 1).toNat=m
   rw [Int.add_sub_cancel]
   rfl
 ·exact (Nat.sub_eq_zero_of_le (Int.ofNat_le.mp (Int.le_of_sub_nonpos (Int.not_lt.mp h)))).symm
theorem nq {sl:Addr}{n:Nat}{u:Tok}{Q:Int × Int × Nat→Shared→Prop}(hs:s.heap.IsSliceOf sl .none (.int (-1) u) .none) (hn:1≤n) (h:Q (0,1,n - 1) s) :
  wpAny (model prog w) A (Builtin.Slice.sliceApplied (.ref sl) (pure (n:Int))) Q E s:=by
 refine dA (id hs) fun os hos hcs hds=>?_
 unfold Builtin.Slice.sliceApplied Builtin.Slice.sliceFields
 refine wpAny_bind (wpAny_bind (wpAny_field hos hds (x:=.none) rfl (wpAny_bind (wpAny_field hos hds (x:=.int (-1) u) rfl (wpAny_bind (wpAny_field hos hds (x:=.none) rfl (wpAny_pure ?_)))))))
 refine wpAny_bind (slicePart_none ?_)
 show wpAny _ _ (if ((1:Int)==0)=true then _ else _) _ _ s
 rw [if_neg (by decide)]
 refine wpAny_bind (slicePart_none (wpAny_bind (slicePart_int (wpAny_bind (wpAny_pure ?_)))))
 show wpAny _ _ (match Builtin.Slice.sliceAdjust none (some (-1)) 1 (n:Int) with | (lo,hi)=>pure (lo,(1:Int),Builtin.Slice.slicePlaces lo hi 1)) _ _ s
 rw [zH hn]
 show wpAny _ _ (pure (0,(1:Int),Builtin.Slice.slicePlaces 0 ((n:Int) - 1) 1)) _ _ s
 rw [zI hn]
 exact wpAny_pure h
theorem DS (xs:Array Value):((List.range (xs.size - 1)).filterMap fun (k:Nat)=>xs[((0:Int)+(k:Int)*1).toNat]?).toArray=xs.toList.dropLast.toArray:=by
 have e:(fun (k:Nat)=>xs[((0:Int)+(k:Int)*1).toNat]?)=(fun x=>xs[x]?)∘fun x=>0+x:=by
  funext k
  show _=xs[0+k]?
  rw [Int.mul_one,Int.zero_add,Nat.zero_add]; rfl
 rw [e,← List.filterMap_map,pick_run xs 0 (xs.size - 1)]
 simp [List.dropLast_eq_take]
theorem mh {t sl:Addr}{items:Array Value}{u:Tok}{Q:Value→Shared→Prop}(ht:IsTup s.heap t items) (hs:s.heap.IsSliceOf sl .none (.int (-1) u) .none) (h1:1≤items.size)
  (h:Q (.ref s.heap.objs.size) { s with heap:=s.heap.push { cls:=.type "tuple",data:=.seq items.toList.dropLast.toArray } })
  (hsz:items.size≤sizeLine):wpAny (model prog w) A (getItem (.ref t) (.ref sl)) Q E s:=by
 have hdrop:sizeOk (.seq items.toList.dropLast.toArray):=by
  show items.toList.dropLast.toArray.size≤sizeLine
  rw [List.size_toArray,List.length_dropLast,Array.length_toList]
  exact Nat.le_trans (Nat.sub_le ..) hsz
 refine dA (id hs) fun os hos hcs hds=>?_
 have hTs:s.TypeIs (.ref sl) "slice":=⟨os,hos,hcs⟩
 refine PyProof.Rows.getItem_slot ht.typeIs (by decide) PyProof.Rows.slot_tuple_getitem (wpAny_call_entry PyProof.Rows.slot_tuple_getitem ht.typeIs PyProof.Rows.entry_tuple_getitem ?_ (PyProof.Rows.args_tuple_getitem _ _))
 show wpAny _ _ (Builtin.Tuple.tupleItemsOf (.ref t) >>= _) _ _ s
 refine wpAny_bind (tupleItemsOf_ ht ?_)
 refine wpAny_bind (wpAny_typeOf hTs ?_)
 rw [if_pos (by decide)]
 refine wpAny_bind (nq hs h1 ?_)
 show wpAny _ _ (if ((0:Int)==0&&(1:Int)==1&&(items.size - 1)==items.size)=true then _ else _) _ _ s
 rw [beq_eq_false_iff_ne.mpr (show items.size - 1≠items.size from Nat.ne_of_lt (Nat.sub_lt h1 Nat.one_pos)),Bool.and_false,if_neg (by decide),DS items]
 exact wpAny_bind (m:=Builtin.Tuple.tupleExact _) (wpAny_newObj_type (wpAny_pure ⟨_,rfl,h⟩) hdrop)
end tup
noncomputable abbrev SlS (a:V) (l u st:Option V) (r:V):Prop:=∀ {fm:Fm}{m:Loc}{H:MH}{Q:QV}{QE:QX}{s:Shared}{xa xl xu xs:Value}{value slice:Expr}{sl:Addr}{ops:List Value},subscripted slice false xa (.ref sl)=operate ops (getItem xa (.ref sl))→Sat fm m H s→fm.R H s.heap a xa →
 s.heap.IsSliceOf sl xl xu xs→qB fm H s.heap l xl→qB fm H s.heap u xu→qB fm H s.heap st xs→Q r H→OW fm (subscriptTail value slice xa (.ref sl)) m H Q QE s
section
variable {l u st:Option V}{lo hi k:Option Int}
theorem Lj {x:Str}(e1:i6 l=some lo) (e2:i6 u=some hi) (e3:i6 st=some none):SlS (.str x) l u st (.str (fA x lo hi)):=fun {fm m H Q QE s xa xl xu xs value slice sl ops} hop S ra hsl rl ru rs q=>by
 refine dA (gG e1 rl) fun pl a1 l1 l2=>dA (gG e2 ru) fun pu a2 u1 u2=>dA (gG e3 rs) fun ps a3 s1 s2=>ae ra fun t ea hl=>?_
 obtain rfl:ps=none:=by cases ps with | none=>rfl | some _=>exact sN s1
 subst a1 a2 a3 l1 u1 ea
 refine tail_any (ops:=ops) (typeIs_str _ _ _) PyProof.Rows.slot_str_getitem.lookup (wpAny_getItem_str_slice (l:=pl) (u:=pu) (st:=none) hsl rfl ?_) hop
 unfold sliceMade
 have e:fA x (pl.map (·.1)) (pu.map (·.1))=if ((1:Int)==1&&(slicePicked x pl pu none).length==x.length)=true then x else ⟨((slicePicked x pl pu none).filterMap (x.cps[·]?)).toArray⟩:=rfl
 show Made.post (if ((1:Int)==1&&(slicePicked x pl pu none).length==x.length)=true then _ else _) _ _
 rw [e] at q
 have hz:(⟨((slicePicked x pl pu none).filterMap (x.cps[·]?)).toArray⟩:Str).length≤big:=by
  show (List.filterMap _ _).toArray.size≤_
  rw [List.size_toArray]
  exact Nat.le_trans (List.length_filterMap_le ..) (Nat.le_trans (PyProof.Rows.indices_len_le _ _ _) hl)
 split
 ·rename_i hc
  rw [if_pos hc] at q
  exact gb S (iB hl) q
 ·rename_i hc
  rw [if_neg hc] at q
  exact ⟨bX (Nat.le_trans hz (by decide)),aK S (iB hz) q⟩
theorem sV {vs:List V}(e1:i6 l=some lo) (e2:i6 u=some hi) (e3:i6 st=some k) (hk:k≠some 0) (hn:Nat.ble (a6 vs lo hi k).length big=true):SlS (.lst vs) l u st (.lst (a6 vs lo hi k)):=fun {fm m H Q QE s xa xl xu xs value slice sl ops} hop S ra hsl rl ru rs q=>by
 refine dA (gG e1 rl) fun pl _ _ l2=>dA (gG e2 ru) fun pu _ _ u2=>dA (gG e3 rs) fun ps _ _ s2=>cP ra fun a xs ea _ hl r=>?_
 subst ea
 have z:vs.length=xs.size:=r.length
 have e:(slicePick xs lo hi k).toList=(sliceRange (sliceBounds lo hi k xs.size).1 (sliceBounds lo hi k xs.size).2.1 (sliceBounds lo hi k xs.size).2.2).filterMap (xs.toList[·]?):=by
  unfold slicePick; simp
 have r':fm.RL H s.heap (a6 vs lo hi k) (slicePick xs lo hi k).toList:=by
  rw [e]; unfold a6; rw [z]; exact RepL.pick r _
 refine tail_any (ops:=ops) hl.isList.typeIs PySem.slot_list_getitem.lookup (wpAny_getItem_list_slice hl.isList hsl l2 u2 s2 hk (iD ?_ S r' q) (bX (Nat.le_trans hl.1 (by decide)))) hop
 rw [← Array.length_toList,← r'.length]; exact aX hn
theorem Lk {vs:List V}(e1:i6 l=some none) (e2:i6 u=some (some (-1))) (e3:i6 st=some none) (h:Nat.ble 1 vs.length=true):SlS (.tup vs) l u st (.tup vs.dropLast):=fun {fm m H Q QE s xa xl xu xs value slice sl ops} hop S ra hsl rl ru rs q=>by
 refine dA (gG e1 rl) fun pl a1 l1 _=>dA (gG e2 ru) fun pu a2 u1 _=>dA (gG e3 rs) fun ps a3 s1 _=>cP ra fun a ys ea _ hl r=>?_
 obtain rfl:ps=none:=by cases ps with | none=>rfl | some _=>exact sN s1
 obtain rfl:pl=none:=by cases pl with | none=>rfl | some _=>exact sN l1
 cases pu with
 | none=>exact nS u1
 | some p =>
  obtain ⟨i,t⟩:=p
  obtain rfl:i=-1:=sj u1
  subst a1 a2 a3 ea
  have z:vs.length=ys.size:=r.length
  have r':=RepL.dropLast r
  refine tail_any (ops:=ops) hl.isTup.typeIs PyProof.Rows.slot_tuple_getitem.lookup (mh hl.isTup hsl (z ▸ aX h) (me ?_ S r' q) (bX (Nat.le_trans hl.1 (by decide)))) hop
  rw [List.size_toArray,List.length_dropLast,Array.length_toList]
  exact Nat.le_trans (Nat.sub_le ..) hl.1
end
noncomputable def Ll (a:V) (l u st:Option V):Cv (SlS a l u st):=match h1:i6 l,h2:i6 u,h3:i6 st with
 | some lo,some hi,some k=>match a with
  | .str x=>match k,h3 with
   | none,h3=>yes (.str (fA x lo hi)) (Lj h1 h2 h3)
   | _,_=>none
  | .lst vs=>wh (decide (k≠some 0)) fun hk=>wh (Nat.ble (a6 vs lo hi k).length big) fun hn=>yes (.lst (a6 vs lo hi k)) (sV h1 h2 h3 (of_decide_eq_true hk) hn)
  | .tup vs=>match lo,hi,k,h1,h2,h3 with
   | none,some (-1),none,h1,h2,h3=>wh (Nat.ble 1 vs.length) fun h=>yes (.tup vs.dropLast) (Lk h1 h2 h3 h)
   | _,_,_,_,_,_=>none
  | _=>none
 | _,_,_=>none
noncomputable def bG (a:V) (l u st:Option V):Option V:=(Ll a l u st).v
theorem FH {a r:V}{l u st:Option V}(h:bG a l u st=some r):SlS a l u st r:=lK h
end
section
section
variable {fm:Fm}{m:Loc}{H:MH}{Q:QV}{QE:QX}{s:Shared}
theorem DT {k n:Str}{t:Tok}:(Value.str k t).isStr n=decide (k=n):=by
 show (k==n)=_
 rw [Bool.eq_iff_iff,beq_iff_eq,decide_eq_true_eq]
theorem sW {prog:Program}{w:World}{name:Str}{es:List DictEntry}{kvs:List (Str × Value)}(h:Pairs (PySem.strKind prog w) es kvs):(es.find? (·.key.isStr name)).map (·.val)=valueAt kvs name∧es.any (·.refKey)=false:=by
 induction h with
 | nil=>exact ⟨rfl,rfl⟩
 | @cons e kv es kvs h1 h2 h3 ih =>
  refine aj (Value.isStrOf_shape (show Value.isStrOf kv.1 e.key=true from h1)) fun t ht=>⟨?_,?_⟩
  ·rw [List.find?_cons,ht,DT]
   refine Eq.trans ?_ gF.symm
   by_cases q:kv.1=name
   ·rw [if_pos q,decide_eq_true q]; exact congrArg some h2
   ·rw [if_neg q,decide_eq_false q]; exact ih.1
  ·rw [List.any_cons,ih.2,Bool.or_false]
   unfold DictEntry.refKey
   rw [ht]
theorem lR {prog:Program}{w:World}{h:Heap}{d:Addr}{kvs:List (Str × Value)}{ep:Nat}(x:h.DictAt (PySem.strKind prog w) d kvs ep) (name:Str) :
  ∃ o,h.get? d=some o∧lookIn name o=some (valueAt kvs name):=by
 refine M8 x fun o es h1 h2 h3 h4 h5 h6=>?_
 refine ⟨o,h1,?_⟩
 refine ar (sW (name:=name) h5) fun i1 i2=>?_
 unfold lookIn
 rw [h3]
 dsimp only
 rw [← i1]
 cases e:es.toList.find? (·.key.isStr name) with
 | some p=>rfl
 | none=>simp only [i2]; rfl
theorem zJ {K:Frag}{C:Addr}{ga:String}(F:Fg K C ga) {n:Str}(hn:n∈aU) {od:Obj}{v:Value}(hl:lookIn n od=some (some v)):findObj K C (some od) n=some (.value v) :=
 ae F.cls fun cd h1 h2=>by
  have e:PySem.W.ownOf cd (some od) n=some (some v):=(if_pos h2).trans hl
  unfold findObj
  rw [h1,F.at_ n hn]
  show (PySem.W.ownOf cd (some od) n).bind _=_
  rw [e]; rfl
theorem nr (O:ay fm) (S:Sat fm m H s) {C:Addr}(hC:C=ak) {n:Str}(hn:n∈aU) {x d:Addr}{ox:Obj}(h1:s.heap.get? x=some ox) (h2:ox.cls=.ref C) (h3:notCls ox=true) (h4:ox.dict=some d)
  {kvs:List (Str × Value)}{ep:Nat}(hd:s.heap.DictAt (PySem.strKind fm.prog fm.w) d kvs ep) {v:Value}(hv:valueAt kvs n=some v) (hh:handedIn v=true) {Q:Value→Shared→Prop}{E:Value→Shared→Prop}(q:∀ tk,Q v { s with toks:=tk }) :
  wpAny fm.M fm.A (getAttr (.ref x) n true) Q E s :=
 ae O.wd.cls fun K hK F=>ae (lR hd n) fun od ho hl=>get_value (hK.keeps S.base) (C:=ak) ⟨h1,h2.trans (congrArg _ hC),h3,by rw [h4]; exact ho⟩ F.o.ga (zJ F.o hn (hl.trans (congrArg some hv))) hh (q _)
theorem FI:builtinKind "BaseException.__getattribute__"=some .slot:=by decide +kernel
theorem DU:splitId "BaseException.__getattribute__"=some ("BaseException", "__getattribute__"):=by decide +kernel
theorem DV {M:Model}{h:Heap}{g:Array GenState}{d:Drawn}{os:OsState}{x:Value}(hi:Looks M h (isInstance x (.type "BaseException")) true) (nv:Value) (A:Around) (E:Value→Shared→Prop) (Q:Unit→Shared→Prop) (tk:Nat) (z:Q () ⟨h,g,d,tk,os⟩) :
  wpAny M A (checkBuiltinCall "BaseException.__getattribute__" ⟨[x,nv],[]⟩) Q E ⟨h,g,d,tk,os⟩ :=
 @check_slot M A E ⟨h,g,d,tk,os⟩ "BaseException.__getattribute__" "BaseException" "__getattribute__" x [nv] [] Q FI DU hi (PySem.F.args_bexc_ga x nv) z
theorem qC (O:ay fm) (S:Sat fm m H s) {C:Addr}(hC:C=ai) {n:Str}(hn:n∈aU) {x d:Addr}{ox:Obj}(h1:s.heap.get? x=some ox) (h2:ox.cls=.ref C) (h3:notCls ox=true) (h4:ox.dict=some d)
  {kvs:List (Str × Value)}{ep:Nat}(hd:s.heap.DictAt (PySem.strKind fm.prog fm.w) d kvs ep) {v:Value}(hv:valueAt kvs n=some v) (hh:handedIn v=true) {Q:Value→Shared→Prop}{E:Value→Shared→Prop}(q:∀ tk,Q v { s with toks:=tk }) :
  wpAny fm.M fm.A (getAttr (.ref x) n true) Q E s:=by
 refine ae O.wd.cls fun K hK F=>ae (lR hd n) fun od ho hl=>?_
 subst hC
 have I:PySem.W.InstAt s.heap x ox ai (some od):=⟨h1,h2,h3,by rw [h4]; exact ho⟩
 have X:=hK.keeps S.base
 have L0:=I.type (M:=fm.M)
 have L1:=looks_findIn (M:=fm.M) X F.r.ga
 have L2:=looks_findIn (M:=fm.M) X F.ga
 have L3:=looks_find (M:=fm.M) X I (zJ F.r hn (hl.trans (congrArg some hv)))
 have hi:Looks fm.M s.heap (isInstance (.ref x) (.type "BaseException")) true:=L0.andThen (looks_mroIn X F.mro)
 clear I X hl ho hK F h1 h2 h3 h4 hd hv S O
 obtain ⟨hh',g,d',t,os⟩:=s
 unfold getAttr getAttrBy
 refine wpAny_bind (wpAny_mkText (wpAny_holding (wpAny_bind (L0.at (wpAny_bind (L1.at ?_))))))
 show wpAny _ _ (if _ then _ else getAttrByItsOwn _ _ _ _ _ _) _ _ _
 rw [if_neg (by decide +kernel)]
 unfold getAttrByItsOwn
 refine wpAny_bind ?_
 show wpAny _ _ (typeLookup (.ref ai) "__getattr__") _ _ _
 refine L2.at ?_
 refine wpAny_bind (wpAny_attempt (wpAny_holding ?_))
 show wpAny _ _ (boundAndCalled (.builtin "BaseException.__getattribute__") _ _) _ _ _
 unfold boundAndCalled
 rw [PySem.F.attr_Exception.ga.bind]
 refine wpAny_bind (wpAny_pure ?_)
 show wpAny _ _ (call (.builtin "BaseException.__getattribute__") [.ref x,.str n t]) _ _ _
 refine wpAny_call (codeAny_call_builtin PySem.F.attr_Exception.ga.plain PySem.F.entry_bexc_ga (DV hi _ _ _ _ _ ?_))
 unfold Builtin.«object.__getattribute__»
 refine wpAny_bind ?_
 show wpAny _ _ (pure (Value.ref x,[Value.str n t])) _ _ _
 refine wpAny_pure ?_
 dsimp only
 refine wpAny_bind (wpAny_pure (wpAny_bind (L0.at (wpAny_bind (L3.at ?_)))))
 refine wpAny_pure ?_
 show wpAny _ _ (handedOut v) _ _ _
 rw [handedOut_of hh]
 exact wpAny_pure (q _)
end
noncomputable abbrev AtS (G:AH) (n:Str) (a r:V):Prop:=∀ {fm:Fm}{m:Loc}{H:MH}{Q:QV}{QE:QX}{s:Shared}{xa:Value},ay fm→aa H=G→Sat fm m H s→fm.R H s.heap a xa→Q r H→OW fm (getAttr xa n true) m H Q QE s
noncomputable def AO.si:AO→Option (Addr × List Str × List V)
 | .inst C ks vs=>some (C,ks,vs)
 | _=>none
noncomputable def AO.se:AO→Option (List Str × List V)
 | .exc ks vs=>some (ks,vs)
 | _=>none
theorem nu {mo:MO}{C:Addr}{ks:List Str}{vs:List V}(h:mo.abs=.inst C ks vs):∃ d,mo=.inst C d ks vs:=by
 have h:mo.abs.si=some (C,ks,vs):=congrArg AO.si h
 cases mo <;> first | exact nS h | exact ⟨_,congrArg (fun p=>MO.inst p.1 _ p.2.1 p.2.2) (sj h)⟩
theorem ny {mo:MO}{ks:List Str}{vs:List V}(h:mo.abs=.exc ks vs) (hf:mo.isFly=false):∃ d,mo=.made d ks vs:=by
 have h:mo.abs.se=some (ks,vs):=congrArg AO.se h
 cases mo <;> first | exact nS h | exact tf hf | exact ⟨_,congrArg (fun p=>MO.made _ p.1 p.2) (sj h)⟩
section
variable {G:AH}{n:Str}{ks:List Str}{vs:List V}{v:V}
theorem Ir (hn:n∈aU) (h:(ks.zip vs).lookup n=some v):AtS G n (.inst ak ks vs) v:=fun O _ S ra q=>Na ra fun a d xs ep e _ _ h1 h2 hl r=>e ▸
 ae (i5 r h) fun x h3 h4=>nr O S rfl hn h1 rfl rfl rfl h2 h3 (gY h4).handed fun tk=>aK S h4 q
theorem It {i:Nat}(hn:n∈aU) (e:G[i]? = some (.inst ak ks vs)) (h:(ks.zip vs).lookup n=some v):AtS G n (.ref i) v:=fun O g S ra q=>mT (lD S (g ▸ e) ra) fun a mo ea hp h2 _ r=>by
 refine aj (nu h2) fun d ed=>?_
 subst ed ea
 refine ar r fun h1 r=>cz r fun xs ep h2 hl r=>ae (i5 r h) fun x h3 h4=>?_
 exact nr O S rfl hn h1 rfl rfl rfl h2 h3 (gY h4).handed fun tk=>aK S h4 q
theorem Iu {i:Nat}(hn:n∈aU) (e:G[i]? = some (.exc ks vs)) (h:(ks.zip vs).lookup n=some v):AtS G n (.ref i) v:=fun O g S ra q=>mT (lD S (g ▸ e) ra) fun a mo ea hp h2 hf r=>by
 refine aj (ny h2 hf) fun d ed=>?_
 subst ed ea
 refine ar r fun h1 r=>cN h1 fun fs sl h1 _=>?_
 cases d with
 | none=>rw [r.1] at h; exact nS h
 | some d=>exact cz r fun xs ep h2 hl r=>ae (i5 r h) fun x h3 h4=>qC O S rfl hn h1 rfl rfl rfl h2 h3 (gY h4).handed fun tk=>aK S h4 q
end
noncomputable def PD (G:AH) (n:Str) (a:V):Cv (AtS G n a):=wh (aU.contains n) fun hn=>match a with
 | .inst C ks vs=>match h:(ks.zip vs).lookup n with
  | some v=>wh (C==ak) fun hC=>yes v (eq_of_beq hC ▸ Ir (List.contains_iff_mem.mp hn) h)
  | none=>none
 | .ref i=>match e:G[i]? with
  | some o=>match o,e with
   | .inst C ks vs,e=>match h:(ks.zip vs).lookup n with
    | some v=>wh (C==ak) fun hC=>yes v (It (List.contains_iff_mem.mp hn) (eq_of_beq hC ▸ e) h)
    | none=>none
   | .exc ks vs,e=>match h:(ks.zip vs).lookup n with
    | some v=>yes v (Iu (List.contains_iff_mem.mp hn) e h)
    | none=>none
   | _,_=>none
  | none=>none
 | _=>none
noncomputable def FJ (G:AH) (n:Str) (a:V):Option V:=(PD G n a).v
theorem Iv {H:MH}{n:Str}{a r:V}(h:FJ (aa H) n a=some r):AtS (aa H) n a r:=lK h
end
section
noncomputable def cif {α:Type} (c:Bool) (x y:α):α:=match c with
 | true=>x
 | false=>y
noncomputable def Iw:List Nat→List Nat→Bool
 | [],b=>b.isEmpty
 | a::l,b=>match b with
  | []=>false
  | c::r=>cif (Nat.beq a c) (Iw l r) false
noncomputable def cU (a b:Str):Bool:=Iw a.cps.toList b.cps.toList
theorem Ix (a:List Nat):∀ b:List Nat,Iw a b=true→a=b:=by
 induction a with
 | nil=>intro b h; cases b with
  | nil=>rfl
  | cons=>exact ff h
 | cons a l ih=>intro b h; cases b with
  | nil=>exact ff h
  | cons c r =>
   have h:cif (Nat.beq a c) (Iw l r) false=true:=h
   cases e:Nat.beq a c with
   | false=>rw [e] at h; exact ff h
   | true=>rw [e] at h; rw [Nat.eq_of_beq_eq_true e,ih r h]
theorem dh {a b:Str}(h:cU a b=true):a=b:=by
 obtain ⟨⟨a⟩⟩:=a; obtain ⟨⟨b⟩⟩:=b
 exact congrArg (fun l=>Str.mk (Array.mk l)) (Ix a b h)
noncomputable def eM:List V→Option (List Int)
 | []=>some []
 | v::r=>match v with
  | .int i=>(eM r).map (i::·)
  | _=>none
noncomputable def fF:List V→Option (List Str)
 | []=>some []
 | v::r=>match v with
  | .str i=>(fF r).map (i::·)
  | _=>none
noncomputable def DW (a:Int) (r:List Int):Int:=r.foldl (fun m x=>if x<m then x else m) a
noncomputable def Bt (x:Str):List Str→List Str
 | []=>[x]
 | y::r=>if d8 y x then y::Bt x r else x::y::r
noncomputable def nz:List Str→List Str
 | []=>[]
 | x::r=>Bt x (nz r)
section
variable {fm:Fm}{H:MH}{h:Heap}
theorem Bu {vs:List V}{xs:List Value}(r:fm.RL H h vs xs):∀ {ns:List Int},eM vs=some ns→IntsAre xs ns :=
 r.ind (P:=fun vs xs=>∀ {ns:List Int},eM vs=some ns→IntsAre xs ns) (fun e=>sj e ▸ .nil) fun v x vs xs r1 _ ih ns e=>by
  cases v with
  | int i=>exact gj e fun c e' e=>aj r1 fun t ex=>e ▸ ex ▸ .cons _ _ (ih e')
  | _=>exact nS e
theorem js {vs:List V}{xs:List Value}(r:fm.RL H h vs xs):∀ {ns:List Str},fF vs=some ns→StrsAre xs ns∧∀ y∈ns,y.length≤big :=
 r.ind (P:=fun vs xs=>∀ {ns:List Str},fF vs=some ns→StrsAre xs ns∧∀ y∈ns,y.length≤big) (fun e=>sj e ▸ ⟨.nil,fun _ q=>(nomatch q)⟩) fun v x vs xs r1 _ ih ns e=>by
  cases v with
  | str i=>exact gj e fun c e' e=>ae r1 fun t ex hl=>e ▸ ex ▸ ⟨.cons _ _ (ih e').1,fun y hy=>(List.mem_cons.mp hy).elim (fun q=>q ▸ hl) ((ih e').2 y)⟩
  | _=>exact nS e
theorem FL {xs:List Value}{ns:List Str}(r:StrsAre xs ns):(∀ y∈ns,y.length≤big)→fm.RL H h (ns.map .str) xs:=by
 induction r with
 | nil=>exact fun _=>.nil
 | cons y t _ ih=>exact fun k=>.cons (iB (k y (.head _))) (ih fun z hz=>k z (.tail _ hz))
theorem FM {xs:List Value}{ns:List Int}(r:IntsAre xs ns):∃ ps:List (Int × Tok),xs=ps.map (fun p=>Value.int p.1 p.2)∧ps.map (·.1)=ns:=by
 induction r with
 | nil=>exact ⟨[],rfl,rfl⟩
 | cons n t _ ih=>exact ae ih fun ps h1 h2=>⟨(n,t)::ps,by rw [h1]; rfl,by rw [← h2]; rfl⟩
theorem CM {a:Addr}{vs:List V}{ns:List Int}{ys:Array Value}(hl:iz h a ys) (hn:eM vs=some ns) (r:fm.RL H h vs ys.toList):∃ ps:List (Int × Tok),h.IsList a (intItems ps.toArray)∧ps.map (·.1)=ns :=
 ae (FM (Bu r hn)) fun ps h1 h2=>⟨ps,by
  rw [show intItems ps.toArray=ys by rw [← Array.toList_inj,h1]; simp [intItems]]
  exact hl.isList,h2⟩
end
theorem zK {xs:List Value}{ns:List Str}(r:StrsAre xs ns):ns.length=xs.length:=by
 induction r with
 | nil=>rfl
 | cons _ _ _ ih=>exact congrArg (·+1) ih
theorem oW:∀ {l:List Int}{a:Int},(DW a l∈a::l)∧(∀ x∈a::l,DW a l≤x)
 | [],a=>⟨.head _,fun x hx=>by rw [List.mem_singleton.mp hx]; exact Int.le_refl _⟩
 | b::l,a=>by
  refine ar (oW (l:=l) (a:=if b<a then b else a)) fun h1 h2=>?_
  show DW (if b<a then b else a) l∈_∧∀ x∈_,DW (if b<a then b else a) l≤x
  have h3:=h2 _ (.head _)
  by_cases q:b<a
  ·rw [if_pos q] at h1 h2 h3 ⊢
   exact ⟨.tail _ h1,fun x hx=>(List.mem_cons.mp hx).elim (fun e=>e ▸ Int.le_trans h3 (Int.le_of_lt q)) fun hx=>h2 x hx⟩
  ·rw [if_neg q] at h1 h2 h3 ⊢
   exact ⟨(List.mem_cons.mp h1).elim (fun e=>by rw [e]; exact .head _) fun h=>.tail _ (.tail _ h),fun x hx=>(List.mem_cons.mp hx).elim (fun e=>e ▸ h3) fun hx=>(List.mem_cons.mp hx).elim (fun e=>e ▸ Int.le_trans h3 (Int.not_lt.mp q)) fun hx=>h2 x (.tail _ hx)⟩
theorem xj (a:Str):d8 a a=false:=by simp [d8,List.lt_irrefl]
theorem qD {a b c:Str}(h1:d8 a b=true) (h2:d8 b c=true):d8 a c=true:=by
 simp only [d8,decide_eq_true_eq] at *; exact List.lt_trans h1 h2
theorem kC {a b:Str}(h1:d8 a b=false) (h2:d8 b a=false):a=b:=by
 simp only [d8,decide_eq_false_iff_not] at *
 have:a.cps.toList=b.cps.toList:=List.le_antisymm (by simpa using h2) (by simpa using h1)
 cases a with | mk a=>cases b with | mk b=>congr 1; exact Array.toList_inj.mp this
noncomputable def nle (a b:Str):Prop:=d8 b a=false
theorem vI {a b c:Str}(h1:nle a b) (h2:nle b c):nle a c:=by
 unfold nle at *
 cases h:d8 c a with
 | false=>rfl
 | true =>
  exfalso
  cases h3:d8 b c with
  | true =>
   have:=qD h3 h
   rw [h1] at this; exact ff this
  | false =>
   obtain rfl:=kC h3 h2
   rw [h1] at h; exact ff h
theorem oX (x:Str):∀ l:List Str,(Bt x l).Perm (x::l)
 | []=>.refl _
 | y::r=>by
  unfold Bt
  split
  ·exact ((oX x r).cons y).trans (.swap _ _ _)
  ·exact .refl _
theorem dU:∀ l:List Str,(nz l).Perm l
 | []=>.refl _
 | x::r=>(oX x _).trans ((dU r).cons x)
theorem qE (x:Str):∀ {l:List Str},l.Pairwise nle→(Bt x l).Pairwise nle
 | [],_=>by simp [Bt]
 | y::r,h=>by
  unfold Bt
  refine ar (List.pairwise_cons.mp h) fun h1 h2=>?_
  split
  ·rename_i hc
   refine List.pairwise_cons.mpr ⟨fun z hz=>?_,qE x h2⟩
   rcases List.mem_cons.mp ((oX x r).mem_iff.mp hz) with rfl | hz
   ·unfold nle
    cases e:d8 z y with
    | false=>rfl
    | true=>have:=qD hc e; rw [xj] at this; exact ff this
   ·exact h1 z hz
  ·rename_i hc
   have hc:nle x y:=by simpa [nle] using hc
   exact List.pairwise_cons.mpr ⟨fun z hz=>by
    rcases List.mem_cons.mp hz with rfl | hz
    ·exact hc
    ·exact vI hc (h1 z hz),h⟩
theorem gH:∀ l:List Str,(nz l).Pairwise nle
 | []=>.nil
 | x::r=>qE x (gH r)
theorem lS:∀ {l k:List Str},l.Perm k→l.Pairwise nle→k.Pairwise nle→l=k
 | [],k,p,_,_=>(List.nil_perm.mp p).symm
 | a::l,[],p,_,_=>absurd p (by simp)
 | a::l,b::k,p,h1,h2=>by
  refine ar (List.pairwise_cons.mp h1) fun a1 a2=>?_
  refine ar (List.pairwise_cons.mp h2) fun b1 b2=>?_
  have e:a=b:=by
   rcases List.mem_cons.mp (p.mem_iff.mp (.head l)) with h | h
   ·exact h
   ·rcases List.mem_cons.mp (p.symm.mem_iff.mp (.head k)) with h' | h'
    ·exact h'.symm
    ·exact kC (b1 a h) (a1 b h') |>.symm ▸ rfl
  subst e
  rw [lS (List.Perm.cons_inv p) a2 b2]
theorem j4:∀ {l:List Str}{p:Str},risingS p l=true→(p::l).Pairwise nle
 | [],p,_=>by simp
 | x::r,p,h=>by
  simp only [risingS,ltCps_eq,Bool.and_eq_true,Bool.not_eq_true'] at h
  have ih:=j4 h.2
  refine List.pairwise_cons.mpr ⟨fun z hz=>?_,ih⟩
  rcases List.mem_cons.mp hz with rfl | hz
  ·exact h.1
  ·exact vI (show nle p x from h.1) ((List.pairwise_cons.mp ih).1 z hz)
theorem oY {l:List Str}(h:sortedS l=true):l.Pairwise nle:=by
 cases l with
 | nil=>exact .nil
 | cons x r=>exact j4 h
noncomputable abbrev BlG (g:Value) (G:AH) (vs:List V) (r:V):Prop:=∀ {fm:Fm}{m:Loc}{H:MH}{Q:QV}{QE:QX}{s:Shared}{xs:List Value},fm.A.handled=none→aa H=G→Sat fm m H s→fm.RL H s.heap vs xs→Q r H→OW fm (call g xs) m H Q QE s
section
variable {fm:Fm}{H:MH}{h:Heap}{xs:List Value}{a b:V}
@[elab_as_elim] theorem rl1 {P:List Value→Prop}(r:fm.RL H h [a] xs) (k:∀ x,fm.R H h a x→P [x]):P xs:=cz r fun x ys e r1 (r2:ys=[])=>by rw [e,r2]; exact k x r1
@[elab_as_elim] theorem rl2 {P:List Value→Prop}(r:fm.RL H h [a,b] xs) (k:∀ x y,fm.R H h a x→fm.R H h b y→P [x,y]):P xs:=cz r fun x ys e r1 r2=>e ▸ rl1 (P:=fun l=>P (x::l)) r2 fun y r2=>k x y r1 r2
end
section
variable {G:AH}
theorem Bv {vs:List V}{i:Nat}(h:G[i]? = some (.list vs)):BlG (.builtin "len") G [.ref i] (.int vs.length):=fun _ g S r q=>rl1 r fun x r=>cP (g9 S (g ▸ h) r) fun a ys e _ hl r=>e ▸
 PyProof.Rows.len_list hl.isList (vH hl.1) (aK S (by rw [r.length]; exact d7) q)
noncomputable def PG (G:AH) (vs:List V):Cv (BlG (.builtin "len") G vs):=match vs with
 | [v]=>match v with
  | .str x=>yes (.int x.length) fun _ _ S r q=>rl1 r fun x r=>ae r fun t e hl=>e ▸ PyProof.Rows.len_str (Int.not_le.mpr (vH hl)) (aK S d7 q)
  | .lst l=>yes (.int l.length) fun _ _ S r q=>rl1 r fun x r=>cP r fun a ys e _ hl r=>e ▸ PyProof.Rows.len_list hl.isList (vH hl.1) (aK S (by rw [r.length]; exact d7) q)
  | .tup l=>yes (.int l.length) fun _ _ S r q=>rl1 r fun x r=>cP r fun a ys e _ hl r=>e ▸ PyProof.Rows.len_tuple hl.isTup (vH hl.1) (aK S (by rw [r.length]; exact d7) q)
  | .ref i=>match h:G[i]? with
   | some o=>match o,h with
    | .list vs,h=>yes (.int vs.length) (Bv h)
    | _,_=>none
   | none=>none
  | _=>none
 | _=>none
noncomputable def PH (G:AH) (vs:List V):Cv (BlG (.builtin "ord") G vs):=match vs with
 | [v]=>match v with
  | .str x=>wh (Nat.beq x.length 1) fun h=>yes (.int (x.cps.getD 0 0:Nat)) fun _ _ S r q=>rl1 r fun y r=>ae r fun t e _=>e ▸ PyProof.Rows.ord_of_one (Nat.eq_of_beq_eq_true h) (aK S d7 q)
  | _=>none
 | _=>none
noncomputable def Nw (G:AH) (vs:List V):Cv (BlG (.type "str") G vs):=match vs with
 | [v]=>match v with
  | .int a=>wh (Nat.ble (a.natAbs.log2+1) 1920&&Nat.ble (Str.ofString (toString a)).length big) fun h=>yes (.str (Str.ofString (toString a))) fun _ _ S r q=>rl1 r fun y r=>aj r fun t e=>e ▸ P.str_of_int (aX (an h).1) (aK S (iB (aX (an h).2)) q)
  | _=>none
 | _=>none
theorem CN {fm:Fm}{m:Loc}{H:MH}{Q:QV}{QE:QX}{s:Shared}{o:Obj}{r:V}{tk:Nat}(S:Sat fm m H s) (hr:∀ h:Heap,h.get? s.heap.objs.size=some o→fm.ok H s.heap.objs.size→fm.R H h r (.ref s.heap.objs.size)) (hf:o.isFreed=false) (q:Q r H) :
  PV fm m H s.heap Q (.ref s.heap.objs.size) { s with heap:=s.heap.push o,toks:=tk } :=
 dD S (fun _ _ e=>Heap.get?_push_of_some _ e) rfl rfl rfl (hr _ (Heap.get?_push_size _ hf) (S.fresh_ok (aV _))) q
noncomputable def Lm (G:AH) (vs:List V):Cv (BlG (.type "range") G vs):=match vs with
 | [v]=>match v with
  | .int n=>yes (.rng 0 n) fun {fm m H Q QE s xs} _ _ S r q=>rl1 r fun y r=>aj r fun t e=>e ▸ call_range_1 (CN (QE:=QE) (r:=.rng 0 n) S (fun h e ok=>⟨_,_,_,_,rfl,ok,e⟩) rfl q)
  | _=>none
 | [v,u]=>match v,u with
  | .int a,.int b=>yes (.rng a b) fun {fm m H Q QE s xs} _ _ S r q=>rl2 r fun y z r r'=>aj r fun t e=>aj r' fun t' e'=>e ▸ e' ▸ call_range_2 (CN (QE:=QE) (r:=.rng a b) S (fun h e ok=>⟨_,_,_,_,rfl,ok,e⟩) rfl q)
  | _,_=>none
 | _=>none
theorem Ln {l:List V}{n:Int}{ns:List Int}(hn:eM l=some (n::ns)):BlG (.builtin "min") G [.lst l] (.int (DW n ns)):=fun {fm m H Q QE s xs} hh _ S r q=>rl1 r fun y r=>cP r fun a ys e _ hl r=>e ▸ ae (CM hl hn r) fun ps hl' h2=>by
 have hsz:0<ps.toArray.size:=by cases ps with | nil=>exact absurd h2 (by simp) | cons _ _=>exact Nat.succ_pos _
 refine min_intList hh hl' hsz fun v h' tk hv hk=>?_
 refine aj (intItems_at hv) fun t ev=>?_
 subst ev
 refine ar (argBest_lt (numAt ps.toArray) (ps.toArray.size - 1)) fun h3 h4=>dD S hk rfl rfl rfl ?_ q
 have hp:ps.toArray.size=ps.length:=List.size_toArray
 have hin:numAt ps.toArray (argBest (fun i j=>decide (numAt ps.toArray i<numAt ps.toArray j)) (ps.toArray.size - 1))∈n::ns:=by
  rw [← h2,numAt_eq]
  exact getD_mem (by rw [List.length_map,← hp]; exact Nat.lt_of_le_of_lt h3 (Nat.sub_lt hsz Nat.one_pos))
 have hle:∀ a∈n::ns,numAt ps.toArray (argBest (fun i j=>decide (numAt ps.toArray i<numAt ps.toArray j)) (ps.toArray.size - 1))≤a:=fun a ha=>by
  rw [← h2] at ha
  refine ae (mem_getD ha) fun j hj ej=>?_
  have:=h4 j (Nat.le_sub_one_of_lt (Nat.lt_of_lt_of_eq hj (List.length_map ..)))
  rw [numAt_eq ps.toArray j] at this
  exact ej ▸ this
 rw [Int.le_antisymm (hle _ oW.1) (oW.2 _ hin)]
 exact d7
noncomputable def Nx (G:AH) (vs:List V):Cv (BlG (.builtin "min") G vs):=match vs with
 | [v]=>match v with
  | .lst l=>opt (eM l) fun ns h=>match ns,h with
   | n::ns,h=>yes (.int (DW n ns)) (Ln h)
   | _,_=>none
  | _=>none
 | [v,u]=>match v,u with
  | .int a,.int b=>yes (.int (if b<a then b else a)) fun hh _ S r q=>rl2 r fun y z r r'=>aj r fun t e=>aj r' fun t' e'=>e ▸ e' ▸ min_two_ints hh fun h' tk hk=>dD S hk rfl rfl rfl (by split <;> exact d7) q
  | _,_=>none
 | _=>none
noncomputable def PI (G:AH) (vs:List V):Cv (BlG (.builtin "max") G vs):=match vs with
 | [v,u]=>match v,u with
  | .int a,.int b=>yes (.int (if b > a then b else a)) fun hh _ S r q=>rl2 r fun y z r r'=>aj r fun t e=>aj r' fun t' e'=>e ▸ e' ▸ max_two_ints hh fun h' tk hk=>dD S hk rfl rfl rfl (by split <;> exact d7) q
  | _,_=>none
 | _=>none
noncomputable def Ny (G:AH) (vs:List V):Cv (BlG (.builtin "sum") G vs):=match vs with
 | [v]=>match v with
  | .lst l=>opt (eM l) fun ns h=>yes (.int ns.sum) fun hh _ S r q=>rl1 r fun y r=>cP r fun a ys e _ hl r=>e ▸ ae (CM hl h r) fun ps hl' h2=>sum_intListG hh hl' fun h' tk t' hk=>dD S hk rfl rfl rfl (by
     rw [preSum_eq,List.take_of_length_le (by simp)]
     exact h2 ▸ d7) q
  | _=>none
 | _=>none
theorem DX {l:List V}{ss:List Str}(hn:fF l=some ss) (hz:Nat.ble (l.length+1) 64=true):BlG (.builtin "sorted") G [.lst l] (.lst ((nz ss).map .str)):=fun {fm m H Q QE s xs} _ _ S r0 q=>rl1 r0 fun y r1=>cP r1 fun a ys e _ hl r=>by
 rw [e]
 have hb:=js r hn
 have hlen:l.length=ys.toList.length:=r.length
 refine sorted_strs (vs:=ys.toList) hl.isList hb.1 (hlen ▸ aX hz) fun out ss' ha hp hs=>?_
 have e:=lS (hp.trans (dU ss).symm) (oY hs) (gH ss)
 subst e
 refine dD (v:=.lst _) S (fun b o hb=>sortedAll_old hb) rfl rfl rfl ?_ q
 have r':∀ h:Heap,fm.RL H h ((nz ss).map .str) out.toList:=fun h=>FL ha fun y hy=>hb.2 y ((dU ss).mem_iff.mp hy)
 refine aj (sortedAll_at s.heap ys.toList out) fun e he=>⟨_,out,rfl,S.fresh_ok ?_,⟨?_,e,he⟩,r' _⟩
 ·unfold Heap.get?
  simp
 ·rw [← Array.length_toList,← (r' s.heap).length,List.length_map,(dU ss).length_eq]
  rw [zK hb.1,← hlen]
  exact Nat.le_trans (Nat.le_of_succ_le (aX hz)) (by decide)
noncomputable def CO (G:AH) (vs:List V):Cv (BlG (.builtin "sorted") G vs):=match vs with
 | [v]=>match v with
  | .lst l=>opt (fF l) fun ss h=>wh (Nat.ble (l.length+1) 64) fun hz=>yes (.lst ((nz ss).map .str)) (DX h hz)
  | _=>none
 | _=>none
end
noncomputable abbrev BlS (G:AH) (f:Str) (vs:List V) (r:V):Prop:=∀ {g:Value},bootBuiltins f=some g→BlG g G vs r
noncomputable def PJ {G:AH}{n:Str}{g:Value}{vs:List V}(h:bootBuiltins n=some g) (c:Cv (BlG g G vs)):Cv (BlS G n vs):=match c with
 | some r=>yes r.1 fun h'=>sj (h.symm.trans h') ▸ r.2
 | none=>none
noncomputable def ifS {α:Type}{P:Str→α→Prop}(f n:Str) (a:Cv (P n)) (b:Cv (P f)):Cv (P f):=match h:cU n f with
 | true=>match a with
  | some r=>yes r.1 (dh h ▸ r.2)
  | none=>none
 | false=>b
noncomputable def blI (G:AH) (f:Str) (vs:List V) (n:Str) {g:Value}(c:Cv (BlG g G vs)) (h:bootBuiltins n=some g) (b:Cv (BlS G f vs)):Cv (BlS G f vs):=ifS (P:=fun f=>BlS G f vs) f n (PJ h c) b
noncomputable def PK (G:AH) (f:Str) (vs:List V):Cv (BlS G f vs) :=
 blI G f vs ⟨⟨[108,101,110]⟩⟩ (PG G vs) (by decide +kernel) <|
 blI G f vs ⟨⟨[111,114,100]⟩⟩ (PH G vs) (by decide +kernel) <|
 blI G f vs ⟨⟨[115,116,114]⟩⟩ (Nw G vs) (by decide +kernel) <|
 blI G f vs ⟨⟨[114,97,110,103,101]⟩⟩ (Lm G vs) (by decide +kernel) <|
 blI G f vs ⟨⟨[109,105,110]⟩⟩ (Nx G vs) (by decide +kernel) <|
 blI G f vs ⟨⟨[109,97,120]⟩⟩ (PI G vs) (by decide +kernel) <|
 blI G f vs ⟨⟨[115,117,109]⟩⟩ (Ny G vs) (by decide +kernel) <|
 blI G f vs ⟨⟨[115,111,114,116,101,100]⟩⟩ (CO G vs) (by decide +kernel) none
noncomputable def nA (G:AH) (f:Str) (vs:List V):Option V:=(PK G f vs).v
theorem Lo {H:MH}{f:Str}{vs:List V}{r:V}(h:nA (aa H) f vs=some r):BlS (aa H) f vs r:=lK h
end
end Mine
end
section
open PySem PySem.W PyProof.Rows Builtin.Str
set_option maxRecDepth 20000
namespace Mine
section
theorem di:∀ {H:MH}{i:Nat}{ao:AO},(aa H)[i]? = some ao→∃ pre a mo post,H=pre++(a,mo)::post∧mo.abs=ao∧mo.isFly=false∧(bC H)[i]? = some a ∧
  ∀ mo':MO,mo'.isFly=false→aa (pre++(a,mo')::post)=(aa H).set i mo'.abs∧bC (pre++(a,mo')::post)=bC H
 | [],i,ao,h=>by simp [aa] at h
 | (b,q)::H,i,ao,h=>by
  cases hq:q.isFly with
  | true =>
   have e1:aa ((b,q)::H)=aa H:=by simp [aa,hq]
   have e2:bC ((b,q)::H)=bC H:=by simp [bC,hq]
   rw [e1] at h
   refine DH (di h) fun pre a mo post z9=>?_; subst z9; intro h2 h3 h4 h5
   refine ⟨(b,q)::pre,a,mo,post,rfl,h2,h3,by rw [e2]; exact h4,fun mo' hm=>?_⟩
   refine ar (h5 mo' hm) fun g1 g2=>?_
   refine ⟨?_,?_⟩
   ·rw [e1,← g1]; simp [aa,hq]
   ·rw [e2,← g2]; simp [bC,hq]
  | false =>
   have e1:aa ((b,q)::H)=q.abs::aa H:=by simp [aa,hq]
   have e2:bC ((b,q)::H)=b::bC H:=by simp [bC,hq]
   rw [e1] at h
   cases i with
   | zero =>
    simp only [List.getElem?_cons_zero,Option.some.injEq] at h
    refine ⟨[],b,q,H,rfl,h,hq,by rw [e2]; rfl,fun mo' hm=>?_⟩
    simp [aa,bC,hq,hm]
   | succ i =>
    simp only [List.getElem?_cons_succ] at h
    refine DH (di h) fun pre a mo post z9=>?_; subst z9; intro h2 h3 h4 h5
    refine ⟨(b,q)::pre,a,mo,post,rfl,h2,h3,by rw [e2]; exact h4,fun mo' hm=>?_⟩
    refine ar (h5 mo' hm) fun g1 g2=>?_
    refine ⟨?_,?_⟩
    ·rw [e1,List.set_cons_succ,← g1]; simp [aa,hq]
    ·rw [e2,← g2]; simp [bC,hq]
theorem ch {pre post:MH}{p:Addr × MO}:aW (pre++p::post)=aW pre++(p.2.addrs p.1++aW post):=by simp [aW]
section
variable {fm:Fm}{m:Loc}{H:MH}{Q:QV}{QE:QX}{s:Shared}
theorem Sat.mut {pre post:MH}{a:Addr}{mo mo':MO}{s':Shared}(O:ay fm) (S:Sat fm m (pre++(a,mo)::post) s) (hal:bC (pre++(a,mo')::post)=bC (pre++(a,mo)::post))
  (haddr:∀ b∈mo'.addrs a,b∈mo.addrs a∨s.heap.get? b=none) (hnd:(mo'.addrs a).Nodup)
  (k:∀ b o,b ∉ mo.addrs a→s.heap.get? b=some o→s'.heap.get? b=some o)
  (r:(∀ {vs:List V}{xs:List Value},fm.RL (pre++(a,mo)::post) s.heap vs xs→fm.RL (pre++(a,mo')::post) s'.heap vs xs)→dC fm (pre++(a,mo')::post) s'.heap a mo')
  (hg:s'.gens=s.gens) (ho:s'.os=s.os) (hd:s'.drawn=s.drawn) :
  Sat fm m (pre++(a,mo')::post) s'∧af fm (pre++(a,mo)::post) s.heap (pre++(a,mo')::post) s'.heap:=by
 have inA:∀ {b},b∈mo.addrs a→b∈aW (pre++(a,mo)::post):=fun hb=>by rw [ch]; exact List.mem_append_right _ (List.mem_append_left _ hb)
 have ownIn:∀ {b},b∈aW (pre++(a,mo')::post)→b∈aW (pre++(a,mo)::post)∨s.heap.get? b=none:=fun {b} hb=>by
  rw [ch] at hb ⊢
  simp only [List.mem_append] at hb ⊢
  rcases hb with h | h | h
  ·exact .inl (.inl h)
  ·rcases haddr b h with h | h
   ·exact .inl (.inr (.inl h))
   ·exact .inr h
  ·exact .inl (.inr (.inr h))
 have kX:∀ b o,s.heap.get? b=some o→b ∉ fm.X (pre++(a,mo)::post)→s'.heap.get? b=some o∧b ∉ fm.X (pre++(a,mo')::post):=fun b o hb hn=>by
  refine ⟨k b o (fun q=>hn (ax.mpr (.inr (.inr (inA q))))) hb,fun q=>?_⟩
  rcases ax.mp q with q | q | q
  ·exact hn (ax.mpr (.inl q))
  ·exact hn (ax.mpr (.inr (.inl q)))
  ·rcases ownIn q with q | q
   ·exact hn (ax.mpr (.inr (.inr q)))
   ·rw [q] at hb; exact nS hb
 have okk:∀ b o,s.heap.get? b=some o→fm.ok (pre++(a,mo)::post) b→s'.heap.get? b=some o∧fm.ok (pre++(a,mo')::post) b:=fun b o hb q =>
  let ⟨x,y⟩:=kX b o hb q.1; ⟨x,y,q.2⟩
 have ple:∀ (i:Nat) (x:Addr),(bC (pre++(a,mo)::post))[i]? = some x→(bC (pre++(a,mo')::post))[i]? = some x:=fun i x e=>by rw [hal]; exact e
 have nd:=S.nodup
 rw [ch] at nd
 refine bW (List.nodup_append.mp nd) fun n1 n2 n3=>?_
 refine bW (List.nodup_append.mp n2) fun n4 n5 n6=>?_
 have other:∀ p,p∈pre∨p∈post→∀ b∈p.2.addrs p.1,b ∉ mo.addrs a:=fun p hp b hb q=>by
  rcases hp with hp | hp
  ·exact n3 b (bm hp hb) b (List.mem_append_left _ q) rfl
  ·exact n6 b q b (bm hp hb) rfl
 refine Sat.upd O S kX (fun L hL o e=>⟨o.slots,k L o (fun q=>?_) e⟩) (fun p hp=>?_) ?_ (fun b hb=>?_) hg ho hd ple
 ·have ap:=S.apart L (inA q)
  rcases hL with h | h
  ·exact ap.1 h
  ·exact ap.2.1 h
 ·have fin:p∈pre∨p∈post→dC fm (pre++(a,mo')::post) s'.heap p.1 p.2:=fun hp' =>
   dC.mono (H:=pre++(a,mo)::post) ple okk (fun b hb o e=>k b o (other p hp' b hb) e) (S.objs p (by rcases hp' with h | h; exact List.mem_append_left _ h; exact List.mem_append_right _ (.tail _ h)))
  rcases List.mem_append.mp hp with h | h
  ·exact fin (.inl h)
  ·rcases List.mem_cons.mp h with rfl | h
   ·exact r fun r=>RepL.mono ple okk r
   ·exact fin (.inr h)
 ·rw [ch]
  have f:∀ b∈mo'.addrs a,b ∉ aW pre∧b ∉ aW post:=fun b hb=>by
   rcases haddr b hb with h | h
   ·exact ⟨fun q=>n3 b q b (List.mem_append_left _ h) rfl,fun q=>n6 b h b q rfl⟩
   ·have:=S.fresh_owned h
    rw [ch] at this
    simp only [List.mem_append,not_or] at this
    exact ⟨this.1,this.2.2⟩
  refine List.nodup_append.mpr ⟨n1,List.nodup_append.mpr ⟨hnd,n5,fun x hx y hy e=>(f x hx).2 (e ▸ hy)⟩,fun x hx y hy e=>?_⟩
  rcases List.mem_append.mp hy with h | h
  ·exact (f y h).1 (e ▸ hx)
  ·exact n3 x hx y (List.mem_append_right _ h) e
 ·rcases ownIn hb with h | h
  ·exact S.apart b h
  ·exact S.fresh_apart h
theorem Sat.grow {a:Addr}{mo:MO}{s':Shared}(O:ay fm) (S:Sat fm m H s) (hfl:mo.isFly=false) (hfresh:∀ b∈mo.addrs a,s.heap.get? b=none) (hnd:(mo.addrs a).Nodup)
  (k:∀ b o,s.heap.get? b=some o→s'.heap.get? b=some o)
  (r:(∀ {vs:List V}{xs:List Value},fm.RL H s.heap vs xs→fm.RL (H++[(a,mo)]) s'.heap vs xs)→dC fm (H++[(a,mo)]) s'.heap a mo)
  (hg:s'.gens=s.gens) (ho:s'.os=s.os) (hd:s'.drawn=s.drawn) :
  Sat fm m (H++[(a,mo)]) s'∧af fm H s.heap (H++[(a,mo)]) s'.heap∧aa (H++[(a,mo)])=aa H++[mo.abs]∧(bC (H++[(a,mo)]))[(aa H).length]? = some a:=by
 have e1:aW (H++[(a,mo)])=aW H++mo.addrs a:=by simp [aW]
 have e2:bC (H++[(a,mo)])=bC H++[a]:=by simp [bC,hfl]
 have e3:(aa H).length=(bC H).length:=by simp [aa,bC]
 have kX:∀ b o,s.heap.get? b=some o→b ∉ fm.X H→s'.heap.get? b=some o∧b ∉ fm.X (H++[(a,mo)]):=fun b o hb hn=>by
  refine ⟨k b o hb,fun q=>?_⟩
  rcases ax.mp q with q | q | q
  ·exact hn (ax.mpr (.inl q))
  ·exact hn (ax.mpr (.inr (.inl q)))
  ·rw [e1] at q
   rcases List.mem_append.mp q with q | q
   ·exact hn (ax.mpr (.inr (.inr q)))
   ·rw [hfresh b q] at hb; exact nS hb
 have okk:∀ b o,s.heap.get? b=some o→fm.ok H b→s'.heap.get? b=some o∧fm.ok (H++[(a,mo)]) b:=fun b o hb q =>
  let ⟨x,y⟩:=kX b o hb q.1; ⟨x,y,q.2⟩
 have ple:∀ (i:Nat) (x:Addr),(bC H)[i]? = some x→(bC (H++[(a,mo)]))[i]? = some x:=fun i x e=>by
  rw [e2,List.getElem?_append_left (List.getElem?_eq_some_iff.mp e).1]; exact e
 obtain ⟨g1,g2⟩:=Sat.upd (H':=H++[(a,mo)]) O S kX (fun L hL o e=>⟨o.slots,k L o e⟩) (fun p hp=>by
   rcases List.mem_append.mp hp with h | h
   ·exact dC.mono (H:=H) ple okk (fun b hb o e=>k b o e) (S.objs p h)
   ·obtain rfl:=List.mem_singleton.mp h
    exact r fun r=>RepL.mono ple okk r) (by
   rw [e1]
   exact List.nodup_append.mpr ⟨S.nodup,hnd,fun x hx y hy e=>S.fresh_owned (hfresh y hy) (e ▸ hx)⟩) (fun b hb=>by
   rw [e1] at hb
   rcases List.mem_append.mp hb with h | h
   ·exact S.apart b h
   ·exact S.fresh_apart (hfresh b h)) hg ho hd ple
 exact ⟨g1,g2,by simp [aa,hfl],by rw [e2,e3]; simp⟩
theorem xm {a:Addr}{mo:MO}{x:Value}{s':Shared}(O:ay fm) (S:Sat fm m H s) (hfl:mo.isFly=false) (hfresh:∀ b∈mo.addrs a,s.heap.get? b=none) (hnd:(mo.addrs a).Nodup)
  (k:∀ b o,s.heap.get? b=some o→s'.heap.get? b=some o)
  (r:(∀ {vs:List V}{xs:List Value},fm.RL H s.heap vs xs→fm.RL (H++[(a,mo)]) s'.heap vs xs)→dC fm (H++[(a,mo)]) s'.heap a mo)
  (hg:s'.gens=s.gens) (ho:s'.os=s.os) (hd:s'.drawn=s.drawn) (hx:x=.ref a) (q:∀ H',aa H'=aa H++[mo.abs]→Q (.ref (aa H).length) H'):PV fm m H s.heap Q x s':=by
 refine uS (Sat.grow O S hfl hfresh hnd k r hg ho hd) fun g1 g2 g3 g4=>?_
 subst hx
 exact ⟨_,_,g2,g1,Nn g4,q _ g3⟩
end
end
end Mine
end
section
open PySem PySem.W PyProof.Rows Builtin.Str
set_option maxRecDepth 20000
set_option backward.match.sparseCases false
set_option genSizeOf false
set_option genInjectivity false
namespace Mine
section
structure Lp (T:String) (name:Str) (id:String):Prop where
 plain:PlainAttrs T
 slot:Slot T name id
 ty:typeOf (.builtin id)=pure (.type "method_descriptor")
inductive Mth where
 | lower | islower | isupper | find | sindex | join | starts | append | extend | reverse | lindex
noncomputable def Mth.T:Mth→String
 | .append=>"list"
 | .extend=>"list"
 | .reverse=>"list"
 | .lindex=>"list"
 | _=>"str"
noncomputable def Mth.nm:Mth→Str
 | .lower=>⟨⟨[108,111,119,101,114]⟩⟩
 | .islower=>⟨⟨[105,115,108,111,119,101,114]⟩⟩
 | .isupper=>⟨⟨[105,115,117,112,112,101,114]⟩⟩
 | .find=>⟨⟨[102,105,110,100]⟩⟩
 | .sindex=>⟨⟨[105,110,100,101,120]⟩⟩
 | .join=>⟨⟨[106,111,105,110]⟩⟩
 | .starts=>⟨⟨[115,116,97,114,116,115,119,105,116,104]⟩⟩
 | .append=>⟨⟨[97,112,112,101,110,100]⟩⟩
 | .extend=>⟨⟨[101,120,116,101,110,100]⟩⟩
 | .reverse=>⟨⟨[114,101,118,101,114,115,101]⟩⟩
 | .lindex=>⟨⟨[105,110,100,101,120]⟩⟩
noncomputable def Mth.id:Mth→String
 | .lower=>"str.lower"
 | .islower=>"str.islower"
 | .isupper=>"str.isupper"
 | .find=>"str.find"
 | .sindex=>"str.index"
 | .join=>"str.join"
 | .starts=>"str.startswith"
 | .append=>"list.append"
 | .extend=>"list.extend"
 | .reverse=>"list.reverse"
 | .lindex=>"list.index"
theorem eP {T id:String}{n n':Str}(h:Slot T n id) (e:n=n'):Slot T n' id:=e ▸ h
theorem Mth.is (k:Mth):Lp k.T k.nm k.id:=by
 cases k with
 | lower=>exact ⟨F.plainAttrs_str,eP F.slot_str_lower (by decide +kernel),F.type_str_lower⟩
 | islower=>exact ⟨F.plainAttrs_str,eP F.slot_str_islower (by decide +kernel),F.type_str_islower⟩
 | isupper=>exact ⟨F.plainAttrs_str,eP F.slot_str_isupper (by decide +kernel),F.type_str_isupper⟩
 | find=>exact ⟨F.plainAttrs_str,eP F.slot_str_find (by decide +kernel),F.type_str_find⟩
 | sindex=>exact ⟨F.plainAttrs_str,eP F.slot_str_index (by decide +kernel),F.type_str_index⟩
 | join=>exact ⟨F.plainAttrs_str,eP F.slot_str_join (by decide +kernel),F.type_str_join⟩
 | starts=>exact ⟨F.plainAttrs_str,eP F.slot_str_startswith (by decide +kernel),F.type_str_startswith⟩
 | append=>exact ⟨F.plainAttrs_list,eP PySem.F.slot_list_append (by decide +kernel),PySem.F.type_list_append⟩
 | extend=>exact ⟨F.plainAttrs_list,eP PySem.F.slot_list_extend (by decide +kernel),PySem.F.type_list_extend⟩
 | reverse=>exact ⟨F.plainAttrs_list,eP PySem.F.slot_list_reverse (by decide +kernel),PySem.F.type_list_reverse⟩
 | lindex=>exact ⟨F.plainAttrs_list,eP PySem.F.slot_list_index (by decide +kernel),PySem.F.type_list_index⟩
noncomputable def lkM (n:Str):List Mth→Option Mth
 | []=>none
 | k::l=>cif (cU k.nm n) (some k) (lkM n l)
noncomputable def Lq:List Mth:=[.lower,.islower,.isupper,.find,.sindex,.join,.starts]
noncomputable def Iy:List Mth:=[.append,.extend,.reverse,.lindex]
theorem iF {n:Str}{k:Mth}:∀ {l:List Mth},lkM n l=some k→k∈l∧k.nm=n
 | [],h=>nS h
 | a::l,h=>by
  unfold lkM at h
  cases e:cU a.nm n with
  | true=>rw [e] at h; exact sj h ▸ ⟨.head _,dh e⟩
  | false=>rw [e] at h; exact ⟨.tail _ (iF h).1,(iF h).2⟩
noncomputable abbrev MtS (G:AH) (u:V) (n:Str) (k:Mth):Prop:=k.nm=n∧∀ {fm:Fm}{m:Loc}{H:MH}{s:Shared}{x:Value},aa H=G→Sat fm m H s→fm.R H s.heap u x→s.TypeIs x k.T∧∀ a,x=.ref a→∃ ob,s.heap.get? a=some ob∧ob.dict=none
theorem Lr {k:Mth}(h:k∈Lq):k.T="str":=eq_of_beq (List.all_eq_true.mp (show Lq.all (fun k=>k.T=="str")=true by decide +kernel) k h)
theorem FN {k:Mth}(h:k∈Iy):k.T="list":=eq_of_beq (List.all_eq_true.mp (show Iy.all (fun k=>k.T=="list")=true by decide +kernel) k h)
theorem FO {s:Shared}{a:Addr}{xs:Array Value}{T:String}(e:T="list") (hl:iz s.heap a xs):s.TypeIs (.ref a) T∧∀ b,Value.ref a=.ref b→∃ ob,s.heap.get? b=some ob∧ob.dict=none :=
 hl.2.elim fun n h=>⟨⟨_,h,e ▸ rfl⟩,fun b q=>Value.ref.inj q ▸ ⟨_,h,rfl⟩⟩
noncomputable def Ls (G:AH) (u:V) (n:Str):Cv (MtS G u n):=match u with
 | .str _=>opt (lkM n Lq) fun k h=>yes k ⟨(iF h).2,fun _ S r=>ae r fun t e _=>e ▸ ⟨Lr (iF h).1 ▸ typeIs_str _ _ _,fun _ e=>nomatch e⟩⟩
 | .lst _=>opt (lkM n Iy) fun k h=>yes k ⟨(iF h).2,fun _ S r=>cP r fun a xs e _ hl _=>e ▸ FO (FN (iF h).1) hl⟩
 | .ref i=>opt G[i]? fun o e=>match o,e with
  | .list vs,e=>opt (lkM n Iy) fun k h=>yes k ⟨(iF h).2,fun g S r=>cP (g9 S (g ▸ e) r) fun a xs e _ hl _=>e ▸ FO (FN (iF h).1) hl⟩
  | _,_=>none
 | _=>none
noncomputable def Iz (G:AH) (u:V) (n:Str):Option Mth:=(Ls G u n).v
noncomputable def Mth.mut:Mth→Bool
 | .append=>true
 | .extend=>true
 | .reverse=>true
 | _=>false
noncomputable def fG:Expr→Bool
 | .Call ..=>false
 | _=>true
theorem Bw {o:Expr}(h:fG o=true) (name:Str) (env:Env):attributeBase o name env (eval o env)=eval o env:=by
 cases o <;> first | exact ff h | rfl
theorem FQ {fm:Fm}{args:List Expr}{pos:Pos}(hs:bb args=true) (hlen:args.length<20):((backTo pos (starEach args fm.env)).all (fun x=>!x.1)&&(backToKw pos (keywordEach [] fm.env)).all (fun x=>x.1.isSome)
   &&decide (args.length+([]:List Keyword).length+(if ([]:List Keyword).isEmpty then 0 else 1)<30))=true:=by
 rw [dJ hs,show backToKw pos (keywordEach [] fm.env)=[] from rfl]
 unfold backTo
 simp
 lia
section
variable {fm:Fm}{m:Loc}{H:MH}{Q:QV}{QE:QX}{s:Shared}
theorem IA {o:Expr}{name:Str}{apos pos:Pos}{args:List Expr}(hs:bb args=true) (hlen:args.length<20) (hline:(apos.endLine==pos.line)=true) (hb:fG o=true)
  (h:EW fm o m H (fun ov H1=>∃ k,Iz (aa H1) ov name=some k∧LW fm pos args m H1 (fun vs H2=>∀ s xo xs,Sat fm m H2 s→fm.R H2 s.heap ov xo→fm.RL H2 s.heap vs xs→OW fm (call (.builtin k.id) (xo::xs)) m H2 Q QE s) QE) QE) :
  EW fm (.Call (.Attribute o name apos) args [] pos) m H Q QE:=fun s S=>by
 refine wpAny_Call_method_late (Bw hb name fm.env) (FQ hs hlen) hline rfl (wpAny_mono (h s S) (fun xo s1 p=>?_) fun _ _ p=>p)
 obtain ⟨ov,H1,T1,S1,r1,k,hk,q⟩:=p
 obtain ⟨e,ht⟩:=lK (P:=MtS (aa H1) ov name) hk
 subst e
 have ht:=ht rfl S1 r1
 have h':wpAny fm.M fm.A _ _ (PX fm m H s.heap QE) s1:=wpAny_mono (q s1 S1) (fun _ _ p=>p) fun _ _ p=>p.back T1
 exact ⟨k.T,k.id,k.is.plain,k.is.slot,k.is.ty,ht.1,ht.2,callWith_of (P:=fun h=>True) (zA hs) (fun h _=>⟨.machine,.inr (.inl rfl),Looks.of_pure rfl⟩) (vF hs h' fun xs s2 p=>p.el fun vs H2 T2 S2 r2 q2 =>
  ⟨trivial,wpAny_mono (q2 s2 xo xs S2 (T2.rep r1) r2) (fun _ _ p=>p.back (T1.trans T2)) fun _ _ p=>p.back (T1.trans T2)⟩)⟩
end
end
section
noncomputable abbrev MeS (k:Mth) (u:V) (vs:List V) (r:V):Prop:=∀ {fm:Fm}{m:Loc}{H:MH}{Q:QV}{QE:QX}{s:Shared}{xo:Value}{xs:List Value},Sat fm m H s→fm.R H s.heap u xo→fm.RL H s.heap vs xs→Q r H→OW fm (call (.builtin k.id) (xo::xs)) m H Q QE s
theorem xn {k:Mth}{x y:Str}{r:V}(h:∀ {fm:Fm}{m:Loc}{H:MH}{Q:QV}{QE:QX}{s:Shared}{t u:Tok},Sat fm m H s→Q r H→OW fm (call (.builtin k.id) [.str x t,.str y u]) m H Q QE s):MeS k (.str x) [.str y] r :=
 fun S r0 r1 q=>ae r0 fun t e _=>rl1 r1 fun z r1=>ae r1 fun u e' _=>e ▸ e' ▸ h S q
theorem xp {k:Mth}{x:Str}{r:V}(h:∀ {fm:Fm}{m:Loc}{H:MH}{Q:QV}{QE:QX}{s:Shared}{t:Tok},x.length≤big→Sat fm m H s→Q r H→OW fm (call (.builtin k.id) [.str x t]) m H Q QE s):MeS k (.str x) [] r :=
 fun S r0 r1 q=>ae r0 fun t e hl=>e ▸ (show _=[] from r1) ▸ h hl S q
noncomputable def PM (k:Mth) (x:Str):Cv (MeS k (.str x) []):=match k with
 | .lower=>wh (Nat.ble (Txt.lower x).length big) fun h=>yes (.str (Txt.lower x)) (xp (k:=.lower) fun hl S q=>SCL.lower (Nat.le_trans hl (by decide)) fun _=>aK S (iB (aX h)) q)
 | .islower=>yes (.bool (Txt.islower x)) (xp (k:=.islower) (x:=x) fun _ S q=>SC.islower (gb S g7 q))
 | .isupper=>yes (.bool (Txt.isupper x)) (xp (k:=.isupper) (x:=x) fun _ S q=>SC.isupper (gb S g7 q))
 | _=>none
noncomputable def PN (k:Mth) (x y:Str):Cv (MeS k (.str x) [.str y]):=match k with
 | .starts=>yes (.bool (Txt.startswith x y)) (xn (k:=.starts) (x:=x) (y:=y) fun S q=>SC.startswith (gb S g7 q))
 | .find=>yes (.int (Txt.find x y)) (xn (k:=.find) (x:=x) (y:=y) fun S q=>SC.find (aK S d7 q))
 | .sindex=>match h:occurrences x y 0 x.length 1 with
  | i::rest=>yes (.int (i:Nat)) (xn (k:=.sindex) fun S q=>SC.index h (aK S d7 q))
  | []=>none
 | _=>none
theorem Nz {x:Str}{ys:List Str}(h:Nat.ble (Txt.join x ys).length big=true):(Txt.join x ys).length≤big:=aX h
noncomputable def oZ (x:Str) (ys:List Str):Bool:=Nat.ble ((ys.map (·.length)).sum+ys.length*x.length) big&&Nat.ble (Txt.join x ys).length big
theorem FR {x:Str}{l:List V}{ys:List Str}(hy:fF l=some ys) (h:oZ x ys=true):MeS .join (.str x) [.lst l] (.str (Txt.join x ys)):=fun S r0 r1 q=>ae r0 fun t e _=>rl1 r1 fun z r1=>cP r1 fun a zs e' _ hl r2=>e ▸ e' ▸
 join_list hl.isList (js r2 hy).1 (Nat.le_trans (aX (an h).1) (by decide)) fun t' k=>aK S (iB (aX (an h).2)) q
theorem FT {x:Str}{l:List V}{ys:List Str}(hy:fF l=some ys) (h:oZ x ys=true):MeS .join (.str x) [.tup l] (.str (Txt.join x ys)):=fun S r0 r1 q=>ae r0 fun t e _=>rl1 r1 fun z r1=>cP r1 fun a zs e' _ hl r2=>e ▸ e' ▸
 join_tuple hl.isTup (js r2 hy).1 (Nat.le_trans (aX (an h).1) (by decide)) fun t' k=>aK S (iB (aX (an h).2)) q
theorem IB {k:Str}{u:Tok}{l:List Value}{ss:List Str}(h:StrsAre l ss):(∀ y∈l,MeetsSeq.EqGives y (.str k u) (eS k y))∧∀ j (hj:j<l.length),∃ hj':j<ss.length,eS k l[j]=(ss[j]==k):=by
 induction h with
 | nil=>exact ⟨(fun _ q=>nomatch q),fun j hj=>absurd hj (Nat.not_lt_zero _)⟩
 | cons y t _ ih =>
  refine ⟨fun z hz=>(List.mem_cons.mp hz).elim (fun e=>e ▸ ?_) (ih.1 z),fun j hj=>?_⟩
  ·show MeetsSeq.EqGives _ _ (y==k)
   rw [← SeqAt.str_beq]; exact SeqRoads2.EqGives.str _ _ _ _
  ·cases j with
   | zero=>exact ⟨Nat.succ_pos _,rfl⟩
   | succ j =>
    obtain ⟨h1,h2⟩:=ih.2 j (Nat.lt_of_succ_lt_succ hj)
    exact ⟨Nat.succ_lt_succ h1,h2⟩
theorem DY {l:List V}{ys:List Str}{k:Str}(hy:fF l=some ys) (hz:ys.contains k=true):MeS .lindex (.lst l) [.str k] (.int (ys.idxOf k:Nat)):=fun {fm m H Q QE s xo xs} S r0 r1 q=>cP r0 fun a zs e _ hl r2=>rl1 r1 fun z r1=>ae r1 fun u e' _=>hl.2.elim fun n ho=>by
 have ha:=(js r2 hy).1
 have hlen:=zK ha
 have hi:ys.idxOf k<ys.length:=List.idxOf_lt_length_iff.mpr (List.contains_iff_mem.mp hz)
 have hi':ys.idxOf k<zs.size:=Nat.lt_of_lt_of_eq hi hlen
 rw [e,e']
 have w:=IB (u:=u) (k:=k) ha
 refine call_meets PySem.F.slot_list_index ⟨_,ho,rfl⟩ PySem.F.entry_list_index (PySem.F.args_list_index_2 _ _) (MeetsSeq.list_index a zs n (.str k u) (eS k) (fun y hy=>w.1 y (Array.mem_toList_iff.mpr hy)) (ys.idxOf k) hi' (by have:=Nat.lt_of_lt_of_le hi' hl.1; lia) ?_ fun j hj hlt=>?_) ⟨ho,aK S d7 q⟩
 ·obtain ⟨h1,h2⟩:=w.2 _ hi'
  exact Eq.trans h2 (by simp)
 ·obtain ⟨h1,h2⟩:=w.2 j hj
  refine Eq.trans h2 ?_
  have:=List.not_of_lt_findIdx (p:=(·==k)) hlt
  simpa using this
noncomputable def NA (k:Mth) (u:V) (vs:List V):Cv (MeS k u vs):=match u with
 | .str x=>match vs with
  | []=>PM k x
  | [v]=>match v with
   | .str y=>PN k x y
   | .lst l=>match k with
    | .join=>opt (fF l) fun ys h=>wh (oZ x ys) fun h'=>yes (.str (Txt.join x ys)) (FR h h')
    | _=>none
   | .tup l=>match k with
    | .join=>opt (fF l) fun ys h=>wh (oZ x ys) fun h'=>yes (.str (Txt.join x ys)) (FT h h')
    | _=>none
   | _=>none
  | [v,w]=>match v,w,k with
   | .str y,.int i,.find=>yes (.int (Txt.find3 x y i)) fun S r0 r1 q=>ae r0 fun t e _=>rl2 r1 fun z z' r1 r2=>ae r1 fun u e' _=>aj r2 fun u' e''=>e ▸ e' ▸ e'' ▸ SC.find3 (aK S d7 q)
   | _,_,_=>none
  | _=>none
 | .lst l=>match vs with
  | [v]=>match v,k with
   | .str y,.lindex=>opt (fF l) fun ys h=>wh (ys.contains y) fun h'=>yes (.int (ys.idxOf y:Nat)) (DY h h')
   | _,_=>none
  | _=>none
 | _=>none
noncomputable def eQ (k:Mth) (u:V) (vs:List V):Option V:=(NA k u vs).v
theorem IC {k:Mth}{u:V}{vs:List V}{r:V}(h:eQ k u vs=some r):MeS k u vs r:=lK h
theorem RepL.reverse {prog:Program}{w:World}{h:Heap}{ok:Addr→Prop}{al:List Addr}{vs:List V}{xs:List Value}(r:RepL prog w h ok al vs xs):RepL prog w h ok al vs.reverse xs.reverse :=
 r.ind (P:=fun vs xs=>RepL prog w h ok al vs.reverse xs.reverse) .nil fun _ _ _ _ r1 _ ih=>by rw [List.reverse_cons,List.reverse_cons]; exact .append ih (.cons r1 .nil)
section
variable {fm:Fm}{m:Loc}{H:MH}{Q:QV}{QE:QX}{s:Shared}
theorem sX (O:ay fm) {i:Nat}{us ws:List V}{zs:Array Value}{a:Addr}{h':Heap}{tk n:Nat}{x:Value}(e:(aa H)[i]? = some (.list us)) (ea:(bC H)[i]? = some a) (S:Sat fm m H s)
  (hb:Heap.SameBut a s.heap h') (hn:h'.get? a=some { cls:=.type "list",dict:=none,data:=.seq zs n,slots:=#[] }) (hl:zs.size≤big) (r:fm.RL H s.heap ws zs.toList)
  {rv:V}(hr:∀ H' h',fm.R H' h' rv x) (q:∀ H',aa H'=(aa H).set i (.list ws)→Q rv H'):PV fm m H s.heap Q x { s with heap:=h',toks:=tk }:=by
 obtain ⟨pre,b,mo,post,rfl,h2,h3,h4,h5⟩:=di e
 rw [h4] at ea
 obtain rfl:=sj ea
 obtain rfl:=nj h2
 refine ar (h5 (.list ws) rfl) fun g1 g2=>?_
 refine ar (Sat.mut (mo':=.list ws) (s':={ s with heap:=h',toks:=tk }) O S g2 (fun b hb=>.inl hb) (by simp [MO.addrs]) (fun b o hb' ho=>(hb.2 b fun q=>hb' (q ▸ .head _)).trans ho) (fun conv=>⟨zs,⟨hl,n,hn⟩,conv r⟩) rfl rfl rfl) fun S' T=>?_
 exact ⟨_,_,T,S',hr _ _,q _ g1⟩
theorem xq (S:Sat fm m H s) {i:Nat}{us:List V}{x:Value}(e:(aa H)[i]? = some (.list us)) (r:fm.R H s.heap (.ref i) x) :
  ∃ a zs n,x=.ref a∧(bC H)[i]? = some a∧s.heap.get? a=some { cls:=.type "list",dict:=none,data:=.seq zs n,slots:=#[] }∧zs.size≤big∧fm.RL H s.heap us zs.toList :=
 cP (g9 S e r) fun a zs ex _ hl r1=>hl.2.elim fun n h=>ae r fun b hb eb=>⟨a,zs,n,ex,by rw [hb,Value.ref.inj (eb.symm.trans ex)],h,hl.1,r1⟩
end
noncomputable abbrev MuS (k:Mth) (l:List V) (vs:List V) (r:List V):Prop:=∀ {fm:Fm}{m:Loc}{H:MH}{Q:QV}{QE:QX}{s:Shared}{i:Nat}{xo:Value}{xs:List Value},ay fm→Sat fm m H s→(aa H)[i]? = some (.list l)→fm.R H s.heap (.ref i) xo→fm.RL H s.heap vs xs →
 (∀ H',aa H'=(aa H).set i (.list r)→Q .none H')→OW fm (call (.builtin k.id) (xo::xs)) m H Q QE s
theorem DZ {l:List V}{v:V}(h:Nat.ble (l.length+1) big=true):MuS .append l [v] (l++[v]):=fun {fm m H Q QE s i xo xs} O S e r0 r1 q=>Ij (xq S e r0) fun a zs n ex ha ho hl r2=>rl1 r1 fun x r1=>by
 rw [ex]
 have hn:l.length=zs.size:=r2.length
 exact append_at ho (fun h' hb hn'=>sX O e ha S hb hn' (by rw [Array.size_push,← hn]; exact aX h) (by rw [Array.toList_push]; exact .append r2 (.cons r1 .nil)) (fun _ _=>w6) q) (bX (Nat.le_trans hl (by decide)))
theorem D0 {l us:List V}(h:Nat.ble (l.length+us.length) big=true):MuS .extend l [.lst us] (l++us):=fun {fm m H Q QE s i xo xs} O S e r0 r1 q=>Ij (xq S e r0) fun a zs n ex ha ho hl r2=>rl1 r1 fun x r1=>cP r1 fun b ys ex' _ hb r3=>hb.2.elim fun n2 hb=>by
 rw [ex,ex']
 have hn:l.length=zs.size:=r2.length
 have hn2:us.length=ys.size:=r3.length
 have h:=aX h
 rw [hn,hn2] at h
 have hsz:zs.size+ys.size≤sizeLine:=bX (Nat.le_trans h (by decide))
 refine call_meets PySem.F.slot_list_extend ⟨_,ho,rfl⟩ PySem.F.entry_list_extend (PySem.F.args_list_extend_2 _ _) (AutoSeq1.list_extend_list_list_0 a zs n b ys n2 (extend_door hsz) (by lia) (by lia)) ⟨ho,hb,?_⟩
 have ho':(s.heap.update a (Obj.mapSeq fun x=>x++ys)).get? a=some { cls:=.type "list",dict:=none,data:=.seq (zs++ys) (if (zs++ys).size==zs.size then n else n+1),slots:=#[] }:=by
  rw [Heap.get?_update_self _ ho (by rw [mapSeq_app]; rfl),mapSeq_app]
 exact sX O e ha S (Heap.SameBut.update ..) ho' (by rw [Array.size_append]; exact h) (by rw [Array.toList_append]; exact .append r2 r3) (fun _ _=>w6) q
theorem Bx {l:List V}:MuS .reverse l [] l.reverse:=fun {fm m H Q QE s i xo xs} O S e r0 r1 q=>Ij (xq S e r0) fun a zs n ex ha ho hl r2=>by
 rw [ex,show xs=[] from r1]
 refine call_meets PySem.F.slot_list_reverse ⟨_,ho,rfl⟩ PySem.F.entry_list_reverse (PySem.F.args_list_reverse_1 _) (AutoSeq1.list_reverse_list_0 a zs n (bX (Nat.le_trans hl (by decide)))) ⟨ho,?_⟩
 have ho':(s.heap.update a (Obj.mapSeq fun x=>x.reverse)).get? a=some { cls:=.type "list",dict:=none,data:=.seq zs.toList.reverse.toArray n,slots:=#[] }:=by
  rw [Heap.get?_update_self _ ho (by rw [mapSeq_reverse]; rfl),mapSeq_reverse]
 exact sX O e ha S (Heap.SameBut.update ..) ho' (by rw [List.size_toArray,List.length_reverse]; exact hl) (RepL.reverse r2) (fun _ _=>w6) q
noncomputable def PO (k:Mth) (l:List V) (vs:List V):Cv (MuS k l vs):=match vs with
 | [v]=>match k with
  | .append=>wh (Nat.ble (l.length+1) big) fun h=>yes (l++[v]) (DZ h)
  | .extend=>match v with
   | .lst us=>wh (Nat.ble (l.length+us.length) big) fun h=>yes (l++us) (D0 h)
   | _=>none
  | _=>none
 | []=>match k with
  | .reverse=>yes l.reverse Bx
  | _=>none
 | _=>none
noncomputable def o0 (k:Mth) (l vs:List V):Option (List V):=(PO k l vs).v
theorem Lu {k:Mth}{l vs r:List V}(h:o0 k l vs=some r):MuS k l vs r:=lK h
end
section
noncomputable abbrev FU (fm:Fm) (H:MH) (h0:Heap) (v:V) (y:Value):Prop:=∀ (fm':Fm) (H':MH) (h':Heap),fm'.prog=fm.prog→fm'.w=fm.w→(∀ (i:Nat) (a:Addr),(bC H)[i]? = some a→(bC H')[i]? = some a)→Kp h0 h' (fm.ok H) (fm'.ok H')→fm'.R H' h' v y
structure ID (fm:Fm) (H:MH) (h0:Heap) (xs:List V) (I:Addr) (fp:List Addr) (P:Nat→Value→Prop) (St:Nat→Heap→Prop):Prop where
 W:Walks fm.prog fm.w fm.A I fp [I] xs.length P St
 fpX:∀ b∈fp,b=I∨(∃ o,h0.get? b=some o)∧fm.ok H b
 al:∀ i h,St i h→∃ o,h.get? I=some o
 item:∀ i y,i<xs.length→P i y→∃ v,xs[i]? = some v∧FU fm H h0 v y
noncomputable abbrev PQ (fm:Fm) (H:MH) (s:Shared) (seq:Bool) (xs:List V) (Q:Value→Shared→Prop):Prop:=∀ (o:Obj) (St:Nat→Heap→Prop) (P:Nat→Value→Prop) (fp:List Addr),ID fm H s.heap xs s.heap.objs.size fp P St→xs.length≤big→St 0 (s.heap.push o) →
 (seq=true→∀ (target:Expr) (i:Nat) (y:Value) (s':Shared) (Q':Unit→Shared→Prop) (E':Value→Shared→Prop),St i s'.heap→Q' () s'→wpAny fm.M fm.A (letOwnedTupleGo target (.ref s.heap.objs.size) y) Q' E' s') →
 (s.heap.push o).get? s.heap.objs.size=some o→Q (.ref s.heap.objs.size) { s with heap:=s.heap.push o }
noncomputable def zL:V→Bool
 | .lst _=>true
 | .tup _=>true
 | _=>false
noncomputable abbrev By (v:V) (xs:List V):Prop:=∀ {fm:Fm}{m:Loc}{H:MH}{s:Shared}{x:Value}{Q:Value→Shared→Prop}{E:Value→Shared→Prop},fm.A.handled=none→Sat fm m H s→fm.R H s.heap v x→PQ fm H s (zL v) xs Q→wpAny fm.M fm.A (pyIter x) Q E s
section
variable {fm:Fm}{m:Loc}{H:MH}{s:Shared}
theorem o7 {b:Addr}{ob:Obj}(e:s.heap.get? b=some ob):b≠s.heap.objs.size:=fun q=>by rw [q,aV] at e; exact nS e
theorem Bz {a I:Addr}{o:Obj}(ha:s.heap.get? a=some o) (ok:fm.ok H a):∀ b∈[I,a],b=I∨(∃ o,s.heap.get? b=some o)∧fm.ok H b:=fun b hb =>
 (List.mem_cons.mp hb).elim .inl fun hb=>by rw [List.mem_singleton.mp hb]; exact .inr ⟨⟨_,ha⟩,ok⟩
theorem BA {I:Addr}:∀ b∈[I],b=I∨(∃ o,s.heap.get? b=some o)∧fm.ok H b:=fun b hb=>.inl (List.mem_singleton.mp hb)
theorem zM {vs:List V}{ys:Array Value}(r:fm.RL H s.heap vs ys.toList):∀ i y,i<vs.length→ys[i]? = some y→∃ v,vs[i]? = some v∧FU fm H s.heap v y:=fun i y hi hy =>
 ⟨vs[i],List.getElem?_eq_getElem hi,fun fm' H' h' hp hw pre k=>ae ((RepL.mono pre k r).at (List.getElem?_eq_getElem hi)) fun z hz rz=>by
  unfold Fm.R; rw [hp,hw,sj (hy.symm.trans hz)]; exact rz⟩
end
theorem IE {vs:List V}:By (.lst vs) vs:=fun {fm m H s x Q E} hh S r q=>cP r fun a ys e ok hl r1=>hl.2.elim fun n ha=>by
 have hlen:vs.length=ys.size:=r1.length
 rw [e]
 exact wpAny_pyIter_list hl.isList (q _ (fun i h=>h.IsListIter s.heap.objs.size a i∧h.IsList a ys) (fun i v=>ys[i]? = some v) [s.heap.objs.size,a]
  ⟨hlen ▸ Walks.list hh _ a (o7 ha) ys,Bz ha ok,fun i h st=>aj st.1 fun o z=>⟨o,z.1⟩,zM r1⟩ (hlen ▸ hl.1) ⟨⟨_,Heap.get?_push_size _ rfl,rfl,rfl⟩,hl.isList.at fun o e=>Heap.get?_push_of_some _ e⟩
  (fun _ target i y s' Q' E' st hq=>letGo_listiter st.1 hq) (Heap.get?_push_size _ rfl))
theorem IF {vs:List V}:By (.tup vs) vs:=fun {fm m H s x Q E} hh S r q=>cP r fun a ys e ok hl r1=>by
 have hlen:vs.length=ys.size:=r1.length
 rw [e]
 exact wpAny_pyIter_tuple (iE hl) (q _ (fun i h=>h.IsTupleIter s.heap.objs.size a i∧h.IsTuple a ys) (fun i v=>ys[i]? = some v) [s.heap.objs.size,a]
  ⟨hlen ▸ Walks.tuple hh _ a (o7 hl.2) ys,Bz hl.2 ok,fun i h st=>aj st.1 fun o z=>⟨o,z.1⟩,zM r1⟩ (hlen ▸ hl.1) ⟨⟨_,Heap.get?_push_size _ rfl,rfl,rfl⟩,iE ⟨hl.1,Heap.get?_push_of_some _ hl.2⟩⟩
  (fun _ target i y s' Q' E' st hq=>letGo_tupleiter st.1 hq) (Heap.get?_push_size _ rfl))
theorem vJ {fm:Fm}{H:MH}{h0:Heap}{x:Str}:∀ i y,i<(x.cps.toList.map fun c=>V.str (zF c)).length→SignAt x i y→∃ v,(x.cps.toList.map fun c=>V.str (zF c))[i]? = some v∧FU fm H h0 v y:=fun i y _ h =>
 cN h fun c u hc e=>⟨.str (zF c),by rw [List.getElem?_map,Array.getElem?_toList,hc]; rfl,fun _ _ _ _ _ _ _=>e ▸ iB (show 1≤big by decide)⟩
theorem nC {x:Str}:(x.cps.toList.map fun c=>V.str (zF c)).length=x.cps.size:=List.length_map ..
theorem IG {x:Str}:By (.str x) (x.cps.toList.map fun c=>.str (zF c)):=fun {fm m H s y Q E} hh S r q=>ae r fun t e hl=>by
 rw [e]
 cases ha:x.cps.all (·<128)
 ·exact wpAny_pyIter_wide ha (q _ (fun i h=>h.IsStrIter s.heap.objs.size "str_iterator" x t i) (SignAt x) [s.heap.objs.size] ⟨nC ▸ Walks.strWide hh _ x t,BA,fun i h st=>aj st fun o z=>⟨o,z.1⟩,vJ⟩ (nC ▸ hl) ⟨_,Heap.get?_push_size _ rfl,rfl,rfl⟩ ff (Heap.get?_push_size _ rfl))
 ·exact wpAny_pyIter_ascii ha (q _ (fun i h=>h.IsStrIter s.heap.objs.size "str_ascii_iterator" x t i) (SignAt x) [s.heap.objs.size] ⟨nC ▸ Walks.strAscii hh _ x t,BA,fun i h st=>aj st fun o z=>⟨o,z.1⟩,vJ⟩ (nC ▸ hl) ⟨_,Heap.get?_push_size _ rfl,rfl,rfl⟩ ff (Heap.get?_push_size _ rfl))
noncomputable def cV (a b:Int):List Int:=(List.range (b - a).toNat).map fun k=>a+Int.ofNat k
noncomputable def small:Int→Bool
 | .ofNat n=>Nat.ble n 4611686018427387903
 | .negSucc n=>Nat.ble n 4611686018427387903
noncomputable def CP (a b:Int):Bool:=(small a&&small b)&&Nat.ble (b - a).toNat big
theorem zN {i:Int}(h:small i=true):-(2 ^ 62)≤i∧i<2 ^ 62:=by
 cases i with
 | ofNat n=>exact ⟨Int.le_trans (by decide) (Int.natCast_nonneg n),Int.ofNat_lt.mpr (Nat.lt_succ_of_le (aX h))⟩
 | negSucc n=>exact ⟨by rw [Int.negSucc_eq]; exact Int.neg_le_neg (Int.ofNat_le.mpr (Nat.succ_le_succ (aX h))),Int.lt_trans (Int.negSucc_lt_zero n) (by decide)⟩
theorem zO {a b:Int}(h:CP a b=true):Builtin.Range.small a b 1=true∧Builtin.Range.rangeSize a b 1=((b - a).toNat:Int):=by
 have h1:=zN (an (an h).1).1
 have h2:=zN (an (an h).1).2
 have h3:=aX (an h).2
 have e:Builtin.Range.rangeSize a b 1=((b - a).toNat:Int):=by
  unfold Builtin.Range.rangeSize
  rw [if_pos (by decide)]
  split <;> rename_i q
  ·rw [Int.ediv_one,Int.sub_add_cancel,Int.toNat_of_nonneg (Int.sub_nonneg_of_le (Int.le_of_lt q))]
  ·rw [Int.toNat_of_nonpos (Int.sub_nonpos_of_le (Int.not_lt.mp q))]; rfl
 refine ⟨?_,e⟩
 have w:∀ {i:Int},-2 ^ 62≤i∧i<2 ^ 62→-2 ^ 63≤i∧i<2 ^ 63:=fun h=>⟨Int.le_trans (by decide) h.1,Int.lt_of_lt_of_le h.2 (by decide)⟩
 unfold Builtin.Range.small
 rw [e]
 unfold Builtin.Range.rangeFitsLong
 simp only [Bool.and_eq_true,decide_eq_true_eq,Bool.or_eq_true,beq_iff_eq]
 exact ⟨⟨⟨⟨w h1,w h2⟩,by decide⟩,Int.le_trans (by decide) (Int.natCast_nonneg _),Int.lt_of_le_of_lt (Int.ofNat_le.mpr h3) (by decide)⟩,.inr (by rw [if_pos (by decide),Int.sub_self,Int.add_zero,decide_eq_true (w h2).1,decide_eq_true (w h2).2]; rfl)⟩
theorem IH {a b:Int}(h:CP a b=true):By (.rng a b) ((cV a b).map .int):=fun {fm m H s x Q E} hh S r q=>E9 r fun r t u w e hok hr=>by
 have k:=zO h
 have hlen:((cV a b).map V.int).length=(b - a).toNat:=by simp [cV]
 rw [e]
 refine wpAny_pyIter_range hr k.1 (q _ (fun i h=>IsRangeIter h s.heap.objs.size (a+(i:Nat)*1) (((b - a).toNat:Int) - (i:Nat)) 1) (fun i v=>∃ t,v=.int (a+i*1) t) [s.heap.objs.size]
  ⟨by rw [hlen]; exact Walks.range hh s.heap.objs.size a 1 (b - a).toNat,BA,fun i h st=>⟨_,st⟩,fun i y hi z=>aj z fun t' e=>⟨.int (a+i),?_,fun _ _ _ _ _ _ _=>?_⟩⟩ (hlen ▸ aX (an h).2) ?_ ff (Heap.get?_push_size _ rfl))
 ·rw [hlen] at hi
  simp [cV,List.getElem?_range hi]
 ·rw [e,Int.mul_one]; exact d7
 ·simp only [Int.natCast_zero,Int.zero_mul,Int.add_zero,Int.sub_zero,k.2]
  exact Heap.get?_push_size _ rfl
theorem Lv {ks:List Int}:By (.dI ks) (ks.map .int):=fun {fm m H s x Q E} hh S r q=>mT r fun d ep e hok hz hd hl=>cN (id hd) fun od ed hd1 hd2=>by
 have hlen:(ks.map V.int).length=(ks.map fun k=>(k,Value.bool true)).length:=by rw [List.length_map,List.length_map]
 rw [e]
 refine wpAny_pyIter_dict hz hd (q _ (fun i h=>h.IsKeyIter s.heap.objs.size d i (ks.map fun k=>(k,Value.bool true)).length ep∧h.DictAt (intKind fm.prog fm.w) d (ks.map fun k=>(k,Value.bool true)) ep) (fun i v=>∃ k x,(ks.map fun k=>(k,Value.bool true))[i]? = some (k,x)∧(intKind fm.prog fm.w).is k v=true) [s.heap.objs.size,d]
  ⟨by rw [hlen]; exact Walks.dictKeys hh _ d (o7 hd1) _ ep,Bz hd1 hok,fun i h st=>aj st.1 fun o z=>⟨o,z.1⟩,fun i y _ z=>cN z fun k w hk hy=>?_⟩ (by rw [List.length_map]; exact hl) ⟨⟨_,Heap.get?_push_size _ rfl,rfl,rfl⟩,bE (fun o e=>Heap.get?_push_of_some _ e) hd⟩ ff (Heap.get?_push_size _ rfl))
 rw [List.getElem?_map] at hk
 refine gj hk fun k' hk' e=>⟨.int k',by rw [List.getElem?_map,hk']; rfl,fun _ _ _ _ _ _ _=>?_⟩
 rw [← (Prod.mk.inj e).1] at hy
 cases y <;> first | exact ff hy | exact eq_of_beq hy ▸ d7
noncomputable def NB (v:V):Cv (By v):=match v with
 | .lst vs=>yes vs IE
 | .tup vs=>yes vs IF
 | .str x=>yes (x.cps.toList.map fun c=>.str (zF c)) IG
 | .rng a b=>wh (CP a b) fun h=>yes ((cV a b).map .int) (IH h)
 | .dI ks=>yes (ks.map .int) Lv
 | _=>none
noncomputable def lT (v:V):Option (List V):=(NB v).v
noncomputable def FV (v:V):Option (List V):=cif (zL v) (lT v) none
theorem CQ {v:V}{xs:List V}(h:lT v=some xs):By v xs:=lK h
end
section
section
variable {fm:Fm}{m:Loc}{H:MH}{s:Shared}
theorem xr (O:ay fm) {i:Nat}{ao:AO}{a:Addr}{s':Shared}(e:(aa H)[i]? = some ao) (ea:fm.R H s.heap (.ref i) (.ref a)) (S:Sat fm m H s) (mo':MO) (hfl:mo'.isFly=false) (h1:∀ mo:MO,mo.abs=ao→∀ b,mo.addrs b=[b]) (h2:mo'.addrs a=[a])
  (k:Heap.SameBut a s.heap s'.heap) (r:∀ H',(∀ {vs:List V}{xs:List Value},fm.RL H s.heap vs xs→fm.RL H' s'.heap vs xs)→dC fm H' s'.heap a mo') (hg:s'.gens=s.gens) (ho:s'.os=s.os) (hd:s'.drawn=s.drawn) :
  ∃ H',aa H'=(aa H).set i mo'.abs∧af fm H s.heap H' s'.heap∧Sat fm m H' s':=by
 obtain ⟨pre,b,mo,post,rfl,g2,g3,g4,g5⟩:=di e
 refine ae ea fun c hc ec=>?_
 obtain rfl:b=a:=(sj (g4.symm.trans hc)).trans (Value.ref.inj ec).symm
 refine ar (g5 mo' hfl) fun k1 k2=>?_
 have ha:=h1 mo g2 b
 refine ar (Sat.mut (mo':=mo') (s':=s') O S k2 (fun x hx=>.inl (by rw [ha]; rwa [h2] at hx)) (by rw [h2]; simp) (fun x o hx hb=>(k.2 x fun q=>hx (by rw [ha,q]; exact .head _)).trans hb) (fun conv=>r _ conv) hg ho hd) fun S' T=>⟨_,k1,T,S'⟩
end
noncomputable def kD (k:Str) (v:V) (ks:List Str) (vs:List V):List V:=(ks.zip vs).map fun p=>if p.1=k then v else p.2
noncomputable def bh (n:Str) (v:V) (ks:List Str) (vs:List V):List Str × List V:=if ks.contains n then (ks,kD n v ks vs) else (ks++[n],vs++[v])
section
variable {prog:Program}{w:World}{h:Heap}{ok:Addr→Prop}{al:List Addr}{x:Str}{v:V}{xv:Value}
theorem BB (rv:Rep prog w h ok al v xv) {vs:List V}{xs:List Value}(r:RepL prog w h ok al vs xs):∀ {ks:List Str},ks.length=xs.length →
  ∃ ys,(ks.zip xs).map (fun kv=>if kv.1=x then (kv.1,xv) else kv)=ks.zip ys∧ks.length=ys.length∧RepL prog w h ok al (kD x v ks vs) ys :=
 r.ind (P:=fun vs xs=>∀ {ks:List Str},ks.length=xs.length→∃ ys,(ks.zip xs).map (fun kv=>if kv.1=x then (kv.1,xv) else kv)=ks.zip ys∧ks.length=ys.length∧RepL prog w h ok al (kD x v ks vs) ys)
  (fun {ks} hl=>⟨[],by rw [List.zip_nil_right]; rfl,hl,by unfold kD; rw [List.zip_nil_right]; exact .nil⟩) fun u y vs xs r1 _ ih {ks} hl=>by
  cases ks with
  | nil=>exact nomatch hl
  | cons k ks =>
   refine dA (ih (Nat.succ.inj hl)) fun ys h1 h2 h3=>?_
   have e:kD x v (k::ks) (u::vs)=(if k=x then v else u)::kD x v ks vs:=rfl
   rw [e,List.zip_cons_cons,List.map_cons,h1]
   by_cases hk:k=x
   ·exact ⟨xv::ys,by rw [if_pos hk]; rfl,congrArg (·+1) h2,by rw [if_pos hk]; exact .cons rv h3⟩
   ·exact ⟨y::ys,by rw [if_neg hk]; rfl,congrArg (·+1) h2,by rw [if_neg hk]; exact .cons r1 h3⟩
theorem II {α:Type}{ks:List Str}:∀ {xs:List α},ks.length=xs.length→((ks.zip xs).any fun kv=>decide (kv.1=x))=ks.contains x:=by
 induction ks with
 | nil=>exact fun _=>rfl
 | cons k ks ih =>
  intro xs hl
  cases xs with
  | nil=>exact nomatch hl
  | cons y xs =>
   rw [List.zip_cons_cons,List.any_cons,ih (Nat.succ.inj hl),contains_cons]
   by_cases e:k=x
   ·rw [if_pos e,decide_eq_true e,Bool.true_or]
   ·rw [if_neg e,decide_eq_false e,Bool.false_or]
theorem mi (rv:Rep prog w h ok al v xv) {ks:List Str}{vs:List V}{xs:List Value}(hl:ks.length=xs.length) (r:RepL prog w h ok al vs xs) :
  ∃ ys,PySem.stored (ks.zip xs) x xv=(bh x v ks vs).1.zip ys∧(bh x v ks vs).1.length=ys.length∧RepL prog w h ok al (bh x v ks vs).2 ys:=by
 unfold PySem.stored bh
 rw [II hl]
 cases ks.contains x with
 | true=>exact BB rv r hl
 | false=>exact ⟨xs++[xv],(List.zip_append hl).symm ▸ rfl,by rw [if_neg ff,List.length_append,List.length_append,hl]; rfl,RepL.append r (.cons rv .nil)⟩
end
theorem zP {ks:List Int}{j:Int}:PySem.stored (ks.map fun k=>(k,Value.bool true)) j (.bool true)=((if ks.contains j then ks else ks++[j]).map fun k=>(k,Value.bool true)):=by
 unfold PySem.stored
 have h1:((ks.map fun k=>(k,Value.bool true)).any fun kv=>decide (kv.1=j))=ks.contains j:=by
  induction ks with
  | nil=>rfl
  | cons k ks ih =>
   rw [List.map_cons,List.any_cons,ih,contains_cons]
   by_cases e:k=j
   ·rw [if_pos e,decide_eq_true e,Bool.true_or]
   ·rw [if_neg e,decide_eq_false e,Bool.false_or]
 rw [h1]
 cases ks.contains j with
 | true =>
  rw [if_pos rfl,if_pos rfl,List.map_map]
  refine List.map_congr_left fun k _=>?_
  show (if k=j then _ else _)=_
  split <;> rfl
 | false=>rw [if_neg ff,if_neg ff,List.map_append]; rfl
theorem RepL.set {prog:Program}{w:World}{h:Heap}{ok:Addr→Prop}{al:List Addr}{v:V}{xv:Value}{vs:List V}{xs:List Value}(r:RepL prog w h ok al vs xs) (rv:Rep prog w h ok al v xv):∀ j:Nat,RepL prog w h ok al (vs.set j v) (xs.set j xv) :=
 r.ind (P:=fun vs xs=>∀ j:Nat,RepL prog w h ok al (vs.set j v) (xs.set j xv)) (fun _=>.nil) fun _ _ _ _ r1 r2 ih j=>match j with
  | 0=>.cons rv r2
  | j+1=>.cons r1 (ih j)
noncomputable abbrev PuS (G:AH) (op:Value→Value→Sem Unit) (o v:V) (G':AH):Prop:=∀ {fm:Fm}{m:Loc}{H:MH}{s:Shared}{xo xv:Value}{Q:Unit→Shared→Prop}{E:Value→Shared→Prop},ay fm→aa H=G→Sat fm m H s→fm.R H s.heap o xo→fm.R H s.heap v xv →
 (∀ H' s',aa H'=G'→af fm H s.heap H' s'.heap→Sat fm m H' s'→Q () s')→wpAny fm.M fm.A (op xo xv) Q E s
section
variable {G:AH}{i:Nat}{v:V}
theorem IJ {us:List V}{n:Nat}{t:Tok}(e:G[i]? = some (.list us)) (h:Nat.ble (n+1) us.length=true):PuS G (fun xo xv=>setItem xo (.int (.ofNat n) t) xv) (.ref i) v (G.set i (.list (us.set n v))):=fun {fm m H s xo xv Q E} O g S ro rv q=>Ij (xq S (g ▸ e) ro) fun a zs nn ex ha hl hz r2=>by
 have hsz:us.length=zs.size:=r2.length
 have h:=aX h
 subst g ex
 have hn':(s.heap.update a (Obj.mapSeq fun x=>x.setIfInBounds n xv)).get? a=some { cls:=.type "list",dict:=none,data:=.seq (zs.setIfInBounds n xv) nn,slots:=#[] }:=by
  rw [Heap.get?_update_self _ hl (by rfl)]
  simp [Obj.mapSeq]
 refine ki_setAt hl (Int.natCast_nonneg n) (Int.ofNat_lt.mpr (Nat.lt_of_lt_of_le h (hsz ▸ Nat.le_trans hz (by decide)))) (Int.ofNat_lt.mpr (hsz ▸ h)) ?_
 exact dA (xr (s':={ s with heap:=s.heap.update a (Obj.mapSeq fun x=>x.setIfInBounds n xv) }) O e ro S (.list (us.set n v)) rfl (fun mo h b=>by rw [nj h]; rfl) rfl (Heap.SameBut.update ..)
  (fun H' conv=>⟨_,⟨by rw [Array.size_setIfInBounds]; exact hz,_,hn'⟩,conv (by rw [Array.toList_setIfInBounds]; exact RepL.set r2 rv _)⟩) rfl rfl rfl) fun H' g T' S'=>q H' _ g T' S'
theorem ND {ks:List Int}{j:Int}{t:Tok}(e:G[i]? = some (.dI ks)) (h:Nat.ble (ks.length+1) big=true):PuS G (fun xo xv=>setItem xo (.int j t) xv) (.ref i) (.bool true) (G.set i (.dI (if ks.contains j then ks else ks++[j]))):=fun {fm m H s xo xv Q E} O g S ro rv q=>mT (xf O S (g ▸ e) ro) fun a ep ex hin hz hd hl=>by
 subst g ex
 rw [show xv=Value.bool true from rv]
 refine wpAny_setItem_pairs (k:=j) isI hd.dictOf (fun h' hd' hs'=>?_) (by rw [List.length_map]; exact bX (Nat.le_trans hl (by decide)))
 rw [zP] at hd'
 refine aj hd'.dictAt fun ep' hd'=>?_
 exact dA (xr (s':={ s with heap:=h',toks:=s.toks+1 }) O e ro S (.dI (if ks.contains j then ks else ks++[j])) rfl (fun mo h b=>by rw [Bp h]; rfl) rfl hs'
  (fun H' conv=>⟨ep',hd',by
   split
   ·exact hl
   ·rw [List.length_append]; exact aX h⟩) rfl rfl rfl) fun H' g T' S'=>q H' _ g T' S'
theorem NE {ks:List Str}{us:List V}{x:Str}{t:Tok}(e:G[i]? = some (.dS ks us)) (h:Nat.ble ks.length big=true):PuS G (fun xo xv=>setItem xo (.str x t) xv) (.ref i) v (G.set i (.dS (bh x v ks us).1 (bh x v ks us).2)):=fun {fm m H s xo xv Q E} O g S ro rv q=>DG (Br O S (g ▸ e) ro) fun a xs ep ex hin hz hd hl r2=>by
 subst g ex
 refine wpAny_setItem_pairs (k:=x) isS hd.dictOf (fun h' hd' hs'=>?_) (by rw [List.length_zip,← hl,Nat.min_self]; exact bX (Nat.le_trans (aX h) (by decide)))
 refine dA (mi (x:=x) rv hl r2) fun ys y1 y2 y3=>?_
 rw [y1] at hd'
 refine aj hd'.dictAt fun ep' hd'=>?_
 exact dA (xr (s':={ s with heap:=h',toks:=s.toks+1 }) O e ro S (.dS (bh x v ks us).1 (bh x v ks us).2) rfl (fun mo h b=>by rw [Bq h]; rfl) rfl hs'
  (fun H' conv=>⟨ys,ep',hd',y2,conv y3⟩) rfl rfl rfl) fun H' g T' S'=>q H' _ g T' S'
end
noncomputable abbrev SiS (G:AH) (o k v:V) (G':AH):Prop:=∀ {fm:Fm}{m:Loc}{H:MH}{s:Shared}{xo xk xv:Value}{Q:Unit→Shared→Prop}{E:Value→Shared→Prop},ay fm→aa H=G→Sat fm m H s→fm.R H s.heap o xo→fm.R H s.heap k xk→fm.R H s.heap v xv →
 (∀ H' s',aa H'=G'→af fm H s.heap H' s'.heap→Sat fm m H' s'→Q () s')→wpAny fm.M fm.A (setItem xo xk xv) Q E s
noncomputable def FW (G:AH) (o k v:V):Cv (SiS G o k v):=match o with
 | .ref i=>opt G[i]? fun ao e=>match ao,e with
   | .list us,e=>match k with
    | .int j=>match j with
     | .ofNat n=>wh (Nat.ble (n+1) us.length) fun h=>yes (G.set i (.list (us.set n v))) fun O g S ro rk rv q=>aj rk fun t ek=>ek ▸ IJ e h O g S ro rv q
     | _=>none
    | _=>none
   | .dI ks,e=>match k with
    | .int j=>match v with
     | .bool b=>match b with
      | true=>wh (Nat.ble (ks.length+1) big) fun h=>yes (G.set i (.dI (if ks.contains j then ks else ks++[j]))) fun O g S ro rk rv q=>aj rk fun t ek=>ek ▸ ND e h O g S ro rv q
      | _=>none
     | _=>none
    | _=>none
   | .dS ks us,e=>match k with
    | .str x=>wh (Nat.ble ks.length big) fun h=>yes (G.set i (.dS (bh x v ks us).1 (bh x v ks us).2)) fun O g S ro rk rv q=>ae rk fun t ek _=>ek ▸ NE e h O g S ro rv q
    | _=>none
   | _,_=>none
 | _=>none
noncomputable def j5 (G:AH) (o k v:V):Option AH:=(FW G o k v).v
theorem IK {H:MH}{o k v:V}{G':AH}(h:j5 (aa H) o k v=some G'):SiS (aa H) o k v G':=lK h
end
noncomputable abbrev FzS (G:AH) (i:Nat) (w:V):Prop:=∀ {fm:Fm}{m:Loc}{H:MH}{s:Shared},ay fm→aa H=G→Sat fm m H s →
 ∃ H',aa H'=G.set i .dead∧Sat fm m H' s∧af fm H s.heap H' s.heap∧∀ x,fm.R H s.heap (.ref i) x→fm.R H' s.heap w x
theorem fz {G:AH}{i:Nat}{ao:AO}{w:V}(e:G[i]? = some ao) (k:∀ {fm:Fm}{H H':MH}{h:Heap}{a:Addr}{mo:MO},mo.abs=ao→(∀ b∈mo.addrs a,fm.ok H' b∧(b==sysModules)=false)→dC fm H h a mo →
  (∀ {vs:List V}{xs:List Value},fm.RL H h vs xs→fm.RL H' h vs xs)→fm.R H' h w (.ref a)):FzS G i w:=fun {fm m H s} O g S=>by
 subst g
 obtain ⟨pre,a,mo,post,rfl,h2,h3,h4,h5⟩:=di e
 refine ar (h5 .dead rfl) fun g1 g2=>?_
 refine ar (Sat.mut (mo':=.dead) (s':=s) O S g2 (fun b hb=>nomatch hb) List.nodup_nil (fun b o _ ho=>ho) (fun conv=>trivial) rfl rfl rfl) fun S' T=>?_
 refine ⟨_,g1,S',T,fun x r=>ae r fun b hb ex=>?_⟩
 obtain rfl:=sj (h4.symm.trans hb)
 rw [ex]
 refine k h2 (fun b hb=>?_) (S.objs (a,mo) (List.mem_append_right _ (.head _))) T.repL
 have hin:b∈aW (pre++(a,mo)::post):=bm (List.mem_append_right _ (.head _)) hb
 refine ⟨⟨fun q=>?_,(S.apart b hin).2.2.1⟩,xe O S hin⟩
 rcases ax.mp q with q | q | q
 ·exact (S.apart b hin).1 q
 ·exact (S.apart b hin).2.1 q
 ·have nd:=S.nodup
  rw [ch] at nd q
  refine bW (List.nodup_append.mp nd) fun _ n2 n3=>?_
  rcases List.mem_append.mp q with q | q
  ·exact n3 b q b (List.mem_append_left _ hb) rfl
  ·exact (List.nodup_append.mp n2).2.2 b hb b q rfl
noncomputable def CR (G:AH) (i:Nat):Cv (FzS G i):=opt G[i]? fun ao e=>match ao,e with
  | .list vs,e=>yes (.lst vs) (fz e fun {fm H H' h a mo} h2 ok r conv=>by
   rw [nj h2] at ok r
   exact ae r fun xs hl r1=>⟨a,xs,rfl,(ok a (.head _)).1,hl,conv r1⟩)
  | .dS ks vs,e=>yes (.dS ks vs) (fz e fun {fm H H' h a mo} h2 ok r conv=>by
   rw [Bq h2] at ok r
   exact cz r fun xs ep hd hl r1=>⟨a,xs,ep,rfl,(ok a (.head _)).1,(ok a (.head _)).2,hd,hl,conv r1⟩)
  | .dI ks,e=>yes (.dI ks) (fz e fun {fm H H' h a mo} h2 ok r conv=>by
   rw [Bp h2] at ok r
   exact ae r fun ep hd hl=>⟨a,ep,rfl,(ok a (.head _)).1,(ok a (.head _)).2,hd,hl⟩)
  | .inst C ks vs,e=>yes (.inst C ks vs) (fz e fun {fm H H' h a mo} h2 ok r conv=>by
   refine aj (nu h2) fun d ed=>?_
   rw [ed] at ok r
   exact ar r fun h0 r=>cz r fun xs ep hd hl r1=>⟨a,d,xs,ep,rfl,(ok a (.head _)).1,(ok d (.tail _ (.head _))).1,h0,hd,hl,conv r1⟩)
  | _,_=>none
noncomputable def look (G:AH) (i:Nat):Option V:=(CR G i).v
theorem Lw {H:MH}{i:Nat}{w:V}(h:look (aa H) i=some w):FzS (aa H) i w:=lK h
noncomputable abbrev AuS (op:Operator) (a b r:V):Prop:=∀ {fm:Fm}{m:Loc}{H:MH}{s:Shared}{xa xb:Value}{Q:Value→Shared→Prop}{E:Value→Shared→Prop},Sat fm m H s→fm.R H s.heap a xa→fm.R H s.heap b xb →
 (∀ y tk,fm.R H s.heap r y→Q y { s with toks:=tk })→wpAny fm.M fm.A (inplaceOp op xa xb) Q E s
noncomputable def PT (op:Operator) (a b:V):Cv (AuS op a b):=match a with
 | .int a=>match b with
  | .int b=>match op with
   | .Add=>yes (.int (a+b)) fun S ra rb q=>aj ra fun t e=>aj rb fun u e'=>e ▸ e' ▸ iadd_int (q _ _ d7)
   | .Sub=>yes (.int (a - b)) fun S ra rb q=>aj ra fun t e=>aj rb fun u e'=>e ▸ e' ▸ isub_int (q _ _ d7)
   | _=>none
  | _=>none
 | .str a=>match b with
  | .str b=>match op with
   | .Add=>wh (Nat.ble (a.length+b.length) big) fun h=>yes (.str (a++b)) fun S ra rb q=>ae ra fun t e _=>ae rb fun u e' _=>e ▸ e' ▸ iadd_str (fun t' tk=>q _ _ (iB (by
     show (a.cps++b.cps).size≤_
     rw [Array.size_append]; exact aX h))) (bX (Nat.le_trans (aX h) (by decide)))
   | _=>none
  | _=>none
 | _=>none
noncomputable def FX (op:Operator) (a b:V):Option V:=(PT op a b).v
theorem Lx {op:Operator}{a b r:V}(h:FX op a b=some r):AuS op a b r:=lK h
end Mine
end
section
open PySem PySem.W PyProof.Rows Builtin.Str Builtin Builtin.ObjectAttr
set_option maxRecDepth 20000
set_option genSizeOf false
set_option genInjectivity false
namespace Mine
section
theorem FY {prog:Program}{w:World}(e:Value) (n:Str):e.isStr n=(PySem.strKind prog w).is n e:=by cases e <;> rfl
theorem BC {prog:Program}{w:World}{h:Heap}{d:Addr}{kvs:List (Str × Value)}{ep:Nat}(x:h.DictAt (PySem.strKind prog w) d kvs ep) (name:Str) (tk:Tok) (v:Value) :
  ∃ o es,h.get? d=some o∧o.data=.dict es ep∧es.size=kvs.length∧(aRefKeyMayBeTheName name es=false) ∧
   ∃ es' ep',(o.putName name (hashStr w name) (.str name tk) v).ExactDict∧(o.putName name (hashStr w name) (.str name tk) v).data=.dict es' ep'∧es'.size≤es.size+1∧PySem.KeysOf (PySem.strKind prog w) es' ∧
    Pairs (PySem.strKind prog w) es'.toList (PySem.stored kvs name v)∧((PySem.stored kvs name v).map (·.1)).Nodup:=by
 refine M8 x fun o es ho hex hd hk hp hn=>?_
 have hlen:es.size=kvs.length:=by rw [← hp.length]; simp
 refine ⟨o,es,ho,hd,hlen,?_,?_⟩
 ·refine ar (sW (name:=name) hp) fun _ h2=>?_
  rw [aRefKeyMayBeTheName_at]
  rw [← Array.any_toList (as:=es) (p:=(·.refKey)),h2,Bool.and_false]
 ·obtain ⟨c,dd,data,sl⟩:=o
  dsimp only at hd
  subst hd
  refine bW hex fun h1 h2 h3=>?_
  rw [Obj.putName_eq]
  unfold Obj.putNameByArray
  dsimp only
  have hf:(es.findIdx? fun e=>e.key.isStr name)=es.findIdx? fun e=>(PySem.strKind prog w).is name e.key:=by congr 1; funext e; exact FY _ _
  have hidx:(es.findIdx? fun e=>(PySem.strKind prog w).is name e.key)=kvs.findIdx? fun kv=>decide (kv.1=name):=by
   rw [← hp.findIdx name]; obtain ⟨l⟩:=es; simp
  rw [hf]
  cases hi:es.findIdx? fun e=>(PySem.strKind prog w).is name e.key with
  | some i =>
   refine ⟨_,ep,⟨h1,h2,h3⟩,rfl,by simp,hk.modify _ _,?_,?_⟩
   ·rw [PySem.stored,if_pos (any_of_findIdx_some (hidx ▸ hi))]
    have hl:(es.toList.findIdx? fun e=>(PySem.strKind prog w).is name e.key)=some i:=by rw [← hi]; obtain ⟨l⟩:=es; simp
    have:=hp.modify hn hl v
    obtain ⟨l⟩:=es
    simpa using this
   ·rw [PySem.stored,if_pos (any_of_findIdx_some (hidx ▸ hi)),keys_map_store]; exact hn
  | none =>
   have hnot:name ∉ kvs.map (·.1):=not_mem_of_findIdx_none (hidx ▸ hi)
   have hany:¬ (kvs.any fun kv=>decide (kv.1=name))=true:=by
    rw [List.any_eq_true]; rintro ⟨kv,hkv,he⟩
    exact hnot (List.mem_map.mpr ⟨kv,hkv,of_decide_eq_true he⟩)
   refine ⟨_,ep+1,⟨h1,h2,h3⟩,rfl,by simp,hk.push (k:=name) isS v,?_,?_⟩
   ·rw [PySem.stored,if_neg hany]
    have:=hp.append (k:=name) (key:=.str name tk) isS (hashStr w name) v
    simpa using this
   ·rw [PySem.stored,if_neg hany,List.map_append,List.nodup_append]
    exact ⟨hn,by simp,fun a ha b hb=>by simp at hb; rintro rfl; exact hnot (hb ▸ ha)⟩
section
variable {prog:Program}{w:World}{A:Around}{E:Value→Shared→Prop}{s:Shared}{K:Frag}{x C d:Addr}{ox:Obj}{od:Option Obj}{name:Str}{v:Value}
structure D1 (K:Frag) (C:Addr) (name:Str):Prop where
 set:findIn K (.ref C) "__setattr__"=some (some (.builtin "object.__setattr__"))
 free:findIn K (.ref C) name=some none
 cls:∃ cd,clsIn K C=some cd∧cd.hasDict=true∧cd.mro.isEmpty=false∧cd.mro.contains (.type "object")=true∧∀ self,refuseLoop self "__setattr__" cd.mro=pure ()
theorem zQ {kvs:List (Str × Value)}{ep:Nat}{Q:Unit→Shared→Prop}(hd:s.heap.DictAt (PySem.strKind prog w) d kvs ep) (hz:kvs.length≤1000)
  (q:∀ h' ep',h'.DictAt (PySem.strKind prog w) d (PySem.stored kvs name v) ep'→Heap.SameBut d s.heap h'→Q () { s with heap:=h',toks:=s.toks+1 }) :
  wpAny (model prog w) A (nsSet d name v) (fun _ s'=>wpAny (model prog w) A (lookBehind d (some (.str name 0))) Q E s') E s:=by
 obtain ⟨o,es,ho,hdd,hlen,har,es',ep',hex,hd',hsz,hk,hp,hn⟩:=BC hd name s.toks v
 unfold nsSet
 have hu:=Heap.get?_update_self (Obj.putName name (hashStr w name) (.str name s.toks) v) ho (by
  have:(Obj.putName name (hashStr w name) (.str name s.toks) v o).data=.dict es' ep':=hd'
  exact Obj.isFreed_of_dict this)
 unfold strHash
 refine wpAny_bind (wpAny_bind (wpAny_askSetting (wpAny_pure (wpAny_bind (wpAny_mkText (wpAny_bind (wpAny_loadPart ho ?_)))))))
 rw [hdd]
 dsimp only
 rw [har]
 refine wpAny_updatePart ho ?_
 refine wpAny_lookBehind hu (by rw [hd']; exact pastItsLine_dict (by rw [sizeLine_eq]; lia)) ?_
 exact q _ ep' ⟨_,es',hu,hex,hd',hk,hp,hn⟩ (Heap.SameBut.update ..)
theorem zR {tk:Tok}{R:Result→Shared→Prop}(X:K.In s.heap) (I:PySem.W.InstAt s.heap x ox C od) (Pt:D1 K C name)
  (h:∀ b,wpAny (model prog w) A.in1 (storeInOwnDict (.ref x) (.ref C) (.str name tk) name v b)
   (fun fin s'=>match fin with | .done f=>R (.ok f) s' | .again c'=>c'.quiet=true∧codeAny (model prog w) A c' R s') (fun e s'=>R (.error e) s') s) :
  codeAny (model prog w) A (.call (.builtin "object.__setattr__") ⟨[.ref x,.str name tk,v],[]⟩) R s:=by
 have SF:=PySem.F.store_object
 refine E8 Pt.cls fun cd hc hd ne hob href=>?_
 have sub:Looks (model prog w) s.heap (isInstance (.ref x) (.type "object")) true:=I.type.andThen (looks_mroIn X (by unfold mroIn; rw [hc,Option.bind_some,if_neg (by rw [ne]; decide),hob]))
 refine codeAny_call_builtin SF.slot.plain SF.entry (@check_slot (model prog w) _ _ s "object.__setattr__" "object" "__setattr__" (.ref x) [.str name tk,v] [] _ SF.kind SF.split sub (SF.args (.ref x) (.str name tk) v) ?_)
 have hm:Looks (model prog w) s.heap (mroOf (.ref C)) cd.mro:=(looks_clsIn X hc).andThen .now
 rw [osa_eq,refuse_eq]
 refine wpAny_bind (wpAny_bind (I.type.here (wpAny_bind (hm.here ?_))))
 rw [href]
 refine wpAny_pure (wpAny_bind (I.type.here (wpAny_bind ((looks_findIn X Pt.free).here (wpAny_bind ?_)))))
 exact wpAny_pure (h _)
theorem nD {Q:Unit→Shared→Prop}{kvs:List (Str × Value)}{ep:Nat}(X:K.In s.heap) (I:PySem.W.InstAt s.heap x ox C (some (⟨.type "dict",none,.dict #[] 0,#[]⟩:Obj))∨∃ od,PySem.W.InstAt s.heap x ox C (some od)) (Pt:D1 K C name) (hdx:ox.dict=some d)
  (hd:s.heap.DictAt (PySem.strKind prog w) d kvs ep) (hz:kvs.length≤1000)
  (q:∀ h' ep' tk,h'.DictAt (PySem.strKind prog w) d (PySem.stored kvs name v) ep'→Heap.SameBut d s.heap h'→Q () { s with heap:=h',toks:=tk }) :
  wpAny (model prog w) A (setAttr (.ref x) name v) Q E s:=by
 obtain ⟨od,I⟩:∃ od,PySem.W.InstAt s.heap x ox C (some od):=I.elim (fun i=>⟨_,i⟩) id
 refine set_plain X I Pt.set (zR (s:={ s with toks:=s.toks+1 }) X I Pt fun b=>?_)
 refine E8 Pt.cls fun cd hc hd' ne hob href=>?_
 obtain ⟨hx,hcl,hn,-⟩:=I
 obtain ⟨oc,odi,oda,osl⟩:=ox
 dsimp only at hcl hdx
 subst hcl hdx
 refine wpAny_bind (wpAny_pure (wpAny_bind (wpAny_bind (wpAny_loadPart hx (wpAny_bind (looks_clsIn X hc _ _ _ _ (fun _ _ e=>e) ?_))))))
 rw [hd']
 refine wpAny_pure (a:=some d) (wpAny_bind (wpAny_pure ?_))
 refine wpAny_bind ?_
 refine wpAny_mono (zQ (s:={ s with toks:=s.toks+1 }) (name:=name) (v:=v) (Q:=fun _ s'=>Q () s') hd hz fun h' ep' a b=>q h' ep' _ a b) (fun _ s' h=>?_) fun _ _ h=>h
 exact wpAny_bind (wpAny_mono h (fun _ _ z=>wpAny_pure z) fun _ _ z=>z)
theorem zS {fs:Array Value}{sl:Array (Option Value)}{Q:Unit→Shared→Prop}(X:K.In s.heap) (hx:s.heap.get? x=some ⟨.ref C,none,.fields fs,sl⟩) (Pt:D1 K C name)
  (q:∀ h' ep' tk,h'.DictAt (PySem.strKind prog w) s.heap.objs.size [(name,v)] ep'→h'.get? x=some ⟨.ref C,some s.heap.objs.size,.fields fs,sl⟩→(∀ b o,b≠x→s.heap.get? b=some o→h'.get? b=some o)→Q () { s with heap:=h',toks:=tk }) :
  wpAny (model prog w) A (setAttr (.ref x) name v) Q E s:=by
 have I:PySem.W.InstAt s.heap x ⟨.ref C,none,.fields fs,sl⟩ C none:=⟨hx,rfl,rfl,trivial⟩
 refine set_plain X I Pt.set (zR (s:={ s with toks:=s.toks+1 }) X I Pt fun b=>?_)
 refine E8 Pt.cls fun cd hc hd' ne hob href=>?_
 have hlt:x≠s.heap.objs.size:=fun q=>nS ((aV _).symm.trans (q ▸ hx))
 refine wpAny_bind (wpAny_pure (wpAny_bind (wpAny_bind (wpAny_loadPart hx (wpAny_bind (looks_clsIn X hc _ _ _ _ (fun _ _ e=>e) ?_))))))
 rw [hd']
 have body:wpAny (model prog w) A.in1 (do
   let d ← alloc { cls:=.type "dict",data:=.dict #[] }
   update x fun o=>{ o with dict:=some d }
   dictMade (.ref C) x d) (fun a s'=>wpAny (model prog w) A.in1 (match a with | some d=>storeInDict d (Value.str name s.toks) name v | none=>noDictFor (.ref x) (.ref C) name b)
    (fun fin s'=>match fin with | .done f=>(match (Except.ok f:Result) with | .ok (.ret _)=>Q () s' | .ok _=>False | .error e=>E e s') | .again c'=>c'.quiet=true∧codeAny (model prog w) A c' (fun r s'=>match r with | .ok (.ret _)=>Q () s' | .ok _=>False | .error e=>E e s') s')
    (fun e s'=>match (Except.error e:Result) with | .ok (.ret _)=>Q () s' | .ok _=>False | .error e=>E e s') s')
    (fun e s'=>match (Except.error e:Result) with | .ok (.ret _)=>Q () s' | .ok _=>False | .error e=>E e s') { s with toks:=s.toks+1 }:=by
  refine wpAny_bind (wpAny_alloc (wpAny_bind (wpAny_update (Heap.get?_push_of_some _ hx) ?_)))
  refine wpAny_pure (a:=some s.heap.objs.size) ?_
  dsimp only
  have up:=Heap.get?_update_self (fun o=>{ o with dict:=some s.heap.objs.size }) (Heap.get?_push_of_some (h:=s.heap) { cls:=.type "dict",data:=.dict #[] } hx) rfl
  have oth:∀ b,b≠x→((s.heap.push { cls:=.type "dict",data:=.dict #[] }).update x fun o=>{ o with dict:=some s.heap.objs.size }).get? b=(s.heap.push { cls:=.type "dict",data:=.dict #[] }).get? b:=fun b hb=>Heap.get?_update_ne _ _ _ _ hb
  have hd0:((s.heap.push { cls:=.type "dict",data:=.dict #[] }).update x fun o=>{ o with dict:=some s.heap.objs.size }).DictAt (PySem.strKind prog w) s.heap.objs.size [] 0 :=
   ⟨_,#[],(oth _ (fun q=>hlt q.symm)).trans (Heap.get?_push_size _ rfl),⟨rfl,rfl,rfl⟩,rfl,fun e he=>by simp at he,.nil,by simp⟩
  refine wpAny_bind (wpAny_pure (wpAny_bind ?_))
  refine wpAny_mono (zQ (s:={ s with heap:=(s.heap.push { cls:=.type "dict",data:=.dict #[] }).update x fun o=>{ o with dict:=some s.heap.objs.size },toks:=s.toks+1 }) (name:=name) (v:=v) (Q:=fun _ s'=>Q () s') hd0 (by simp) fun h' ep' a b=>?_) (fun _ s' h=>?_) fun _ _ h=>h
  ·refine q h' ep' _ (by simpa [PySem.stored] using a) ((b.2 x hlt).trans up) fun b' o hb e=>?_
   exact (b.2 b' (fun q=>nS ((aV _).symm.trans (q ▸ e)))).trans ((oth b' hb).trans (Heap.get?_push_of_some _ e))
  ·exact wpAny_bind (wpAny_mono h (fun _ _ z=>wpAny_pure z) fun _ _ z=>z)
 exact body
end
section
theorem CS {K:Frag}{C:Addr}{ga:String}(F:Fg K C ga) {n:Str}(hn:n∈aU) (h:findIn K (.ref C) "__setattr__"=some (some (.builtin "object.__setattr__")))
  (g:∃ cd,clsIn K C=some cd∧cd.mro.isEmpty=false∧cd.mro.contains (.type "object")=true∧∀ self,refuseLoop self "__setattr__" cd.mro=pure ()):D1 K C n :=
 ⟨h,F.at_ n hn,ae F.cls fun cd h1 h2=>Bd g fun cd' h3 h4 h5 h6=>⟨cd,h1,h2,(sj (h1.symm.trans h3)) ▸ ⟨h4,h5,h6⟩⟩⟩
theorem xt {K:Frag}(F:wZ K) {n:Str}(hn:n∈aU):D1 K ak n:=CS F.o hn F.so (ae F.co fun cd h1 h4=>⟨cd,h1,by cases q:cd.mro with | nil=>rw [q] at h4; exact ff h4 | cons _ _=>rfl,only_has h4,fun self=>refuse_only self h4⟩)
theorem qG {K:Frag}(F:wZ K) {n:Str}(hn:n∈aU):D1 K ai n:=CS F.r hn F.sr (ae F.cr fun cd h1 h4=>⟨cd,h1,by rw [eq_of_beq h4]; exact ⟨rfl,by decide +kernel,fun self=>by rw [refuseLoop_ref]; exact PySem.F.store_Exception.passes self⟩⟩)
end
noncomputable abbrev SaS (G:AH) (o:V) (n:Str) (v:V) (G':AH):Prop:=∀ {fm:Fm}{m:Loc}{H:MH}{s:Shared}{xo xv:Value}{Q:Unit→Shared→Prop}{E:Value→Shared→Prop},ay fm→aa H=G→Sat fm m H s→fm.R H s.heap o xo→fm.R H s.heap v xv →
 (∀ H' s',aa H'=G'→af fm H s.heap H' s'.heap→Sat fm m H' s'→Q () s')→wpAny fm.M fm.A (setAttr xo n xv) Q E s
section
variable {G:AH}{i:Nat}{n:Str}{ks:List Str}{vs:List V}{v:V}
theorem xw {fm:Fm}{m:Loc}{pre post:MH}{s:Shared}{a:Addr}{mo:MO}(S:Sat fm m (pre++(a,mo)::post) s):(mo.addrs a).Nodup:=by
 have nd:=S.nodup
 rw [ch] at nd
 exact (List.nodup_append.mp (List.nodup_append.mp nd).2.1).1
theorem IL (hn:n∈aU) (e:G[i]? = some (.inst ak ks vs)) (hl:Nat.ble ks.length 100=true):SaS G (.ref i) n v (G.set i (.inst ak (bh n v ks vs).1 (bh n v ks vs).2)):=fun {fm m H s xo xv Q E} O g S ro rv q=>by
 refine ae O.wd.cls fun K hK F=>?_
 have X:=hK.keeps S.base
 subst g
 obtain ⟨pre,a,mo,post,rfl,h2,h3,h4,h5⟩:=di e
 refine ae ro fun a' ha ex=>?_
 obtain rfl:=sj (h4.symm.trans ha)
 refine aj (nu h2) fun d ed=>?_
 subst ed ex
 refine ar (S.objs (a,.inst ak d ks vs) (List.mem_append_right _ (.head _))) fun h0 r=>cz r fun xs ep hd hlen rl=>cN (id hd) fun od es hod _=>?_
 have nd:=xw S
 have hne:a≠d:=fun q=>(List.nodup_cons.mp nd).1 (q ▸ .head _)
 refine nD X (.inr ⟨od,h0,rfl,rfl,hod⟩) (xt F hn) rfl hd (by rw [List.length_zip,← hlen,Nat.min_self]; exact Nat.le_trans (aX hl) (by decide)) fun h' ep' tk hd' hs'=>?_
 refine dA (mi (x:=n) rv hlen rl) fun ys y1 y2 y3=>?_
 rw [y1] at hd'
 refine ar (h5 (.inst ak d (bh n v ks vs).1 (bh n v ks vs).2) rfl) fun k1 k2=>?_
 refine ar (Sat.mut (mo':=.inst ak d (bh n v ks vs).1 (bh n v ks vs).2) (s':={ s with heap:=h',toks:=tk }) O S k2 (fun b hb=>.inl hb) nd
  (fun b o hb ho=>(hs'.2 b fun q=>hb (q ▸ .tail _ (.head _))).trans ho)
  (fun conv=>⟨(hs'.2 a hne).trans h0,ys,ep',hd',y2,conv y3⟩) rfl rfl rfl) fun S' T'=>q _ _ k1 T' S'
theorem Ly (hn:n∈aU) (e:G[i]? = some (.exc ks vs)) (hl:Nat.ble ks.length 100=true):SaS G (.ref i) n v (G.set i (.exc (bh n v ks vs).1 (bh n v ks vs).2)):=fun {fm m H s xo xv Q E} O g S ro rv q=>by
 refine ae O.wd.cls fun K hK F=>?_
 have X:=hK.keeps S.base
 subst g
 obtain ⟨pre,a,mo,post,rfl,h2,h3,h4,h5⟩:=di e
 refine ae ro fun a' ha ex=>?_
 obtain rfl:=sj (h4.symm.trans ha)
 refine aj (ny h2 h3) fun d ed=>?_
 subst ed ex
 refine ar (S.objs (a,.made d ks vs) (List.mem_append_right _ (.head _))) fun h0 r=>cN h0 fun fs sl h0 h1=>?_
 have nd:=xw S
 cases d with
 | some d =>
  refine cz r fun xs ep hd hlen rl=>cN (id hd) fun od es hod _=>?_
  have hne:a≠d:=fun q=>(List.nodup_cons.mp nd).1 (q ▸ .head _)
  refine nD X (.inr ⟨od,h0,rfl,rfl,hod⟩) (qG F hn) rfl hd (by rw [List.length_zip,← hlen,Nat.min_self]; exact Nat.le_trans (aX hl) (by decide)) fun h' ep' tk hd' hs'=>?_
  refine dA (mi (x:=n) rv hlen rl) fun ys y1 y2 y3=>?_
  rw [y1] at hd'
  refine ar (h5 (.made (some d) (bh n v ks vs).1 (bh n v ks vs).2) rfl) fun k1 k2=>?_
  refine ar (Sat.mut (mo':=.made (some d) (bh n v ks vs).1 (bh n v ks vs).2) (s':={ s with heap:=h',toks:=tk }) O S k2 (fun b hb=>.inl hb) nd
   (fun b o hb ho=>(hs'.2 b fun q=>hb (q ▸ .tail _ (.head _))).trans ho)
   (fun conv=>⟨⟨fs,sl,(hs'.2 a hne).trans h0,h1⟩,ys,ep',hd',y2,conv y3⟩) rfl rfl rfl) fun S' T'=>q _ _ k1 T' S'
 | none =>
  refine ar r fun z8 z9=>?_
  subst z8 z9
  have hne:a≠s.heap.objs.size:=o7 h0
  refine zS X h0 (qG F hn) fun h' ep' tk hd' hx' hk'=>?_
  refine ar (h5 (.made (some s.heap.objs.size) [n] [v]) rfl) fun k1 k2=>?_
  refine ar (Sat.mut (mo':=.made (some s.heap.objs.size) [n] [v]) (s':={ s with heap:=h',toks:=tk }) O S k2
   (fun b hb=>(List.mem_cons.mp hb).elim (fun q=>.inl (q ▸ .head _)) fun hb=>.inr (List.mem_singleton.mp hb ▸ aV _)) (List.nodup_cons.mpr ⟨fun q=>hne (List.mem_singleton.mp q),List.nodup_cons.mpr ⟨fun q=>(nomatch q),List.nodup_nil⟩⟩)
   (fun b o hb ho=>hk' b o (fun q=>hb (q ▸ .head _)) ho)
   (fun conv=>⟨⟨fs,sl,hx',h1⟩,[xv],ep',hd',rfl,conv (RepL.cons rv RepL.nil)⟩) rfl rfl rfl) fun S' T'=>q _ _ k1 T' S'
end
set_option backward.match.sparseCases false
noncomputable def NF (G:AH) (o:V) (n:Str) (v:V):Cv (SaS G o n v):=wh (aU.contains n) fun hn=>match o with
 | .ref i=>match e:G[i]? with
  | some ao=>match ao,e with
   | .inst C ks vs,e=>wh (C==ak&&Nat.ble ks.length 100) fun h=>yes (G.set i (.inst ak (bh n v ks vs).1 (bh n v ks vs).2)) (IL (List.contains_iff_mem.mp hn) (eq_of_beq (an h).1 ▸ e) (an h).2)
   | .exc ks vs,e=>wh (Nat.ble ks.length 100) fun h=>yes (G.set i (.exc (bh n v ks vs).1 (bh n v ks vs).2)) (Ly (List.contains_iff_mem.mp hn) e h)
   | _,_=>none
  | none=>none
 | _=>none
noncomputable def vK (G:AH) (o:V) (n:Str) (v:V):Option AH:=(NF G o n v).v
theorem IM {H:MH}{o v:V}{n:Str}{G':AH}(h:vK (aa H) o n v=some G'):SaS (aa H) o n v G':=lK h
end
end Mine
end
section
open PySem PySem.W PyProof.Rows Builtin.Str
set_option maxRecDepth 20000
set_option backward.match.sparseCases false
set_option genSizeOf false
set_option genInjectivity false
namespace Mine
section
inductive Res where
 | ok (v:V) | ex (ks:List Str) (vs:List V)
inductive Fl where
 | next | brk | cont | ret (v:V) | ex (ks:List Str) (vs:List V)
noncomputable abbrev LV:=List (Option V)
noncomputable abbrev FS:=List V→AH→Res→AH→Prop
noncomputable abbrev FP:=List V→Res→Prop
set_option genCtorIdx false in
inductive Tr (α:Type) where
 | ok (a:α) | no
 | aO (q:Option V) (k:V→Tr α)
 | aB (q:Option Bool) (k:Bool→Tr α)
 | aC (q:Bool) (k:Bool→Tr α)
 | aL (q:Option (List V)) (k:List V→Tr α)
 | aH (q:Option AH) (k:AH→Tr α)
 | aM (q:Option Mth) (k:Mth→Tr α)
 | aP (q:Res→Prop) (c:Option Res) (h:∀ r,c=some r→q r) (k:Res→Tr α)
 | aR (q:Res→AH→Prop) (c:Option (Res × AH)) (h:∀ r,c=some r→q r.1 r.2) (k:Res→AH→Tr α)
 | aS (q:Fl→LV→AH→Prop) (c:Option (Fl × LV × AH)) (h:∀ r,c=some r→q r.1 r.2.1 r.2.2) (k:Fl→LV→AH→Tr α)
 | aQ (q:List V→AH→Prop) (c:Option (List V × AH)) (h:∀ r,c=some r→q r.1 r.2) (k:List V→AH→Tr α)
noncomputable def Tr.tt {α:Type} (L:α→Prop):Tr α→Prop
 | .ok a=>L a
 | .no=>False
 | .aO q k=>∃ x,q=some x∧(k x).tt L
 | .aB q k=>∃ x,q=some x∧(k x).tt L
 | .aC q k=>(k q).tt L
 | .aL q k=>∃ x,q=some x∧(k x).tt L
 | .aH q k=>∃ x,q=some x∧(k x).tt L
 | .aM q k=>∃ x,q=some x∧(k x).tt L
 | .aP q _ _ k=>∃ r,q r∧(k r).tt L
 | .aR q _ _ k=>∃ r G,q r G∧(k r G).tt L
 | .aS q _ _ k=>∃ f m G,q f m G∧(k f m G).tt L
 | .aQ q _ _ k=>∃ vs G,q vs G∧(k vs G).tt L
theorem Tr.tt_mono {α:Type}{L K:α→Prop}(i:∀ a,L a→K a) (t:Tr α):t.tt L→t.tt K:=by
 induction t with
 | ok a=>exact i a
 | no=>exact id
 | aO q k ih=>exact fun ⟨x,e,h⟩=>⟨x,e,ih x h⟩
 | aB q k ih=>exact fun ⟨x,e,h⟩=>⟨x,e,ih x h⟩
 | aL q k ih=>exact fun ⟨x,e,h⟩=>⟨x,e,ih x h⟩
 | aH q k ih=>exact fun ⟨x,e,h⟩=>⟨x,e,ih x h⟩
 | aM q k ih=>exact fun ⟨x,e,h⟩=>⟨x,e,ih x h⟩
 | aC q k ih=>exact ih q
 | aP q _ _ k ih=>exact fun ⟨r,e,h⟩=>⟨r,e,ih _ h⟩
 | aR q _ _ k ih=>exact fun ⟨r,G,e,h⟩=>⟨r,G,e,ih _ _ h⟩
 | aS q _ _ k ih=>exact fun ⟨f,m,G,e,h⟩=>⟨f,m,G,e,ih _ _ _ h⟩
 | aQ q _ _ k ih=>exact fun ⟨r,G,e,h⟩=>⟨r,G,e,ih _ _ h⟩
noncomputable def Tr.rn {α:Type}:Tr α→Option α
 | .ok a=>some a
 | .no=>none
 | .aO q k=>q.bind fun x=>(k x).rn
 | .aB q k=>q.bind fun x=>(k x).rn
 | .aC q k=>(k q).rn
 | .aL q k=>q.bind fun x=>(k x).rn
 | .aH q k=>q.bind fun x=>(k x).rn
 | .aM q k=>q.bind fun x=>(k x).rn
 | .aP _ c _ k=>c.bind fun x=>(k x).rn
 | .aR _ c _ k=>c.bind fun x=>(k x.1 x.2).rn
 | .aS _ c _ k=>c.bind fun x=>(k x.1 x.2.1 x.2.2).rn
 | .aQ _ c _ k=>c.bind fun x=>(k x.1 x.2).rn
theorem Tr.rn_ok {α:Type}{L:α→Prop}{a:α}(l:L a) (t:Tr α):t.rn=some a→t.tt L:=by
 induction t with
 | ok b=>exact fun e=>sj e ▸ l
 | no=>exact fun e=>nS e
 | aO q k ih=>exact fun e=>cD e fun x e h=>⟨x,e,ih x h⟩
 | aB q k ih=>exact fun e=>cD e fun x e h=>⟨x,e,ih x h⟩
 | aL q k ih=>exact fun e=>cD e fun x e h=>⟨x,e,ih x h⟩
 | aH q k ih=>exact fun e=>cD e fun x e h=>⟨x,e,ih x h⟩
 | aM q k ih=>exact fun e=>cD e fun x e h=>⟨x,e,ih x h⟩
 | aC q k ih=>exact ih q
 | aP q c g k ih=>exact fun e=>cD e fun x e h=>⟨x,g _ e,ih x h⟩
 | aR q c g k ih=>exact fun e=>cD e fun x e h=>⟨x.1,x.2,g _ e,ih _ _ h⟩
 | aS q c g k ih=>exact fun e=>cD e fun x e h=>⟨x.1,x.2.1,x.2.2,g _ e,ih _ _ _ h⟩
 | aQ q c g k ih=>exact fun e=>cD e fun x e h=>⟨x.1,x.2,g _ e,ih _ _ h⟩
noncomputable def gI:List Str→Str→Nat
 | [],_=>0
 | y::l,x=>cif (cU y x) 0 (gI l x+1)
noncomputable def sY:List Str→Str→Bool
 | [],_=>false
 | y::l,x=>cif (cU y x) true (sY l x)
structure PC (f:FP) where
 c:List V→Option Res
 h:∀ vs r,c vs=some r→f vs r
structure HC (f:FS) where
 c:List V→AH→Option (Res × AH)
 h:∀ vs G r,c vs G=some r→f vs G r.1 r.2
set_option genCtorIdx false in
inductive FK where
 | h (f:FS) (c:HC f) | p (f:FP) (c:PC f) | r (f:FS) (c:HC f) | o (f:FS) (c:HC f)
structure Cx where
 names:List Str
 kinds:List (Str × NameKind)
 fns:List (Str × FK)
 mv:List Str
noncomputable def lkF:List (Str × FK)→Str→Option FK
 | [],_=>none
 | (y,f)::l,x=>cif (cU y x) (some f) (lkF l x)
noncomputable def ba (m:LV) (i:Nat):Option V:=(m[i]?).join
noncomputable def FZ:V→Option Bool
 | .str _=>some true
 | .int _=>some false
 | _=>Option.none
noncomputable def bw:List Nat→List V→LV→Option LV
 | [],[],m=>some m
 | i::is,v::vs,m=>bw is vs (m.set i (some v))
 | _,_,_=>none
noncomputable def rU:V→Option (List V)
 | .tup vs=>some vs
 | _=>none
noncomputable def vL (G:AH):V→Bool
 | .ref i=>match G[i]? with
  | some (.exc _ _)=>true
  | _=>false
 | _=>false
noncomputable def IN (G:AH) (v:V):Option (Nat × List Str × List V):=match v with
 | .ref i=>match G[i]? with
  | some a=>match a with
   | .exc ks us=>cif ks.isEmpty none (some (i,ks,us))
   | _=>none
  | none=>none
 | _=>none
noncomputable def nE (G:AH) (u:V) (f:List V→List V→Option (List V)) (vs:List V):Option AH:=match u with
 | .ref i=>match G[i]? with
  | some o=>match o with
   | .list us=>match f us vs with
    | some ws=>some (G.set i (.list ws))
    | none=>none
   | _=>none
  | none=>none
 | _=>none
set_option genCtorIdx false in
inductive Vw where
 | const (c:Const) | name (y:Str) | bin (l:Expr) (op:Operator) (r:Expr) | un (op:UnaryOp) (a:Expr) | bop (op:BoolOp) (es:List Expr)
 | cmp (l:Expr) (ops:List CmpOp) (rs:List Expr) | ife (t a b:Expr) | sub (o s:Expr) | att (o:Expr) (n:Str) | tup (es:List Expr) | lst (es:List Expr)
 | dict (ks:List (Option Expr)) (vs:List Expr) | comp (e:Expr) (gs:List Comprehension) (sc:Scope) | call (f:Expr) (args:List Expr) | slice (l u s:Option Expr) | no
noncomputable def vw:Expr→Vw
 | .Constant c _ _=>.const c
 | .Name y _=>.name y
 | .BinOp l op r _=>.bin l op r
 | .UnaryOp op a _=>.un op a
 | .BoolOp op es _=>.bop op es
 | .Compare l ops rs _=>.cmp l ops rs
 | .IfExp t a b _=>.ife t a b
 | .Subscript o s _=>.sub o s
 | .Attribute o n _=>.att o n
 | .Tuple es _ _=>.tup es
 | .List es _=>.lst es
 | .Dict ks vs _=>.dict ks vs
 | .ListComp e gs sc _=>.comp e gs sc
 | .Call f args _ _=>.call f args
 | .Slice l u s _=>.slice l u s
 | _=>.no
noncomputable abbrev XT (α:Type):=List Str→List V→AH→Tr α
noncomputable abbrev ET:=∀ α:Type,LV→AH→(V→AH→Tr α)→XT α→Tr α
noncomputable abbrev SM:=∀ α:Type,LV→AH→(Fl→LV→AH→Tr α)→Tr α
section
variable {α:Type}
noncomputable def evF (v:V) (G:AH) (k:V→AH→Tr α):Tr α:=match v with
 | .ref i=>.aO (look G i) fun w=>k w (G.set i .dead)
 | v=>k v G
noncomputable def zT (k:V→AH→Tr α) (x:XT α):Res→AH→Tr α
 | .ok v,G=>k v G
 | .ex ks us,G=>x ks us G
noncomputable def noX:XT α:=fun _ _ _=>.no
noncomputable def tst (k:Bool→AH→Tr α):V→AH→Tr α:=fun v G=>.aB (mf G v) fun b=>.aC b fun b=>k b G
noncomputable def Ky:BoolOp→Bool
 | .And=>true
 | .Or=>false
noncomputable def evL (ev:Expr→ET):List Expr→LV→AH→(List V→AH→Tr α)→XT α→Tr α
 | [],_,G,k,_=>k [] G
 | e::r,m,G,k,x=>ev e α m G (fun v G=>evL ev r m G (fun vs G=>k (v::vs) G) x) x
noncomputable def evA (ev:Expr→ET) (op:BoolOp):List Expr→LV→AH→(V→AH→Tr α)→XT α→Tr α
 | [],_,_,_,_=>.no
 | [e],m,G,k,x=>ev e α m G k x
 | e::r,m,G,k,x=>ev e α m G (fun v G=>.aB (mf G v) fun b=>.aC b fun b=>cif (b==Ky op) (evA ev op r m G k x) (k v G)) x
noncomputable def evP (ev:Expr→ET) (e:Option Expr) (m:LV) (G:AH) (k:Option V→AH→Tr α) (x:XT α):Tr α:=match e with
 | none=>k none G
 | some e=>ev e α m G (fun v G=>k (some v) G) x
noncomputable def evX (cx:Cx) (ev:Expr→ET) (e:Expr) (m:LV) (G:AH) (k:V→AH→Tr α) (x:XT α):Tr α:=match vw e with
 | .name y=>cif (sY cx.mv y) (ev e α m G (fun v G=>evF v G k) x) (ev e α m G k x)
 | _=>ev e α m G k x
noncomputable def xx (e:Expr):Option Str:=match vw e with
 | .const c=>match c with
  | .str s=>some s
  | _=>none
 | _=>none
noncomputable def bi (e:Expr):Str:=match vw e with
 | .name y=>y
 | _=>⟨⟨[]⟩⟩
noncomputable def gc:List (Option Expr)→List Expr→Option (List Str × List Str)
 | [],[]=>some ([],[])
 | some e::es,f::fs=>(xx e).bind fun a=>(xx f).bind fun b=>(gc es fs).map fun p=>(a::p.1,b::p.2)
 | _,_=>none
noncomputable def qH:List (Str × NameKind)→List Str
 | []=>[]
 | (x,.free)::l=>x::qH l
 | _::l=>qH l
noncomputable def o8 (kinds:List (Str × NameKind)) (scope:Scope):List (Str × NameKind) :=
 scope.names.map fun (n,k)=>if (k==.free&&true&&kinds.lookup n==some .cell) then (n,.cell) else (n,k)
noncomputable def Cx.inner (cx:Cx) (x:Str) (scope:Scope):Cx:={ cx with names:=x::qH scope.names,kinds:=o8 cx.kinds scope,mv:=[] }
noncomputable def IO (cx:Cx) (scope:Scope) (m:LV):LV:=(qH scope.names).map fun x=>ba m (gI cx.names x)
noncomputable def zU (ev:Cx→Expr→ET) (cx:Cx) (elt t:Expr) (ifs:List Expr) (scope:Scope) (m:LV) (y:V) (G:AH):Tr (Option V × AH) :=
 let fin:=fun G=>ev (cx.inner (bi t) scope) elt (Option V × AH) (some y::IO cx scope m) G (fun v G=>.ok (some v,G)) noX
 match ifs with
 | []=>fin G
 | c::_=>ev (cx.inner (bi t) scope) c _ (some y::IO cx scope m) G (tst fun b G=>cif b (fin G) (.ok (none,G))) noX
noncomputable def cQ (E:V→AH→Tr (Option V × AH)):List V→AH→List V→AH→Prop
 | [],G,vs,G'=>vs=[]∧G'=G
 | y::ys,G,vs,G'=>(E y G).tt fun p=>match p.1 with
  | none=>cQ E ys p.2 vs G'
  | some v=>∃ us,vs=v::us∧cQ E ys p.2 us G'
noncomputable def cmE (E:V→AH→Tr (Option V × AH)):List V→AH→Option (List V × AH)
 | [],G=>some ([],G)
 | y::ys,G=>(E y G).rn.bind fun p=>match p.1 with
  | none=>cmE E ys p.2
  | some v=>(cmE E ys p.2).bind fun q=>some (v::q.1,q.2)
theorem BD {E:V→AH→Tr (Option V × AH)}:∀ (xs:List V) (G:AH) (r:List V × AH),cmE E xs G=some r→cQ E xs G r.1 r.2
 | [],G,r,e=>sj e ▸ ⟨rfl,rfl⟩
 | y::ys,G,r,e=>cD e fun p e h=>Tr.rn_ok (a:=p) (by
   obtain ⟨_ | v,G1⟩:=p
   ·exact BD ys G1 r h
   ·exact cD h fun q e h=>⟨q.1,sj h ▸ rfl,sj h ▸ BD ys G1 q e⟩) _ e
noncomputable def F0:List Str:=[⟨⟨[108,101,110]⟩⟩,⟨⟨[111,114,100]⟩⟩,⟨⟨[115,116,114]⟩⟩,⟨⟨[114,97,110,103,101]⟩⟩,⟨⟨[109,105,110]⟩⟩,⟨⟨[109,97,120]⟩⟩,⟨⟨[115,117,109]⟩⟩,⟨⟨[115,111,114,116,101,100]⟩⟩]
noncomputable def aI:Str:=⟨⟨[105,115,105,110,115,116,97,110,99,101]⟩⟩
noncomputable def sZ:Str:=⟨⟨[115,116,114]⟩⟩
noncomputable def xy:Str:=⟨⟨[69,120,99,101,112,116,105,111,110]⟩⟩
noncomputable def qI:Str:=⟨⟨[95,95,105,110,105,116,95,95]⟩⟩
noncomputable def uW (o:Option FK) (cx:Cx) (ev:Expr→ET) (g:Str) (args:List Expr) (m:LV) (G:AH) (k:V→AH→Tr α) (x:XT α):Tr α:=match o with
 | some (.h f c)=>evL ev args m G (fun vs G=>.aR (f vs G) (c.c vs G) (c.h vs G) (zT k x)) x
 | some (.p f c)=>evL (fun e _=>evX cx ev e) args m G (fun vs G=>.aP (f vs) (c.c vs) (c.h vs) fun r=>zT k x r G) x
 | some (.r f c)=>evL ev args m G (fun vs G=>.aR (f (.ref G.length::vs) (G++[.exc [] []])) (c.c (.ref G.length::vs) (G++[.exc [] []])) (c.h _ _) (zT (fun u G'=>.aC (bg u) fun c=>cif c (k (.ref G.length) G') .no) x)) x
 | some (.o f c)=>cif args.isEmpty (.aR (f [.ref G.length] (G++[.inst ak [] []])) (c.c [.ref G.length] (G++[.inst ak [] []])) (c.h _ _) (zT (fun u G'=>.aC (bg u) fun c=>cif c (k (.ref G.length) G') .no) x)) .no
 | none=>cif (cU g aI) (match args with
   | [a,_]=>ev a α m G (fun v G=>.aB (FZ v) fun b=>k (.bool b) G) x
   | _=>.no) (cif (sY F0 g) (evL ev args m G (fun vs G=>.aO (nA G g vs) fun v=>k v G) x) .no)
noncomputable abbrev evN (cx:Cx) (ev:Expr→ET) (g:Str) (args:List Expr) (m:LV) (G:AH) (k:V→AH→Tr α) (x:XT α):Tr α:=uW (lkF cx.fns g) cx ev g args m G k x
noncomputable def evM (cx:Cx) (ev:Expr→ET) (o:Expr) (n:Str) (args:List Expr) (m:LV) (G:AH) (k':V→AH→Tr α) (x:XT α):Tr α :=
 cif (cU n qI) (match args with
  | [a,b]=>ev a α m G (fun u G=>ev b α m G (fun _ G=>.aC (vL G u) fun c=>cif c (k' .none G) .no) x) x
  | _=>.no)
 (ev o α m G (fun u G=>.aM (Iz G u n) fun k=>cif k.mut (evL ev args m G (fun vs G=>.aH (nE G u (o0 k) vs) fun G=>k' .none G) x)
   (evL (fun e _=>evX cx ev e) args m G (fun vs G=>.aO (eQ k u vs) fun v=>k' v G) x)) x)
noncomputable def NG (ev:Cx→Expr→ET) (cx:Cx) (e:Expr):ET:=fun α m G k x=>match vw e with
 | .const c=>match c with
  | .none=>k .none G
  | .bool b=>k (.bool b) G
  | .int i=>k (.int i) G
  | .str s=>k (.str s) G
  | _=>.no
 | .name y=>.aO (ba m (gI cx.names y)) fun v=>k v G
 | .bin l op r=>ev cx l α m G (fun a G=>ev cx r α m G (fun b G=>.aO (cA op a b) fun v=>k v G) x) x
 | .un op a=>ev cx a α m G (fun a G=>.aO (unV G op a) fun v=>k v G) x
 | .bop op es=>evA (ev cx) op es m G k x
 | .cmp l ops rs=>match ops,rs with
  | o::ops,r::rs=>ev cx l α m G (fun a G=>ev cx r α m G (fun b G=>.aB (aF G o a b) fun t=>match ops,rs with
   | o₂::_,s::_=>.aC t fun t=>cif t (ev cx s α m G (fun c G=>.aB (aF G o₂ b c) fun t=>k (.bool t) G) x) (k (.bool false) G)
   | _,_=>k (.bool t) G) x) x
  | _,_=>.no
 | .ife t a b=>ev cx t α m G (tst fun c G=>cif c (ev cx a α m G k x) (ev cx b α m G k x)) x
 | .sub o s=>match vw s with
  | .slice l u st=>evX cx (ev cx) o m G (fun a G=>evP (ev cx) l m G (fun l G=>evP (ev cx) u m G (fun u G=>evP (ev cx) st m G (fun st G=>.aO (bG a l u st) fun v=>k v G) x) x) x) x
  | _=>ev cx o α m G (fun a G=>ev cx s α m G (fun b G=>.aO (aG G a b) fun v=>k v G) x) x
 | .att o n=>ev cx o α m G (fun a G=>.aO (FJ G n a) fun v=>k v G) x
 | .tup es=>evL (ev cx) es m G (fun vs G=>k (.tup vs) G) x
 | .lst es=>evL (ev cx) es m G (fun vs G=>k (.lst vs) G) x
 | .dict ks vs=>match gc ks vs with
  | some (ks,vs)=>k (.dS ks (vs.map .str)) G
  | none=>.no
 | .comp e gs sc=>match gs with
  | g::_=>evX cx (ev cx) g.iter m G (fun v G=>.aL (lT v) fun xs=>.aQ (cQ (zU ev cx e g.target g.ifs sc m) xs G) (cmE (zU ev cx e g.target g.ifs sc m) xs G) (BD xs G) fun vs G=>k (.lst vs) G) x
  | _=>.no
 | .call f args=>match vw f with
  | .name g=>evN cx (ev cx) g args m G k x
  | .att o n=>evM cx (ev cx) o n args m G k x
  | _=>.no
 | _=>.no
end
noncomputable def evE:Nat→Cx→Expr→ET
 | 0,_,_,_,_,_,_,_=>.no
 | n+1,cx,e,α,m,G,k,x=>NG (evE n) cx e α m G k x
noncomputable abbrev ev (cx:Cx) (e:Expr):ET:=evE 24 cx e
noncomputable abbrev Rd:=Fl × LV × AH
noncomputable def aft (next:LV→AH→Fl→LV→AH→Prop) (p:Rd) (f:Fl) (m:LV) (G:AH):Prop:=match p.1 with
 | .next=>next p.2.1 p.2.2 f m G
 | .cont=>next p.2.1 p.2.2 f m G
 | .brk=>f=.next∧m=p.2.1∧G=p.2.2
 | g=>f=g∧m=[]∧G=p.2.2
noncomputable def whl (R:LV→AH→Tr Rd):Nat→LV→AH→Fl→LV→AH→Prop
 | 0,_,_,_,_,_=>False
 | k+1,m,G,f,m',G'=>(R m G).tt fun p=>aft (whl R k) p f m' G'
noncomputable def Wh (R:LV→AH→Tr Rd) (m:LV) (G:AH) (f:Fl) (m':LV) (G':AH):Prop:=∃ j,whl R j m G f m' G'
noncomputable def flr (S:V→LV→Option LV) (B:LV→AH→Tr Rd):List V→LV→AH→Fl→LV→AH→Prop
 | [],m,G,f,m',G'=>f=.next∧m'=m∧G'=G
 | v::vs,m,G,f,m',G'=>∃ m1,S v m=some m1∧(B m1 G).tt fun p=>aft (flr S B vs) p f m' G'
noncomputable def afE (next:LV→AH→Option Rd) (p:Rd):Option Rd:=match p.1 with
 | .next=>next p.2.1 p.2.2
 | .cont=>next p.2.1 p.2.2
 | .brk=>some (.next,p.2.1,p.2.2)
 | g=>some (g,[],p.2.2)
theorem F1 {N:LV→AH→Fl→LV→AH→Prop}{next:LV→AH→Option Rd}(h:∀ m G r,next m G=some r→N m G r.1 r.2.1 r.2.2) (p r:Rd) (e:afE next p=some r):aft N p r.1 r.2.1 r.2.2:=by
 obtain ⟨f,m,G⟩:=p
 cases f with
 | next=>exact h _ _ _ e
 | cont=>exact h _ _ _ e
 | _=>obtain rfl:=sj e; exact ⟨rfl,rfl,rfl⟩
noncomputable def whE (R:LV→AH→Tr Rd):Nat→LV→AH→Option Rd
 | 0,_,_=>none
 | k+1,m,G=>(R m G).rn.bind (afE (whE R k))
theorem F2 {R:LV→AH→Tr Rd}:∀ (k:Nat) (m:LV) (G:AH) (r:Rd),whE R k m G=some r→whl R k m G r.1 r.2.1 r.2.2
 | 0,_,_,_,e=>nS e
 | k+1,m,G,r,e=>cD e fun p e h=>Tr.rn_ok (a:=p) (F1 (F2 k) p r h) _ e
noncomputable def flE (S:V→LV→Option LV) (B:LV→AH→Tr Rd):List V→LV→AH→Option Rd
 | [],m,G=>some (.next,m,G)
 | v::vs,m,G=>(S v m).bind fun m1=>(B m1 G).rn.bind (afE (flE S B vs))
theorem F3 {S:V→LV→Option LV}{B:LV→AH→Tr Rd}:∀ (xs:List V) (m:LV) (G:AH) (r:Rd),flE S B xs m G=some r→flr S B xs m G r.1 r.2.1 r.2.2
 | [],_,_,_,e=>sj e ▸ ⟨rfl,rfl,rfl⟩
 | v::vs,m,G,r,e=>cD e fun m1 e1 e=>⟨m1,e1,cD e fun p e h=>Tr.rn_ok (a:=p) (F1 (F3 vs) p r h) _ e⟩
noncomputable abbrev WN:Nat:=200
section
variable {α:Type}
noncomputable def exS (k:Fl→LV→AH→Tr α):XT α:=fun ks us G=>k (.ex ks us) [] G
noncomputable def evB (evs:Stmt→SM):List Stmt→LV→AH→(Fl→LV→AH→Tr α)→Tr α
 | [],m,G,k=>k .next m G
 | s::r,m,G,k=>evs s α m G fun f m G=>match f with
  | .next=>evB evs r m G k
  | f=>k f m G
noncomputable def rnd (cx:Cx) (evs:Stmt→SM) (t:Expr) (b:List Stmt) (m:LV) (G:AH):Tr Rd :=
 ev cx t Rd m G (tst fun c G=>cif c (evB evs b m G fun f m G=>.ok (f,m,G)) (.ok (.brk,m,G))) fun ks us G=>.ok (.ex ks us,[],G)
noncomputable def bod (evs:Stmt→SM) (b:List Stmt) (m:LV) (G:AH):Tr Rd:=evB evs b m G fun f m G=>.ok (f,m,G)
noncomputable def nG (cx:Cx):List Expr→List Nat
 | e::l=>gI cx.names (bi e)::nG cx l
 | []=>[]
noncomputable def xz (cx:Cx) (t:Expr) (v:V) (m:LV):Option LV:=match vw t with
 | .name y=>some (m.set (gI cx.names y) (some v))
 | .tup ts=>(rU v).bind fun vs=>bw (nG cx ts) vs m
 | _=>none
noncomputable def F4 (e:Expr):Bool:=match vw e with
 | .lst _=>true
 | _=>false
noncomputable def zV (e:Expr):List Expr:=match vw e with
 | .lst es=>es
 | _=>[]
noncomputable def dE (e:Expr):Bool:=match vw e with
 | .dict ks _=>ks.isEmpty
 | _=>false
noncomputable def evR (cx:Cx) (y:Str) (e:Expr) (m:LV) (G:AH) (k:V→AH→Tr α) (x:XT α):Tr α :=
 cif (F4 e&&sY cx.mv y) (evL (ev cx) (zV e) m G (fun vs G=>k (.ref G.length) (G++[.list vs])) x) (cif (dE e) (k (.ref G.length) (G++[.dI []])) (evX cx (ev cx) e m G k x))
noncomputable def IP (cx:Cx):List Expr→List Expr→LV→AH→(List V→AH→Tr α)→XT α→Tr α
 | t::ts,es,m,G,k,x=>match es with
  | e::es=>evR cx (bi t) e m G (fun v G=>IP cx ts es m G (fun vs G=>k (v::vs) G) x) x
  | []=>.no
 | [],es,m,G,k,_=>cif es.isEmpty (k [] G) .no
noncomputable def lU (y:Str) (ks:List Str) (us:List V):List Expr→Option (List V)
 | []=>some []
 | e::r=>(match vw e with
  | .att o n=>cif (cU y (bi o)&&aU.contains n) ((ks.zip us).lookup n) none
  | _=>(xx e).map .str).bind fun v=>(lU y ks us r).map (v::·)
noncomputable def F5 (b:List Stmt):Option Expr:=match b with
 | s::_=>match s with
  | .Return e _=>e
  | _=>none
 | []=>none
noncomputable def hdl (hs:List ExceptHandler):Str × List Stmt:=match hs with
 | h::_=>match h with
  | .ExceptHandler _ y b _=>(y.getD ⟨⟨[]⟩⟩,b)
 | []=>(⟨⟨[]⟩⟩,[])
noncomputable def evH (hs:List ExceptHandler) (k:Fl→LV→AH→Tr α):XT α:=fun ks us G=>match ((F5 (hdl hs).2).bind fun e=>match vw e with
 | .tup xs=>lU (hdl hs).1 ks us xs
 | _=>none) with
 | some ws=>k (.ret (.tup ws)) [] G
 | none=>.no
noncomputable def Lz:Str:=⟨⟨[]⟩⟩
noncomputable def NH (evs:Cx→Stmt→SM) (cx:Cx) (s:Stmt):SM:=fun α m G k=>match s with
 | .Return e _=>match e with
  | none=>k (.ret .none) m G
  | some e=>evR cx Lz e m G (fun v G=>k (.ret v) m G) (exS k)
 | .Expr e _=>ev cx e α m G (fun v G=>.aC (bg v) fun c=>cif c (k .next m G) .no) (exS k)
 | .Assign ts e _=>match ts with
  | t::_=>match vw t with
   | .name y=>evR cx y e m G (fun v G=>k .next (m.set (gI cx.names y) (some v)) G) (exS k)
   | .tup ys=>match vw e with
    | .tup es=>IP cx ys es m G (fun vs G=>match bw (nG cx ys) vs m with
     | some m=>k .next m G
     | none=>.no) (exS k)
    | _=>ev cx e α m G (fun v G=>.aL (rU v) fun vs=>match bw (nG cx ys) vs m with
     | some m=>k .next m G
     | none=>.no) (exS k)
   | .sub o i=>ev cx e α m G (fun v G=>ev cx o α m G (fun a G=>ev cx i α m G (fun b G=>.aH (j5 G a b v) fun G=>k .next m G) (exS k)) (exS k)) (exS k)
   | .att o n=>let st:=fun v G=>ev cx o α m G (fun a G=>.aH (vK G a n v) fun G=>k .next m G) (exS k)
    match vw e with
    | .dict ks _=>cif ks.isEmpty (st (.ref G.length) (G++[.dS [] []])) .no
    | _=>ev cx e α m G st (exS k)
   | _=>.no
  | _=>.no
 | .AugAssign t op e _=>.aO (ba m (gI cx.names (bi t))) fun a=>ev cx e α m G (fun b G=>.aO (FX op a b) fun v=>k .next (m.set (gI cx.names (bi t)) (some v)) G) (exS k)
 | .If t a b _=>ev cx t α m G (tst fun c G=>cif c (evB (evs cx) a m G k) (evB (evs cx) b m G k)) (exS k)
 | .While t b _ _=>.aS (Wh (rnd cx (evs cx) t b) m G) (whE (rnd cx (evs cx) t b) WN m G) (fun r e=>⟨WN,F2 WN m G r e⟩) k
 | .For t it b _ _=>evX cx (ev cx) it m G (fun v G=>.aL (match vw t with
  | .name _=>lT v
  | _=>FV v) fun xs=>.aS (flr (xz cx t) (bod (evs cx) b) xs m G) (flE (xz cx t) (bod (evs cx) b) xs m G) (F3 xs m G) k) (exS k)
 | .Raise e _ _=>match e with
  | some e=>ev cx e α m G (fun v G=>match IN G v with
   | some p=>k (.ex p.2.1 p.2.2) [] (G.set p.1 .dead)
   | none=>.no) (exS k)
  | none=>.no
 | .Try b hs _ _ _=>match F5 b with
  | some e=>ev cx e α m G (fun v G=>k (.ret v) m G) (evH hs k)
  | none=>evB (evs cx) b m G fun f m G=>match f with
   | .ex _ _=>.no
   | f=>k f m G
 | .Pass _=>k .next m G
 | .Break _=>k .brk m G
 | .Continue _=>k .cont m G
 | _=>.no
end
noncomputable def evS:Nat→Cx→Stmt→SM
 | 0,_,_,_,_,_,_=>.no
 | n+1,cx,s,α,m,G,k=>NH (evS n) cx s α m G k
structure Fd where
 names:List Str
 np:Nat
 body:List Stmt
 dfl:List V
 kinds:List (Str × NameKind)
noncomputable def frm (d:Fd) (vs:List V):LV:=(vs++d.dfl.drop (vs.length+d.dfl.length - d.np)).map some++List.replicate (d.names.length - d.np) none
noncomputable def bo (d:Fd) (vs:List V):Bool:=Nat.ble vs.length d.np&&Nat.ble d.np (vs.length+d.dfl.length)
noncomputable abbrev SN:Nat:=8
noncomputable def fnT (cx:Cx) (d:Fd) (vs:List V) (G:AH):Tr (Fl × AH):=evB (evS SN cx) d.body (frm d vs) G fun f _ G=>.ok (f,G)
noncomputable def F6 (p:Fl × AH) (r:Res) (G':AH):Prop:=match p.1 with
 | .ret v=>r=.ok v∧G'=p.2
 | .next=>r=.ok .none∧G'=p.2
 | .ex ks us=>r=.ex ks us∧G'=p.2
 | _=>False
noncomputable def i7 (G:AH):V→V
 | .ref i=>match G[i]? with
  | some (.list vs)=>.lst vs
  | some (.dS ks vs)=>.dS ks vs
  | some (.dI ks)=>.dI ks
  | _=>.ref i
 | v=>v
noncomputable def xA (th:Bool) (G:AH):V→V
 | .ref i=>match G[i]? with
  | some (.list vs)=>.lst vs
  | some (.dS ks vs)=>.dS ks vs
  | some (.dI ks)=>.dI ks
  | some (.inst C ks vs)=>.inst C ks (vs.map (i7 G))
  | _=>.ref i
 | .tup vs=>.tup (cif th (vs.map (i7 G)) vs)
 | v=>v
noncomputable def Res.pu:Res→Bool
 | .ok v=>v.pu
 | .ex _ us=>V.puL us
noncomputable def fH (th:Bool) (r:Res) (p:Fl × AH):Prop:=match p.1 with
 | .ret v=>Res.ok (xA th p.2 v)=r
 | .next=>Res.ok .none=r
 | .ex ks us=>Res.ex ks us=r
 | _=>False
noncomputable def aY (d:Fd) (fns:List (Str × FK)) (mv:List Str):Cx:=⟨d.names,d.kinds,fns,mv⟩
noncomputable def fnH (cx:Cx) (d:Fd):FS:=fun vs G r G'=>bo d vs=true∧(fnT cx d vs G).tt fun p=>F6 p r G'
noncomputable def fnP (th:Bool) (cx:Cx) (d:Fd):FP:=fun vs r=>r.pu=true∧(V.puL vs&&bo d vs)=true∧(fnT cx d vs []).tt (fH th r)
noncomputable def PU (p:Fl × AH):Option (Res × AH):=match p.1 with
 | .ret v=>some (.ok v,p.2)
 | .next=>some (.ok .none,p.2)
 | .ex ks us=>some (.ex ks us,p.2)
 | _=>none
noncomputable def PW (th:Bool) (p:Fl × AH):Option Res:=match p.1 with
 | .ret v=>some (.ok (xA th p.2 v))
 | .next=>some (.ok .none)
 | .ex ks us=>some (.ex ks us)
 | _=>none
noncomputable def NI (cx:Cx) (d:Fd) (vs:List V) (G:AH):Option (Res × AH):=wh (bo d vs) fun _=>(fnT cx d vs G).rn.bind PU
noncomputable def xD (th:Bool) (cx:Cx) (d:Fd) (vs:List V):Option Res:=wh (V.puL vs&&bo d vs) fun _=>((fnT cx d vs []).rn.bind (PW th)).bind fun r=>wh r.pu fun _=>some r
theorem IQ {cx:Cx}{d:Fd}(vs:List V) (G:AH) (r:Res × AH) (e:NI cx d vs G=some r):fnH cx d vs G r.1 r.2:=zl e fun h e=>⟨h,cD e fun p e h=>Tr.rn_ok (a:=p) (by
 obtain ⟨f,G1⟩:=p
 cases f with
 | ret v=>exact sj h ▸ ⟨rfl,rfl⟩
 | next=>exact sj h ▸ ⟨rfl,rfl⟩
 | ex ks us=>exact sj h ▸ ⟨rfl,rfl⟩
 | _=>exact nS h) _ e⟩
theorem CT {th:Bool}{cx:Cx}{d:Fd}(vs:List V) (r:Res) (e:xD th cx d vs=some r):fnP th cx d vs r:=zl e fun h e=>cD e fun q e2 h2=>zl h2 fun hp h2=>by
 obtain rfl:=sj h2
 exact ⟨hp,h,cD e2 fun p e3 h3=>Tr.rn_ok (a:=p) (by
  obtain ⟨f,G1⟩:=p
  cases f with
  | ret v=>exact sj h3
  | next=>exact sj h3
  | ex ks us=>exact sj h3
  | _=>exact nS h3) _ e3⟩
noncomputable def pcP (th:Bool) (cx:Cx) (d:Fd):PC (fnP th cx d):=⟨xD th cx d,CT⟩
noncomputable def pcH (cx:Cx) (d:Fd):HC (fnH cx d):=⟨NI cx d,IQ⟩
noncomputable def xE:List (Str × NameKind)→List Str
 | []=>[]
 | (x,.local)::l=>x::xE l
 | (x,.cell)::l=>x::xE l
 | _::l=>xE l
noncomputable def aZ (s:Stmt) (dfl:List V):Fd:=match s with
 | .FunctionDef _ args body _ _ _ scope _ _ _=>⟨xE scope.names,args.args.length,body,dfl,scope.names⟩
 | _=>⟨[],0,[],[],[]⟩
end
end Mine
end
section
open PySem PySem.W PyProof.Rows Builtin.Str
set_option maxRecDepth 20000
set_option genSizeOf false
set_option genInjectivity false
namespace Mine
section
theorem s5 {a:Addr}:[a].Nodup:=List.nodup_cons.mpr ⟨List.not_mem_nil,List.nodup_nil⟩
section
variable {fm:Fm}{m:Loc}{H:MH}{Q:QV}{QE:QX}{s:Shared}{QB:Bool→MH→Prop}{l r t o:Expr}{pos p:Pos}
theorem LA (O:ay fm) (hu:fm.A.units<9000) {op:CmpOp}(hm:behindInMarks op r=false)
  (h:EW fm l m H (fun va H1=>EW fm r m H1 (fun vb H2=>∃ b,aF (aa H2) op va vb=some b∧Q (.bool b) H2) QE) QE):EW fm (.Compare l [op] [r] pos) m H Q QE:=fun s S=>by
 rw [eval_Compare1,markedBehindIn_of_false hm]
 exact wpAny_bind (wpAny_mono (h s S) (fun xa s1 p=>p.el fun va H1 T1 S1 r1 q1=>wpAny_bind (wpAny_holding (wpAny_mono (q1 s1 S1) (fun xb s2 p=>p.el fun vb H2 T2 S2 r2 q=>ae q fun b e q =>
  wpAny_bind (wpAny_standAt (wpAny_operate' (oU e O hu rfl S2 (T2.rep r1) r2 _ _ fun tk=>(aK S2 g7 q).back (T1.trans T2))))) fun _ _ p=>p.back T1))) fun _ _ p=>p)
theorem LB (O:ay fm) (hu:fm.A.units<9000) {op:CmpOp}(hm:behindInMarks op r=false)
  (h:EW fm l m H (fun va H1=>EW fm r m H1 (fun vb H2=>∃ b,aF (aa H2) op va vb=some b∧QB b H2) QE) QE):TW fm (.Compare l [op] [r] pos) m H QB QE:=fun s S=>by
 rw [isTrue_Compare1,markedBehindIn_of_false hm]
 exact wpAny_bind (wpAny_mono (h s S) (fun xa s1 p=>p.el fun va H1 T1 S1 r1 q1=>wpAny_bind (wpAny_holding (wpAny_mono (q1 s1 S1) (fun xb s2 p=>p.el fun vb H2 T2 S2 r2 q=>ae q fun b e q =>
  wpAny_bind (wpAny_standAt (wpAny_bind (wpAny_operate' (oU e O hu rfl S2 (T2.rep r1) r2 _ _ fun tk=>wpAny_holding (wpAny_truthy_bool ⟨H2,T1.trans T2,S2.toks tk,q⟩)))))) fun _ _ p=>p.back T1))) fun _ _ p=>p)
theorem vM {o₂:CmpOp}(h:behindInMarks o₂ t=false):lastMarks [o₂] [t]=false:=by simpa [lastMarks] using h
theorem IR (O:ay fm) (hu:fm.A.units<9000) {o₁ o₂:CmpOp}(hm:behindInMarks o₂ t=false)
  (h:EW fm l m H (fun va H1=>EW fm r m H1 (fun vb H2=>∃ b,aF (aa H2) o₁ va vb=some b∧(b=true→EW fm t m H2 (fun vc H3=>∃ b,aF (aa H3) o₂ vb vc=some b∧Q (.bool b) H3) QE)∧(b=false→Q (.bool false) H2)) QE) QE) :
  EW fm (.Compare l [o₁,o₂] [r,t] pos) m H Q QE:=fun s S =>
 Compare_chain (rs:=[]) (wpAny_mono (h s S) (fun xa s1 p=>p.el fun va H1 T1 S1 r1 q1=>chain_link (wpAny_mono (q1 s1 S1) (fun xb s2 p=>p.el fun vb H2 T2 S2 r2 q=>ae q fun b e q=>oU e O hu rfl S2 (T2.rep r1) r2 _ _ fun tk=>wpAny_truthy_bool (by
  cases b with
  | false=>exact (aK S2 g7 (q.2 rfl)).back (T1.trans T2)
  | true=>exact chain_last (wpAny_mono (q.1 rfl _ (S2.toks tk)) (fun xc s3 p=>p.el fun vc H3 T3 S3 r3 q=>ae q fun b e q=>oU e O hu rfl S3 (T3.rep r2) r3 _ _ fun tk=>(aK S3 g7 q).back ((T1.trans T2).trans T3)) fun _ _ p=>p.back (T1.trans T2)))) fun _ _ p=>p.back T1)) fun _ _ p=>p) (vM hm)
theorem IS (O:ay fm) (hu:fm.A.units<9000) {o₁ o₂:CmpOp}(hm:behindInMarks o₂ t=false)
  (h:EW fm l m H (fun va H1=>EW fm r m H1 (fun vb H2=>∃ b,aF (aa H2) o₁ va vb=some b∧(b=true→EW fm t m H2 (fun vc H3=>∃ b,aF (aa H3) o₂ vb vc=some b∧QB b H3) QE)∧(b=false→QB false H2)) QE) QE) :
  TW fm (.Compare l [o₁,o₂] [r,t] pos) m H QB QE:=fun s S =>
 isTrue_chain (rs:=[]) (wpAny_mono (h s S) (fun xa s1 p=>p.el fun va H1 T1 S1 r1 q1=>test_link (wpAny_mono (q1 s1 S1) (fun xb s2 p=>p.el fun vb H2 T2 S2 r2 q=>ae q fun b e q=>oU e O hu rfl S2 (T2.rep r1) r2 _ _ fun tk=>wpAny_truthy_bool (by
  cases b with
  | false=>exact ⟨H2,T1.trans T2,S2.toks tk,q.2 rfl⟩
  | true=>exact test_last (wpAny_mono (q.1 rfl _ (S2.toks tk)) (fun xc s3 p=>p.el fun vc H3 T3 S3 r3 q=>ae q fun b e q=>oU e O hu rfl S3 (T3.rep r2) r3 _ _ fun tk=>wpAny_truthy_bool ⟨H3,(T1.trans T2).trans T3,S3.toks tk,q⟩) fun _ _ p=>p.back (T1.trans T2)))) fun _ _ p=>p.back T1)) fun _ _ p=>p) (vM hm)
theorem IT (O:ay fm) (hs:hG r=true)
  (h:EW fm l m H (fun va H1=>EW fm r m H1 (fun vb H2=>∃ r,aG (aa H2) va vb=some r∧Q r H2) QE) QE):EW fm (.Subscript l r pos) m H Q QE:=fun s S =>
 Subscript_ (wpAny_mono (h s S) (fun xa s1 p=>p.el fun va H1 T1 S1 r1 q1=>wpAny_mono (q1 s1 S1) (fun xb s2 p=>p.el fun vb H2 T2 S2 r2 q=>ae q fun r e q =>
  wpAny_mono (Iq (QE:=QE) O hs e S2 (T2.rep r1) r2 q) (fun _ _ p=>p.back (T1.trans T2)) fun _ _ p=>p.back (T1.trans T2)) fun _ _ p=>p.back T1) fun _ _ p=>p)
theorem IU (O:ay fm) {n:Str}
  (he:eval (.Attribute o n pos) fm.env=(do let x ← eval o fm.env; standAt pos.atName; let r ← holding [x] (getAttr x n true); letTemporaryGo o x r; pure r))
  (h:EW fm o m H (fun va H1=>∃ r,FJ (aa H1) n va=some r∧Q r H1) QE):EW fm (.Attribute o n pos) m H Q QE:=fun s S =>
 Attribute_any_ (wpAny_mono (h s S) (fun xa s1 p=>p.el fun va H1 T1 S1 r1 q=>ae q fun r e q=>wpAny_mono (Iv (QE:=QE) e O rfl S1 r1 q) (fun _ _ p=>p.back T1) fun _ _ p=>p.back T1) fun _ _ p=>p) he
theorem few {n:Nat}(h:n≤1000):n≤big:=Nat.le_trans h (by decide)
theorem F7 {es:List Expr}{k:Nat}(h:LW fm pos es m H (fun vs H1=>vs.length≤1000∧Q (.tup vs) H1) QE):EW fm (.Tuple es k pos) m H Q QE:=fun s S =>
 wpAny_Tuple (wpAny_mono (h s S) (fun xs s1 p=>p.el fun vs H1 T1 S1 r1 q=>ar q fun hl q=>⟨bX (Nat.le_trans (r1.length ▸ hl) (by decide)),(me (by rw [List.size_toArray,← r1.length]; exact few hl) S1 r1 q).back T1⟩) fun _ _ p=>p)
theorem LC {es:List Expr}(h:LW fm pos es m H (fun vs H1=>vs.length≤1000∧Q (.lst vs) H1) QE):EW fm (.List es pos) m H Q QE:=fun s S =>
 wpAny_List (wpAny_mono (h s S) (fun xs s1 p=>p.el fun vs H1 T1 S1 r1 q=>ar q fun hl q=>⟨bX (Nat.le_trans (r1.length ▸ hl) (by decide)),(iD (by rw [List.size_toArray,← r1.length]; exact few hl) S1 r1 q).back T1⟩) fun _ _ p=>p)
theorem BE {h:Heap}:∀ b∈[h.objs.size],h.get? b=none:=fun b hb=>List.mem_singleton.mp hb ▸ aV h
theorem IV (O:ay fm) {es:List Expr}(h:LW fm pos es m H (fun vs H1=>vs.length≤1000∧∀ H',aa H'=aa H1++[.list vs]→Q (.ref (aa H1).length) H') QE):EW fm (.List es pos) m H Q QE:=fun s S =>
 wpAny_List (wpAny_mono (h s S) (fun xs s1 p=>p.el fun vs H1 T1 S1 r1 q=>ar q fun hl q=>⟨bX (Nat.le_trans (r1.length ▸ hl) (by decide)),PV.back T1 (xm (mo:=.list vs) O S1 rfl BE s5 (fun b o e=>Heap.get?_push_of_some _ e)
  (fun conv=>⟨_,⟨by rw [List.size_toArray,← r1.length]; exact few hl,0,Heap.get?_push_size _ rfl⟩,conv r1⟩) rfl rfl rfl rfl q)⟩) fun _ _ p=>p)
theorem NJ (O:ay fm) (q:∀ H',aa H'=aa H++[.dI []]→Q (.ref (aa H).length) H'):EW fm (.Dict [] [] pos) m H Q QE:=fun s S =>
 wpAny_Dict_empty (xm (mo:=.dI []) O S rfl BE s5 (fun b o e=>Heap.get?_push_of_some _ e)
  (fun conv=>aj (Heap.DictOf.new (knd:=intKind fm.prog fm.w) s.heap).dictAt fun ep h=>⟨ep,h,Nat.zero_le _⟩) rfl rfl rfl rfl q)
theorem NK (O:ay fm) (q:∀ H',aa H'=aa H++[.dS [] []]→Q (.ref (aa H).length) H'):EW fm (.Dict [] [] pos) m H Q QE:=fun s S =>
 wpAny_Dict_empty (xm (mo:=.dS [] []) O S rfl BE s5 (fun b o e=>Heap.get?_push_of_some _ e)
  (fun conv=>aj (Heap.DictOf.new (knd:=strKind fm.prog fm.w) s.heap).dictAt fun ep h=>⟨[],ep,h,rfl,.nil⟩) rfl rfl rfl rfl q)
noncomputable def EP (fm:Fm) (x:Option Expr) (m:Loc) (H:MH) (Q:Option V→MH→Prop) (QE:QX):Prop :=
 ∀ s,Sat fm m H s→wpAny fm.M fm.A (evalPart x fm.env) (fun xv s'=>∃ v H',af fm H s.heap H' s'.heap∧Sat fm m H' s'∧qB fm H' s'.heap v xv∧Q v H') (PX fm m H s.heap QE) s
theorem IW {Q:Option V→MH→Prop}(q:Q none H):EP fm none m H Q QE:=fun s S=>wpAny_pure ⟨none,H,af.refl ..,S,.inl ⟨rfl,rfl⟩,q⟩
theorem IX {Q:Option V→MH→Prop}{e:Expr}(h:EW fm e m H (fun v H'=>Q (some v) H') QE):EP fm (some e) m H Q QE:=fun s S =>
 wpAny_mono (h s S) (fun _ _ ⟨v,H',a,b,c,d⟩=>⟨some v,H',a,b,.inr ⟨v,rfl,c⟩,d⟩) fun _ _ p=>p
theorem IY {l u st:Option Expr}{x i:Value}:∃ ops,subscripted (.Slice l u st p) false x i=operate ops (getItem x i):=by
 cases st with
 | none=>exact ⟨_,rfl⟩
 | some _=>exact ⟨_,rfl⟩
theorem F8 {l u st:Option Expr}
  (h:EW fm o m H (fun va H1=>EP fm l m H1 (fun vl H2=>EP fm u m H2 (fun vu H3=>EP fm st m H3 (fun vs H4=>∃ r,bG va vl vu vs=some r∧Q r H4) QE) QE) QE) QE) :
  EW fm (.Subscript o (.Slice l u st p) pos) m H Q QE:=fun s S =>
 Subscript_ (wpAny_mono (h s S) (fun xa s1 q=>q.el fun va H1 T1 S1 r1 q1=>wpAny_Slice (wpAny_mono (q1 s1 S1) (fun xl s2 q=>cP q fun vl H2 T2 S2 r2 q2=>wpAny_mono (q2 s2 S2) (fun xu s3 q=>cP q fun vu H3 T3 S3 r3 q3=>wpAny_mono (q3 s3 S3) (fun xs s4 q=>by
  obtain ⟨vs,H4,T4,S4,r4,r,e,q⟩:=q
  have kp:∀ b o,s4.heap.get? b=some o→(s4.heap.push { cls:=.type "slice",data:=.fields #[xl,xu,xs] }).get? b=some o:=fun b o e=>Heap.get?_push_of_some _ e
  have T5:af fm H4 s4.heap H4 (s4.heap.push { cls:=.type "slice",data:=.fields #[xl,xu,xs] }):=af.of_keeps kp
  have Tall:=((((T1.trans T2).trans T3).trans T4).trans T5)
  refine aj (IY (l:=l) (u:=u) (st:=st) (p:=p) (x:=xa) (i:=.ref s4.heap.objs.size)) fun ops hop=>?_
  exact wpAny_mono (FH (QE:=QE) e hop (S4.push _) ((((T2.trans T3).trans T4).trans T5).rep r1) ⟨_,Heap.get?_push_size _ rfl,rfl,rfl⟩ (r2.keep ((T3.trans T4).trans T5)) (r3.keep (T4.trans T5)) (r4.keep T5) q) (fun _ _ q=>q.back Tall) fun _ _ q=>q.back Tall)
  fun _ _ q=>q.back ((T1.trans T2).trans T3)) fun _ _ q=>q.back (T1.trans T2)) fun _ _ q=>q.back T1)) fun _ _ q=>q)
theorem vN {e:Expr}{a:Str}(h:xx e=some a):∃ k p,e=.Constant (.str a) k p:=by
 cases e <;> first | exact nS h | skip
 rename_i c k p
 cases c <;> first | exact nS h | exact ⟨k,p,by rw [sj h]⟩
theorem s6 {A:Around}{E:Value→Shared→Prop}:∀ {es:List (Option Expr)}{fs:List Expr}{kv:List Str × List Str}{s:Shared}{P:List (Value × Value)→Shared→Prop},gc es fs=some kv→kv.2.all (fun x=>Nat.ble x.length big)=true →
  (∀ ps kvs tk xs,Carries (strKind fm.prog fm.w) ps kvs→kvs=kv.1.zip xs→kv.1.length=xs.length→ps.length=kv.1.length→(∀ H h,fm.RL H h (kv.2.map .str) xs)→P ps { s with toks:=tk }) →
  wpAny fm.M A (evalPairs (pairTrees es fs fm.env pos)) P E s
 | [],[],kv,s,P,h,hz,q=>by
  obtain rfl:=sj h
  exact pairTrees_nil_walk (q [] [] s.toks [] trivial rfl rfl rfl fun _ _=>RepL.nil)
 | some e::es,f::fs,kv,s,P,h,hz,q=>cD h fun a ha h=>cD h fun b hb h=>gj h fun p hp ep=>by
  subst ep
  have hz:=an (show (Nat.ble b.length big&&p.2.all (fun x=>Nat.ble x.length big))=true from hz)
  refine sq (vN ha) fun k p ee=>sq (vN hb) fun k' p' ef=>?_
  subst ee ef
  exact pairTrees_cons_walk (wpAny_Constant_str (wpAny_Constant_str (s6 hp hz.2 fun ps kvs tk xs hc hk hl hp hr =>
   q _ ((_,.str _ _)::kvs) tk (.str _ _::xs) ⟨isS,rfl,hc⟩ (congrArg (List.cons _) hk) (congrArg (·+1) hl) (congrArg (·+1) hp) fun H h=>RepL.cons (iB (aX hz.1)) (hr H h))))
 | none::_,_,_,_,_,h,_,_=>by unfold gc at h; exact nS h
 | some _::_,[],_,_,_,h,_,_=>nS h
 | [],_::_,_,_,_,h,_,_=>nS h
theorem nH:∀ {es:List (Option Expr)}{fs:List Expr}{kv:List Str × List Str},gc es fs=some kv→es.all (·.isSome)=true∧es.length=fs.length∧es.length=kv.1.length
 | [],[],kv,h=>(sj h) ▸ ⟨rfl,rfl,rfl⟩
 | some e::es,f::fs,kv,h=>cD h fun a ha h=>cD h fun b hb h=>gj h fun p hp ep=>ep ▸ bW (nH hp) fun h1 h2 h3=>⟨h1,(congrArg (·+1) h2:_+1=_+1),(congrArg (·+1) h3:_+1=_+1)⟩
 | none::_,_,_,h=>by unfold gc at h; exact nS h
 | some _::_,[],_,h=>nS h
 | [],_::_,_,h=>nS h
theorem zW (O:ay fm) (S:Sat fm m H s):(s.heap.objs.size==sysModules)=false:=aj O.wd.sysm fun o ho=>beq_eq_false_iff_ne.mpr fun e=>o7 (S.base _ _ ho) e.symm
theorem F9 (O:ay fm) {kv:List Str × List Str}{e:Option Expr}{es:List (Option Expr)}{fs:List Expr}(hd:gc (e::es) fs=some kv) (hz:kv.2.all (fun x=>Nat.ble x.length big)=true) (hn:decide kv.1.Nodup=true) (hlen:Nat.ble kv.1.length 15=true)
  (q:Q (.dS kv.1 (kv.2.map .str)) H):EW fm (.Dict (e::es) fs pos) m H Q QE:=fun s S=>by
 refine bW (nH hd) fun k1 k2 k3=>?_
 refine wpAny_Dict_walk (knd:=strKind fm.prog fm.w) k1 k2 nofun (by rw [k3]; exact aX hlen) (s6 hd hz fun ps kvs tk xs hc hk hl hp hr=>⟨kvs,hc,Heap.DictOf.new s.heap,fun h' hd' hs'=>?_⟩)
 have keys:kvs.map (·.1)=kv.1:=by rw [hk,List.map_fst_zip (Nat.le_of_eq hl)]
 rw [merged_nil_of_nodup kvs (by rw [keys]; exact of_decide_eq_true hn)] at hd'
 refine aj hd'.dictAt fun ep hd'=>?_
 exact dD (v:=.dS kv.1 (kv.2.map .str)) S (fun b o e=>hs'.extBut b o (o7 e) (Heap.get?_push_of_some _ e)) rfl rfl rfl ⟨_,xs,ep,rfl,S.fresh_ok (aV _),zW O S,hk ▸ hd',hl,hr H h'⟩ q
theorem Ga (O:ay fm) {p':Pos}(hk:fm.env.kindOf aI=some .globalImplicit) (hk':fm.env.kindOf sZ=some .globalImplicit) (hs:bb [l]=true)
  (h:EW fm l m H (fun v H1=>∃ b,FZ v=some b∧Q (.bool b) H1) QE):EW fm (.Call (.Name aI p) [l,.Name sZ p'] [] pos) m H Q QE:=by
 have n1:gy fm aI (.builtin "isinstance"):=jq O (by decide +kernel) (by decide +kernel) nofun hk (by decide +kernel)
 have n2:gy fm sZ (.type "str"):=jq O (by decide +kernel) (by decide +kernel) nofun hk' (by decide +kernel)
 have hs2:bb [l,.Name sZ p']=true:=by cases l <;> first | exact ff hs | rfl
 refine sR n1 hs2 fun s S=>wpAny_items_cons (wpAny_mono (h s S) (fun xa s1 p=>p.el fun v H1 T1 S1 r1 q=>ae q fun b e hq=>wpAny_items_cons (n2.read m H1 s1 _ _ _ S1 (wpAny_items_nil ⟨S1.base,?_⟩)) rfl) fun _ _ p=>p) ((cu hs2).2 _)
 cases v with
 | str z=>exact ae r1 fun t ex _=>ex ▸ IsiPair.str_str ((gb S1 g7 (show Q (.bool true) H1 from sj e ▸ hq)).back T1)
 | int z=>exact aj r1 fun t ex=>ex ▸ IsiPair.int_str ((aK S1 g7 (show Q (.bool false) H1 from sj e ▸ hq)).back T1)
 | _=>exact nS e
end
end
end Mine
end
section
open PySem PySem.W PyProof.Rows Builtin.Str
set_option maxRecDepth 20000
set_option backward.match.sparseCases false
set_option genSizeOf false
set_option genInjectivity false
namespace Mine
section
noncomputable def Cx.isVar (cx:Cx) (x:Str):Bool:=(cx.names[gI cx.names x]?==some x&&(cx.kinds.lookup x==some .local||cx.kinds.lookup x==some .cell))&&!(x==("__debug__":Str))
noncomputable def Cx.isGlob (cx:Cx) (x:Str):Bool:=cx.kinds.lookup x==some .globalImplicit&&!(x==("__debug__":Str))
noncomputable abbrev d9 (n:Nat) (F:Fn) (f:FS):Prop:=∀ vs H r G',f vs (aa H) r G'→j3 n F.addr vs H (fun v H'=>r=.ok v∧aa H'=G') (fun ks us H'=>r=.ex ks us∧aa H'=G')
noncomputable abbrev aw (n:Nat) (F:Fn) (f:FP):Prop:=∀ vs H r,f vs r→j3 n F.addr vs H (fun v H'=>r=.ok v∧aa H'=aa H) (fun ks us H'=>r=.ex ks us∧aa H'=aa H)
noncomputable def uX (n:Nat) (g:Str):FK→Prop
 | .h f _=>∃ F,F∈TAB∧F.name=g∧d9 n F f
 | .p f _=>∃ F,F∈TAB∧F.name=g∧aw n F f
 | .r f _=>g="Raised"∧d9 n av f
 | .o f _=>g="Options"∧d9 n au f
structure Cn (fm:Fm) (cx:Cx) (n:Nat):Prop where
 O:ay fm
 names:fm.names=cx.names
 kinds:fm.env.scope.names=cx.kinds
 room:qy n fm.A
 hh:fm.A.handled=none
 fns:∀ g k,lkF cx.fns g=some k→uX n g k
 cells:∀ x:Str,fm.env.kindOf x=some .cell→∃ c,fm.env.cells.lookup x=some c
section
variable {fm:Fm}{cx:Cx}{n k:Nat}
theorem Cn.kindOf (C:Cn fm cx n) (x:Str):fm.env.kindOf x=cx.kinds.lookup x:=by unfold Env.kindOf; rw [C.kinds]
theorem Cn.hu (C:Cn fm cx n):fm.A.units<9000:=Nat.lt_of_le_of_lt (Nat.le_trans (Nat.le_add_right _ (16*n+8)) (Nat.le_of_lt C.room.2)) (by decide)
noncomputable abbrev KQ {α:Type} (L:α→Prop) (K:V→AH→Tr α) (Q:QV):Prop:=∀ v H',(K v (aa H')).tt L→Q v H'
noncomputable abbrev KB {α:Type} (L:α→Prop) (K:V→AH→Tr α) (Q:Bool→MH→Prop):Prop:=∀ v H',(K v (aa H')).tt L→∃ b,mf (aa H') v=some b∧Q b H'
noncomputable abbrev KX {α:Type} (L:α→Prop) (X:XT α) (QE:QX):Prop:=∀ ks us H',(X ks us (aa H')).tt L→QE ks us H'
noncomputable abbrev s7 (fm:Fm) (g:ET) (e:Expr):Prop:=∀ {α:Type}{L:α→Prop}{m:LV}{H:MH}{K:V→AH→Tr α}{X:XT α}{Q:QV}{QE:QX},(g α m (aa H) K X).tt L→KQ L K Q→KX L X QE→EW fm e (ba m) H Q QE
noncomputable abbrev PY (fm:Fm) (g:ET) (e:Expr):Prop:=∀ {α:Type}{L:α→Prop}{m:LV}{H:MH}{K:V→AH→Tr α}{X:XT α}{Q:Bool→MH→Prop}{QE:QX},(g α m (aa H) K X).tt L→KB L K Q→KX L X QE→TW fm e (ba m) H Q QE
structure PZ (fm:Fm) (g:ET) (e:Expr):Prop where
 a:s7 fm g e
 t:PY fm g e
noncomputable abbrev PE (n:Nat) (cx:Cx) (k:Nat) (e:Expr):Prop:=∀ fm,Cn fm cx n→PZ fm (evE k cx e) e
theorem PE.of {e:Expr}(he:∀ fm:Fm,isTrue e fm.env (eval e fm.env)=(do let v ← eval e fm.env; standAt e.pos; holding [v] (truthy v))) (h:∀ fm,Cn fm cx n→s7 fm (evE k cx e) e):PE n cx k e :=
 fun fm C=>⟨h fm C,fun h0 q x=>Ld (he fm) (h fm C h0 (fun v H' hv=>ae (q v H' hv) fun b hb z=>⟨b,sS C.O hb,z⟩) x)⟩
structure PLs (n:Nat) (cx:Cx) (k:Nat) (es:List Expr):Prop where
 star:bb es=true
 all:∀ e∈es,PE n cx k e
theorem vO {x:Expr}{xs:List Expr}(h0:bb [x]=true) (h:bb xs=true):bb (x::xs)=true:=by
 cases x <;> first | exact ff h0 | exact h
theorem PLs.nil:PLs n cx k []:=⟨rfl,nofun⟩
theorem PLs.cons {x:Expr}{xs:List Expr}(h0:bb [x]=true) (h:PE n cx k x) (h1:PLs n cx k xs):PLs n cx k (x::xs):=⟨vO h0 h1.star,fun e he=>(List.mem_cons.mp he).elim (fun q=>q ▸ h) (h1.all e)⟩
theorem lV {α:Type}{L:α→Prop}{g:Expr→ET}{pos:Pos}{X:XT α}{QE:QX}(qx:KX L X QE) {m:LV}:∀ {es:List Expr}{H:MH}{K:List V→AH→Tr α}{QL:List V→MH→Prop},bb es=true→(∀ e∈es,s7 fm (g e) e)→(evL g es m (aa H) K X).tt L →
  (∀ vs H',vs.length=es.length→(K vs (aa H')).tt L→QL vs H')→LW fm pos es (ba m) H QL QE
 | [],_,_,_,_,_,h,q=>Bm (q _ _ rfl h)
 | e::r,_,_,_,hs,hg,h,q=>rR ((cu hs).2 _) (hg e (.head _) h (fun v H1 h1=>lV qx (cu hs).1 (fun e he=>hg e (.tail _ he)) h1 fun vs H2 hl h2=>q (v::vs) H2 (congrArg (·+1) hl) h2) qx)
theorem NL {α:Type}{L:α→Prop}{m:Loc}{H:MH}{s:Shared}{K:V→AH→Tr α}{Q:QV}{v:V}{x:Value}(O:ay fm) (h:(evF v (aa H) K).tt L) (q:KQ L K Q) (S:Sat fm m H s) (r:fm.R H s.heap v x):PV fm m H s.heap Q x s:=by
 cases v with
 | ref i =>
  refine ae h fun w hw hk=>Bd (Lw hw O rfl S) fun H' g S' T hr=>⟨w,H',T,S',hr x r,q _ _ (by rw [g]; exact hk)⟩
 | _=>exact gb S r (q _ _ h)
theorem vP {e:Expr}(C:Cn fm cx n) (h:s7 fm (evE k cx e) e):s7 fm (fun α=>evX (α:=α) cx (evE k cx) e) e:=fun {α L m H K X Q QE} h0 q x=>by
 have e0:evX cx (evE k cx) e m (aa H) K X=evE k cx e α m (aa H) (fun v G=>evF v G K) X∨evX cx (evE k cx) e m (aa H) K X=evE k cx e α m (aa H) K X:=by
  unfold evX
  cases vw e with
  | name y =>
   show cif _ _ _=_∨cif _ _ _=_
   cases sY cx.mv y with
   | true=>exact .inl rfl
   | false=>exact .inr rfl
  | _=>exact .inr rfl
 rcases e0 with e0 | e0
 ·have h0:(evX cx (evE k cx) e m (aa H) K X).tt L:=h0
  rw [e0] at h0
  exact fun s S=>wpAny_mono (h h0 (fun v H1 h1=>h1) x s S) (fun y s1 p=>p.el fun v H1 T1 S1 r1 q1=>(NL C.O q1 q S1 r1).back T1) fun _ _ p=>p
 ·have h0:(evX cx (evE k cx) e m (aa H) K X).tt L:=h0
  rw [e0] at h0
  exact h h0 q x
theorem PLs.g {es:List Expr}(h:PLs n cx k es) (C:Cn fm cx n):∀ e∈es,s7 fm (evE k cx e) e:=fun e he=>(h.all e he fm C).a
theorem PLs.x {es:List Expr}(h:PLs n cx k es) (C:Cn fm cx n):∀ e∈es,s7 fm (fun α=>evX (α:=α) cx (evE k cx) e) e:=fun e he=>vP C (h.all e he fm C).a
theorem IZ {a pos}:PE n cx (k+1) (.Constant .none a pos):=.of (fun _=>rfl) fun fm C _ _ _ _ _ _ _ _ h q _=>Il (q _ _ h)
theorem I0 {b a pos}:PE n cx (k+1) (.Constant (.bool b) a pos):=.of (fun _=>rfl) fun fm C _ _ _ _ _ _ _ _ h q _=>Im (q _ _ h)
theorem LD {b a pos}:PE n cx (k+1) (.Constant (.int b) a pos):=.of (fun _=>rfl) fun fm C _ _ _ _ _ _ _ _ h q _=>K5 (q _ _ h)
theorem LF {b a pos} (hl:Nat.ble b.length big=true):PE n cx (k+1) (.Constant (.str b) a pos):=.of (fun _=>rfl) fun fm C _ _ _ _ _ _ _ _ h q _=>K6 (aX hl) (q _ _ h)
theorem nt {b:Bool}(h:(!b)=true):b=false:=by cases b <;> first | rfl | exact ff h
theorem gZ {x:Str}(h:cx.isVar x=true):cx.names[gI cx.names x]? = some x∧(cx.kinds.lookup x=some .local∨cx.kinds.lookup x=some .cell)∧(x==("__debug__":Str))=false :=
 ⟨eq_of_beq (an (an h).1).1,(Bool.or_eq_true_iff.mp (an (an h).1).2).imp eq_of_beq eq_of_beq,nt (an h).2⟩
theorem bj {x:Str}(C:Cn fm cx n) (h:cx.isGlob x=true):fm.env.kindOf x=some .globalImplicit∧(x==("__debug__":Str))=false:=⟨(C.kindOf x).trans (eq_of_beq (an h).1),nt (an h).2⟩
theorem I1 {y:Str}{pos:Pos}(hy:cx.isVar y=true):PE n cx (k+1) (.Name y pos) :=
 .of (fun _=>rfl) fun fm C _ _ _ _ _ _ _ _ h q _=>ae h fun v hv hk=>K7 C.O (C.names ▸ (gZ hy).1) (C.kindOf y ▸ (gZ hy).2.1) (gZ hy).2.2 hv (q _ _ hk)
variable {l r t o:Expr}{pos p apos:Pos}
theorem LG {op} (h1:PE n cx k l) (h2:PE n cx k r):PE n cx (k+1) (.BinOp l op r pos) :=
 .of (fun _=>rfl) fun fm C _ _ _ _ _ _ _ _ h q x=>K8 ((h1 fm C).a h (fun va H1 h=>(h2 fm C).a h (fun vb H2 h s xa xb S ra rb=>ae h fun v hv hk=>Le hv S ra rb (q _ _ hk)) x) x)
theorem nI {G:AH}{b b':Bool}(h:mf G (.bool b)=some b'):b'=b:=(sj h).symm
theorem LH {G:AH}{a v:V}(h:unV G .Not a=some v):∃ b,mf G a=some b∧v=.bool (!b):=by
 unfold unV unC at h
 unfold mf
 cases e:FD G a with
 | none=>rw [e] at h; exact nS h
 | some b=>rw [e] at h; exact ⟨b.1,rfl,(sj h).symm⟩
theorem NM {op} (h1:PE n cx k l):PE n cx (k+1) (.UnaryOp op l pos):=by
 have z:∀ op fm,Cn fm cx n→s7 fm (evE (k+1) cx (.UnaryOp op l pos)) (.UnaryOp op l pos):=fun op fm C _ _ _ _ _ _ _ _ h q x =>
  No ((h1 fm C).a h (fun va H1 h s xa S ra=>ae h fun v hv hk=>Nq (fm:=fm) hv C.O rfl S ra (q _ _ hk)) x)
 cases op with
 | Not=>exact fun fm C=>⟨z _ fm C,fun h q x=>Lb ((h1 fm C).t h (fun va H1 h=>ae h fun v hv hk=>ae (LH hv) fun b hb e=>⟨b,hb,ae (q _ _ hk) fun b' hb' hq=>by
   subst e
   exact nI hb' ▸ hq⟩) x)⟩
 | _=>exact .of (fun _=>rfl) (z _)
theorem LI {op} (hm:behindInMarks op r=false) (h1:PE n cx k l) (h2:PE n cx k r):PE n cx (k+1) (.Compare l [op] [r] pos):=fun fm C =>
 ⟨fun h q x=>LA C.O C.hu hm ((h1 fm C).a h (fun va H1 h=>(h2 fm C).a h (fun vb H2 h=>ae h fun b hb hk=>⟨b,hb,q _ _ hk⟩) x) x),
  fun h q x=>LB C.O C.hu hm ((h1 fm C).a h (fun va H1 h=>(h2 fm C).a h (fun vb H2 h=>ae h fun b hb hk=>⟨b,hb,ae (q _ _ hk) fun b' hb' hq=>nI hb' ▸ hq⟩) x) x)⟩
theorem I2 {o₁ o₂} (hm:behindInMarks o₂ t=false) (h1:PE n cx k l) (h2:PE n cx k r) (h3:PE n cx k t):PE n cx (k+1) (.Compare l [o₁,o₂] [r,t] pos):=fun fm C =>
 ⟨fun h q x=>IR C.O C.hu hm ((h1 fm C).a h (fun va H1 h=>(h2 fm C).a h (fun vb H2 h=>ae h fun b hb hk=>⟨b,hb,fun e=>by subst e; exact (h3 fm C).a hk (fun vc H3 h=>ae h fun b hb hk=>⟨b,hb,q _ _ hk⟩) x,fun e=>by subst e; exact q _ _ hk⟩) x) x),
  fun h q x=>IS C.O C.hu hm ((h1 fm C).a h (fun va H1 h=>(h2 fm C).a h (fun vb H2 h=>ae h fun b hb hk=>⟨b,hb,fun e=>by subst e; exact (h3 fm C).a hk (fun vc H3 h=>ae h fun b hb hk=>⟨b,hb,ae (q _ _ hk) fun b' hb' hq=>nI hb' ▸ hq⟩) x,fun e=>by
   subst e; exact ae (q _ _ hk) fun b' hb' hq=>nI hb' ▸ hq⟩) x) x)⟩
theorem s8 {α:Type}{L:α→Prop}{K:Bool→AH→Tr α}{Q:Bool→MH→Prop}(q:∀ b H',(K b (aa H')).tt L→Q b H'):KB L (tst K) Q:=fun v H' h=>ae h fun b hb hk=>⟨b,hb,q _ _ hk⟩
theorem LJ (ht:PE n cx k t) (ha:PE n cx k l) (hb:PE n cx k r):PE n cx (k+1) (.IfExp t l r pos):=fun fm C =>
 ⟨fun h q x=>La ((ht fm C).t h (s8 fun c H1 h=>by
   cases c with
   | true=>exact (ha fm C).a h q x
   | false=>exact (hb fm C).a h q x) x),
  fun h q x=>Lc ((ht fm C).t h (s8 fun c H1 h=>by
   cases c with
   | true=>exact (ha fm C).t h q x
   | false=>exact (hb fm C).t h q x) x)⟩
theorem I3 (hs:hG r=true) (h1:PE n cx k l) (h2:PE n cx k r):PE n cx (k+1) (.Subscript l r pos) :=
 .of (fun _=>rfl) fun fm C α L m H K X Q QE h q x=>IT C.O hs ((h1 fm C).a (K:=fun a G=>evE k cx r α m G (fun b G=>.aO (aG G a b) fun v=>K v G) X) (by cases r <;> first | exact ff hs | exact h) (fun va H1 h=>(h2 fm C).a h (fun vb H2 h=>ae h fun v hv hk=>⟨v,hv,q _ _ hk⟩) x) x)
theorem BF {o:Expr}(h:fG o=true) (nm:Str) (pos:Pos) (env:Env):eval (.Attribute o nm pos) env=(do let x ← eval o env; standAt pos.atName; let r ← holding [x] (getAttr x nm true); letTemporaryGo o x r; pure r):=by
 cases o <;> first | exact ff h | rfl
theorem I4 {nm} (h0:fG l=true) (h1:PE n cx k l):PE n cx (k+1) (.Attribute l nm pos) :=
 .of (fun _=>rfl) fun fm C _ _ _ _ _ _ _ _ h q x=>IU C.O (BF h0 ..) ((h1 fm C).a h (fun va H1 h=>ae h fun v hv hk=>⟨v,hv,q _ _ hk⟩) x)
theorem LK {es a} (h0:Nat.ble es.length 1000=true) (h:PLs n cx k es):PE n cx (k+1) (.Tuple es a pos) :=
 .of (fun _=>rfl) fun fm C _ _ _ _ _ _ _ _ h1 q x=>F7 (lV x h.star (h.g C) h1 fun vs H1 hl hk=>⟨hl ▸ aX h0,q _ _ hk⟩)
theorem LL {es} (h0:Nat.ble es.length 1000=true) (h:PLs n cx k es):PE n cx (k+1) (.List es pos) :=
 .of (fun _=>rfl) fun fm C _ _ _ _ _ _ _ _ h1 q x=>LC (lV x h.star (h.g C) h1 fun vs H1 hl hk=>⟨hl ▸ aX h0,q _ _ hk⟩)
theorem I5 {kv e es fs} (hd:gc (e::es) fs=some kv) (hz:kv.2.all (fun x=>Nat.ble x.length big)=true) (hn:decide kv.1.Nodup=true) (hlen:Nat.ble kv.1.length 15=true):PE n cx (k+1) (.Dict (e::es) fs pos) :=
 .of (fun _=>rfl) fun fm C α L m H K X Q QE h q x=>F9 C.O hd hz hn hlen (q _ _ (by
  have h:(match gc (e::es) fs with
   | some (ks,vs)=>K (.dS ks (vs.map .str)) (aa H)
   | none=>.no).tt L:=h
  rw [hd] at h; exact h))
noncomputable abbrev PP (n:Nat) (cx:Cx) (k:Nat):Option Expr→Prop
 | none=>True
 | some e=>PE n cx k e
theorem xF {α:Type}{L:α→Prop}{m:LV}{H:MH}{x:Option Expr}{K:Option V→AH→Tr α}{X:XT α}{Q:Option V→MH→Prop}{QE:QX}(C:Cn fm cx n) (hp:PP n cx k x) (h:(evP (evE k cx) x m (aa H) K X).tt L) (q:∀ v H',(K v (aa H')).tt L→Q v H') (qx:KX L X QE) :
  EP fm x (ba m) H Q QE:=by
 cases x with
 | none=>exact IW (q _ _ h)
 | some e=>exact IX ((hp fm C).a h (fun v H1 h=>q _ _ h) qx)
theorem Gb {l u s} (h1:PE n cx k o) (hl:PP n cx k l) (hu:PP n cx k u) (hs:PP n cx k s):PE n cx (k+1) (.Subscript o (.Slice l u s p) pos) :=
 .of (fun _=>rfl) fun fm C _ _ _ _ _ _ _ _ h q x=>F8 (vP C (h1 fm C).a h (fun va H1 h=>xF C hl h (fun vl H2 h=>xF C hu h (fun vu H3 h=>xF C hs h (fun vs H4 h=>ae h fun v hv hk=>⟨v,hv,q _ _ hk⟩) x) x) x) x)
noncomputable abbrev I6 (k:Nat) (cx:Cx) (op:BoolOp) (es:List Expr):ET:=fun α=>evA (α:=α) (evE k cx) op es
theorem Rl {b:Bool}(e:(b==Ky .And)=b):True:=trivial
theorem BG {n cx k}:∀ {es:List Expr},(∀ e∈es,PE n cx k e)→∀ fm,Cn fm cx n→(∀ pos,s7 fm (I6 k cx .And es) (.BoolOp .And es pos))∧∀ {α:Type}{L:α→Prop}{m:LV}{H:MH}{K:V→AH→Tr α}{X:XT α}{Q:Bool→MH→Prop}{QE:QX},(I6 k cx .And es α m (aa H) K X).tt L→KB L K Q→KX L X QE→w7 fm .And es (ba m) H Q QE
 | [],_,_,_=>⟨fun _ _ _ _ _ _ _ _ _ h=>h.elim,fun h=>h.elim⟩
 | [e],h,fm,C=>⟨fun pos _ _ _ _ _ _ _ _ h0 q x s S=>BoolOp_one ((h e (.head _) fm C).a h0 q x s S),fun h0 q x=>zy ((h e (.head _) fm C).t h0 (fun v H' hv=>ae (q v H' hv) fun b hb hq=>⟨b,hb,by
   cases b with
   | true=>exact w8 hq
   | false=>exact hq⟩) x)⟩
 | e::e'::r,h,fm,C =>
  have ih:=BG (es:=e'::r) (fun e he=>h e (.tail _ he)) fm C
  ⟨fun pos _ _ _ _ _ _ _ _ h0 q x=>K9 ((h e (.head _) fm C).a h0 (fun v H' hv=>ae hv fun b hb hk=>⟨b,sS C.O hb,by
   cases b with
   | true=>exact ih.1 pos hk q x
   | false=>exact q _ _ hk⟩) x),fun h0 q x=>zy ((h e (.head _) fm C).t h0 (fun v H' hv=>ae hv fun b hb hk=>⟨b,hb,by
   cases b with
   | true=>exact ih.2 hk q x
   | false=>exact ae (q _ _ hk) fun b' hb' hq=>(by cases b' <;> first | exact hq | exact ff (sj (hb.symm.trans hb')) | exact tf (sj (hb.symm.trans hb')))⟩) x)⟩
theorem Gc {n cx k}:∀ {es:List Expr},(∀ e∈es,PE n cx k e)→∀ fm,Cn fm cx n→(∀ pos,s7 fm (I6 k cx .Or es) (.BoolOp .Or es pos))∧∀ {α:Type}{L:α→Prop}{m:LV}{H:MH}{K:V→AH→Tr α}{X:XT α}{Q:Bool→MH→Prop}{QE:QX},(I6 k cx .Or es α m (aa H) K X).tt L→KB L K Q→KX L X QE→w7 fm .Or es (ba m) H Q QE
 | [],_,_,_=>⟨fun _ _ _ _ _ _ _ _ _ h=>h.elim,fun h=>h.elim⟩
 | [e],h,fm,C=>⟨fun pos _ _ _ _ _ _ _ _ h0 q x s S=>BoolOp_one ((h e (.head _) fm C).a h0 q x s S),fun h0 q x=>CG ((h e (.head _) fm C).t h0 (fun v H' hv=>ae (q v H' hv) fun b hb hq=>⟨b,hb,by
   cases b with
   | true=>exact hq
   | false=>exact zx hq⟩) x)⟩
 | e::e'::r,h,fm,C =>
  have ih:=Gc (es:=e'::r) (fun e he=>h e (.tail _ he)) fm C
  ⟨fun pos _ _ _ _ _ _ _ _ h0 q x=>Np ((h e (.head _) fm C).a h0 (fun v H' hv=>ae hv fun b hb hk=>⟨b,sS C.O hb,by
   cases b with
   | true=>exact q _ _ hk
   | false=>exact ih.1 pos hk q x⟩) x),fun h0 q x=>CG ((h e (.head _) fm C).t h0 (fun v H' hv=>ae hv fun b hb hk=>⟨b,hb,by
   cases b with
   | true=>exact ae (q _ _ hk) fun b' hb' hq=>(by cases b' <;> first | exact hq | exact tf (sj (hb.symm.trans hb')))
   | false=>exact ih.2 hk q x⟩) x)⟩
theorem LM {op es} (h:PLs n cx k es):PE n cx (k+1) (.BoolOp op es pos):=fun fm C=>by
 cases op with
 | And=>exact ⟨fun h0 q x=>(BG h.all fm C).1 pos h0 q x,fun h0 q x=>Fs ((BG h.all fm C).2 h0 q x)⟩
 | Or=>exact ⟨fun h0 q x=>(Gc h.all fm C).1 pos h0 q x,fun h0 q x=>Fs ((Gc h.all fm C).2 h0 q x)⟩
end
end
end Mine
end
section
open PySem PySem.W PyProof.Rows Builtin.Str Builtin Builtin.ObjectAttr
set_option maxRecDepth 100000
set_option genSizeOf false
set_option genInjectivity false
namespace Mine
section
theorem j3.mono {n:Nat}{f:Addr}{vs:List V}{H:MH}{Q Q':QV}{QE QE':QX}(h:j3 n f vs H Q QE) (q:∀ v H',Q v H'→Q' v H') (x:∀ ks us H',QE ks us H'→QE' ks us H'):j3 n f vs H Q' QE':=fun fm m s xs O hh R S r =>
 codeAny_mono (h fm m s xs O hh R S r) fun r s' z=>by
  cases r with
  | error e=>exact PX.mono z x
  | ok f=>cases f with
   | ret v=>exact PV.el z fun v H' a b c d=>⟨v,H',a,b,c,q _ _ d⟩
   | _=>exact z
section
variable {fm:Fm}{cx:Cx}{n k:Nat}{α:Type}{L:α→Prop}{K:V→AH→Tr α}{X:XT α}{Q:QV}{QE:QX}{m:Loc}{H:MH}{s:Shared}
theorem Gd {r:Res}{G':AH}(hk:(zT K X r G').tt L) (q:KQ L K Q) (v:V) (H':MH) (e:r=.ok v∧aa H'=G'):Q v H':=by
 obtain ⟨e,g⟩:=e
 subst e g
 exact q _ _ hk
theorem BH {r:Res}{G':AH}(hk:(zT K X r G').tt L) (x:KX L X QE) (ks:List Str) (us:List V) (H':MH) (e:r=.ex ks us∧aa H'=G'):QE ks us H':=by
 obtain ⟨e,g⟩:=e
 subst e g
 exact x _ _ _ hk
theorem zX {a:Addr}{vs:List V}{xs:List Value}{r:Res}{G':AH}(C:Cn fm cx n) (h:j3 n a vs H (fun v H'=>r=.ok v∧aa H'=G') (fun ks us H'=>r=.ex ks us∧aa H'=G')) (hk:(zT K X r G').tt L) (q:KQ L K Q) (x:KX L X QE) (S:Sat fm m H s) (rl:fm.RL H s.heap vs xs) :
  OW fm (call (.ref a) xs) m H Q QE s:=wpAny_call (h.mono (Gd hk q) (BH hk x) fm _ s xs C.O C.hh C.room.room S rl)
theorem CU (C:Cn fm cx n) {F:Fn}{g:Str}(hF:F∈TAB) (hn:F.name=g) (hg:cx.isGlob g=true):gy fm g (.ref F.addr):=hn ▸ DP C.O hF (bj C (hn ▸ hg)).1 (bj C (hn ▸ hg)).2
variable {g:Str}{args:List Expr}{p pos apos:Pos}
theorem P0 {f:FS}{c:HC f}(hl:lkF cx.fns g=some (.h f c)) (hg:cx.isGlob g=true) (h:PLs n cx k args):PE n cx (k+1) (.Call (.Name g p) args [] pos):=.of (fun _=>rfl) fun fm C α L m H K X Q QE h0 q x=>by
 have h0:(uW (lkF cx.fns g) cx (evE k cx) g args m (aa H) K X).tt L:=h0
 rw [hl] at h0
 refine dA (C.fns g _ hl) fun F hF hn hc=>rS (CU C hF hn hg) h.star (lV x h.star (h.g C) h0 fun vs H1 _ h1 s xs S rl=>cN h1 fun r G' hr hk=>zX C (hc vs H1 r G' hr) hk q x S rl)
theorem P1 {f:FP}{c:PC f}(hl:lkF cx.fns g=some (.p f c)) (hg:cx.isGlob g=true) (h:PLs n cx k args):PE n cx (k+1) (.Call (.Name g p) args [] pos):=.of (fun _=>rfl) fun fm C α L m H K X Q QE h0 q x=>by
 have h0:(uW (lkF cx.fns g) cx (evE k cx) g args m (aa H) K X).tt L:=h0
 rw [hl] at h0
 refine dA (C.fns g _ hl) fun F hF hn hc=>rS (CU C hF hn hg) h.star (lV x h.star (h.x C) h0 fun vs H1 _ h1 s xs S rl=>ae h1 fun r hr hk=>zX C (hc vs H1 r hr) hk q x S rl)
theorem D2 {x:Str}(h:x∈f9):∃ g,bootBuiltins x=some g∧∀ a,g≠.ref a:=by
 have k:f9.all (fun x=>match bootBuiltins x with | some (.ref _)=>false | some _=>true | Option.none=>false)=true:=by decide +kernel
 have:=List.all_eq_true.mp k x h
 cases e:bootBuiltins x with
 | none=>rw [e] at this; exact ff this
 | some g=>exact ⟨g,rfl,fun a q=>by rw [e,q] at this; exact ff this⟩
theorem LN (hl:lkF cx.fns g=none) (h0:f9.contains g=true) (h1:sY F0 g=true) (h2:cU g aI=false) (hg:cx.isGlob g=true) (h:PLs n cx k args):PE n cx (k+1) (.Call (.Name g p) args [] pos):=.of (fun _=>rfl) fun fm C α L m H K X Q QE h' q x=>by
 have h':(uW (lkF cx.fns g) cx (evE k cx) g args m (aa H) K X).tt L:=h'
 rw [hl] at h'
 simp only [uW,h1,h2,cif] at h'
 have hb:=List.contains_iff_mem.mp h0
 refine ae (D2 hb) fun v hv hr=>rS (jq C.O hb hv hr (bj C hg).1 (bj C hg).2) h.star (lV x h.star (h.g C) h' fun vs H1 _ h1 s xs S rl=>ae h1 fun w hw hk=>Lo hw hv C.hh rfl S rl (q _ _ hk))
theorem Ge {l:Expr}{p':Pos}(hl:lkF cx.fns aI=none) (h1:cx.isGlob aI=true) (h2:cx.isGlob sZ=true) (h3:bb [l]=true) (h:PE n cx k l):PE n cx (k+1) (.Call (.Name aI p) [l,.Name sZ p'] [] pos):=.of (fun _=>rfl) fun fm C α L m H K X Q QE h0 q x=>by
 have h0:(uW (lkF cx.fns aI) cx (evE k cx) aI [l,.Name sZ p'] m (aa H) K X).tt L:=h0
 rw [hl] at h0
 exact Ga C.O (bj C h1).1 (bj C h2).1 h3 ((h fm C).a h0 (fun v H1 h1=>ae h1 fun b hb hk=>⟨b,hb,q _ _ hk⟩) x)
theorem I7 {G G':AH}{u:V}{f:List V→List V→Option (List V)}{vs:List V}{P:Prop}(h:nE G u f vs=some G') (c:∀ i us ws,u=.ref i→G[i]? = some (.list us)→f us vs=some ws→G.set i (.list ws)=G'→P):P:=by
 unfold nE at h
 cases u with
 | ref i =>
  cases e:G[i]? with
  | none=>simp only [e] at h; exact nS h
  | some ao =>
   cases ao with
   | list us =>
    simp only [e] at h
    cases e2:f us vs with
    | none=>rw [e2] at h; exact nS h
    | some ws=>rw [e2] at h; exact c i us ws rfl e e2 (sj h)
   | _=>simp only [e] at h; exact nS h
 | _=>exact nS h
theorem I8 {l:Expr}{nm:Str}(h0:fG l=true) (hi:cU nm qI=false) (h1:(apos.endLine==pos.line)=true) (h2:Nat.blt args.length 20=true) (h3:PE n cx k l) (h:PLs n cx k args) :
  PE n cx (k+1) (.Call (.Attribute l nm apos) args [] pos):=.of (fun _=>rfl) fun fm C α L m H K X Q QE h' q x=>by
 have h':(evM cx (evE k cx) l nm args m (aa H) K X).tt L:=h'
 unfold evM at h'
 rw [hi] at h'
 refine IA h.star (Nat.le_of_ble_eq_true h2) h1 h0 ((h3 fm C).a h' (fun ov H1 h1=>?_) x)
 refine ae h1 fun kk hm h1=>⟨kk,hm,?_⟩
 have h1:(cif kk.mut (evL (evE k cx) args m (aa H1) (fun vs G=>.aH (nE G ov (o0 kk) vs) fun G=>K .none G) X) (evL (fun e _=>evX cx (evE k cx) e) args m (aa H1) (fun vs G=>.aO (eQ kk ov vs) fun v=>K v G) X)).tt L:=h1
 cases hk:kk.mut with
 | true =>
   rw [hk] at h1
   exact lV x h.star (h.g C) h1 fun vs H2 _ h2 s xo xs S ro rl=>ae h2 fun G' hp hq=>I7 hp fun i us ws e1 e2 e3 e4=>by
    subst e1
    exact Lu e3 C.O S e2 ro rl fun H' g=>q _ _ (by rw [g,e4]; exact hq)
 | false =>
   rw [hk] at h1
   exact lV x h.star (h.x C) h1 fun vs H2 _ h2 s xo xs S ro rl=>ae h2 fun v hv hq=>IC hv S ro rl (q _ _ hq)
end
end
section
section
variable {prog:Program}{w:World}{A:Around}{R:Result→Shared→Prop}{h:Heap}{g:Array GenState}{d:Drawn}{t:Nat}{os:OsState}
noncomputable abbrev cW (rest:List Value):Obj:={ cls:=.type "tuple",data:=.seq rest.toArray }
noncomputable abbrev fJ (C t:Addr):Obj:={ cls:=.ref C,data:=.fields #[.ref t,.none,.none,.none,.bool false,.none] }
theorem Gf {rest:List Value}{init:Value}(Y:de h) (hi:Looks (model prog w) h (typeLookup (.ref ai) "__init__") (some init))
  (hb:∀ self,Looks (model prog w) h (bindSpecial init self) (init,[self])) (hrest:rest.length≤100)
  (hq:codeAny (model prog w) (A.under (.builtin "type.__call__" ⟨.ref ai::rest,[]⟩)) (.call init ⟨.ref (h.objs.size+1)::rest,[]⟩) (InitBack (h.objs.size+1) R) ⟨(h.push (cW rest)).push (fJ ai h.objs.size),g,d,t,os⟩) :
  codeAny (model prog w) A (.call (.ref ai) ⟨rest,[]⟩) R ⟨h,g,d,t,os⟩:=by
 refine Y.el fun nm q N bs hdct sn sub ab col dd k0 k1 k2 k3 k5 hC=>?_
 have f1:=tc_lookup
 have f2:=tc_bind (.ref ai)
 have hT:(⟨h,g,d,t,os⟩:Shared).TypeIs (.ref ai) "type":=⟨_,hC,rfl⟩
 have F:=PySem.F.excBase_Exception
 have hsz:rest.length≤sizeLine:=by rw [sizeLine_eq]; exact Nat.le_trans hrest (by decide)
 refine codeAny_of_tree ?_
 show wpAny _ _ (callAny (.ref ai) _) _ _ _
 repeat (any_goals (first | assumption | with_reducible refine wpAny_loadPart_at hC ?_ | wp_step))
 refine ⟨rfl,?_⟩
 refine codeAny_call_builtin_at (Code.quiet_builtin _ (by decide +kernel)) entry_typeCall (wpAny_check_type_call_sub hC ?_)
 unfold Builtin.«type.__call__»
 repeat (first | with_reducible refine wpAny_loadPart_at hC ?_ | with_reducible refine wpAny_madeBy_exc hC ?_ | wp_step)
 refine codeAny_call_builtin_code (Code.quiet_builtin _ F.quiet) (wpAny_check_new_sub F hC ?_)
 refine codeAny_exc_new_sub F hC ?_ hsz
 show wpAny _ _ _ _ _ _
 have hC₁:=Heap.get?_push_of_some (fJ ai h.objs.size) (Heap.get?_push_of_some (cW rest) hC)
 have k:∀ b o,h.get? b=some o→((h.push (cW rest)).push (fJ ai h.objs.size)).get? b=some o:=fun b o e=>Heap.get?_push_of_some _ (Heap.get?_push_of_some _ e)
 have hget:((h.push (cW rest)).push (fJ ai h.objs.size)).get? (h.objs.size+1)=some (fJ ai h.objs.size):=by heap_get
 have hcC:(Value.ref ai::oP).contains (.ref ai)=true:=by simp
 have i1:=hi.keeps k
 have b1:=(hb (.ref (h.objs.size+1))).keeps k
 unfold isInstance
 repeat (first | with_reducible refine wpAny_loadPart_at hget ?_ | (with_reducible refine wpAny_isSubtype_exc hC₁ ?_; rw [hcC]) | wp_step)
 show wpAny _ _ (isSubtype (.ref ai) (.ref ai)) _ _ _
 refine wpAny_isSubtype_exc hC₁ ?_
 rw [hcC]
 rw [if_neg (by decide)]
 have t1:Looks (model prog w) ((h.push (cW rest)).push (fJ ai h.objs.size)) (typeOf (.ref (h.objs.size+1))) (.ref ai):=(Looks.ld hget).andThen .now
 show wpAny _ _ (holding [.ref (h.objs.size+1)] (callSpecial? (.ref (h.objs.size+1)) "__init__" rest []) >>= _) _ _ _
 unfold callSpecial? specialOf
 refine wpAny_bind (wpAny_holding (wpAny_bind (wpAny_bind (t1.at (i1.at ?_)))))
 dsimp only
 refine wpAny_holding (wpAny_bind (b1.at ?_))
 refine wpAny_bind (wpAny_call (codeAny_mono hq fun r s' z=>?_))
 rcases r with e | (v | _ | _ | _) <;> first | exact z | exact z.elim | skip
 obtain ⟨rfl,z⟩:=z
 exact wpAny_pure (wpAny_pure z)
end
noncomputable abbrev iO (C:Addr) (rest:List Value):Code:=.builtin "type.__call__" ⟨.ref C::rest,[]⟩
theorem Gg (A:Around) (C:Addr) (rest:List Value):(A.under (iO C rest)).handled=A.handled∧(A.under (iO C rest)).frames=A.frames∧(A.under (iO C rest)).depth=A.depth+1∧(A.under (iO C rest)).units≤A.units+4:=by
 refine ⟨rfl,rfl,?_,?_⟩
 ·show A.depth+Code.weight _=_
  rfl
 ·show A.units+Code.cUnits _≤_
  have:(iO C rest).cUnits=1:=rfl
  rw [this]; exact Nat.add_le_add_left (by decide) _
noncomputable def Fm.up (fm:Fm) (A:Around):Fm:={ fm with A:=A }
section
variable {fm:Fm}{cx:Cx}{n k:Nat}{m:Loc}{H:MH}{s:Shared}{A:Around}
theorem ay.up (O:ay fm) (hf:A.frames=fm.A.frames):ay (fm.up A) :=
 ⟨hf.trans O.frames,O.kind,O.glob,O.blt,O.locals,O.cellsOwn,O.cellsInj,O.names,O.ownBase,O.ownFm,O.outsFm,O.ownOuts,O.frIn,O.frEnv,O.wd,O.fenvsIn⟩
theorem Sat.up (S:Sat fm m H s):Sat (fm.up A) m H s:=⟨S.base,S.funs,S.ns,S.cells,S.vars,S.objs,S.nodup,S.apart,S.alive,S.gens,S.os,S.drawn⟩
theorem Sat.down (S:Sat (fm.up A) m H s):Sat fm m H s:=⟨S.base,S.funs,S.ns,S.cells,S.vars,S.objs,S.nodup,S.apart,S.alive,S.gens,S.os,S.drawn⟩
theorem af.down {H':MH}{h h':Heap}(T:af (fm.up A) H h H' h'):af fm H h H' h':=⟨T.keep,T.outs,T.pre⟩
theorem mj (O:ay fm) {K:Frag}(hK:K.In fm.base) {x:Str}{C:Addr}(hx:∀ mg:Str→Option Value,mg "Raised"=some (.ref ai)→mg "Options"=some (.ref ak)→mg x=some (.ref C)) (hkp:keepIn K (.ref C)=true)
  (hk:fm.env.kindOf x=some .globalImplicit) (hd:(x==("__debug__":Str))=false):gy fm x (.ref C) where
 read:=fun m H s pos Q E S q=>by
  refine E8 O.wd.glob fun mg h1 h2 h3 h4 _=>?_
  exact Calls.Name_function_global O.kind hk (Calls.loadGlobal_global (by rw [O.glob]; exact h1.keeps S.base) (hx mg h3 h4) q) hd
 keep:=fun h k=>keeps_K hkp h (hK.keeps k)
theorem CV {u:V}(h:bg u=true):u=.none:=by cases u <;> first | rfl | exact ff h
theorem vQ (C:Cn fm cx n) {i:Nat}{a fa C0:Addr}{vs:List V}{xs xs':List Value}{H0 H1:MH}{h0:Heap}{s1:Shared}{Q1 Q:QV}{X1 QE:QX}(h:j3 n fa (.ref i::vs) H1 Q1 X1) (q:∀ u H',Q1 u H'→bg u=true∧Q (.ref i) H') (x:∀ ks us H',X1 ks us H'→QE ks us H')
  (T1:af fm H0 h0 H1 s1.heap) (S1:Sat fm m H1 s1) (el:(bC H1)[i]? = some a) (rl:fm.RL H1 s1.heap vs xs) :
  codeAny fm.M (fm.A.under (iO C0 xs')) (.call (.ref fa) ⟨.ref a::xs,[]⟩) (InitBack a (fun r s'=>match r with | .ok (.ret v)=>PV fm m H0 h0 Q v s' | .ok _=>False | .error e=>PX fm m H0 h0 QE e s')) s1:=by
 refine uS (Gg fm.A C0 xs') fun u1 u2 u3 u4=>?_
 have hr:uU n (fm.up (fm.A.under (iO C0 xs'))).A:=by
  have:=C.room
  unfold uU qy at *
  show (fm.A.under (iO C0 xs')).depth+_<_∧(fm.A.under (iO C0 xs')).units+_<_
  exact ⟨by rw [u3,Nat.add_right_comm]; exact Nat.lt_trans (Nat.lt_succ_self _) this.1,Nat.lt_of_le_of_lt (Nat.le_trans (Nat.add_le_add_right u4 _) (by rw [Nat.add_right_comm]; exact Nat.add_le_add_left (by decide:4≤8) _)) this.2⟩
 refine codeAny_mono (h (fm.up (fm.A.under (iO C0 xs'))) m s1 (.ref a::xs) (C.O.up u2) (u1.trans C.hh) hr S1.up (RepL.cons ⟨a,el,rfl⟩ rl)) fun r s' z=>?_
 cases r with
 | error e =>
  obtain ⟨ee,dd,tb,ks,us,H',m',q0,T₂,S₂,ht,g⟩:=z
  exact ⟨ee,dd,tb,ks,us,H',m',q0,T1.trans T₂.down,S₂.down,ht,x _ _ _ g⟩
 | ok fl =>
  cases fl with
  | ret v =>
   obtain ⟨u,H',T₂,S₂,r₂,g⟩:=z
   obtain ⟨e,g'⟩:=q _ _ g
   obtain rfl:=CV e
   exact ⟨r₂,.ref i,H',T1.trans T₂.down,S₂.down,⟨_,T₂.pre _ _ el,rfl⟩,g'⟩
  | _=>exact z.elim
theorem zY {α:Type}{L:α→Prop}{K:V→AH→Tr α}{X:XT α}{Q:QV}{G':AH}{r:Res}{i:Nat}(hk:(zT (fun u G'=>.aC (bg u) fun c=>cif c (K (.ref i) G') .no) X r G').tt L) (q:KQ L K Q) (u:V) (H':MH) (e:r=.ok u∧aa H'=G'):bg u=true∧Q (.ref i) H':=by
 have h:=Gd (Q:=fun u H'=>(cif (bg u) (K (.ref i) (aa H')) .no).tt L) hk (fun _ _ h=>h) u H' e
 cases hn:bg u with
 | true=>rw [hn] at h; exact ⟨rfl,q _ _ h⟩
 | false=>rw [hn] at h; exact h.elim
variable {args:List Expr}{p pos:Pos}
theorem P2 {f:FS}{c:HC f}{g:Str}(hl:lkF cx.fns g=some (.o f c)) (hg:cx.isGlob g=true):PE n cx (k+1) (.Call (.Name g p) [] [] pos):=.of (fun _=>rfl) fun fm C α L m H K X Q QE h0 q x=>by
 have h0:(uW (lkF cx.fns g) cx (evE k cx) g [] m (aa H) K X).tt L:=h0
 rw [hl] at h0
 refine cN h0 fun r G' hr hk=>ar (C.fns g _ hl) fun hn hc=>ae C.O.wd.cls fun K0 hK hf=>?_
 have nm:gy fm g (.ref ak):=mj C.O hK (fun mg _ h=>hn ▸ h) hf.o2 (bj C hg).1 (bj C hg).2
 refine sR nm rfl fun s S=>wpAny_items_nil ⟨S.base,?_⟩
 obtain ⟨h,gg,d,t,os⟩:=s
 have Y:=hK.keeps S.base
 refine wpAny_call (make_core (rest:=[]) (makes_of Y hf.o1) (looks_findIn Y hf.o3) (fun self=>bind_fn Y self hf.o4) (.inl rfl) ?_)
 have hdx:((h.push emptyDict).push (instObj ak h.objs.size)).get? h.objs.size=some emptyDict:=Heap.get?_push_of_some _ (Heap.get?_push_size _ rfl)
 obtain ⟨S1,T1,ea,el⟩:=Sat.grow (a:=h.objs.size+1) (mo:=.inst ak h.objs.size [] []) (s':=⟨(h.push emptyDict).push (instObj ak h.objs.size),gg,d,t,os⟩) C.O S rfl
  (Fu (Heap.get?_none_of_le (Nat.le_succ _)) (aV _)) (List.nodup_cons.mpr ⟨fun q=>Nat.succ_ne_self _ (List.mem_singleton.mp q),s5⟩) (fun b o e=>Heap.get?_push_of_some _ (Heap.get?_push_of_some _ e))
  (fun conv=>⟨by heap_get,[],0,⟨_,#[],hdx,⟨rfl,rfl,rfl⟩,rfl,fun e he=>absurd he (Array.not_mem_empty e),.nil,List.nodup_nil⟩,rfl,RepL.nil⟩) rfl rfl rfl
 exact vQ C (hc _ _ r G' (by rw [ea]; exact hr)) (zY hk q) (BH hk x) T1 S1 el RepL.nil
theorem P3 {f:FS}{c:HC f}{g:Str}(hl:lkF cx.fns g=some (.r f c)) (hg:cx.isGlob g=true) (hlen:Nat.ble args.length 20=true) (h:PLs n cx k args):PE n cx (k+1) (.Call (.Name g p) args [] pos):=.of (fun _=>rfl) fun fm C α L m H K X Q QE h0 q x=>by
 have h0:(uW (lkF cx.fns g) cx (evE k cx) g args m (aa H) K X).tt L:=h0
 rw [hl] at h0
 refine ar (C.fns g _ hl) fun hn hc=>ae C.O.wd.cls fun K0 hK hf=>?_
 have nm:gy fm g (.ref ai):=mj C.O hK (fun mg h _=>hn ▸ h) hf.r2 (bj C hg).1 (bj C hg).2
 refine rS nm h.star (lV x h.star (h.g C) h0 fun vs H0 hl1 h1 s xs S rl=>cN h1 fun r G' hr hk=>?_)
 obtain ⟨h',gg,d,t,os⟩:=s
 have Y:=hK.keeps S.base
 refine wpAny_call (Gf (hf.r1 _ Y) (looks_findIn Y hf.r3) (fun self=>bind_fn Y self hf.r4) (rl.length ▸ hl1 ▸ Nat.le_trans (aX hlen) (by decide)) ?_)
 obtain ⟨S1,T1,ea,el⟩:=Sat.grow (a:=h'.objs.size+1) (mo:=.made none [] []) (s':=⟨(h'.push (cW xs)).push (fJ ai h'.objs.size),gg,d,t,os⟩) C.O S rfl
  (fun b hb=>List.mem_singleton.mp hb ▸ Heap.get?_none_of_le (Nat.le_succ _)) s5 (fun b o e=>Heap.get?_push_of_some _ (Heap.get?_push_of_some _ e))
  (fun conv=>⟨⟨_,_,by heap_get,rfl⟩,rfl,rfl⟩) rfl rfl rfl
 exact vQ C (hc _ _ r G' (by rw [ea]; exact hr)) (zY hk q) (BH hk x) T1 S1 el (T1.repL rl)
end
theorem Gh:typeOf (.type "Exception")=pure (.type "type"):=by kernel_rfl
theorem Gi:Manifest.isStub "Exception"=false:=by decide +kernel
theorem Gj (K:Frag):findCls K (.type "Exception") (.type "type") "__init__"=some (.val (.builtin "Exception.__init__")):=by kernel_rfl
section
variable {prog:Program}{w:World}{A:Around}{E:Value→Shared→Prop}{s:Shared}{K:Frag}
theorem BI {pl:Sem Bool}{Q:Value × List Value→Shared→Prop}(X:K.In s.heap) (h:Q (.builtin "Exception.__init__",[]) { s with toks:=s.toks+1 }):wpAny (model prog w) A (getMethod (.type "Exception") "__init__" pl) Q E s:=by
 have hstub:opaqueClassAbove (.type "Exception")=pure none:=by unfold opaqueClassAbove; dsimp only; rw [Gi]; rfl
 have L0:Looks (model prog w) s.heap (typeOf (.type "Exception")) (.type "type"):=Looks.of_pure Gh
 have hg:findIn K (.type "type") "__getattribute__"=some (some (.builtin "type.__getattribute__")):=type_tga
 unfold getMethod specialOf
 refine wpAny_bind (wpAny_bind (L0.here ((looks_findIn X hg).here ?_)))
 dsimp only
 rw [if_pos canon_tga]
 refine wpAny_bind (wpAny_mono (Q:=fun v=>Q (v,[])) (E:=E) ?_ (fun _ _ z=>wpAny_pure z) fun _ _ z=>z)
 have LO:Looks (model prog w) s.heap (opaqueClassAbove (.type "Exception")) none:=Looks.of_pure hstub
 refine cls_open X LO L0 hg (looks_hook X (r:=none) (by rfl)) (by show subIn K _ _=_; rfl) (Gj K)
  (wpAny_pure (by show wpAny _ _ (handedOut _) _ _ _; rw [handedOut_of (by decide +kernel)]; exact wpAny_pure h))
theorem Gk {e:Addr}{dd:Option Addr}{fs:Array Value}{sl:Array (Option Value)}{v:Value}{Q:Value→Shared→Prop}(Y:de s.heap) (he:s.heap.get? e=some ⟨.ref ai,dd,.fields fs,sl⟩) (h0:0<fs.size)
  (q:Q .none { s with heap:=(s.heap.push (cW [v])).update e (Obj.mapFields (·.setIfInBounds 0 (.ref s.heap.objs.size))) }):wpAny (model prog w) A (call (.builtin "Exception.__init__") [.ref e,v]) Q E s:=by
 obtain ⟨hh,g,d,t,os⟩:=s
 refine Y.el fun nm qq N bs hdct sn sub ab col dd' k0 k1 k2 k3 k5 hC=>?_
 have F:=PySem.F.excBase_Exception
 refine wpAny_call (codeAny_call_builtin F.init.plain F.initEntry (wpAny_check_init_sub F hC he rfl ?_))
 unfold Builtin.«BaseException.__init__»
 have hn:(hh.push (cW [v])).get? e=some ⟨.ref ai,dd,.fields fs,sl⟩:=Heap.get?_push_of_some _ he
 show wpAny _ _ (newTuple [v] >>= fun t=>BaseException.bexcPut (.ref e) 0 t >>= fun _=>ret .none) _ _ _
 unfold newTuple BaseException.bexcPut
 refine wpAny_bind (wpAny_newObj_type ?_)
 refine wpAny_bind (wpAny_bind (wpAny_field hn rfl (Array.getElem?_eq_getElem h0) ?_))
 refine wpAny_bind (wpAny_setField hn rfl h0 ?_)
 generalize fs[0]'h0=old
 cases old <;> first | exact wpAny_letGo (wpAny_pure q) | exact wpAny_pure (wpAny_pure q)
end
section
variable {fm:Fm}{cx:Cx}{n k:Nat}
theorem Gl {G:AH}{u:V}(h:vL G u=true):∃ i ks us,u=.ref i∧G[i]? = some (.exc ks us):=by
 unfold vL at h
 cases u with
 | ref i =>
  cases e:G[i]? with
  | none=>simp only [e] at h; exact ff h
  | some ao=>cases ao with
   | exc ks us=>exact ⟨i,ks,us,rfl,e⟩
   | _=>simp only [e] at h; exact ff h
 | _=>exact ff h
theorem Gm:qI=("__init__":Str):=by decide +kernel
theorem I9 {fs:Array Value}{v:Value}(h:fs[1]? = some v):0<fs.size:=Nat.lt_trans Nat.zero_lt_one (Array.getElem?_eq_some_iff.mp h).1
theorem BJ {x y:Expr}{p apos pos:Pos}(h1:cx.isGlob xy=true) (h2:(apos.endLine==pos.line)=true) (h3:bb [x]=true) (h4:bb [y]=true) (h5:PE n cx k x) (h6:PE n cx k y) :
  PE n cx (k+1) (.Call (.Attribute (.Name xy p) qI apos) [x,y] [] pos):=.of (fun _=>rfl) fun fm C α L m H K X Q QE hk q x' s S=>by
 have hk:(evM cx (evE k cx) (.Name xy p) qI [x,y] m (aa H) K X).tt L:=hk
 have nmE:gy fm xy (.type "Exception"):=jq C.O (by decide +kernel) (by decide +kernel) nofun (bj C h1).1 (bj C h1).2
 have hns2:bb [x,y]=true:=vO h3 h4
 have hsx:starEach [x,y] fm.env=[(false,eval x fm.env),(false,eval y fm.env)]:=(dJ hns2).trans rfl
 refine ae C.O.wd.cls fun K0 hK hf=>?_
 rw [arm_eval_Call]
 refine wpAny_bind (nmE.read (ba m) H s p _ _ S (wpAny_bind (wpAny_standAt ?_)))
 have hform:methodCallForm ([x,y].length+([]:List Keyword).length) (backTo pos (starEach [x,y] fm.env)) (backToKw pos (keywordEach [] fm.env))=true:=by rw [hsx]; rfl
 have hpos:methodCallPos true (.Name xy p) fm.env apos pos=pure pos:=by unfold methodCallPos; simp [eq_of_beq h2]
 unfold methodCall
 rw [hform]
 refine wpAny_bind (wpAny_holding ?_)
 rw [Gm]
 refine BI (hK.keeps S.base) ?_
 refine wpAny_bind (wpAny_of_eq hpos ?_)
 have S1:=S.toks (s.toks+1)
 refine callWith_of (P:=fun h=>True) (by rw [hsx]; rfl) (fun h _=>⟨.machine,.inr (.inl rfl),Looks.of_pure rfl⟩) ?_
 have W:LW fm pos [x,y] (ba m) H (fun vs H2=>∃ i vy ks us,vs=[.ref i,vy]∧(aa H2)[i]? = some (.exc ks us)∧Q .none H2) QE :=
  rR ((cu hns2).2 _) ((h5 fm C).a hk (fun vx H1 h=>rR ((cu (show bb [y]=true from h4)).2 _) ((h6 fm C).a h (fun vy H2 h=>Bm (by
   cases e:vL (aa H2) vx with
   | false=>have h:(cif (vL (aa H2) vx) (K .none (aa H2)) .no).tt L:=h; rw [e] at h; exact h.elim
   | true =>
    have h:(cif (vL (aa H2) vx) (K .none (aa H2)) .no).tt L:=h
    rw [e] at h
    exact DF (Gl e) fun i ks us e1 e2=>⟨i,vy,ks,us,e1 ▸ rfl,e2,q _ _ h⟩)) x')) x')
 have L':=W _ S1
 rw [hsx] at L' ⊢
 refine Calls.evalArgs_plain (wpAny_mono L' (fun xs s2 p=>?_) fun _ _ p=>p.back (af.of_keeps fun _ _ e=>e))
 obtain ⟨vs,H2,T2,S2,r2,i,vy,ks,us,rfl,e,hq⟩:=p
 refine ⟨trivial,rl2 r2 fun y1 y2 ry1 ry2=>ae ry1 fun ad had ey=>?_⟩
 subst ey
 obtain ⟨pre,b,mo,post,rfl,g2,g3,g4,g5⟩:=di e
 obtain rfl:=sj (g4.symm.trans had)
 refine aj (ny g2 g3) fun dd ed=>?_
 subst ed
 refine ar (S2.objs (_,.made dd ks us) (List.mem_append_right _ (.head _))) fun h0 rr=>cN h0 fun fs sl h0 hf1=>?_
 refine Gk (hf.r1 _ (hK.keeps S2.base)) h0 (I9 hf1) ?_
 have hup:=Heap.get?_update_self (Obj.mapFields (·.setIfInBounds 0 (.ref s2.heap.objs.size))) (Heap.get?_push_of_some (h:=s2.heap) (cW [y2]) h0) rfl
 have nd:=xw S2
 have oth:∀ c o,c≠b→s2.heap.get? c=some o→((s2.heap.push (cW [y2])).update b (Obj.mapFields (·.setIfInBounds 0 (.ref s2.heap.objs.size)))).get? c=some o:=fun c o hb e =>
  (Heap.get?_update_ne _ _ _ _ hb).trans (Heap.get?_push_of_some _ e)
 refine ar (Sat.mut (mo':=.made dd ks us) (s':={ s2 with heap:=(s2.heap.push (cW [y2])).update b (Obj.mapFields (·.setIfInBounds 0 (.ref s2.heap.objs.size))) }) C.O S2 rfl (fun b hb=>.inl hb) nd
  (fun c o hb e=>oth c o (fun q=>hb (by rw [q]; exact .head _)) e)
  (fun conv=>⟨⟨_,sl,hup,by rw [Array.getElem?_setIfInBounds_ne (by decide)]; exact hf1⟩,by
   cases dd with
   | none=>exact rr
   | some d=>exact cz rr fun zs ep q1 q2 q3=>⟨zs,ep,bE (fun o=>oth d o (fun q=>(List.nodup_cons.mp nd).1 (q ▸ .head _))) q1,q2,conv q3⟩⟩) rfl rfl rfl) fun S3 T3=>?_
 exact ⟨.none,_,T2.trans T3,S3,rfl,hq⟩
end
end
end Mine
end
section
open PySem PySem.W PyProof.Rows Builtin.Str
set_option maxRecDepth 20000
set_option genSizeOf false
set_option genInjectivity false
namespace Mine
section
theorem o9 {fm:Fm}{h h':Heap}(O:ay fm) (hf:h.FunFrames fm.base fm.fenvs) (kF:∀ L,L∈fm.own∨L∈fm.outs→∀ o,h.get? L=some o→∃ sl,h'.get? L=some { o with slots:=sl }):h'.FunFrames fm.base fm.fenvs:=by
 have hin:=O.fenvsIn
 generalize fm.fenvs=l at hin hf
 induction l with
 | nil=>trivial
 | cons e r ih =>
  refine bW hf fun a z8=>?_; obtain ⟨L,o,h1,h2,h3,h4⟩:=z8; intro h5
  refine aj (kF L ((hin e (.head _) L h1).elim (fun (q:L=fm.fr)=>q ▸ O.frIn) .inr) o h3) fun sl hs=>?_
  exact ⟨a,⟨L,_,h1,h2,hs,h4⟩,ih (fun e he=>hin e (.tail _ he)) h5⟩
noncomputable def Fm.more (fm:Fm) (I:Addr):Fm:={ fm with int:=I::fm.int }
section
variable {fm:Fm}{m:Loc}{H:MH}{s s':Shared}{I:Addr}
theorem dK {a:Addr}:(fm.more I).ok H a↔fm.ok H a∧a≠I:=by
 unfold Fm.ok Fm.more Fm.X
 simp only [List.mem_cons,not_or]
 constructor
 ·rintro ⟨a,b,c⟩; exact ⟨⟨a,c⟩,b⟩
 ·rintro ⟨⟨a,c⟩,b⟩; exact ⟨a,b,c⟩
theorem Gn {H:MH}{h:Heap}{v:V}{x:Value}(r:(fm.more I).R H h v x):fm.R H h v x:=Rep.mono (fun _ _ e=>e) (fun b o e q=>⟨e,(dK.mp q).1⟩) r
theorem Ja {H:MH}{h:Heap}{v:List V}{x:List Value}(r:(fm.more I).RL H h v x):fm.RL H h v x:=RepL.mono (fun _ _ e=>e) (fun b o e q=>⟨e,(dK.mp q).1⟩) r
theorem LP {H:MH}{h h':Heap}{v:V}{x:Value}(hI:h.get? I=none) (k:∀ b o,h.get? b=some o→h'.get? b=some o) (r:fm.R H h v x):(fm.more I).R H h' v x :=
 Rep.mono (fun _ _ e=>e) (fun b o e q=>⟨k b o e,dK.mpr ⟨q,fun z=>nS (hI.symm.trans (z ▸ e))⟩⟩) r
theorem Jb {H:MH}{h h':Heap}{v:List V}{x:List Value}(hI:h.get? I=none) (k:∀ b o,h.get? b=some o→h'.get? b=some o) (r:fm.RL H h v x):(fm.more I).RL H h' v x :=
 RepL.mono (fun _ _ e=>e) (fun b o e q=>⟨k b o e,dK.mpr ⟨q,fun z=>nS (hI.symm.trans (z ▸ e))⟩⟩) r
theorem ay.more (O:ay fm) (hb:fm.base.get? I=none) (ho:I ∉ fm.own) (ho':I ∉ fm.outs):ay (fm.more I) where
 frames:=O.frames
 kind:=O.kind
 glob:=O.glob
 blt:=O.blt
 locals:=O.locals
 cellsOwn:=O.cellsOwn
 cellsInj:=O.cellsInj
 names:=O.names
 ownBase:=fun a ha=>by
  rcases ha with ha | ha | ha
  ·exact O.ownBase a (.inl ha)
  ·exact O.ownBase a (.inr (.inl ha))
  ·rcases List.mem_cons.mp ha with rfl | ha
   ·exact hb
   ·exact O.ownBase a (.inr (.inr ha))
 ownFm:=fun a ha q=>by
  rcases List.mem_cons.mp q with rfl | q
  ·exact ho ha
  ·exact O.ownFm a ha q
 outsFm:=fun a ha q=>by
  rcases List.mem_cons.mp q with rfl | q
  ·exact ho' ha
  ·exact O.outsFm a ha q
 ownOuts:=O.ownOuts
 frIn:=O.frIn
 frEnv:=O.frEnv
 wd:=O.wd
 fenvsIn:=O.fenvsIn
theorem Sat.more (S:Sat fm m H s) (hI:s.heap.get? I=none) (hI':∃ o,s'.heap.get? I=some o) (k:∀ b o,s.heap.get? b=some o→s'.heap.get? b=some o)
  (hg:s'.gens=s.gens) (ho:s'.os=s.os) (hd:s'.drawn=s.drawn):Sat (fm.more I) m H s' where
 base:=fun b o e=>k b o (S.base b o e)
 funs:=S.funs.of_keeps fun b o e _=>⟨o,k b o e,rfl⟩
 ns:=let ⟨mm,n⟩:=S.ns; ⟨mm,n.keeps k⟩
 cells:=fun x c h1 h2=>let ⟨v,o,h3,h4⟩:=S.cells x c h1 h2; ⟨v,o,k _ _ h3,h4⟩
 vars:=fun i x v h1 h2 h3=>let ⟨val,h4,h5⟩:=S.vars i x v h1 h2 h3; ⟨val,h4.keeps k,LP hI k h5⟩
 objs:=fun p hp=>dC.conv (fm:=fm) (fm':=fm.more I) rfl rfl (fun r=>Jb hI k r) (fun b _ o e=>k b o e) (S.objs p hp)
 nodup:=S.nodup
 apart:=fun a ha=>by
  refine uS (S.apart a ha) fun h1 h2 h3 h4=>?_
  refine ⟨h1,h2,fun q=>?_,h4⟩
  rcases List.mem_cons.mp q with rfl | q
  ·exact S.fresh_owned hI ha
  ·exact h3 q
 alive:=fun a ha=>by
  rcases ha with ha | ha | ha
  ·obtain ⟨o,h⟩:=S.alive a (.inl ha); exact ⟨o,k a o h⟩
  ·obtain ⟨o,h⟩:=S.alive a (.inr (.inl ha)); exact ⟨o,k a o h⟩
  ·rcases List.mem_cons.mp ha with rfl | ha
   ·exact hI'
   ·obtain ⟨o,h⟩:=S.alive a (.inr (.inr ha)); exact ⟨o,k a o h⟩
 gens:=hg.trans S.gens
 os:=ho.trans S.os
 drawn:=hd.trans S.drawn
theorem Sat.less (S:Sat (fm.more I) m H s):Sat fm m H s where
 base:=S.base
 funs:=S.funs
 ns:=S.ns
 cells:=S.cells
 vars:=fun i x v h1 h2 h3=>let ⟨val,h4,h5⟩:=S.vars i x v h1 h2 h3; ⟨val,h4,Gn h5⟩
 objs:=fun p hp=>dC.conv (fm:=fm.more I) (fm':=fm) rfl rfl (fun r=>Ja r) (fun b _ o e=>e) (S.objs p hp)
 nodup:=S.nodup
 apart:=fun a ha=>let ⟨h1,h2,h3,h4⟩:=S.apart a ha; ⟨h1,h2,fun q=>h3 (.tail _ q),h4⟩
 alive:=fun a ha=>S.alive a (ha.imp id fun q=>q.imp id fun q=>.tail _ q)
 gens:=S.gens
 os:=S.os
 drawn:=S.drawn
theorem af.more {H':MH}{h h':Heap}(T:af fm H h H' h'):af (fm.more I) H h H' h':=⟨T.keep,T.outs,T.pre⟩
theorem af.less {H':MH}{h h':Heap}(T:af (fm.more I) H h H' h'):af fm H h H' h':=⟨T.keep,T.outs,T.pre⟩
theorem Sat.inner (O:ay fm) (S:Sat fm m H s) (hI:I∈fm.int) (k:∀ b o,b≠I→s.heap.get? b=some o→s'.heap.get? b=some o) (hI':∃ o,s'.heap.get? I=some o)
  (hg:s'.gens=s.gens) (ho:s'.os=s.os) (hd:s'.drawn=s.drawn):Sat fm m H s':=by
 have nb:fm.base.get? I=none:=O.ownBase I (.inr (.inr hI))
 have kR:∀ b o,s.heap.get? b=some o→fm.ok H b→s'.heap.get? b=some o∧fm.ok H b:=fun b o e q=>⟨k b o (fun z=>q.2 (z ▸ hI)) e,q⟩
 have nown:I ∉ fm.own:=fun q=>O.ownFm I q hI
 have nouts:I ∉ fm.outs:=fun q=>O.outsFm I q hI
 refine ⟨fun b o e=>k b o (fun z=>by rw [z,nb] at e; exact nS e) (S.base b o e),?_,?_,?_,?_,?_,S.nodup,S.apart,?_,hg.trans S.gens,ho.trans S.os,hd.trans S.drawn⟩
 ·refine o9 O S.funs fun L hL o e=>⟨o.slots,k L o ?_ e⟩
  exact fun z=>hL.elim (fun q=>nown (z ▸ q)) fun q=>nouts (z ▸ q)
 ·refine aj S.ns fun mm n=>?_
  exact ⟨mm,n.at' fun o e=>k _ o (fun z=>nown (z ▸ O.locals)) e⟩
 ·intro x c h1 h2
  refine cN (S.cells x c h1 h2) fun v o h3 h4=>?_
  exact ⟨v,o,k _ _ (fun z=>by rcases (O.cellsOwn x c h1 h2).1 with q | q; exact nown (z ▸ q); exact nouts (z ▸ q)) h3,h4⟩
 ·intro i x v h1 h2 h3
  refine ae (S.vars i x v h1 h2 h3) fun val h4 h5=>?_
  refine ⟨val,h4.slots fun b o hb e=>⟨o.slots,k b o ?_ e⟩,Rep.mono (fun _ _ e=>e) kR h5⟩
  exact fun z=>hb.elim (fun q=>nown (q.symm.trans z ▸ O.locals)) fun q=>dA q fun c h1 h2 q=>(O.cellsOwn x c h2 h1).1.elim (fun r=>nown (q.symm.trans z ▸ r)) fun r=>nouts (q.symm.trans z ▸ r)
 ·exact fun p hp=>dC.conv rfl rfl (fun r=>RepL.mono (fun _ _ e=>e) kR r) (fun b hb o e=>k b o (fun z=>(S.apart b (bm hp hb)).2.2.1 (z ▸ hI)) e) (S.objs p hp)
 ·intro a ha
  by_cases z:a=I
  ·subst z; exact hI'
  ·refine aj (S.alive a ha) fun o e=>?_; exact ⟨o,k a o z e⟩
theorem Sat.drop (O:ay (fm.more I)) (hn:I ∉ fm.int) (S:Sat (fm.more I) m H s) (k:∀ b o,b≠I→s.heap.get? b=some o→s'.heap.get? b=some o)
  (hg:s'.gens=s.gens) (ho:s'.os=s.os) (hd:s'.drawn=s.drawn):Sat fm m H s':=by
 have inI:I∈(fm.more I).int:=List.mem_cons_self
 have nb:fm.base.get? I=none:=O.ownBase I (.inr (.inr inI))
 have nown:I ∉ fm.own:=fun q=>O.ownFm I q inI
 have nouts:I ∉ fm.outs:=fun q=>O.outsFm I q inI
 have kR:∀ b o,s.heap.get? b=some o→(fm.more I).ok H b→s'.heap.get? b=some o∧fm.ok H b:=fun b o e q=>⟨k b o (dK.mp q).2 e,(dK.mp q).1⟩
 refine ⟨fun b o e=>k b o (fun z=>by rw [z,nb] at e; exact nS e) (S.base b o e),?_,?_,?_,?_,?_,S.nodup,fun a ha=>let ⟨h1,h2,h3,h4⟩:=S.apart a ha; ⟨h1,h2,fun q=>h3 (.tail _ q),h4⟩,?_,hg.trans S.gens,ho.trans S.os,hd.trans S.drawn⟩
 ·refine o9 (fm:=fm.more I) O S.funs fun L hL o e=>⟨o.slots,k L o ?_ e⟩
  exact fun z=>hL.elim (fun q=>nown (z ▸ q)) fun q=>nouts (z ▸ q)
 ·refine aj S.ns fun mm n=>?_
  exact ⟨mm,n.at' fun o e=>k _ o (fun z=>nown (z ▸ O.locals)) e⟩
 ·intro x c h1 h2
  refine cN (S.cells x c h1 h2) fun v o h3 h4=>?_
  exact ⟨v,o,k _ _ (fun z=>by rcases (O.cellsOwn x c h1 h2).1 with q | q; exact nown (z ▸ q); exact nouts (z ▸ q)) h3,h4⟩
 ·intro i x v h1 h2 h3
  refine ae (S.vars i x v h1 h2 h3) fun val h4 h5=>?_
  refine ⟨val,d6.slots (h:=s.heap) (h':=s'.heap) (env:=fm.env) (fun b o hb e=>⟨o.slots,k b o ?_ e⟩) h4,Rep.mono (fun _ _ e=>e) kR h5⟩
  exact fun z=>hb.elim (fun q=>nown (q.symm.trans z ▸ O.locals)) fun q=>dA q fun c h1 h2 q=>(O.cellsOwn x c h2 h1).1.elim (fun r=>nown (q.symm.trans z ▸ r)) fun r=>nouts (q.symm.trans z ▸ r)
 ·exact fun p hp=>dC.conv (fm:=fm.more I) (fm':=fm) rfl rfl (fun r=>RepL.mono (fun _ _ e=>e) kR r) (fun b hb o e=>k b o (fun z=>(S.apart b (bm hp hb)).2.2.1 (z ▸ inI)) e) (S.objs p hp)
 ·intro a ha
  refine aj (S.alive a (ha.imp id fun q=>q.imp id fun q=>.tail _ q)) fun o e=>?_
  refine ⟨o,k a o ?_ e⟩
  exact fun z=>ha.elim (fun q=>nown (z ▸ q)) fun q=>q.elim (fun q=>nouts (z ▸ q)) fun q=>hn (z ▸ q)
end
structure Cs (fm:Fm) (cx:Cx) (n:Nat):Prop extends Cn fm cx n where
 outer:∃ outer,fm.fenvs=fm.env::outer
 cellIn:∀ (x:Str) (c:Addr),fm.env.kindOf x=some .cell→fm.env.cells.lookup x=some c→c∈fm.own
 frLoc:fm.fr=fm.env.locals
theorem zZ {m:LV}{i j:Nat}{v w:V}(h:ba (m.set i (some v)) j=some w):(j=i∧w=v)∨(j≠i∧ba m j=some w):=by
 unfold ba at h ⊢
 rw [List.getElem?_set] at h
 by_cases e:i=j
 ·subst e
  rw [if_pos rfl] at h
  split at h
  ·exact .inl ⟨rfl,(Option.some.inj h).symm⟩
  ·exact nS h
 ·rw [if_neg e] at h
  exact .inr ⟨fun q=>e q.symm,h⟩
section
variable {fm:Fm}{cx:Cx}{n:Nat}{m:LV}{H:MH}{s:Shared}
theorem Sat.own {m m':Loc}{s':Shared}{b0:Addr}(O:ay fm) (S:Sat fm m H s) (hb:b0∈fm.own) (k:∀ b o,b≠b0→s.heap.get? b=some o→s'.heap.get? b=some o)
  (funs:s'.heap.FunFrames fm.base fm.fenvs) (ns:∃ mm,s'.heap.Ns fm.env.locals mm) (cells:∀ x c,fm.env.kindOf x=some .cell→fm.env.cells.lookup x=some c→∃ v,s'.heap.IsCell c v)
  (vars:∀ i x v,fm.names[i]? = some x→(fm.env.kindOf x=some .local∨fm.env.kindOf x=some .cell)→m' i=some v→∃ val,d6 s'.heap fm.env x val∧fm.R H s.heap v val)
  (hb':∃ o,s'.heap.get? b0=some o) (hg:s'.gens=s.gens) (ho:s'.os=s.os) (hd:s'.drawn=s.drawn):Sat fm m' H s'∧af fm H s.heap H s'.heap:=by
 have notX:∀ b,b ∉ fm.X H→b≠b0:=fun b h q=>h (ax.mpr (.inl (q ▸ hb)))
 have T:af fm H s.heap H s'.heap:=⟨fun b o e q=>⟨k b o (notX b q) e,q⟩,fun L hL o e=>⟨o.slots,k L o (fun q=>O.ownOuts b0 hb (q ▸ hL)) e⟩,fun _ _ e=>e⟩
 refine ⟨⟨fun b o e=>k b o (fun q=>by rw [q,O.ownBase b0 (.inl hb)] at e; exact nS e) (S.base b o e),funs,ns,cells,?_,?_,S.nodup,S.apart,?_,hg.trans S.gens,ho.trans S.os,hd.trans S.drawn⟩,T⟩
 ·intro i x v h1 h2 h3
  refine ae (vars i x v h1 h2 h3) fun val h4 h5=>?_
  exact ⟨val,h4,T.rep h5⟩
 ·exact fun p hp=>dC.conv rfl rfl (fun r=>T.repL r) (fun b hb' o e=>k b o (fun q=>(S.apart b (bm hp hb')).1 (q ▸ hb)) e) (S.objs p hp)
 ·intro a ha
  by_cases z:a=b0
  ·subst z; exact hb'
  ·refine aj (S.alive a ha) fun o e=>?_; exact ⟨o,k a o z e⟩
theorem mq {fm:Fm}{h h':Heap}(O:ay fm) (hf:h.FunFrames fm.base fm.fenvs)
  (kF:∀ L,L=fm.fr∨L∈fm.outs→∀ o,h.get? L=some o→(∀ vs,o.data≠.fields vs)→∃ o',h'.get? L=some o'∧∀ vs,o'.data≠.fields vs):h'.FunFrames fm.base fm.fenvs:=by
 have hin:=O.fenvsIn
 generalize fm.fenvs=l at hin hf
 induction l with
 | nil=>trivial
 | cons e r ih =>
  refine bW hf fun a z8=>?_; obtain ⟨L,o,h1,h2,h3,h4⟩:=z8; intro h5
  refine ae (kF L (hin e (.head _) L h1) o h3 h4) fun o' hs h6=>?_
  exact ⟨a,⟨L,_,h1,h2,hs,h6⟩,ih (fun e he=>hin e (.tail _ he)) h5⟩
theorem qJ (C:Cn fm cx n) {i:Nat}{x:Str}(h1:cx.names[i]? = some x) {j:Nat}{y:Str}(hj:fm.names[j]? = some y) (hne:j≠i):y≠x:=fun q=>by
 subst q
 rw [C.names] at hj
 have nd:=C.O.names
 rw [C.names] at nd
 exact hne ((List.getElem?_inj (List.getElem?_eq_some_iff.mp hj).1 nd).mp (hj.trans h1.symm))
theorem vR {i:Nat}{x:Str}{v:V}{xv:Value}{Q:Unit→Shared→Prop}{E:Value→Shared→Prop}(C:Cn fm cx n) (h1:cx.names[i]? = some x) (hk:fm.env.kindOf x=some .local) (S:Sat fm (ba m) H s) (r:fm.R H s.heap v xv)
  (q:∀ s',af fm H s.heap H s'.heap→Sat fm (ba (m.set i (some v))) H s'→Q () s'):wpAny fm.M fm.A (storeName fm.env x xv) Q E s:=by
 have O:=C.O
 have other:∀ {j:Nat}{y:Str},fm.names[j]? = some y→j≠i→y≠x:=fun hj hne=>qJ C h1 hj hne
 refine aj S.ns fun mm hn=>?_
 refine wpAny_storeName_local hk hn (fun h' hn' hs'=>?_) (by rw [O.kind]; rfl)
 have keep:∀ b o,b≠fm.env.locals→s.heap.get? b=some o→h'.get? b=some o:=fun b o e h=>(hs'.2 b e).trans h
 suffices both:Sat fm (ba (m.set i (some v))) H _∧af fm H s.heap H _ from q _ both.2 both.1
 refine Sat.own (m':=ba (m.set i (some v))) (s':={ s with heap:=h',toks:=s.toks+1 }) O S O.locals keep ?_ ⟨_,hn'⟩ ?_ ?_ (let ⟨o,_,_,e,_⟩:=hn'; ⟨o,e⟩) rfl rfl rfl
 ·refine mq O S.funs fun L hL o e hd=>?_
  by_cases z:L=fm.env.locals
  ·subst z
   refine l7 hn' fun o' es ep e' hd' _=>?_
   exact ⟨o',e',fun vs q=>by rw [hd'] at q; cases q⟩
  ·exact ⟨o,keep L o z e,hd⟩
 ·intro y c hy hc
  refine cN (S.cells y c hy hc) fun w o e hd=>?_
  exact ⟨w,o,keep c o (O.cellsOwn y c hy hc).2 e,hd⟩
 ·intro j y w hj hy hw
  rcases zZ hw with ⟨rfl,rfl⟩ | ⟨hne,hw⟩
  ·have:y=x:=by rw [C.names] at hj; exact Option.some.inj (hj.symm.trans h1)
   subst this
   refine ⟨xv,?_,r⟩
   unfold d6; rw [hk]
   exact ⟨_,hn',by simp⟩
  ·refine ae (S.vars j y w hj hy hw) fun val hva rv=>?_
   refine ⟨val,?_,rv⟩
   unfold d6 at hva ⊢
   rcases hy with hy | hy
   ·rw [hy] at hva ⊢
    refine ae hva fun m0 hn0 e0=>?_
    exact ⟨_,hn',by rw [if_neg (other hj hne),Heap.Ns.agree hn hn0]; exact e0⟩
   ·rw [hy] at hva ⊢
    obtain ⟨c,hc,o,e,hd⟩:=hva
    exact ⟨c,hc,o,keep c o (O.cellsOwn y c hy hc).2 e,hd⟩
theorem i8 {x:Str}{v:V}{xv:Value}{Q:Unit→Shared→Prop}{E:Value→Shared→Prop}(C:Cs fm cx n) (hv:cx.isVar x=true) (S:Sat fm (ba m) H s) (r:fm.R H s.heap v xv)
  (q:∀ s',af fm H s.heap H s'.heap→Sat fm (ba (m.set (gI cx.names x) (some v))) H s'→Q () s'):wpAny fm.M fm.A (storeName fm.env x xv) Q E s:=by
 obtain ⟨h1,h2,h3⟩:=gZ hv
 generalize gI cx.names x=i at h1 q
 have O:=C.O
 have other:∀ {j:Nat}{y:Str},fm.names[j]? = some y→j≠i→y≠x:=fun hj hne=>qJ C.toCn h1 hj hne
 rcases h2 with h2 | h2
 ·exact vR C.toCn h1 ((C.kindOf x).trans h2) S r q
 ·have hk:fm.env.kindOf x=some .cell:=(C.kindOf x).trans h2
  obtain ⟨c,hc⟩:=C.cells x hk
  obtain ⟨v0,hcell⟩:=S.cells x c hk hc
  have cO:=C.cellIn x c hk hc
  have cne:=(O.cellsOwn x c hk hc).2
  refine wpAny_storeName_cell O.kind hk hc hcell fun h' hn' hs'=>?_
  have keep:∀ b o,b≠c→s.heap.get? b=some o→h'.get? b=some o:=fun b o e h=>(hs'.2 b e).trans h
  suffices both:Sat fm (ba (m.set i (some v))) H _∧af fm H s.heap H _ from q _ both.2 both.1
  refine Sat.own (m':=ba (m.set i (some v))) (s':={ s with heap:=h' }) O S cO keep ?_ (let ⟨mm,n⟩:=S.ns; ⟨mm,n.at' fun o e=>keep _ o (fun q=>cne q.symm) e⟩) ?_ ?_ (let ⟨o,e,_⟩:=hn'; ⟨o,e⟩) rfl rfl rfl
  ·refine mq O S.funs fun L hL o e hd=>⟨o,keep L o ?_ e,hd⟩
   exact fun z=>hL.elim (fun q=>cne ((z.symm.trans q).trans C.frLoc)) fun q=>O.ownOuts _ cO (z ▸ q)
  ·intro y c' hy hc'
   by_cases z:c'=c
   ·subst z; exact ⟨_,hn'⟩
   ·refine cN (S.cells y c' hy hc') fun w o e hd=>?_
    exact ⟨w,o,keep c' o z e,hd⟩
  ·intro j y w hj hy hw
   rcases zZ hw with ⟨rfl,rfl⟩ | ⟨hne,hw⟩
   ·have:y=x:=by rw [C.names] at hj; exact Option.some.inj (hj.symm.trans h1)
    subst this
    refine ⟨xv,?_,r⟩
    unfold d6; rw [hk]
    exact ⟨c,hc,hn'⟩
   ·obtain ⟨val,hva,rv⟩:=S.vars j y w hj hy hw
    refine ⟨val,?_,rv⟩
    unfold d6 at hva ⊢
    rcases hy with hy | hy
    ·rw [hy] at hva ⊢
     obtain ⟨m0,hn0,e0⟩:=hva
     exact ⟨m0,hn0.at' fun o e=>keep _ o (fun q=>cne q.symm) e,e0⟩
    ·rw [hy] at hva ⊢
     obtain ⟨c',hc',o,e,hd⟩:=hva
     refine ⟨c',hc',o,keep c' o (fun q=>?_) e,hd⟩
     subst q
     exact other hj hne (O.cellsInj y x _ hy hk hc' hc)
end
end
section
noncomputable def FlR (fm:Fm) (H:MH) (h:Heap) (fl:Fl) (f:Flow):Prop:=match fl with
 | .next=>f=.next
 | .brk=>f=.brk
 | .cont=>f=.cont
 | .ret v=>∃ x,f=.ret x∧fm.R H h v x
 | .ex _ _=>False
noncomputable abbrev QF:=Fl→LV→MH→Prop
inductive PF (fm:Fm) (H:MH) (h:Heap) (Q:QF) (f:Flow) (s':Shared):Prop
 | mk (fl:Fl) (m':LV) (H':MH) (a:Q fl m' H') (b:af fm H h H' s'.heap) (c:Sat fm (ba m') H' s') (d:FlR fm H' s'.heap fl f)
noncomputable abbrev QF.x (Q:QF):QX:=fun ks us H'=>Q (.ex ks us) [] H'
noncomputable def XW (fm:Fm) (st:Stmt) (m:LV) (H:MH) (Q:QF):Prop:=∀ s,Sat fm (ba m) H s→wpAny fm.M fm.A (exec st fm.env) (PF fm H s.heap Q) (PX fm (ba m) H s.heap Q.x) s
noncomputable def BW (fm:Fm) (sts:List Stmt) (m:LV) (H:MH) (Q:QF):Prop:=∀ s,Sat fm (ba m) H s→wpAny fm.M fm.A (execs sts fm.env) (PF fm H s.heap Q) (PX fm (ba m) H s.heap Q.x) s
noncomputable abbrev KF {α:Type} (L:α→Prop) (K:Fl→LV→AH→Tr α) (Q:QF):Prop:=∀ f m' H',(K f m' (aa H')).tt L→Q f m' H'
section
variable {fm:Fm}{H H₁:MH}{h h₁:Heap}{Q:QF}{f:Flow}{s s':Shared}
theorem PF.el {P:Prop}(p:PF fm H h Q f s') (k:∀ fl m' H',Q fl m' H'→af fm H h H' s'.heap→Sat fm (ba m') H' s'→FlR fm H' s'.heap fl f→P):P:=let ⟨fl,m',H',a,b,c,d⟩:=p; k fl m' H' a b c d
theorem PF.back (T:af fm H h H₁ h₁) (p:PF fm H₁ h₁ Q f s'):PF fm H h Q f s':=p.el fun fl m' H' a b c d=>⟨fl,m',H',a,T.trans b,c,d⟩
theorem Sat.weak {m m':Loc}(S:Sat fm m H s) (h:∀ i v,m' i=some v→m i=some v):Sat fm m' H s :=
 ⟨S.base,S.funs,S.ns,S.cells,fun i x v h1 h2 h3=>S.vars i x v h1 h2 (h i v h3),S.objs,S.nodup,S.apart,S.alive,S.gens,S.os,S.drawn⟩
theorem Sat.nil {m:Loc}(S:Sat fm m H s):Sat fm (ba []) H s:=S.weak fun i v h=>nS h
variable {cx:Cx}{n k:Nat}
noncomputable abbrev SX (fm:Fm) (g:SM) (st:Stmt):Prop:=∀ {α:Type}{L:α→Prop}{m:LV}{H:MH}{K:Fl→LV→AH→Tr α}{Q:QF},(g α m (aa H) K).tt L→KF L K Q→XW fm st m H Q
noncomputable abbrev SBk (fm:Fm) (g:Stmt→SM) (sts:List Stmt):Prop:=∀ {α:Type}{L:α→Prop}{m:LV}{H:MH}{K:Fl→LV→AH→Tr α}{Q:QF},(evB g sts m (aa H) K).tt L→KF L K Q→BW fm sts m H Q
noncomputable abbrev PS (n:Nat) (cx:Cx) (k:Nat) (st:Stmt):Prop:=∀ fm,Cs fm cx n→SX fm (evS k cx st) st
noncomputable abbrev PBs (n:Nat) (cx:Cx) (k:Nat) (sts:List Stmt):Prop:=∀ fm,Cs fm cx n→SBk fm (evS k cx) sts
theorem PBs.nil:PBs n cx k []:=fun fm C _ _ m H _ _ h q s S=>wpAny_execs_nil ⟨.next,m,H,q _ _ _ h,af.refl ..,S,rfl⟩
theorem PBs.cons {st:Stmt}{sts:List Stmt}(h1:PS n cx k st) (h2:PBs n cx k sts):PBs n cx k (st::sts):=fun fm C α L m H K Q h q s S =>
 wpAny_execs_cons (wpAny_mono (h1 fm C h (fun f m' H' a=>a) s S) (fun f s1 p=>p.el fun fl m1 H1 a T1 S1 hf=>by
  cases fl with
  | next=>subst hf; exact wpAny_mono (h2 fm C a q s1 S1) (fun _ _ p=>p.back T1) fun _ _ p=>(p.mono fun _ _ _ q=>q).back T1
  | brk=>subst hf; exact ⟨.brk,m1,H1,q _ _ _ a,T1,S1,rfl⟩
  | cont=>subst hf; exact ⟨.cont,m1,H1,q _ _ _ a,T1,S1,rfl⟩
  | ret v=>obtain ⟨x,e,r⟩:=hf; subst e; exact ⟨.ret v,m1,H1,q _ _ _ a,T1,S1,x,rfl,r⟩
  | ex _ _=>exact hf.elim) fun x s1 p=>p.mono fun ks us H' a=>q _ _ _ a)
theorem Cs.more {I:Addr}(C:Cs fm cx n) (hb:fm.base.get? I=none) (ho:I ∉ fm.own) (ho':I ∉ fm.outs):Cs (fm.more I) cx n :=
 ⟨⟨C.O.more hb ho ho',C.names,C.kinds,C.room,C.hh,C.fns,C.cells⟩,C.outer,C.cellIn,C.frLoc⟩
theorem BK (C:Cs fm cx n) {m:Loc}{h:Heap}{QE:QX}{x:Value}(p:PX fm m H h QE x s):notedBy fm.M fm.A fm.env (fun e s''=>cameBackBy fm.M fm.A fm.env (PX fm m H h QE) e s'') x s:=p.el fun e d tb ks vs H' m' ex T₁ S₁ ht q=>by
 subst ex
 refine aj C.outer fun outer hfe=>?_
 unfold notedBy
 refine ky C.O hfe C.O.frEnv ht S₁ fun T₂ s₂ S₂ Tr₂=>?_
 unfold cameBackBy
 refine cz S₂.exc_obj fun fs sl he h1 _=>?_
 refine wpAny_bind (wpAny_field he rfl h1 ?_)
 rw [if_neg (by simp)]
 refine iC C.O S₂ fun s₃ S₃ Tr₃=>?_
 refine ⟨e,d,_,ks,vs,H',m',rfl,(T₁.trans Tr₂).trans Tr₃,S₃,?_,q⟩
 rw [C.O.frEnv]
 exact .inr ⟨_,C.O.frEnv,rfl⟩
noncomputable abbrev AtE (f:Fl) (m':LV) (G':AH):QF:=fun f1 m1 H1=>f1=f∧m1=m'∧aa H1=G'
section
variable {t:Expr}{b:List Stmt}{pos:Pos}{m m':LV}{fl:Fl}{G':AH}
theorem Jc {H0:MH}{h0:Heap}{H':MH}{v:V}{x:Value}(a:fl=.ret v∧m'=[]∧G'=aa H') (T:af fm H0 h0 H' s'.heap) (S:Sat fm (ba m) H' s') (r:fm.R H' s'.heap v x):PF fm H0 h0 (AtE fl m' G') (.ret x) s' :=
 bW a fun e1 e2 e3=>⟨.ret v,[],H',⟨e1.symm,e2.symm,e3.symm⟩,T,S.nil,x,rfl,r⟩
theorem CW {H0:MH}{h0:Heap}{H':MH}(a:fl=.next∧m'=m∧G'=aa H') (T:af fm H0 h0 H' s'.heap) (S:Sat fm (ba m) H' s'):PF fm H0 h0 (AtE fl m' G') .next s' :=
 bW a fun e1 e2 e3=>⟨.next,m,H',⟨e1.symm,e2.symm,e3.symm⟩,T,S,rfl⟩
theorem CX {H':MH}{ks:List Str}{us:List V}(a:fl=.ex ks us∧m'=[]∧G'=aa H'):(AtE fl m' G').x ks us H':=bW a fun e1 e2 e3=>⟨e1.symm,e2.symm,e3.symm⟩
theorem Go (C:Cs fm cx n) (ht:PE n cx 24 t) (hb:PBs n cx k b) {j:Nat}(hw:whl (rnd cx (evS k cx) t b) j m (aa H) fl m' G'):XW fm (.While t b [] pos) m H (AtE fl m' G'):=fun s S=>by
 refine wpAny_While (codeAny_whileLoop (fun j s'=>∃ m1 H1,af fm H s.heap H1 s'.heap∧Sat fm (ba m1) H1 s'∧whl (rnd cx (evS k cx) t b) j m1 (aa H1) fl m' G') (fun j s' h=>gg fun T hT=>?_) j ⟨m,H,af.refl ..,S,hw⟩)
 refine cz h fun m1 H1 T1 S1 w=>?_
 cases j with
 | zero=>exact w.elim
 | succ j =>
  have ht':=(ht fm C.toCn).t (Q:=fun c H2=>(cif c (evB (evS k cx) b m1 (aa H2) fun f m G=>.ok (f,m,G)) (.ok (.brk,m1,aa H2))).tt fun p=>aft (whl (rnd cx (evS k cx) t b) j) p fl m' G') (QE:=fun ks us H2=>aft (whl (rnd cx (evS k cx) t b) j) (.ex ks us,[],aa H2) fl m' G') w
   (s8 fun c H2 a=>a) (fun ks us H2 a=>a)
  refine hT (wpAny_mono (ht' s' S1) (fun c s2 p=>gg fun T hT=>?_) fun x s2 p=>BK C ((p.mono fun ks us H2 a=>CX a).back T1))
  obtain ⟨H2,T2,S2,a⟩:=p
  have T2:=T1.trans T2
  cases c with
  | false=>exact hT (wpAny_execs_nil (CW a T2 S2))
  | true =>
   refine hT (wpAny_mono (hb fm C a (Q:=fun f1 m3 H3=>aft (whl (rnd cx (evS k cx) t b) j) (f1,m3,aa H3) fl m' G') (fun _ _ _ a=>a) s2 S2) (fun f s3 p=>p.el fun f1 m3 H3 a T3 S3 hf=>?_) fun x s3 p=>BK C ((p.mono fun ks us H3 a=>CX a).back T2))
   have T3:=T2.trans T3
   cases f1 with
   | next=>subst hf; exact ⟨j,Nat.lt_succ_self j,m3,H3,T3,S3,a⟩
   | cont=>subst hf; exact ⟨j,Nat.lt_succ_self j,m3,H3,T3,S3,a⟩
   | brk=>subst hf; exact CW a T3 S3
   | ret v=>obtain ⟨x,e,r⟩:=hf; subst e; exact Jc a T3 S3 r
   | ex _ _=>exact hf.elim
end
end
end
section
section
variable {fm:Fm}{cx:Cx}{n k:Nat}{m m':LV}{H:MH}{s:Shared}{fl:Fl}{G':AH}
noncomputable abbrev NN (cx:Cx) (n:Nat) (t:Expr):Prop:=∀ (fm:Fm),Cs fm cx n→∀ (v:V) (m m':LV) (H:MH) (s:Shared) (y:Value) (E:Value→Shared→Prop) (Q:Unit→Shared→Prop),xz cx t v m=some m'→Sat fm (ba m) H s→fm.R H s.heap v y →
 (∀ s',af fm H s.heap H s'.heap→Sat fm (ba m') H s'→Q () s')→wpAny fm.M fm.A (assign t fm.env y) Q E s
theorem CY {fm:Fm}{I:Addr}{H0 H':MH}{h0 h h':Heap}(Ta:af fm H0 h0 H' h) (hIn:h0.get? I=none) (hout:I ∉ fm.outs) (hk:∀ b o,b ∉ [I]→h.get? b=some o→h'.get? b=some o):af fm H0 h0 H' h' :=
 ⟨fun b ob e nX=>ar (Ta.keep b ob e nX) fun e' nX'=>⟨hk b ob (fun q=>by rw [List.mem_singleton.mp q,hIn] at e; exact nS e) e',nX'⟩,
  fun L hL ob e=>aj (Ta.outs L hL ob e) fun sl e'=>⟨sl,hk L _ (fun q=>hout (List.mem_singleton.mp q ▸ hL)) e'⟩,Ta.pre⟩
theorem vS {I:Addr}{H1 Ha Hb:MH}{s1 sa sb:Shared}{ma:Loc}{xs:List V}{fp:List Addr}{P:Nat→Value→Prop}{St:Nat→Heap→Prop}{i:Nat}(O':ay (fm.more I)) (W:ID fm H1 s1.heap xs I fp P St) (st:St i sa.heap) (Ta:af fm H1 s1.heap Ha sa.heap)
  (Sa:Sat (fm.more I) ma Ha sa) (Tb:af fm Ha sa.heap Hb sb.heap):St i sb.heap:=W.W.frame i _ _ st fun b hb ob e=>by
 have inI:I∈(fm.more I).int:=List.mem_cons_self
 refine (Tb.keep b ob e fun z=>?_).1
 rcases W.fpX b hb with q | ⟨⟨o',e'⟩,hk⟩
 ·subst q
  rcases ax.mp z with z | z | z
  ·exact O'.ownFm _ z inI
  ·exact O'.outsFm _ z inI
  ·exact (Sa.apart _ z).2.2.1 inI
 ·exact (Ta.keep b o' e' hk.1).2 z
theorem Gp (C:Cs fm cx n) {t it:Expr}{b:List Stmt}{pos:Pos}{Q:QF}(hf:∀ x,foldedSetIterable it fm.env x=pure x) (hset:NN cx n t) (hb:PBs n cx k b)
  (h:EW fm it (ba m) H (fun v H1=>∃ xs,lT v=some xs∧((∃ y p,t=.Name y p)∨zL v=true)∧∃ fl m' G',flr (xz cx t) (bod (evS k cx) b) xs m (aa H1) fl m' G'∧∀ f1 m1 H2,AtE fl m' G' f1 m1 H2→Q f1 m1 H2) Q.x):XW fm (.For t it b [] pos) m H Q:=fun s S=>by
 refine wpAny_For (h.run S (fun x s1 v H1 T1 S1 r1 q=>dA q fun xs hv htg q=>DF q fun fl m' G' hw hq=>CQ hv C.hh S1 r1 fun o St P fp W hlen st0 hgo ho=>?_) fun _ _ p=>p) hf
 generalize hI:s1.heap.objs.size=I at W st0 hgo ho
 have hIn:s1.heap.get? I=none:=by rw [← hI]; exact aV _
 have kp:∀ b ob,s1.heap.get? b=some ob→(s1.heap.push o).get? b=some ob:=fun b ob e=>Heap.get?_push_of_some _ e
 have fr:=S1.fresh_apart hIn
 have C':Cs (fm.more I) cx n:=C.more fr.2.2.2 fr.1 fr.2.1
 have inI:I∈(fm.more I).int:=List.mem_cons_self
 refine codeAny_forLoop_any (fun j s'=>∃ i m1 H',j=xs.length - i∧i≤xs.length∧af fm H1 s1.heap H' s'.heap∧Sat (fm.more I) (ba m1) H' s'∧St i s'.heap∧flr (xz cx t) (bod (evS k cx) b) (xs.drop i) m1 (aa H') fl m' G') (fun j s' hj=>?_) xs.length
  ⟨0,m,H1,rfl,Nat.zero_le _,af.of_keeps kp,S1.more hIn ⟨o,ho⟩ kp rfl rfl rfl,st0,hw⟩
 refine gg fun T hT=>?_
 obtain ⟨i,m1,H',ej,hi,Ta,Sa,st,er⟩:=hj
 rcases Nat.lt_or_eq_of_le hi with hlt | hin
 ·refine hT (W.W.item i s' _ _ hlt st fun y h' tk hP st' hk=>gg fun T hT=>?_)
  have Sb:Sat (fm.more I) (ba m1) H' { s' with heap:=h',toks:=tk }:=Sa.inner C'.O inI (fun b ob hb e=>hk b ob (fun q=>hb (List.mem_singleton.mp q)) e) (W.al _ _ st') rfl rfl rfl
  have Tb:af fm H1 s1.heap H' h':=CY Ta hIn (fun q=>C'.O.outsFm _ q inI) hk
  rw [List.drop_eq_getElem_cons hlt] at er
  refine ae (W.item i y hlt hP) fun v' hv' ry=>ae er fun m2 hm2 er=>?_
  obtain rfl:=sj ((List.getElem?_eq_getElem hlt).symm.trans hv')
  have ry':=ry (fm.more I) H' h' rfl rfl Tb.pre fun b ob e q=>ar (Tb.keep b ob e q.1) fun e' n'=>⟨e',dK.mpr ⟨⟨n',q.2⟩,fun z=>by rw [z,hIn] at e; exact nS e⟩⟩
  have hgo':∀ (Q':Unit→Shared→Prop) (E':Value→Shared→Prop) (s':Shared),St (i+1) s'.heap→Q' () s'→wpAny fm.M fm.A (letOwnedTupleGo t (.ref I) y) Q' E' s':=fun Q' E' s' st hq =>
   htg.elim (fun z=>sq z fun x p e=>by rw [e]; exact wpAny_pure hq) fun z=>hgo z t _ y s' Q' E' st hq
  refine hT (hgo' _ _ _ st' (hset (fm.more I) C' _ _ _ H' _ y _ _ hm2 Sb ry' fun s3 T3 S3=>?_))
  have T3:af fm H' h' H' s3.heap:=T3.less
  have st3:=vS (sa:={ s' with heap:=h',toks:=tk }) C'.O W st' Tb Sb T3
  have Tc:=Tb.trans T3
  refine wpAny_mono (hb (fm.more I) C' er (Q:=fun f1 m3 H3=>aft (flr (xz cx t) (bod (evS k cx) b) (xs.drop (i+1))) (f1,m3,aa H3) fl m' G') (fun _ _ _ a=>a) s3 S3) (fun f s4 p=>p.el fun f1 m4 H4 a T4 S4 hf=>?_) fun x s4 p=>?_
  ·have T4:af fm H' s3.heap H4 s4.heap:=T4.less
   have Td:=Tc.trans T4
   have st4:=vS C'.O W st3 Tc S3 T4
   have go:flr (xz cx t) (bod (evS k cx) b) (xs.drop (i+1)) m4 (aa H4) fl m' G'→∃ j',j'<j∧∃ i m1 H',j'=xs.length - i∧i≤xs.length∧af fm H1 s1.heap H' s4.heap∧Sat (fm.more I) (ba m1) H' s4∧St i s4.heap∧flr (xz cx t) (bod (evS k cx) b) (xs.drop i) m1 (aa H') fl m' G' :=
    fun a=>⟨xs.length - (i+1),ej ▸ Nat.sub_lt_sub_left hlt (Nat.lt_succ_self i),i+1,m4,H4,rfl,hlt,Td,S4,st4,a⟩
   have S4':=S4.less
   cases f1 with
   | next=>subst hf; exact go a
   | cont=>subst hf; exact go a
   | brk=>subst hf; exact bW a fun e1 e2 e3=>⟨.next,m4,H4,hq _ _ _ ⟨e1.symm,e2.symm,e3.symm⟩,T1.trans Td,S4',rfl⟩
   | ret v=>obtain ⟨x,e,r⟩:=hf; subst e; exact bW a fun e1 e2 e3=>⟨.ret v,[],H4,hq _ _ _ ⟨e1.symm,e2.symm,e3.symm⟩,T1.trans Td,S4'.nil,x,rfl,Gn r⟩
   | ex _ _=>exact hf.elim
  ·exact p.el fun e d tb ks vs H' m'' ex T₁ S₁ ht q=>BK C ⟨e,d,tb,ks,vs,H',m'',ex,T1.trans (Tc.trans T₁.less),S₁.less,ht,bW q fun e1 e2 e3=>hq _ _ _ ⟨e1.symm,e2.symm,e3.symm⟩⟩
 ·refine hT (W.W.done s' _ _ (hin ▸ st) fun h' tk hk=>?_)
  rw [hin,List.drop_length] at er
  have Sb:Sat fm (ba m1) H' { s' with heap:=h',toks:=tk }:=Sa.drop C'.O fr.2.2.1 (fun b ob hb e=>hk b ob (fun q=>hb (List.mem_singleton.mp q)) e) rfl rfl rfl
  exact bW er fun e1 e2 e3=>wpAny_execs_nil ⟨.next,m1,H',hq _ _ _ ⟨e1.symm,e2.symm,e3.symm⟩,T1.trans (CY Ta hIn (fun q=>C'.O.outsFm _ q inI) hk),Sb,rfl⟩
end
end
section
noncomputable def Gq {α:Type} (x:Sem α):Option α:=match x with
 | .pure a=>some a
 | _=>none
theorem xG {α:Type}{x:Sem α}{a:α}(h:Gq x=some a):x=pure a:=by cases x <;> first | exact nS h | exact congrArg Sem.pure (sj h)
noncomputable abbrev nJ (cx:Cx):Env:={ scope:={ kind:=.function,names:=cx.kinds,isGenerator:=false,isCoroutine:=false },locals:=0,globals:=0,cells:=[] }
noncomputable def pb (e:Expr):Bool:=match vw e with
 | .no=>false
 | _=>true
theorem mr {iter:Expr}{env:Env}(h:pb iter=true):∀ x,foldedSetIterable iter env x=pure x:=by
 cases iter <;> first | exact ff h | exact fun x=>rfl
noncomputable def lL (e:Expr):Bool:=match vw e with
 | .name _=>true
 | _=>false
theorem nK {e:Expr}(h:lL e=true):∃ p,e=.Name (bi e) p:=by cases e <;> first | exact ff h | exact ⟨_,rfl⟩
noncomputable def lW (cx:Cx):List Expr→Bool
 | []=>true
 | t::ts=>(lL t&&cx.isVar (bi t))&&lW cx ts
noncomputable def pd (cx:Cx) (ts:List Expr) (k:Nat) (p:Pos) (v:Expr):Bool:=match Gq (swappedStores [.Tuple ts k p] v (nJ cx)) with
 | some r=>match r with
  | some names=>names==ts.map bi
  | none=>true
 | none=>false
noncomputable def eR (cx:Cx) (v:Expr) (t:Option Expr) (line:Nat) (b:Bool):Bool:=match Gq (swapsWith v t line (nJ cx)) with
 | some c=>c==b
 | none=>false
section
variable {fm:Fm}{cx:Cx}{n k:Nat}{H:MH}{s:Shared}
theorem Cn.env (C:Cn fm cx n):fm.env.blockKind=(nJ cx).blockKind∧fm.env.scope.kind=(nJ cx).scope.kind∧fm.env.kindOf=(nJ cx).kindOf:=⟨by unfold Env.blockKind; rw [C.O.kind],C.O.kind,funext C.kindOf⟩
theorem i9 (C:Cn fm cx n) {v:Expr}{t:Option Expr}{line:Nat}{b:Bool}(h:eR cx v t line b=true):swapsWith v t line fm.env=pure b:=by
 have e:swapsWith v t line fm.env=swapsWith v t line (nJ cx):=by
  delta swapsWith
  rw [C.env.1,C.env.2.1,C.env.2.2]
 rw [e]
 unfold eR at h
 cases q:Gq (swapsWith v t line (nJ cx)) with
 | none=>rw [q] at h; exact ff h
 | some c=>rw [q] at h; exact eq_of_beq h ▸ xG q
theorem D3 (C:Cn fm cx n) {ts:List Expr}{k:Nat}{p:Pos}{v:Expr}(h:pd cx ts k p v=true):swappedStores [.Tuple ts k p] v fm.env=pure none∨swappedStores [.Tuple ts k p] v fm.env=pure (some (ts.map bi)):=by
 have e:swappedStores [.Tuple ts k p] v fm.env=swappedStores [.Tuple ts k p] v (nJ cx):=by
  delta swappedStores
  rw [C.env.1,C.env.2.2]
 rw [e]
 unfold pd at h
 cases q:Gq (swappedStores [.Tuple ts k p] v (nJ cx)) with
 | none=>rw [q] at h; exact ff h
 | some r=>cases r with
  | none=>exact .inl (xG q)
  | some l=>rw [q] at h; exact .inr (eq_of_beq h ▸ xG q)
theorem vT {E:Value→Shared→Prop}{Q:Unit→Shared→Prop}(C:Cs fm cx n):∀ {ts:List Expr}{vs:List V}{xs:List Value}{m m':LV}{s:Shared},lW cx ts=true→bw (nG cx ts) vs m=some m'→Sat fm (ba m) H s→fm.RL H s.heap vs xs →
  (∀ s',af fm H s.heap H s'.heap→Sat fm (ba m') H s'→Q () s')→wpAny fm.M fm.A (assignInOrder ((assignEach ts fm.env).map (·.2)) xs) Q E s
 | [],[],xs,m,m',s,_,hm,S,r,q=>by
  rw [show xs=[] from r]
  exact assignInOrder_nil (q s (af.refl ..) (sj hm ▸ S))
 | [],_::_,_,_,_,_,_,hm,_,_,_=>nS hm
 | _::_,[],_,_,_,_,_,hm,_,_,_=>nS hm
 | t::ts,v::vs,xs,m,m',s,h,hm,S,r,q=>cz r fun y ys e r1 r2=>by
  refine aj (nK (an (an h).1).1) fun p et=>?_
  have hv:=(an (an h).1).2
  have hm:bw (nG cx ts) vs (m.set (gI cx.names (bi t)) (some v))=some m':=hm
  generalize bi t=x at et hv hm
  subst e et
  exact assignInOrder_cons (wpAny_assign_Name (i8 C hv S r1 fun s1 T1 S1=>vT C (an h).2 hm S1 (T1.repL r2) fun s2 T2 S2=>q s2 (T1.trans T2) S2))
noncomputable abbrev NO (cx:Cx) (l:List Str):Prop:=∀ x∈l,cx.isVar x=true
theorem z0 {E:Value→Shared→Prop}{Q:Unit→Shared→Prop}(C:Cs fm cx n):∀ {names:List Str}{vs:List V}{xs:List Value}{m m':LV}{s:Shared},NO cx names→bw (names.map (gI cx.names)) vs m=some m'→Sat fm (ba m) H s→fm.RL H s.heap vs xs →
  (∀ s',af fm H s.heap H s'.heap→Sat fm (ba m') H s'→Q () s')→wpAny fm.M fm.A (assignInOrder (names.map fun n=>bindName fm.env n) xs) Q E s
 | [],[],xs,m,m',s,_,hm,S,r,q=>by
  rw [show xs=[] from r]
  exact assignInOrder_nil (q s (af.refl ..) (sj hm ▸ S))
 | [],_::_,_,_,_,_,_,hm,_,_,_=>nS hm
 | _::_,[],_,_,_,_,_,hm,_,_,_=>nS hm
 | x::ns,v::vs,xs,m,m',s,h,hm,S,r,q=>cz r fun y ys e r1 r2=>by
  subst e
  exact assignInOrder_cons (bindName_ (i8 C (h x (.head _)) S r1 fun s1 T1 S1=>z0 C (fun x hx=>h x (.tail _ hx)) hm S1 (T1.repL r2) fun s2 T2 S2=>q s2 (T1.trans T2) S2))
theorem nL:∀ {is:List Nat}{vs:List V}{m:LV}{i:Nat}{v:V},i ∉ is→bw is vs (m.set i (some v))=(bw is vs m).map (·.set i (some v))
 | [],[],m,i,v,_=>rfl
 | [],_::_,_,_,_,_=>rfl
 | _::_,[],_,_,_,_=>rfl
 | j::is,u::vs,m,i,v,h=>by
  show bw is vs _=(bw is vs _).map _
  rw [List.set_comm _ _ (fun q=>h (List.mem_cons.mpr (.inl q))),nL fun q=>h (.tail _ q)]
theorem nM:∀ {is:List Nat}{vs:List V}{m:LV}{i:Nat}{v:V},is.length=vs.length→bw (is++[i]) (vs++[v]) m=(bw is vs m).map (·.set i (some v))
 | [],[],m,i,v,_=>rfl
 | [],_::_,_,_,_,h=>nomatch h
 | _::_,[],_,_,_,h=>nomatch h
 | j::is,u::vs,m,i,v,h=>nM (is:=is) (vs:=vs) (Nat.succ.inj h)
theorem iG:∀ {is:List Nat}{vs:List V}{m m':LV},bw is vs m=some m'→is.length=vs.length
 | [],[],_,_,_=>rfl
 | [],_::_,_,_,h=>nS h
 | _::_,[],_,_,h=>nS h
 | j::is,u::vs,m,m',h=>congrArg (·+1) (iG (is:=is) (vs:=vs) h)
theorem qK:∀ {is:List Nat}{vs:List V}{m m':LV},is.Nodup→bw is vs m=some m'→bw is.reverse vs.reverse m=some m'
 | [],[],_,_,_,h=>h
 | [],_::_,_,_,_,h=>nS h
 | _::_,[],_,_,_,h=>nS h
 | j::is,u::vs,m,m',nd,h=>by
  have nd:=List.nodup_cons.mp nd
  have h:bw is vs (m.set j (some u))=some m':=h
  rw [nL nd.1] at h
  refine gj h fun m0 h0 e=>?_
  rw [List.reverse_cons,List.reverse_cons,nM (by rw [List.length_reverse,List.length_reverse,iG h0]),qK nd.2 h0]
  exact congrArg some e
theorem xI {env:Env}:∀ {ts:List Expr},lW cx ts=true→(assignEach ts env).length=ts.length∧(assignEach ts env).findIdx? (·.1)=none∧nG cx ts=(ts.map bi).map (gI cx.names)∧NO cx (ts.map bi)
 | [],_=>⟨rfl,rfl,rfl,fun _ h=>absurd h List.not_mem_nil⟩
 | t::ts,h=>by
  refine aj (nK (an (an h).1).1) fun p et=>?_
  have hv:=(an (an h).1).2
  refine uS (xI (env:=env) (an h).2) fun l1 l2 l3 l4=>⟨?_,?_,congrArg (_::·) l3,fun x hx=>(List.mem_cons.mp hx).elim (fun q=>q ▸ hv) (l4 x)⟩
  ·rw [et]; exact congrArg (·+1) l1
  ·rw [et]
   show ((false,assign (.Name (bi t) p) env)::assignEach ts env).findIdx? (·.1)=none
   rw [List.findIdx?_cons,if_neg ff,l2]; rfl
theorem af.push_ext {h h':Heap}(e:Heap.ExtBut h.objs.size h h'):∀ b o,h.get? b=some o→h'.get? b=some o:=fun b o x=>e b o (fun q=>by rw [q,aV] at x; exact nS x) x
theorem vU {v:V}{vs:List V}(h:rU v=some vs):v=.tup vs:=by cases v <;> first | exact nS h | exact congrArg _ (sj h)
theorem vV {E:Value→Shared→Prop}{Q:Unit→Shared→Prop}(C:Cs fm cx n) {ts:List Expr}{k:Nat}{p:Pos}{vs:List V}{x:Value}{m m':LV}{s:Shared}(ht:lW cx ts=true) (hm:bw (nG cx ts) vs m=some m')
  (S:Sat fm (ba m) H s) (r:fm.R H s.heap (.tup vs) x) (q:∀ s',af fm H s.heap H s'.heap→Sat fm (ba m') H s'→Q () s'):wpAny fm.M fm.A (assign (.Tuple ts k p) fm.env x) Q E s:=cP r fun a ys e hok hl r1=>by
 subst e
 refine uS (xI (env:=fm.env) ht) fun l1 l2 l3 _=>?_
 have l4:=iG hm
 rw [l3,List.length_map,List.length_map,← l1] at l4
 refine assign_Tuple_tuple C.hh hl.isTup (l4.trans r1.length) l2 fun h' he=>?_
 have kp:=af.push_ext he
 have T0:af fm H s.heap H h':=af.of_keeps kp
 exact vT C ht hm (S.keeps (s':={ s with heap:=h' }) kp rfl rfl rfl) (T0.repL r1) fun s2 T2 S2=>q s2 (T0.trans T2) S2
end
end
section
noncomputable abbrev PR (n:Nat) (cx:Cx) (y:Str) (e:Expr):Prop:=∀ fm,Cn fm cx n→s7 fm (fun α=>evR (α:=α) cx y e) e
noncomputable def PRs (n:Nat) (cx:Cx):List Expr→List Expr→Prop
 | [],_=>True
 | t::ts,es=>match es with
  | e::es=>PR n cx (bi t) e∧PRs n cx ts es
  | []=>True
section
variable {fm:Fm}{cx:Cx}{n k:Nat}{m:LV}{H:MH}{s:Shared}
theorem XW.mono {st:Stmt}{Q Q':QF}(h:XW fm st m H Q) (k:∀ f m' H',Q f m' H'→Q' f m' H'):XW fm st m H Q':=fun s S=>wpAny_mono (h s S) (fun f s' p=>p.el fun fl m' H' a b c d=>⟨fl,m',H',k _ _ _ a,b,c,d⟩) fun _ _ p=>p.mono fun _ _ _ q=>k _ _ _ q
theorem LR {α:Type}{L:α→Prop}{K:Fl→LV→AH→Tr α}{Q:QF}{fl:Fl}{m':LV}{G':AH}(hk:(K fl m' G').tt L) (q:KF L K Q):∀ f1 m1 H1,AtE fl m' G' f1 m1 H1→Q f1 m1 H1:=fun f1 m1 H1 a=>by
 obtain ⟨e1,e2,e3⟩:=a
 subst e1 e2 e3
 exact q _ _ _ hk
noncomputable def Gr (e:Expr):Bool:=match vw e with
 | .dict ks vs=>ks.isEmpty&&vs.isEmpty
 | _=>false
noncomputable def dOk (e:Expr):Bool:=!dE e
theorem Jd {e:Expr}(h:F4 e=true):∃ p,e=.List (zV e) p:=by cases e <;> first | exact ff h | exact ⟨_,rfl⟩
theorem CZ {e:Expr}(h:Gr e=true):∃ p,e=.Dict [] [] p:=by
 cases e <;> first | exact ff h | skip
 rename_i ks vs p
 cases ks <;> cases vs <;> first | exact ff h | exact ⟨p,rfl⟩
theorem NP {y:Str}{e:Expr}(h:Gr e=true):PR n cx y e:=fun fm C _ _ _ _ _ _ _ _ h0 q x=>by
 obtain ⟨p,rfl⟩:=CZ h
 exact NJ C.O fun H' g=>q _ _ (by rw [g]; exact h0)
theorem XR {y:Str}{e:Expr}(h:PE n cx 24 e) (hd:dOk e=true) (hl:PLs n cx 24 (zV e)) (hlen:Nat.ble (zV e).length 1000=true):PR n cx y e:=fun fm C α L m H K X Q QE h0 q x=>by
 have h0:(cif (F4 e&&sY cx.mv y) (evL (ev cx) (zV e) m (aa H) (fun vs G=>K (.ref G.length) (G++[.list vs])) X) (cif (dE e) (K (.ref (aa H).length) (aa H++[.dI []])) (evX cx (ev cx) e m (aa H) K X))).tt L:=h0
 cases hm:F4 e&&sY cx.mv y with
 | true =>
  rw [hm] at h0
  refine aj (Jd (an hm).1) fun p he=>?_
  generalize zV e=es at he h0 hl hlen
  subst he
  exact IV C.O (lV x hl.star (hl.g C) h0 fun vs H1 hn hk=>⟨hn ▸ aX hlen,fun H' g=>q _ _ (by rw [g]; exact hk)⟩)
 | false =>
  rw [hm,nt hd] at h0
  exact vP C (h fm C).a h0 q x
theorem Gu {α:Type}{L:α→Prop}{pos:Pos}{X:XT α}{QE:QX}(C:Cn fm cx n) (qx:KX L X QE) {m:LV}:∀ {ts es:List Expr}{H:MH}{K:List V→AH→Tr α}{QL:List V→MH→Prop},bb es=true→PRs n cx ts es→(IP cx ts es m (aa H) K X).tt L →
  (∀ vs H',vs.length=es.length→(K vs (aa H')).tt L→QL vs H')→LW fm pos es (ba m) H QL QE
 | [],[],_,_,_,_,_,h,q=>Bm (q _ _ rfl h)
 | [],_::_,_,_,_,_,_,h,_=>h.elim
 | _::_,[],_,_,_,_,_,h,_=>h.elim
 | t::ts,e::r,H,K,QL,hs,hp,h,q=>rR ((cu hs).2 _) (hp.1 fm C (K:=fun v G=>IP cx ts r m G (fun vs G=>K (v::vs) G) X) h (fun v H1 h1=>Gu C qx (cu hs).1 hp.2 h1 fun vs H2 hl h2=>q (v::vs) H2 (congrArg (·+1) hl) h2) qx)
theorem Je {pos}:PS n cx (k+1) (.Pass pos):=fun fm C _ _ m H _ _ h q s S=>wpAny_Pass ⟨.next,m,H,q _ _ _ h,af.refl ..,S,rfl⟩
theorem LS {pos}:PS n cx (k+1) (.Break pos):=fun fm C _ _ m H _ _ h q s S=>wpAny_Break ⟨.brk,m,H,q _ _ _ h,af.refl ..,S,rfl⟩
theorem Jf {pos}:PS n cx (k+1) (.Continue pos):=fun fm C _ _ m H _ _ h q s S=>wpAny_Continue ⟨.cont,m,H,q _ _ _ h,af.refl ..,S,rfl⟩
theorem Jg {pos}:PS n cx (k+1) (.Return none pos):=fun fm C _ _ m H _ _ h q s S=>wpAny_Return_none ⟨.ret .none,m,H,q _ _ _ h,af.refl ..,S,_,rfl,rfl⟩
theorem gk {α:Type}{L:α→Prop}{K:Fl→LV→AH→Tr α}{Q:QF}(q:KF L K Q):KX L (exS K) Q.x:=fun _ _ _ a=>q _ _ _ a
variable {x t o v:Expr}{p pos:Pos}{y:Str}{ts:List Expr}{a:Nat}
theorem LT (h:PR n cx Lz x):PS n cx (k+1) (.Return (some x) pos):=fun fm C α L m H K Q h0 q s S =>
 wpAny_Return_some ((h fm C.toCn h0 (Q:=fun v H1=>Q (.ret v) m H1) (fun v H1 a=>q _ _ _ a) (gk q)).run S (fun y s1 v H1 T1 S1 r1 a=>⟨.ret v,m,H1,a,T1,S1,y,rfl,r1⟩) fun _ _ p=>p)
theorem D4 {x:Expr}{pos:Pos}:dropValue x pos .none=pure .next:=by cases x <;> rfl
theorem Gv {α:Type}{L:α→Prop}{v:V}{t:Tr α}{P:Prop}(h:(cif (bg v) t .no).tt L) (k:bg v=true→t.tt L→P):P:=by
 cases e:bg v with
 | false=>rw [e] at h; exact h.elim
 | true=>rw [e] at h; exact k e h
theorem Jh (sw:eR cx x none pos.line false=true) (h:PE n cx 24 x):PS n cx (k+1) (.Expr x pos):=fun fm C α L m H K Q h0 q s S=>by
 rw [exec_Expr fm.env x pos (by unfold interactive; rw [C.O.kind]; rfl) (i9 C.toCn sw)]
 refine wpAny_bind (wpAny_standAt (wpAny_bind (((h fm C.toCn).a (K:=fun v G=>.aC (bg v) fun c=>cif c (K .next m G) .no) h0 (Q:=fun v H1=>bg v=true∧Q .next m H1) (fun v H1 a=>Gv a fun e a=>⟨e,q _ _ _ a⟩) (gk q)).run S (fun y s1 v H1 T1 S1 r1 a=>?_) fun _ _ p=>p)))
 obtain rfl:=CV a.1
 rw [show y=.none from r1,D4]
 exact wpAny_pure ⟨.next,m,H1,a.2,T1,S1,rfl⟩
theorem LU (h1:cx.isVar y=true) (sw:eR cx v (some (.Name y p)) pos.line false=true) (h:PR n cx y v):PS n cx (k+1) (.Assign [.Name y p] v pos):=fun fm C α L m H K Q h0 q s S =>
 wpAny_Assign_Name ((h fm C.toCn h0 (Q:=fun v H1=>Q .next (m.set (gI cx.names y) (some v)) H1) (fun v H1 a=>q _ _ _ a) (gk q)).run S (fun y s1 v H1 T1 S1 r1 a=>i8 C h1 S1 r1 fun s2 T2 S2=>⟨.next,_,H1,a,T1.trans T2,S2,rfl⟩) fun _ _ p=>p) (i9 C.toCn sw)
theorem vW {Q:QF}(C:Cs fm cx n) (h1:lW cx ts=true) (h2:decide (nG cx ts).Nodup=true) (sw:eR cx v (some (.Tuple ts a p)) pos.line false=true) (h5:pd cx ts a p v=true)
  (h:EW fm v (ba m) H (fun u H1=>∃ vs m',u=.tup vs∧bw (nG cx ts) vs m=some m'∧Q .next m' H1) Q.x):XW fm (.Assign [.Tuple ts a p] v pos) m H Q:=fun s S=>by
 have sw:=i9 C.toCn sw
 rcases D3 C.toCn h5 with hs | hs
 ·exact Assign_Tuple (h.run S (fun y s1 u H1 T1 S1 r1 z=>cz z fun vs m' e1 e2 e3=>by
   subst e1
   exact vV C h1 e2 S1 r1 fun s2 T2 S2=>⟨.next,m',H1,e3,T1.trans T2,S2,rfl⟩) fun _ _ p=>p) sw hs
 ·refine Assign_Tuple_swapped (names:=ts.map bi) (h.run S (fun y s1 u H1 T1 S1 r1 z=>cz z fun vs m' e1 e2 e3=>?_) fun _ _ p=>p) sw hs
  subst e1
  refine cP r1 fun ad ys ey hok hl r9=>uS (xI (env:=fm.env) h1) fun l1 l2 l3 l4=>?_
  subst ey
  have l8:vs.length=ys.size:=r9.length
  have l9:=iG e2
  rw [l3,List.length_map] at l9
  rw [show (ts.map bi).length=ys.size from l9.trans l8]
  refine unpackItems_tuple C.hh hl.isTup fun h' he=>?_
  have kp:=af.push_ext he
  have T0:af fm H1 s1.heap H1 h':=af.of_keeps kp
  exact z0 (names:=(ts.map bi).reverse) C (fun x hx=>l4 x (List.mem_reverse.mp hx)) (by rw [List.map_reverse,← l3]; exact qK (of_decide_eq_true h2) e2) (S1.keeps (s':={ s1 with heap:=h' }) kp rfl rfl rfl) (RepL.reverse (T0.repL r9)) fun s2 T2 S2 =>
   ⟨.next,m',H1,e3,(T1.trans T0).trans T2,S2,rfl⟩
theorem Gw {α:Type}{L:α→Prop}{o:Option LV}{t:LV→Tr α}{P:Prop}(h:(match o with | some m=>t m | none=>.no).tt L) (k:∀ m',o=some m'→(t m').tt L→P):P:=by
 cases o with
 | none=>exact h.elim
 | some m'=>exact k m' rfl h
theorem Ji {es:List Expr}{b:Nat}{p':Pos}(h1:lW cx ts=true) (h2:decide (nG cx ts).Nodup=true) (sw:eR cx (.Tuple es b p') (some (.Tuple ts a p)) pos.line false=true) (h5:pd cx ts a p (.Tuple es b p')=true) (hs:bb es=true) (hl:Nat.ble es.length 1000=true) (h:PRs n cx ts es) :
  PS n cx (k+1) (.Assign [.Tuple ts a p] (.Tuple es b p') pos):=fun fm C α L m H K Q h0 q=>vW C h1 h2 sw h5 (F7 (Gu C.toCn (gk q) hs h h0 fun vs H1 hn z=>⟨hn ▸ aX hl,Gw z fun m' e z=>⟨vs,m',rfl,e,q _ _ _ z⟩⟩))
noncomputable def isTup (e:Expr):Bool:=match vw e with
 | .tup _=>true
 | _=>false
theorem LX {α:Type}{m:LV}{G:AH}{K:Fl→LV→AH→Tr α}(hv:isTup v=false):evS (k+1) cx (.Assign [.Tuple ts a p] v pos) α m G K=ev cx v α m G (fun v G=>.aL (rU v) fun vs=>match bw (nG cx ts) vs m with | some m=>K .next m G | none=>.no) (exS K):=by
 cases v <;> first | exact tf hv | rfl
theorem Jj (hv:isTup v=false) (h1:lW cx ts=true) (h2:decide (nG cx ts).Nodup=true) (sw:eR cx v (some (.Tuple ts a p)) pos.line false=true) (h5:pd cx ts a p v=true) (h:PE n cx 24 v) :
  PS n cx (k+1) (.Assign [.Tuple ts a p] v pos):=fun fm C α L m H K Q h0 q=>by
 rw [LX hv] at h0
 exact vW C h1 h2 sw h5 ((h fm C.toCn).a h0 (fun v H1 z=>ae z fun vs e z=>Gw z fun m' e2 z=>⟨vs,m',vU e,e2,q _ _ _ z⟩) (gk q))
theorem Jk {i:Expr}(sw:eR cx v (some (.Subscript o i p)) pos.line false=true) (hs:hG i=true) (h1:PE n cx 24 v) (h2:PE n cx 24 o) (h3:PE n cx 24 i):PS n cx (k+1) (.Assign [.Subscript o i p] v pos):=fun fm C α L m H K Q h0 q s S=>by
 have h0:(ev cx v α m (aa H) (fun v G=>ev cx o α m G (fun a G=>ev cx i α m G (fun b G=>.aH (j5 G a b v) fun G=>K .next m G) (exS K)) (exS K)) (exS K)).tt L:=by cases i <;> first | exact ff hs | exact h0
 exact wpAny_Assign_Subscript (((h1 fm C.toCn).a h0 (fun v H1 a=>a) (gk q)).run S (fun y s1 v H1 T1 S1 r1 z=>((h2 fm C.toCn).a z (fun v H1 a=>a) (gk q)).run S1 (fun y2 s2 u H2 T2 S2 r2 z=>((h3 fm C.toCn).a z (Q:=fun b H3=>∃ G',j5 (aa H3) u b v=some G'∧(K .next m G').tt L) (fun v H1 a=>a) (gk q)).run S2 (fun y3 s3 w H3 T3 S3 r3 z =>
  ae z fun G' hset z=>IK hset C.O rfl S3 (T3.rep r2) r3 ((T2.trans T3).rep r1) fun H4 s4 g T4 S4=>⟨.next,m,H4,q _ _ _ (by rw [g]; exact z),((T1.trans T2).trans T3).trans T4,S4,rfl⟩) fun _ _ p=>p.back (T1.trans T2)) fun _ _ p=>p.back T1) fun _ _ p=>p) (i9 C.toCn sw)
theorem vX {Q:QF}{nm:Str}(C:Cs fm cx n) (sw:eR cx v (some (.Attribute o nm p)) pos.line false=true) (h:EW fm v (ba m) H (fun v H1=>EW fm o (ba m) H1 (fun u H2=>∃ G',vK (aa H2) u nm v=some G'∧∀ H3,aa H3=G'→Q .next m H3) Q.x) Q.x):XW fm (.Assign [.Attribute o nm p] v pos) m H Q:=fun s S =>
 plainObj_wpAny_Assign_Attribute (h.run S (fun y s1 v H1 T1 S1 r1 z=>EW.run z S1 (fun y2 s2 u H2 T2 S2 r2 z=>ae z fun G' hset z=>IM hset C.O rfl S2 r2 (T2.rep r1) fun H4 s4 g T4 S4=>⟨.next,m,H4,z H4 g,(T1.trans T2).trans T4,S4,rfl⟩) fun _ _ p=>p.back T1) fun _ _ p=>p) (i9 C.toCn sw)
theorem Jl {nm:Str}(hv:dOk v=true) (sw:eR cx v (some (.Attribute o nm p)) pos.line false=true) (h1:PE n cx 24 v) (h2:PE n cx 24 o):PS n cx (k+1) (.Assign [.Attribute o nm p] v pos):=fun fm C α L m H K Q h0 q=>by
 have h0:(ev cx v α m (aa H) (fun v G=>ev cx o α m G (fun a G=>.aH (vK G a nm v) fun G=>K .next m G) (exS K)) (exS K)).tt L:=by
  cases v with
  | Dict ks vs pos' =>
   have h0:(cif ks.isEmpty (ev cx o α m (aa H++[.dS [] []]) (fun a G=>.aH (vK G a nm (.ref (aa H).length)) fun G=>K .next m G) (exS K)) .no).tt L:=h0
   rw [show ks.isEmpty=false from nt hv] at h0
   exact h0.elim
  | _=>exact h0
 exact vX C sw ((h1 fm C.toCn).a h0 (fun v H1 z=>(h2 fm C.toCn).a z (fun u H2 z=>ae z fun G' e z=>⟨G',e,fun H3 g=>q _ _ _ (by rw [g]; exact z)⟩) (gk q)) (gk q))
theorem Gx {nm:Str}(hv:Gr v=true) (sw:eR cx v (some (.Attribute o nm p)) pos.line false=true) (h2:PE n cx 24 o):PS n cx (k+1) (.Assign [.Attribute o nm p] v pos):=fun fm C α L m H K Q h0 q=>by
 obtain ⟨p',rfl⟩:=CZ hv
 exact vX C sw (NK C.O fun H1 g=>(h2 fm C.toCn).a (K:=fun a G=>.aH (vK G a nm (.ref (aa H).length)) fun G=>K .next m G) (X:=exS K) (L:=L) (by rw [g]; exact h0) (fun u H2 z=>ae z fun G' e z=>⟨G',e,fun H3 g=>q _ _ _ (by rw [g]; exact z)⟩) (gk q))
theorem Jm {x:Str}{v:V}{Q:Value→Shared→Prop}{E:Value→Shared→Prop}(C:Cn fm cx n) (hv:cx.isVar x=true) (S:Sat fm (ba m) H s) (hm:ba m (gI cx.names x)=some v) (q:∀ y,fm.R H s.heap v y→Q y s):wpAny fm.M fm.A (loadName fm.env x) Q E s:=by
 obtain ⟨h1,h2,h3⟩:=gZ hv
 have hk:fm.env.kindOf x=some .local∨fm.env.kindOf x=some .cell:=by rw [C.kindOf]; exact h2
 obtain ⟨val,hva,r⟩:=S.vars _ x v (by rw [C.names]; exact h1) hk hm
 unfold d6 at hva
 rcases hk with hk | hk
 ·rw [hk] at hva
  exact ae hva fun mm hn he=>wpAny_loadName_local C.O.kind hk hn he (q val r)
 ·rw [hk] at hva
  exact ae hva fun c hc hx=>wpAny_loadName_cell C.O.kind hk hc hx (q val r)
theorem LY {op} (h1:cx.isVar y=true) (h:PE n cx 24 v):PS n cx (k+1) (.AugAssign (.Name y p) op v pos):=fun fm C α L m H K Q h0 q s S=>ae h0 fun u hu h0 =>
 wpAny_AugAssign_Name (Jm C.toCn h1 S hu fun y0 r0=>((h fm C.toCn).a h0 (Q:=fun b H1=>∃ w,FX op u b=some w∧Q .next (m.set (gI cx.names y) (some w)) H1) (fun b H1 z=>ae z fun w hw z=>⟨w,hw,q _ _ _ z⟩) (gk q)).run S (fun y s1 v H1 T1 S1 r1 z=>ae z fun w hw z =>
  Lx hw S1 (T1.rep r0) r1 fun z' tk rz=>i8 C h1 (S1.toks tk) rz fun s2 T2 S2=>⟨.next,_,H1,z,T1.trans T2,S2,rfl⟩) fun _ _ p=>p)
theorem LZ {x y:List Stmt}(h1:PE n cx 24 t) (h2:PBs n cx k x) (h3:PBs n cx k y):PS n cx (k+1) (.If t x y pos):=fun fm C α L m H K Q h0 q s S =>
 wpAny_If (wpAny_mono ((h1 fm C.toCn).t h0 (Q:=fun c H1=>(cif c (evB (evS k cx) x m (aa H1) K) (evB (evS k cx) y m (aa H1) K)).tt L) (s8 fun c H1 z=>z) (gk q) s S) (fun c s1 z=>by
  obtain ⟨H1,T1,S1,z⟩:=z
  cases c with
  | true=>exact wpAny_mono (h2 fm C z q s1 S1) (fun _ _ p=>p.back T1) fun _ _ p=>p.back T1
  | false=>exact wpAny_mono (h3 fm C z q s1 S1) (fun _ _ p=>p.back T1) fun _ _ p=>p.back T1) fun _ _ p=>p)
theorem Gy {b:List Stmt}(h1:PE n cx 24 t) (h2:PBs n cx k b):PS n cx (k+1) (.While t b [] pos):=fun fm C α L m H K Q h0 q=>DF h0 fun fl m' G' hw z=>hw.elim fun j hw=>(Go C h1 h2 hw).mono (LR z q)
theorem Jn {it:Expr}{b:List Stmt}(h1:cx.isVar y=true) (h2:pb it=true) (h3:PE n cx 24 it) (h4:PBs n cx k b):PS n cx (k+1) (.For (.Name y p) it b [] pos):=fun fm C α L m H K Q h0 q =>
 Gp C (mr h2) (fun fm' C' v m m' H s y' E Q hm S r q=>wpAny_assign_Name (i8 C' h1 S r fun s' T S=>q s' T (sj hm ▸ S))) h4 (vP C.toCn (h3 fm C.toCn).a h0 (fun v H1 z=>ae z fun xs hx z=>DF z fun fl m' G' hw z=>⟨xs,hx,.inl ⟨y,p,rfl⟩,fl,m',G',hw,LR z q⟩) (gk q))
theorem Gz {v:V}{xs:List V}{P:Prop}(h:FV v=some xs) (k:zL v=true→lT v=some xs→P):P:=by
 unfold FV at h
 cases e:zL v with
 | false=>rw [e] at h; exact nS h
 | true=>rw [e] at h; exact k e h
theorem Jo {it:Expr}{b:List Stmt}(h1:lW cx ts=true) (h2:pb it=true) (h3:PE n cx 24 it) (h4:PBs n cx k b):PS n cx (k+1) (.For (.Tuple ts a p) it b [] pos):=fun fm C α L m H K Q h0 q =>
 Gp C (mr h2) (fun fm' C' v m m' H s y' E Q hm S r q=>cD hm fun vs hvs hm=>vV C' h1 hm S (vU hvs ▸ r) q) h4 (vP C.toCn (h3 fm C.toCn).a h0 (fun v H1 z=>ae z fun xs hx z=>DF z fun fl m' G' hw z=>Gz hx fun e1 e2=>⟨xs,e2,.inr e1,fl,m',G',hw,LR z q⟩) (gk q))
end
end
end Mine
end
section
open PySem PySem.W PyProof.Rows Builtin.Str Builtin Builtin.ObjectAttr
set_option maxRecDepth 100000
set_option genSizeOf false
set_option genInjectivity false
namespace Mine
section
noncomputable def nN:Str:=⟨⟨[82,97,105,115,101,100]⟩⟩
theorem s9:nN=("Raised":Str):=by decide +kernel
section
variable {prog:Program}{w:World}{A:Around}{E:Value→Shared→Prop}{s:Shared}{K:Frag}
theorem BL {env:Env}{x:Sem Value}{Q:Flow→Shared→Prop}(hh:A.handled=none)
  (h:wpAny (model prog w) A x (fun v s₁=>∃ e dd fs sl,v=.ref e∧de s₁.heap∧s₁.heap.get? e=some ⟨.ref ai,dd,.fields fs,sl⟩∧fs[1]? = some .none∧E (.ref e) s₁) E s) :
  wpAny (model prog w) A (raiseStmt env (some x) none) Q E s:=by
 have hcB:(Value.ref ai::oP).contains (.type "BaseException")=true:=by decide +kernel
 unfold raiseStmt
 refine wpAny_bind (wpAny_mono h (fun v s₁ h₁=>?_) fun _ _ x=>x)
 refine DH h₁ fun e dd fs sl ev Y he hf1 hE=>?_
 subst ev
 refine Y.el fun nm qq N bs hdct sn sub ab col dd' k0 k1 k2 k3 k5 hC=>?_
 obtain ⟨hp,g,d,tk,os⟩:=s₁
 repeat (first | with_reducible refine wpAny_loadPart_at he ?_ | with_reducible refine wpAny_loadPart_at hC ?_ | (with_reducible refine wpAny_isSubtype_exc hC ?_; rw [hcB]) | wp_step)
 rw [hf1]
 refine wpAny_pure ?_
 rw [if_neg (by decide)]
 exact wpAny_pure (wpAny_raiseNew_none hh hE)
end
section
variable {fm:Fm}{m:Loc}{H:MH}{s:Shared}
theorem vY {pre post:MH}{a d:Addr}{ks:List Str}{us:List V}{b:Addr}:b∈aW ((a,MO.exc d none ks us)::(pre++(a,MO.dead)::post))↔b∈aW (pre++(a,MO.made (some d) ks us)::post):=by
 rw [jo,ch,ch]
 simp only [MO.addrs,Option.toList_some,List.mem_append,List.mem_cons,List.not_mem_nil,or_false,List.nil_append]
 constructor
 ·rintro (h | h | h)
  ·exact .inr (.inl h)
  ·exact .inl h
  ·exact .inr (.inr h)
 ·rintro (h | h | h)
  ·exact .inr (.inl h)
  ·exact .inl h
  ·exact .inr (.inr h)
theorem Sat.fly {pre post:MH}{a d:Addr}{ks:List Str}{us:List V}(O:ay fm) (S:Sat fm m (pre++(a,.made (some d) ks us)::post) s) :
  Sat fm m ((a,.exc d none ks us)::(pre++(a,.dead)::post)) s∧af fm (pre++(a,.made (some d) ks us)::post) s.heap ((a,.exc d none ks us)::(pre++(a,.dead)::post)) s.heap:=by
 have memX:∀ b,b∈fm.X ((a,MO.exc d none ks us)::(pre++(a,MO.dead)::post))↔b∈fm.X (pre++(a,MO.made (some d) ks us)::post):=fun b=>by
  rw [ax,ax,vY]
 have hal:bC ((a,MO.exc d none ks us)::(pre++(a,MO.dead)::post))=bC (pre++(a,MO.made (some d) ks us)::post):=by simp [bC,MO.isFly]
 have pre':∀ (i:Nat) (x:Addr),(bC (pre++(a,MO.made (some d) ks us)::post))[i]? = some x→(bC ((a,MO.exc d none ks us)::(pre++(a,MO.dead)::post)))[i]? = some x:=fun i x e=>by rw [hal]; exact e
 have conv:∀ {vs:List V}{xs:List Value},fm.RL (pre++(a,MO.made (some d) ks us)::post) s.heap vs xs→fm.RL ((a,MO.exc d none ks us)::(pre++(a,MO.dead)::post)) s.heap vs xs:=fun r =>
  RepL.mono pre' (fun b o e q=>⟨e,fun z=>q.1 ((memX b).mp z),q.2⟩) r
 have hM:dC fm _ s.heap a (.made (some d) ks us):=S.objs (a,.made (some d) ks us) (by simp)
 refine Sat.upd O S (fun b o e nX=>⟨e,fun z=>nX ((memX b).mp z)⟩) (fun L _ o e=>⟨o.slots,e⟩) (fun p hp=>?_) ?_ (fun b hb=>S.apart b (vY.mp hb)) rfl rfl rfl pre'
 ·rcases List.mem_cons.mp hp with rfl | hp
  ·obtain ⟨⟨fs,sl,h0,h1⟩,xs,ep,h2,h3,h4⟩:=hM
   exact ⟨⟨fs,sl,h0,h1⟩,xs,ep,h2,h3,conv h4⟩
  ·rcases List.mem_append.mp hp with hp | hp
   ·exact dC.conv rfl rfl conv (fun b _ o e=>e) (S.objs p (List.mem_append_left _ hp))
   ·rcases List.mem_cons.mp hp with rfl | hp
    ·trivial
    ·exact dC.conv rfl rfl conv (fun b _ o e=>e) (S.objs p (List.mem_append_right _ (List.mem_cons_of_mem _ hp)))
 ·have nd:=S.nodup
  rw [ch] at nd
  rw [jo,ch]
  simp only [MO.addrs,Option.toList_some,List.nil_append] at nd ⊢
  refine List.Perm.nodup ?_ nd
  rw [← List.append_assoc,← List.append_assoc]
  exact List.Perm.append_right _ List.perm_append_comm
end
section
variable {fm:Fm}{cx:Cx}{n k:Nat}{m:Loc}{H:MH}{s:Shared}
theorem z6 {prog:Program}{w:World}{A:Around}{E:Value→Shared→Prop}{s:Shared}{env:Env}{e:Addr}{t:Expr}{nm:Str}{b₀:Stmt}{suite:List Stmt}{pos:Pos}{rest:List ExceptHandler}{Q:Flow→Shared→Prop}
  (h:wpAny (model prog w) (A.mark (some (.ref e))) (eval t env) (fun c s₁=>c=.ref ai∧de s₁.heap∧(∃ oe,s₁.heap.get? e=some oe∧oe.cls=.ref ai) ∧
   wpAny (model prog w) (A.mark (some (.ref e))) (setFlight (.ref e) none) (fun _ s₂ =>
     wpAny (model prog w) (A.mark (some (.ref e))) (storeName env nm (.ref e)) (fun _ s₃ =>
      wpAny (model prog w) (A.mark (some (.ref e))) (execs (b₀::suite) env)
       (fun f s₄=>wpAny (model prog w) A (do bindName env nm .none; unbindBehindTheSuite env nm pos) (fun _ s₅=>Q f s₅) E s₄)
       (AsSuiteRaised (model prog w) (A.mark (some (.ref e))) env nm pos (notedBy (model prog w) (A.mark (some (.ref e))) env (cameBackBy (model prog w) A env E))) s₃) (notedBy (model prog w) (A.mark (some (.ref e))) env (cameBackBy (model prog w) A env E)) s₂) (notedBy (model prog w) (A.mark (some (.ref e))) env (cameBackBy (model prog w) A env E)) s₁) (notedBy (model prog w) (A.mark (some (.ref e))) env (cameBackBy (model prog w) A env E)) s) :
  wpAny (model prog w) A (handleBy (.ref e) env (.ExceptHandler (some t) (some nm) (b₀::suite) pos::rest)) Q E s:=by
 refine wpAny_handleBy_cons (codeAny_handlers_test (wpAny_mono h (fun c s₁ h₁=>?_) fun _ _ y=>y)) (by intro q; cases q)
 refine uS h₁ fun ec Y ho hk=>?_
 subst ec
 refine gg fun T hT=>ae ho fun oe he hcls=>Y.el fun nm' qq N bs hdct sn sub ab col dd k0 k1 k2 k3 k5 hC=>hT ?_
 obtain ⟨hh,g,d,tk,os⟩:=s₁
 exact wpAny_excMatches_sub_self hC he hcls (by decide +kernel) (codeAny_handlers_suite_as hk)
theorem ta {s':Shared}(O:ay fm) (hfr:fm.fr=fm.env.locals) (S:Sat fm m H s) (hns:∃ mm,s'.heap.Ns fm.env.locals mm) (hs:∀ b,b≠fm.env.locals→s'.heap.get? b=s.heap.get? b)
  (hg:s'.gens=s.gens) (ho:s'.os=s.os) (hd:s'.drawn=s.drawn):Sat fm (fun _=>none) H s'∧af fm H s.heap H s'.heap:=by
 have keep:∀ b o,b≠fm.env.locals→s.heap.get? b=some o→s'.heap.get? b=some o:=fun b o h e=>(hs b h).trans e
 refine Sat.own O S O.locals keep ?_ hns ?_ (fun i x v _ _ h=>by exact nS h) (let ⟨mm,o,_,_,e,_⟩:=hns; ⟨o,e⟩) hg ho hd
 ·refine mq O S.funs fun L hL o e hd=>?_
  by_cases z:L=fm.env.locals
  ·subst z
   refine E9 hns fun mm o' es ep e' hd' _=>?_
   exact ⟨o',e',fun vs q=>by rw [hd'] at q; cases q⟩
  ·exact ⟨o,keep L o z e,hd⟩
 ·intro y c hy hc
  refine cN (S.cells y c hy hc) fun w o e hd=>?_
  exact ⟨w,o,keep c o (O.cellsOwn y c hy hc).2 e,hd⟩
theorem L4 {G:AH}{v:V}{p:Nat × List Str × List V}(h:IN G v=some p):v=.ref p.1∧G[p.1]? = some (.exc p.2.1 p.2.2)∧p.2.1.isEmpty=false:=by
 unfold IN at h
 cases v with
 | ref i =>
  cases e:G[i]? with
  | none=>simp only [e] at h; exact nS h
  | some a=>cases a with
   | exc ks us =>
    simp only [e] at h
    cases e2:ks.isEmpty with
    | true=>rw [e2] at h; exact nS h
    | false=>rw [e2] at h; obtain rfl:=sj h; exact ⟨rfl,e,e2⟩
   | _=>simp only [e] at h; exact nS h
 | _=>exact nS h
theorem L5 {α:Type}{L:α→Prop}{o:Option (Nat × List Str × List V)}{t:Nat × List Str × List V→Tr α}(h:(match o with | some p=>t p | none=>.no).tt L):∃ p,o=some p∧(t p).tt L:=by
 cases o with
 | none=>exact h.elim
 | some p=>exact ⟨p,rfl,h⟩
theorem GA {x:Expr}{pos:Pos}(h:PE n cx 24 x):PS n cx (k+1) (.Raise (some x) none pos):=fun fm C α L m H K Q h0 q s S=>by
 refine ae C.O.wd.cls fun K0 hK hf=>?_
 rw [arm_exec_Raise]
 refine wpAny_bind (wpAny_standAt ?_)
 show wpAny _ _ (raiseStmt fm.env (some (do let v ← eval x fm.env; standAt pos; pure v)) none) _ _ _
 refine BL C.hh (wpAny_bind (((h fm C.toCn).a (K:=fun v G=>match IN G v with | some p=>K (.ex p.2.1 p.2.2) [] (G.set p.1 .dead) | none=>.no) h0 (Q:=fun v H1=>∃ i ks us,v=.ref i∧(aa H1)[i]? = some (.exc ks us)∧ks.isEmpty=false∧∀ H2,aa H2=(aa H1).set i .dead→Q (.ex ks us) [] H2)
  (fun v H1 z=>ae (L5 (t:=fun p=>K (.ex p.2.1 p.2.2) [] ((aa H1).set p.1 .dead)) z) fun p e z=>bW (L4 e) fun e1 e2 e3=>⟨p.1,p.2.1,p.2.2,e1,e2,e3,fun H2 g=>q _ _ _ (by rw [g]; exact z)⟩) (gk q)).run S (fun y s1 v H1 T1 S1 r1 z=>Po z fun i ks us e1 hg hne hq=>wpAny_bind (wpAny_standAt (wpAny_pure ?_))) fun _ _ p=>p))
 subst e1
 refine ae r1 fun ad had ey=>?_
 subst ey
 obtain ⟨pre,b,mo,post,rfl,g2,g3,g4,g5⟩:=di hg
 obtain rfl:=sj (g4.symm.trans had)
 refine aj (ny g2 g3) fun dd ed=>?_
 subst ed
 refine ar (S1.objs (_,.made dd ks us) (List.mem_append_right _ (.head _))) fun h0 rr=>cN h0 fun fs sl h0 hf1=>?_
 cases dd with
 | none=>rw [rr.1] at hne; exact tf hne
 | some d =>
  refine ⟨b,some d,fs,sl,rfl,hf.r1 _ (hK.keeps S1.base),h0,hf1,?_⟩
  refine ar (S1.fly C.O) fun S2 T2=>⟨b,d,none,ks,us,pre++(b,.dead)::post,ba m,rfl,T1.trans T2,S2,trivial,hq _ (g5 .dead rfl).1⟩
noncomputable abbrev nO (y:Str) (e:Expr):Prop:=(∃ n p p',e=.Attribute (.Name y p) n p'∧n∈aU∧∀ ks us r,lU y ks us (e::r)=((ks.zip us).lookup n).bind fun v=>(lU y ks us r).map (v::·)) ∨
 ∃ s k p,e=.Constant (.str s) k p∧s.length≤big∧∀ ks us r,lU y ks us (e::r)=(lU y ks us r).map (V.str s::·)
theorem GB {y z n:Str}{p p':Pos}(h1:cU y z=true) (h2:aU.contains n=true):nO y (.Attribute (.Name z p) n p'):=by
 obtain rfl:=dh h1
 refine .inl ⟨n,p,p',rfl,List.contains_iff_mem.mp h2,fun ks us r=>?_⟩
 show (cif (cU y y&&aU.contains n) _ none).bind _=_
 rw [h1,h2]
 rfl
theorem GC {y s:Str}{k:Nat}{p:Pos}(h:Nat.ble s.length big=true):nO y (.Constant (.str s) k p):=.inr ⟨s,k,p,rfl,aX h,fun _ _ _=>rfl⟩
theorem pe (O:ay fm) {A:Around}(hA:A.frames=fm.A.frames) {nm:Str}(hk:fm.env.kindOf nm=some .local) (hdb:(nm==("__debug__":Str))=false) {e d:Addr}{tb:Option (Addr × Value)}{ks:List Str}{us:List V}{E:Value→Shared→Prop}{pos:Pos} :
  ∀ {xs:List Expr}{vs:List V}{s:Shared}{K:List Value→Shared→Prop},(∀ x∈xs,nO nm x)→lU nm ks us xs=some vs→Sat fm m ((e,.exc d tb ks us)::H) s→(∃ mm,s.heap.Ns fm.env.locals mm∧mm nm=some (.ref e)) →
   (∀ ys tk,vs.length=xs.length→fm.RL ((e,.exc d tb ks us)::H) s.heap vs ys→K ys { s with toks:=tk })→wpAny fm.M A (spliced (backTo pos (starEach xs fm.env))) K E s
 | [],vs,s,K,_,h,S,hv,q=>by
  obtain rfl:=sj h
  exact wpAny_items_nil (q [] s.toks rfl RepL.nil)
 | x::xs,vs,s,K,ho,h,S,hv,q=>by
  rcases ho x (.head _) with ⟨n,p,p',ex,hn,hh⟩ | ⟨c,k,p,ex,hl,hh⟩
  ·rw [hh] at h
   refine cD h fun v hl h=>gj h fun ws hw ev=>?_
   subst ex ev
   refine ae hv fun mm hns hmm=>ar (S.objs (e,.exc d tb ks us) (.head _)) fun h0 rr=>cN h0 fun fs sl h0 _=>cz rr fun zs ep hd hlen rl=>ae (i5 rl hl) fun z hz rz=>?_
   refine wpAny_items_cons (Attribute_any_ (wpAny_Name (wpAny_loadName_local O.kind hk hns hmm ?_) hdb) rfl) rfl
   exact qC (fm:=fm.up A) (m:=m) (H:=(e,.exc d tb ks us)::H) (O.up hA) S.up rfl hn h0 rfl rfl rfl hd hz (gY (fm:=fm) rz).handed
    fun tk=>pe O hA hk hdb (fun x hx=>ho x (.tail _ hx)) hw (S.toks tk) ⟨mm,hns,hmm⟩ fun ys tk' hl r=>q _ tk' (congrArg (·+1) hl) (RepL.cons rz r)
  ·rw [hh] at h
   refine gj h fun ws hw ev=>?_
   subst ex ev
   exact wpAny_items_cons (wpAny_Constant_str (pe O hA hk hdb (fun x hx=>ho x (.tail _ hx)) hw (S.toks _) hv fun ys tk hl' r=>q _ tk (congrArg (·+1) hl') (RepL.cons (iB hl) r))) rfl
theorem L6 {x:Expr}{p1 p2 p3 p4 p5 tp:Pos}{nm g:Str}{xs:List Expr}{kk} (h1:PE n cx 24 x) (hg:cU g nN=true) (h2:cx.isGlob g=true) (h3:cx.isVar nm=true) (h4:cx.kinds.lookup nm=some .local) (h5:∀ x∈xs,nO nm x) (h6:Nat.ble xs.length 1000=true) :
  PS n cx (k+1) (.Try [.Return (some x) p1] [.ExceptHandler (some (.Name g p2)) (some nm) [.Return (some (.Tuple xs kk tp)) p3] p4] [] [] p5):=fun fm C α L m H K Q h0 q s S=>by
 have hk:fm.env.kindOf nm=some .local:=(C.kindOf nm).trans h4
 refine ae C.O.wd.cls fun K0 hK hf=>aj C.outer fun outer hfe=>?_
 have h0:(ev cx x α m (aa H) (fun v G=>K (.ret v) m G) (fun ks us G=>match lU nm ks us xs with | some ws=>K (.ret (.tup ws)) [] G | none=>.no)).tt L:=h0
 refine wpAny_Try_except (wpAny_execs_cons (wpAny_Return_some (((h1 fm C.toCn).a h0 (Q:=fun v H1=>Q (.ret v) m H1) (QE:=fun ks us H1=>∃ ws,lU nm ks us xs=some ws∧∀ H2,aa H2=aa H1→Q (.ret (.tup ws)) [] H2) (fun v H1 z=>q _ _ _ z) (fun ks us H1 z=>by
  cases e:lU nm ks us xs with
  | none=>simp only [e] at z; exact z.elim
  | some ws=>simp only [e] at z; exact ⟨ws,e,fun H2 g=>q _ _ _ (by rw [g]; exact z)⟩)).run S (fun y s1 v H1 T1 S1 r1 a=>⟨.ret v,m,H1,a,T1,S1,y,rfl,r1⟩) fun ex s1 p=>p.el fun a d tb ks us H' m' ea T1 S1 ht z=>ae z fun ws hw hq=>?_)))
 subst ea
 refine ky C.O hfe C.O.frEnv ht S1 fun T2 s2 S2 Tr2=>iC C.O S2 fun s3 S3 Tr3=>?_
 have nmR:gy (fm.up (fm.A.mark (some (.ref a)))) g (.ref ai):=mj (C.O.up (A:=fm.A.mark (some (.ref a))) rfl) hK (fun mg h _=>dh hg ▸ s9 ▸ h) hf.r2 (bj C.toCn h2).1 (bj C.toCn h2).2
 refine z6 (nmR.read m' _ s3 p2 _ _ S3.up ⟨rfl,hf.r1 _ (hK.keeps S3.base),cN S3.exc_obj fun fs sl h0 _=>⟨_,h0,rfl⟩,?_⟩)
 refine iC (fm:=fm) (A:=fm.A.mark (some (.ref a))) C.O S3 fun s4 S4 Tr4=>aj S4.ns fun mm hns=>?_
 refine wpAny_storeName_local hk hns (fun h' hn' hs'=>?_) (by rw [C.O.kind]; rfl)
 refine ar (ta (s':={ s4 with heap:=h',toks:=s4.toks+1 }) C.O C.frLoc S4 ⟨_,hn'⟩ (fun b hb=>hs'.2 b hb) rfl rfl rfl) fun S5 Tr5=>?_
 refine wpAny_execs_cons (wpAny_Return_some (wpAny_Tuple (pe (A:=fm.A.mark (some (.ref a))) C.O rfl hk (gZ h3).2.2 h5 hw S5 ⟨_,hn',if_pos rfl⟩ fun ys tk hly rl=>?_)))
 have hly:ys.length≤1000:=by rw [← rl.length,hly]; exact aX h6
 refine ⟨bX (Nat.le_trans hly (by decide)),?_⟩
 dsimp only
 obtain ⟨v0,H6,T6,S6,r6,q6⟩:=me (Q:=fun v H6=>v=.tup ws∧H6=_) (xs:=ys.toArray) (by rw [List.size_toArray]; exact few hly) (S5.toks tk) rl ⟨rfl,rfl⟩
 obtain ⟨e6,e7⟩:=q6
 subst e6 e7
 refine aj S6.ns fun mm6 hns6=>?_
 refine wpAny_nameGoes hk hns6 (by rw [C.O.kind]; rfl) fun h7 m7 hn7 hs7=>?_
 refine ar (ta (s':=⟨h7,s4.gens,s4.drawn,tk+1,s4.os⟩) C.O C.frLoc S6 ⟨_,hn7⟩ (fun b hb=>hs7.2 b hb) rfl rfl rfl) fun S7 T7=>?_
 exact ⟨.ret (.tup ws),[],(a,MO.exc d (some (T2,none.elim Value.none fun f=>rawInt f)) ks us)  ::H',hq _ rfl,(((((T1.trans Tr2).trans Tr3).trans Tr4).trans Tr5).trans T6).trans T7,S7.weak fun i v h=>nS h,_,rfl,T7.rep r6⟩
set_option backward.match.sparseCases false in
theorem Jp {b:List Stmt}{h0:ExceptHandler}{hs:List ExceptHandler}{pos:Pos}(hr:(F5 b).isNone=true) (h:PBs n cx k b):PS n cx (k+1) (.Try b (h0::hs) [] [] pos):=fun fm C α L m H K Q h1 q s S=>by
 have h1:(match F5 b with
  | some e=>ev cx e α m (aa H) (fun v G=>K (.ret v) m G) (evH (h0::hs) K)
  | none=>evB (evS k cx) b m (aa H) fun f m G=>match f with
   | .ex _ _=>.no
   | f=>K f m G).tt L:=h1
 rw [Option.isNone_iff_eq_none.mp hr] at h1
 refine wpAny_Try_except (wpAny_mono (h fm C h1 (Q:=fun f m1 H1=>(∀ ks us,f≠.ex ks us)∧Q f m1 H1) (fun f m1 H1 z=>?_) s S) (fun f s1 p=>p.el fun fl m1 H1 a T1 S1 hf=>?_) fun x s1 p=>p.el fun e d tb ks vs H' m' ex T₁ S₁ ht z=>absurd rfl (z.1 ks vs))
 ·cases f with
  | ex _ _=>exact z.elim
  | _=>exact ⟨fun _ _ e=>by injection e,q _ _ _ z⟩
 ·cases fl with
  | next=>subst hf; exact wpAny_execs_nil ⟨.next,m1,H1,a.2,T1,S1,rfl⟩
  | brk=>subst hf; exact ⟨.brk,m1,H1,a.2,T1,S1,rfl⟩
  | cont=>subst hf; exact ⟨.cont,m1,H1,a.2,T1,S1,rfl⟩
  | ret v=>obtain ⟨x,e,r⟩:=hf; subst e; exact ⟨.ret v,m1,H1,a.2,T1,S1,x,rfl,r⟩
  | ex _ _=>exact hf.elim
end
end
end Mine
end
section
open PySem PySem.W PyProof.Rows Builtin.Str
set_option maxRecDepth 20000
set_option genSizeOf false
set_option genInjectivity false
namespace Mine
section
noncomputable def iH (p:Arguments) (ps:List Str):Bool:=match p with
 | ⟨[],args,none,[],_,none,_⟩=>args.map (·.arg)==ps
 | _=>false
theorem tc {p:Arguments}{ps:List Str}{G:Prop}(h:iH p ps=true) (k:∀ args kd df,p=⟨[],args,none,[],kd,none,df⟩→args.map (·.arg)=ps→G):G:=by
 obtain ⟨po,ag,va,ko,kd,kw,df⟩:=p
 cases po with
 | cons=>exact ff h
 | nil=>cases va with
  | some=>exact ff h
  | none=>cases ko with
   | cons=>exact ff h
   | nil=>cases kw with
    | some=>exact ff h
    | none=>exact k ag kd df rfl (eq_of_beq h)
theorem td {T:List Str}{x:Str}:∀ {L:List Str}{xs:List Value},x∈L→L.length≤xs.length→(((L++T).zip xs).lookup x).isSome=true
 | [],_,h,_=>nomatch h
 | p::L,[],_,h=>absurd h (Nat.not_succ_le_zero _)
 | p::L,y::xs,h,hl=>by
  rw [List.cons_append,List.zip_cons_cons,List.lookup_cons]
  cases e:x==p with
  | true=>rfl
  | false=>exact td ((List.mem_cons.mp h).elim (fun q=>tf ((beq_iff_eq.mpr q).symm.trans e)) id) (Nat.le_of_succ_le_succ hl)
theorem xJ {T:List Str}:∀ {L:List Str}{xs:List Value},xs.length≤L.length→(L++T).zip xs=L.zip xs
 | _,[],_=>by rw [List.zip_nil_right,List.zip_nil_right]
 | [],_::_,h=>absurd h (Nat.not_succ_le_zero _)
 | p::L,y::xs,h=>congrArg ((p,y)::·) (xJ (L:=L) (Nat.le_of_succ_le_succ h))
theorem GD {L:List Str}{xs:List Value}{x:Str}(h:x ∉ L):(L.zip xs).lookup x=none:=by
 cases q:List.lookup x (L.zip xs) with
 | none=>rfl
 | some v=>exact absurd (List.of_mem_zip (mem_of_lookup q)).1 h
theorem te:∀ {ps:List Str}{ys:List Value},ps.Nodup→ps.length=ys.length→∀ (pre:List (Str × Value)),(∀ x∈ps,pre.lookup x=none)→ps.filterMap (fun n=>((pre++ps.zip ys).lookup n).map (n,·))=ps.zip ys
 | [],[],_,_,_,_=>rfl
 | [],_::_,_,h,_,_=>by simp at h
 | _::_,[],_,h,_,_=>by simp at h
 | p::ps,y::ys,nd,hl,pre,hpre=>by
  obtain ⟨n1,n2⟩:=List.nodup_cons.mp nd
  simp only [List.zip_cons_cons,List.filterMap_cons]
  have h1:(pre++(p,y)::ps.zip ys).lookup p=some y:=by
   rw [List.lookup_append,hpre p (.head _)]; simp
  rw [h1]
  simp only [Option.map_some]
  have:=te (ps:=ps) (ys:=ys) n2 (by simpa using hl) (pre++[(p,y)]) (fun x hx=>by
   rw [List.lookup_append,hpre x (.tail _ hx)]
   have:(x==p)=false:=by simpa using fun q=>n1 (by rw [← q]; exact hx)
   simp [List.lookup_cons,this])
  rw [show pre++[(p,y)]++ps.zip ys=pre++(p,y)::ps.zip ys by simp] at this
  rw [this]
theorem BM {α β:Type} (a:α) (f:α→Sem β):(pure a >>= f:Sem β)=f a:=rfl
noncomputable abbrev vZ (x:Str × Value) (z:List (Str × Value)):Sem (ForInStep (List (Str × Value))):=if (List.lookup x.fst z).isNone=true then pure (ForInStep.yield (z++[(x.fst,x.snd)])) else pure (ForInStep.yield z)
theorem C1:∀ {L acc:List (Str × Value)},(L.map (·.1)).Nodup→(∀ p∈L,acc.lookup p.1=none)→(forIn L acc vZ:Sem (List (Str × Value)))=pure (acc++L)
 | [],acc,_,_=>by rw [List.append_nil]; rfl
 | p::L,acc,h2,h3=>by
  obtain ⟨n1,n2⟩:=List.nodup_cons.mp h2
  rw [List.forIn_cons,vZ,if_pos (by rw [h3 p (.head _)]; rfl),BM]
  refine (C1 n2 fun q hq=>?_).trans (congrArg pure (List.append_assoc acc [(p.1,p.2)] L))
  have:(q.1==p.1)=false:=beq_eq_false_iff_ne.mpr fun e=>n1 (List.mem_map.mpr ⟨q,hq,e⟩)
  rw [List.lookup_append,h3 q (.tail _ hq),List.lookup_cons,this]
  rfl
theorem v1 {L₂ acc:List (Str × Value)}(h2:(L₂.map (·.1)).Nodup) (h3:∀ p∈L₂,acc.lookup p.1=none):∀ {L₁:List (Str × Value)},(∀ p∈L₁,(acc.lookup p.1).isSome=true)→(forIn (L₁++L₂) acc vZ:Sem (List (Str × Value)))=pure (acc++L₂)
 | [],_=>C1 h2 h3
 | p::L₁,h1=>by
  rw [List.cons_append,List.forIn_cons,vZ,if_neg fun q=>ff ((congrArg Option.isSome (Option.isNone_iff_eq_none.mp q)).symm.trans (h1 p (.head _))),BM]
  exact v1 h2 h3 fun q hq=>h1 q (.tail _ hq)
section
variable {A B C:List Str}{xs d1 d2:List Value}
theorem Jq (h1:A.length≤xs.length):((A.filter fun n=>(((A++B).zip xs).lookup n).isNone).isEmpty)=true:=by
 rw [List.isEmpty_iff,List.filter_eq_nil_iff]
 intro x hx
 rw [Option.isNone_iff_eq_none]
 exact fun e=>ff ((congrArg Option.isSome e).symm.trans (td hx h1))
theorem GE (nd:(A++(B++C)).Nodup) (h1:xs.length=(A++B).length) (h2:B.length=d1.length) (h3:C.length=d2.length) :
  (forIn ((B++C).zip (d1++d2)) ((A++(B++C)).zip xs) vZ:Sem (List (Str × Value)))=pure ((A++(B++C)).zip (xs++d2)):=by
 rw [← List.append_assoc] at nd ⊢
 rw [List.zip_append h2,List.zip_append (l₁:=A++B) h1.symm,← xJ (T:=C) (Nat.le_of_eq h1)]
 refine v1 ?_ (fun p hp=>?_) fun p hp=>td (List.mem_append_right _ (List.of_mem_zip hp).1) (Nat.le_of_eq h1.symm)
 ·rw [List.map_fst_zip (Nat.le_of_eq h3)]
  exact nd.sublist (List.sublist_append_right ..)
 ·rw [xJ (Nat.le_of_eq h1)]
  exact GD fun q=>(List.nodup_append.mp nd).2.2 _ q _ (List.of_mem_zip hp).1 rfl
end
theorem NQ {p d n:Nat}(h1:n≤p) (h2:p≤n+d) (h3:d≤p):d - (n+d - p)=p - n:=by
 have q:=Nat.sub_le_iff_le_add.mpr h2
 rw [← Nat.sub_sub_right n h3,← Nat.add_sub_add_left (p - d) d,Nat.sub_add_cancel h3,Nat.add_sub_cancel' q]
theorem L7 {ps:List Str}{ds:List Value}{n:Nat}(h1:n≤ps.length) (h2:ps.length≤n+ds.length) (h3:ds.length≤ps.length) :
  ∃ A B C d1 d2,ps=A++(B++C)∧ds=d1++d2∧n=(A++B).length∧B.length=d1.length∧C.length=d2.length:=by
 have q:=Nat.sub_le_iff_le_add.mpr h2
 have e:n - (ps.length - ds.length)=n+ds.length - ps.length:=by rw [Nat.sub_sub_right n h3]
 have e1:=(NQ h1 h2 h3).symm
 refine ⟨ps.take (ps.length - ds.length),(ps.take n).drop (ps.length - ds.length),ps.drop n,ds.take (n+ds.length - ps.length),ds.drop (n+ds.length - ps.length),?_,(List.take_append_drop ..).symm,?_,?_,?_⟩
 ·have:ps.take (ps.length - ds.length)=(ps.take n).take (ps.length - ds.length):=by rw [List.take_take,Nat.min_eq_left q]
  rw [this,← List.append_assoc,List.take_append_drop,List.take_append_drop]
 ·rw [List.length_append,List.length_drop,List.length_take,List.length_take,Nat.min_eq_left h1,Nat.min_eq_left (Nat.sub_le ..)]
  exact (Nat.add_sub_cancel' q).symm
 ·rw [List.length_drop,List.length_take,List.length_take,Nat.min_eq_left h1,e]
  exact (Nat.min_eq_left (Nat.sub_le_iff_le_add'.mpr (Nat.add_le_add_right h1 _))).symm
 ·rw [List.length_drop,List.length_drop,e1]
section
variable {M:Model}{Ar:Around}{E:Value→Shared→Prop}{s:Shared}{α β:Type}{Q:α→Shared→Prop}
theorem Kz {m:Sem β}{b:β}{f:β→Sem α}(e:m=pure b) (k:wpAny M Ar (f b) Q E s):wpAny M Ar (m >>= f) Q E s:=by
 subst e
 exact wpAny_bind (wpAny_pure k)
theorem z7 {dV:Value}{ds:List Value}(hd:(dV=.none∧ds=[])∨∃ t,dV=.ref t∧IsTup s.heap t ds.toArray) {f:Option (Array Value)→Sem α}(k:∀ D:Option (Array Value),(D.getD #[]).toList=ds→wpAny M Ar (f D) Q E s):wpAny M Ar (seqItems? dV >>= f) Q E s:=by
 rcases hd with ⟨rfl,z⟩ | ⟨t,rfl,o,ho,hoc,nn,hdd⟩
 ·exact k none z.symm
 ·exact wpAny_bind (wpAny_seqItems ho hdd (k (some ds.toArray) rfl))
end
section
variable {ps:List Str}{xs ds:List Value}
theorem kE {A B C:List Str}{d1 d2:List Value}(l1:xs.length=(A++B).length) (l2:B.length=d1.length) (l3:C.length=d2.length) :
  (A++(B++C)).length - ((d1++d2).drop ((d1++d2).length - (A++(B++C)).length)).length=A.length∧(d1++d2).drop ((d1++d2).length - (A++(B++C)).length)=d1++d2∧(d1++d2).drop (xs.length+(d1++d2).length - (A++(B++C)).length)=d2:=by
 have L:(A++(B++C)).length=(A++B).length+C.length:=by rw [← List.append_assoc,List.length_append]
 have L':(d1++d2).length=B.length+C.length:=by rw [List.length_append,l2,l3]
 have e2:(d1++d2).drop ((d1++d2).length - (A++(B++C)).length)=d1++d2:=by
  rw [L',List.length_append,List.length_append,Nat.sub_eq_zero_of_le (Nat.le_add_left ..),List.drop_zero]
 refine ⟨?_,e2,?_⟩
 ·rw [e2,L',List.length_append,List.length_append,Nat.add_sub_cancel]
 ·rw [L',L,l1,Nat.add_sub_add_left,Nat.add_sub_cancel,l2,List.drop_left]
theorem D5 (h1:xs.length≤ps.length) (h2:ps.length≤xs.length+ds.length) (h3:ds.length≤ps.length) :
  ((ps.take (ps.length - (ds.drop (ds.length - ps.length)).length)).filter fun n=>((ps.zip xs).lookup n).isNone).isEmpty=true:=by
 refine aj (L7 h1 h2 h3) fun A h=>DH h fun B C d1 d2 e1 e2 l1 l2 l3=>?_
 rw [e1,e2,(kE l1 l2 l3).1,List.take_left]
 exact Jq (by rw [l1,List.length_append]; exact Nat.le_add_right ..)
theorem GF (nd:ps.Nodup) (h1:xs.length≤ps.length) (h2:ps.length≤xs.length+ds.length) (h3:ds.length≤ps.length) :
  (forIn ((ps.drop (ps.length - (ds.drop (ds.length - ps.length)).length)).zip (ds.drop (ds.length - ps.length))) (ps.zip xs) vZ:Sem (List (Str × Value)))=pure (ps.zip (xs++ds.drop (xs.length+ds.length - ps.length))):=by
 refine aj (L7 h1 h2 h3) fun A h=>DH h fun B C d1 d2 e1 e2 l1 l2 l3=>?_
 rw [e1] at nd
 rw [e1,e2,(kE l1 l2 l3).1,(kE l1 l2 l3).2.1,(kE l1 l2 l3).2.2,List.drop_left]
 exact GE nd l1 l2 l3
theorem GG (nd:ps.Nodup) (h1:xs.length≤ps.length) (h2:ps.length≤xs.length+ds.length) (h3:ds.length≤ps.length) :
  (ps++[]).filterMap (fun n=>((ps.zip (xs++ds.drop (xs.length+ds.length - ps.length))).lookup n).map (n,·))=ps.zip (xs++ds.drop (xs.length+ds.length - ps.length)):=by
 refine (congrArg _ (List.append_nil ps)).trans (te nd ?_ [] fun _ _=>rfl)
 refine aj (L7 h1 h2 h3) fun A h=>DH h fun B C d1 d2 e1 e2 l1 l2 l3=>?_
 rw [e1,e2,(kE l1 l2 l3).2.2,← List.append_assoc,List.length_append,List.length_append (as:=xs),l1,l3]
end
theorem v2 {F:Fn}{ps:List Str}{n:Nat}(hp:iH F.params ps=true) (nd:ps.Nodup) (h1:n≤ps.length) (h2:ps.length≤n+F.dfl.length) (h3:F.dfl.length≤ps.length):w9 F n ps:=by
 intro s dV pm cd ds xs hx hd hdl M Ar E Q hq
 rw [← hdl] at h2 h3 hq
 clear hdl
 subst hx
 refine tc hp fun args kd' df' hP hps=>?_
 clear hp
 obtain ⟨_,b1,b2,b3,b4,b5,b6⟩:=F
 replace hP:b3=_:=hP
 subst hP
 replace hps:List.map (fun x:Arg=>x.arg) []++List.map (fun x:Arg=>x.arg) args=ps:=hps
 subst hps
 dsimp only [Fn.data,fnOf,bindArgs,List.forIn_nil,BM]
 refine z7 hd fun D hD=>?_
 clear hd
 subst hD
 refine sO (fun q=>Nat.not_lt.mpr h1 (of_decide_eq_true (an q).1)) (sO (fun q=>?_) (Kz (GF nd h1 h2 h3) (Kz rfl (sO ff (wpAny_pure ?_)))))
 ·rw [D5 h1 h2 h3] at q
  exact ff q
 ·exact (GG nd h1 h2 h3).symm ▸ hq
end
section
theorem C3:∀ {ps:List Str}{vs:List V}{i:Nat}{x:Str}{v:V},ps.Nodup→ps[i]? = some x→vs[i]? = some v→(ps.zip vs).lookup x=some v
 | [],_,_,_,_,_,h,_=>nS h
 | p::ps,[],i,x,v,_,_,h=>nS h
 | p::ps,u::vs,0,x,v,_,h,h2=>by
  obtain rfl:=sj h
  obtain rfl:=sj h2
  exact List.lookup_cons_self
 | p::ps,u::vs,i+1,x,v,nd,h,h2=>by
  have nd:=List.nodup_cons.mp nd
  rw [List.zip_cons_cons,List.lookup_cons,beq_eq_false_iff_ne.mpr fun (e:x=p)=>nd.1 (by rw [← e]; exact List.mem_of_getElem? (i:=i) h)]
  exact C3 nd.2 h h2
noncomputable def C4 (F:Fn) (names:List Str) (np:Nat):Bool :=
 (((((ng F names&&oR F (names.take np))&&Nat.ble np names.length)&&iH F.params (names.take np))&&Nat.ble F.dfl.length np) &&
 F.scope.names.all (fun y=>y.2 != .cell||((cellsFrom 0 F.scope.names []).lookup y.1).isSome))
structure FnF (F:Fn) (names:List Str) (np:Nat):Prop where
 c1:ng F names=true
 c2:oR F (names.take np)=true
 c4:iH F.params (names.take np)=true
 c5:F.dfl.length≤np
 hnp:np≤names.length
 hlen:(names.take np).length=np
 ndp:(names.take np).Nodup
 cells:∀ x,F.scope.names.lookup x=some .cell→∀ L,∃ c,(cellsFrom (L+1) F.scope.names []).lookup x=some c
theorem fnF {F:Fn}{names:List Str}{np:Nat}(hc:C4 F names np=true):FnF F names np:=by
 have h5:=an hc; have h4:=an h5.1; have h3:=an h4.1; have h2:=an h3.1; have h1:=an h2.1
 have hnp:=aX h2.2
 have nd:names.Nodup:=of_decide_eq_true (an (show (_&&decide names.Nodup)=true from h1.1)).2
 refine ⟨h1.1,h1.2,h3.2,aX h4.2,hnp,(List.length_take ..).trans (Nat.min_eq_left hnp),nd.sublist (List.take_sublist _ _),fun x hx L=>?_⟩
 have:=List.all_eq_true.mp h5.2 _ (mem_of_lookup hx)
 rw [bne_self_eq_false,Bool.false_or] at this
 rw [jp _ 0 (L+1)] at this
 exact Option.isSome_iff_exists.mp this
section
variable {n:Nat}{cx:Cx}{d:Fd}{vs:List V}{H:MH}
theorem Jr {fm:Fm}{names:List Str}{np:Nat}{args:List V}{s:Shared}(hnp:np≤names.length) (ndp:(names.take np).Nodup) (hal:args.length=np) (S:Sat fm (g8 names (names.take np) args) H s):Sat fm (ba (args.map some++List.replicate (names.length - np) none)) H s :=
 S.weak fun i v hi=>by
  unfold ba at hi
  have hl:(args.map some).length=np:=(List.length_map _).trans hal
  rcases Nat.lt_or_ge i np with hlt | hge
  ·rw [List.getElem?_append_left (hl.symm ▸ hlt),List.getElem?_map] at hi
   cases e:args[i]? with
   | none=>rw [e] at hi; exact nS hi
   | some u =>
    rw [e] at hi
    obtain rfl:=sj hi
    have hn:names[i]? = some (names[i]'(Nat.lt_of_lt_of_le hlt hnp)):=List.getElem?_eq_getElem _
    unfold g8
    rw [hn]
    exact C3 ndp (by rw [List.getElem?_take,if_pos hlt]; exact hn) e
  ·rw [List.getElem?_append_right (hl.symm ▸ hge),List.getElem?_replicate] at hi
   split at hi <;> exact nS hi
theorem xK {fm:Fm}{args:List V}{Q:QV}{QE:QX}(C:Cs fm cx n) (hb:PBs n cx SN d.body) (hnp:d.np≤d.names.length) (ndp:(d.names.take d.np).Nodup) (hal:args.length=d.np)
  (h:(evB (evS SN cx) d.body (args.map some++List.replicate (d.names.length - d.np) none) (aa H) fun f _ G=>.ok (f,G)).tt fun p=>∀ H',aa H'=p.2→match p.1 with
   | .ret v=>Q v H'
   | .next=>Q .none H'
   | .ex ks us=>QE ks us H'
   | _=>False):qz fm d.body (g8 d.names (d.names.take d.np) args) H Q QE:=fun s S =>
 wpAny_mono (hb fm C h (Q:=fun f m' H'=>match f with
   | .ret v=>Q v H'
   | .next=>Q .none H'
   | .ex ks us=>QE ks us H'
   | _=>False) (fun f m' H' z=>z H' rfl) s (Jr hnp ndp hal S)) (fun f s' p=>p.el fun fl m1 H1 a T1 S1 hf=>by
  cases fl with
  | next=>subst hf; exact ⟨_,.none,H1,T1,S1,rfl,a⟩
  | ret v=>obtain ⟨x,e,r⟩:=hf; subst e; exact ⟨_,v,H1,T1,S1,r,a⟩
  | ex _ _=>exact hf.elim
  | _=>exact a.elim) fun x s' p=>p.mono fun ks us H' a=>a
end
end
section
noncomputable def Fm.hide (fm:Fm) (H:MH):Fm:={ fm with int:=aW H++fm.int }
section
variable {fm:Fm}{m m':Loc}{H H':MH}{s s':Shared}
theorem C5 {b:Addr}(h:b ∉ fm.X H):b ∉ (fm.hide H).X []:=fun q=>h (ax.mpr ((ax.mp q).imp id (.imp id fun z=>nomatch z)))
theorem kG {b:Addr}(h:(fm.hide H).ok H' b):fm.ok H b :=
 ⟨fun q=>(ax.mp q).elim (fun z=>h.1 (ax.mpr (.inl z))) fun z=>z.elim (fun z=>h.1 (ax.mpr (.inr (.inl z)))) fun z=>h.2 (List.mem_append_left _ z),fun z=>h.2 (List.mem_append_right _ z)⟩
theorem Sat.hide (S:Sat fm m H s) (hm:∀ i v,m i=some v→v.pu=true):Sat (fm.hide H) m [] s :=
 ⟨S.base,S.funs,S.ns,S.cells,fun i x v h1 h2 h3=>let ⟨val,a,r⟩:=S.vars i x v h1 h2 h3
  ⟨val,a,Rep.mono0 (fun b o e q=>⟨e,C5 q.1,fun z=>(List.mem_append.mp z).elim (fun z=>q.1 (ax.mpr (.inr (.inr z)))) q.2⟩) _ _ (.inl (hm i v h3)) r⟩,
  fun p hp=>(nomatch hp),List.nodup_nil,fun a ha=>(nomatch ha),fun a ha=>ha.elim (fun z=>S.alive a (.inl z)) fun z=>z.elim (fun z=>S.alive a (.inr (.inl z))) fun z=>(List.mem_append.mp z).elim (fun z=>by
  cases e:s.heap.get? a with
  | none=>exact absurd z (S.fresh_owned e)
  | some o=>exact ⟨o,rfl⟩) fun z=>S.alive a (.inr (.inr z)),S.gens,S.os,S.drawn⟩
theorem ay.hide (O:ay fm) (S:Sat fm m H s):ay (fm.hide H) :=
 {O with
  ownBase:=fun a h=>h.elim (fun z=>O.ownBase a (.inl z)) fun z=>z.elim (fun z=>O.ownBase a (.inr (.inl z))) fun z=>(List.mem_append.mp z).elim (fun z=>(S.apart a z).2.2.2) fun z=>O.ownBase a (.inr (.inr z))
  ownFm:=fun a h z=>(List.mem_append.mp z).elim (fun z=>(S.apart a z).1 h) (O.ownFm a h)
  outsFm:=fun a h z=>(List.mem_append.mp z).elim (fun z=>(S.apart a z).2.1 h) (O.outsFm a h) }
theorem D6 (S:Sat fm m H s) (T:af (fm.hide H) [] s.heap H' s'.heap) {a:Addr}(h:a∈aW H) {o:Obj}(e:s.heap.get? a=some o):s'.heap.get? a=some o :=
 (T.keep a o e fun q=>(ax.mp q).elim (S.apart a h).1 fun z=>z.elim (S.apart a h).2.1 fun z=>nomatch z).1
theorem tg (S':Sat (fm.hide H) m' H' s') (a:Addr) (h:a∈fm.own∨a∈fm.outs∨a∈fm.int):∃ o,s'.heap.get? a=some o:=S'.alive a (h.imp id (.imp id (List.mem_append_right _)))
theorem v3 (S:Sat fm m H s) (T:af (fm.hide H) [] s.heap H' s'.heap) {H₁:MH}(pre:∀ (i:Nat) (a:Addr),(bC H)[i]? = some a→(bC H₁)[i]? = some a) (k:∀ b,b ∉ fm.X H→b ∉ (fm.hide H).X H'→b ∉ fm.X H₁) (p:Addr × MO) (hp:p∈H):dC fm H₁ s'.heap p.1 p.2 :=
 dC.mono pre (fun b o e q=>let z:=T.keep b o e (C5 q.1); ⟨z.1,k b q.1 z.2,q.2⟩) (fun b hb o e=>D6 S T (List.mem_flatMap.mpr ⟨p,hp,hb⟩) e) (S.objs p hp)
theorem D7 (S:Sat fm m H s) (T:af (fm.hide H) [] s.heap H' s'.heap) (S':Sat (fm.hide H) m' H' s'):af fm H s.heap H s'.heap∧Sat fm (fun _=>none) H s' :=
 ⟨⟨fun b o e n=>⟨(T.keep b o e (C5 n)).1,n⟩,T.outs,fun _ _ e=>e⟩,S'.base,S'.funs,S'.ns,S'.cells,fun _ _ _ _ _ h=>(nomatch h),v3 S T (fun _ _ e=>e) fun _ h _=>h,S.nodup,S.apart,tg S',S'.gens,S'.os,S'.drawn⟩
theorem BN {e d:Addr}{tb:Option (Addr × Value)}{ks:List Str}{vs:List V}(S:Sat fm m H s) (T:af (fm.hide H) [] s.heap ((e,.exc d tb ks vs)::H') s'.heap) (S':Sat (fm.hide H) m' ((e,.exc d tb ks vs)::H') s') (hv:V.puL vs=true) :
  af fm H s.heap ((e,.exc d tb ks vs)::H) s'.heap∧Sat fm (fun _=>none) ((e,.exc d tb ks vs)::H) s':=by
 have ap:=fun a ha=>S'.apart a (List.mem_append_left _ ha)
 have mem:∀ {b},b∈fm.X ((e,.exc d tb ks vs)::H)→b∈fm.X H∨b∈MO.addrs e (.exc d tb ks vs):=fun {b} q=>(ax.mp q).elim (fun z=>.inl (ax.mpr (.inl z))) fun z=>z.elim (fun z=>.inl (ax.mpr (.inr (.inl z)))) fun z=>(List.mem_append.mp z).elim .inr fun z=>.inl (ax.mpr (.inr (.inr z)))
 have kk:∀ b,b ∉ fm.X H→b ∉ (fm.hide H).X ((e,.exc d tb ks vs)::H')→b ∉ fm.X ((e,.exc d tb ks vs)::H):=fun b h1 h2 q=>(mem q).elim h1 fun z=>h2 (ax.mpr (.inr (.inr (List.mem_append_left _ z))))
 have nd:=List.nodup_append.mp S'.nodup
 refine ⟨⟨fun b o eb n=>let z:=T.keep b o eb (C5 n); ⟨z.1,kk b n z.2⟩,T.outs,fun _ _ q=>q⟩,S'.base,S'.funs,S'.ns,S'.cells,fun _ _ _ _ _ h=>(nomatch h),fun p hp=>?_,?_,fun a ha=>?_,tg S',S'.gens,S'.os,S'.drawn⟩
 ·rcases List.mem_cons.mp hp with z | hp
  ·subst z
   obtain ⟨h1,xs,ep,h2,h3,h4⟩:=S'.objs _ (.head _)
   exact ⟨h1,xs,ep,h2,h3,RepL.mono0 (fun b o eb q=>⟨eb,kk b (kG q).1 q.1,(kG q).2⟩) (.inl hv) h4⟩
  ·exact v3 S T (H₁:=(e,.exc d tb ks vs)::H) (fun _ _ q=>q) kk p hp
 ·exact List.nodup_append.mpr ⟨nd.1,S.nodup,fun a ha b hb q=>(ap a ha).2.2.1 (List.mem_append_left _ (q ▸ hb))⟩
 ·rcases List.mem_append.mp ha with z | z
  ·have:=ap a z
   exact ⟨this.1,this.2.1,fun q=>this.2.2.1 (List.mem_append_right _ q),this.2.2.2⟩
  ·exact S.apart a z
theorem Cs.hide {cx:Cx}{n:Nat}(C:Cs fm cx n) (S:Sat fm m H s):Cs (fm.hide H) cx n:=⟨⟨C.O.hide S,C.names,C.kinds,C.room,C.hh,C.fns,C.cells⟩,C.outer,C.cellIn,C.frLoc⟩
theorem kH (S':Sat (fm.hide H) m' H' s') {b:Addr}(h:b∈aW H'):fm.ok H b:=by
 obtain ⟨h1,h2,h3,h4⟩:=S'.apart b h
 exact ⟨fun q=>(ax.mp q).elim h1 fun q=>q.elim h2 fun q=>h3 (List.mem_append_left _ q),fun q=>h3 (List.mem_append_right _ q)⟩
theorem xN {v:V}{x:Value}{h:Heap}(hv:v.pu=true) (r:(fm.hide H).R H' h v x):fm.R H h v x:=Rep.mono0 (fun b o e q=>⟨e,kG q⟩) v x (.inl hv) r
theorem Aa {v:List V}{x:List Value}{h:Heap}(hv:V.puL v=true) (r:(fm.hide H).RL H' h v x):fm.RL H h v x:=RepL.mono0 (fun b o e q=>⟨e,kG q⟩) (.inl hv) r
theorem v4 (O':ay (fm.hide H)) (S':Sat (fm.hide H) m' H' s') {i:Nat}{x:Value}(r:(fm.hide H).R H' s'.heap (.ref i) x) (hp:(i7 (aa H') (.ref i)).pu=true):fm.R H s'.heap (i7 (aa H') (.ref i)) x:=by
 unfold i7 at hp ⊢
 cases e:(aa H')[i]? with
 | none=>simp only [e] at hp; exact ff hp
 | some ao=>cases ao with
  | list vs =>
   simp only [e] at hp ⊢
   exact cP (g9 S' e r) fun a xs ex hm hl r1=>⟨a,xs,ex,kH S' (bm hm (.head _)),hl,Aa hp r1⟩
  | dS ks vs =>
   simp only [e] at hp ⊢
   exact DG (Br O' S' e r) fun a xs ep ex hm hz hd hl r1=>⟨a,xs,ep,ex,kH S' (bm hm (.head _)),hz,hd,hl,Aa hp r1⟩
  | dI ks =>
   simp only [e] at hp ⊢
   exact mT (xf O' S' e r) fun a ep ex hm hz hd hl=>⟨a,ep,ex,kH S' (bm hm (.head _)),hz,hd,hl⟩
  | _=>simp only [e] at hp; exact ff hp
theorem D8 (O':ay (fm.hide H)) (S':Sat (fm.hide H) m' H' s') {v:V}{x:Value}(r:(fm.hide H).R H' s'.heap v x) (hp:(i7 (aa H') v).pu=true):fm.R H s'.heap (i7 (aa H') v) x:=by
 cases v with
 | ref i=>exact v4 O' S' r hp
 | _=>exact xN hp r
theorem v5 (O':ay (fm.hide H)) (S':Sat (fm.hide H) m' H' s') {vs:List V}{xs:List Value}(r:(fm.hide H).RL H' s'.heap vs xs):V.puL (vs.map (i7 (aa H')))=true→fm.RL H s'.heap (vs.map (i7 (aa H'))) xs :=
 r.ind (P:=fun vs xs=>V.puL (vs.map (i7 (aa H')))=true→fm.RL H s'.heap (vs.map (i7 (aa H'))) xs) (fun _=>.nil) fun v x vs xs r1 _ ih hp=>.cons (D8 O' S' r1 (an hp).1) (ih (an hp).2)
theorem GH (O':ay (fm.hide H)) (S':Sat (fm.hide H) m' H' s') {th:Bool}{v:V}{x:Value}(r:(fm.hide H).R H' s'.heap v x) (hp:(xA th (aa H') v).pu=true):fm.R H s'.heap (xA th (aa H') v) x:=by
 cases v with
 | ref i =>
  cases e:(aa H')[i]? with
  | none=>unfold xA at hp; simp only [e] at hp; exact ff hp
  | some ao=>cases ao with
   | inst C ks vs =>
    unfold xA at hp ⊢
    simp only [e] at hp ⊢
    refine mT (lD S' e r) fun a mo ex hm h2 _ q=>aj (nu h2) fun d ed=>?_
    subst ed
    exact ar q fun h0 q=>cz q fun xs ep hd hl r1=>⟨a,d,xs,ep,ex,kH S' (bm hm (.head _)),kH S' (bm hm (.tail _ (.head _))),h0,hd,hl,v5 O' S' r1 hp⟩
   | _ =>
    have e':xA th (aa H') (.ref i)=i7 (aa H') (.ref i):=by unfold xA i7; simp only [e]
    rw [e'] at hp ⊢
    exact v4 O' S' r hp
 | tup vs =>
  cases th with
  | false=>exact xN hp r
  | true=>exact cP r fun a xs ex ok hl r1=>⟨a,xs,ex,kG ok,hl,v5 O' S' r1 hp⟩
 | _=>exact xN hp r
theorem qz.plain {body:List Stmt}{r:Res}{th:Bool}(O:ay fm) (hm:∀ i v,m i=some v→v.pu=true) (hr:r.pu=true) (h:∀ s,Sat fm m H s→qz (fm.hide H) body m [] (fun v H'=>Res.ok (xA th (aa H') v)=r) (fun ks us _=>Res.ex ks us=r)) :
  qz fm body m H (fun v H'=>r=.ok v∧aa H'=aa H) (fun ks us H'=>r=.ex ks us∧aa H'=aa H):=fun s S =>
 wpAny_mono (h s S s (S.hide hm)) (fun f s' p=>p.elim fun m' p=>p.el fun v H' T S' rv q=>by
  subst q
  exact ar (D7 S T S') fun T1 S1=>⟨_,_,H,T1,S1,GH (O.hide S) S' rv hr,rfl,rfl⟩) fun x s' p=>p.el fun e d tb ks vs H' m' ex T S' f q=>by
  subst q
  exact ar (BN S T S' hr) fun T1 S1=>⟨e,d,tb,ks,vs,H,_,ex,T1,S1,f,rfl,rfl⟩
end
structure D9 (F:Fn) (d:Fd) (cx:Cx):Prop where
 body:F.body=d.body:=by kernel_rfl
 dfl:F.dfl=d.dfl:=by kernel_rfl
 names:cx.names=d.names:=by kernel_rfl
 kinds:F.scope.names=cx.kinds:=by kernel_rfl
section
variable {n:Nat}{cx:Cx}{d:Fd}{F:Fn}
theorem v6 (D:D9 F d cx) (hF:F∈av::au::TAB) (f:FnF F d.names d.np) (hT:∀ g k,lkF cx.fns g=some k→uX n g k) {vs:List V}{H:MH}{Q:QV}{QE:QX}(hv:bo d vs=true)
  (hb:∀ fm',Cs fm' cx n→qz fm' d.body (g8 d.names (d.names.take d.np) (vs++d.dfl.drop (vs.length+d.dfl.length - d.np))) H Q QE):j3 (n+1) F.addr vs H Q QE:=by
 have h1:=aX (an hv).1
 have h2:=aX (an hv).2
 have f5:=f.c5
 rw [D.dfl] at f5
 have hl:=f.hlen
 refine Fx (names:=d.names) (ps:=d.names.take d.np) hF f.c1 f.c2 f.ndp (v2 f.c4 f.ndp (by rw [hl]; exact h1) (by rw [hl,D.dfl]; exact h2) (by rw [hl,D.dfl]; exact f5)) fun fm' dV pm cd L fm hfm O' hh' R'=>?_
 rw [hl,D.body,D.dfl]
 refine hb fm' ⟨⟨O',by rw [hfm,D.names]; rfl,by rw [hfm,← D.kinds]; rfl,R',hh',hT,fun x hx=>by rw [hfm] at hx ⊢; exact f.cells x hx L⟩,by rw [hfm]; exact ⟨fm.fenvs,rfl⟩,fun x c hx hc=>by
  rw [hfm] at hc ⊢
  exact List.mem_cons_of_mem _ (List.mem_filterMap.mpr ⟨(x,c),mem_of_lookup hc,hc⟩),by rw [hfm]; rfl⟩
theorem ti {vs:List V}(hv:bo d vs=true) (h5:d.dfl.length≤d.np):(vs++d.dfl.drop (vs.length+d.dfl.length - d.np)).length=d.np:=by
 have h1:=aX (an hv).1
 have h2:=aX (an hv).2
 rw [List.length_append,List.length_drop,NQ h1 h2 h5,Nat.add_sub_cancel' h1]
theorem NR (D:D9 F d cx) (hF:F∈av::au::TAB) (hc:C4 F d.names d.np=true) (hT:∀ g k,lkF cx.fns g=some k→uX n g k) (hb:PBs n cx SN d.body):d9 (n+1) F (fnH cx d):=fun vs H r G' h =>
 have f:=fnF hc
 v6 D hF f hT h.1 fun fm' C=>xK C hb f.hnp f.ndp (ti h.1 (D.dfl ▸ f.c5)) ((fnT cx d vs (aa H)).tt_mono (fun p z H' g=>by
  obtain ⟨fl,G⟩:=p
  subst g
  cases fl with
  | ret v=>exact ⟨z.1,z.2.symm⟩
  | next=>exact ⟨z.1,z.2.symm⟩
  | ex ks us=>exact ⟨z.1,z.2.symm⟩
  | _=>exact z.elim) h.2)
theorem BO:∀ {vs:List V}{v:V},V.puL vs=true→v∈vs→v.pu=true
 | _::_,_,h,.head _=>(an h).1
 | _::_,_,h,.tail _ q=>BO (an h).2 q
theorem NS {th:Bool}(D:D9 F d cx) (hF:F∈av::au::TAB) (hc:C4 F d.names d.np=true) (hd:V.puL d.dfl=true) (hT:∀ g k,lkF cx.fns g=some k→uX n g k) (hb:PBs n cx SN d.body):aw (n+1) F (fnP th cx d):=fun vs H r h=>by
 have f:=fnF hc
 have hv:=(an h.2.1).2
 refine v6 D hF f hT hv fun fm' C=>qz.plain C.O (fun i v hi=>?_) h.1 fun s S=>xK (C.hide S) hb f.hnp f.ndp (ti hv (D.dfl ▸ f.c5)) ((fnT cx d vs []).tt_mono (fun p z H' g=>by
  obtain ⟨fl,G⟩:=p
  subst g
  cases fl with
  | ret v=>exact z
  | next=>exact z
  | ex ks us=>exact z
  | _=>exact z.elim) h.2.2)
 unfold g8 at hi
 refine cD hi fun x _ hi=>(List.mem_append.mp (List.of_mem_zip (mem_of_lookup hi)).2).elim (BO (an h.2.1).1) fun q=>BO hd (List.mem_of_mem_drop q)
end
end
section
theorem ju {env:Env}:∀ {names:List (Str × NameKind)}{acc:List (Str × Addr)},(∀ x,(x,NameKind.free)∈names→∃ c,env.cells.lookup x=some c) →
  ∃ cl,(forIn names acc (fun p r=>if p.2==.free then (do let c ← cellOf env p.1; pure (ForInStep.yield ((p.1,c)::r))) else pure (ForInStep.yield r)):Sem (List (Str × Addr)))=pure cl ∧
   (∀ x c,(x,c)∈cl→(x,c)∈acc∨(env.cells.lookup x=some c∧(x,NameKind.free)∈names))∧(∀ x,((x,NameKind.free)∈names∨∃ c,(x,c)∈acc)→∃ c,(x,c)∈cl)
 | [],acc,_=>⟨acc,rfl,fun x c h=>.inl h,fun x h=>h.elim (fun q=>by simp at q) id⟩
 | (n,k)::names,acc,h=>by
  cases hk:k==NameKind.free with
  | false =>
   refine dA (ju (env:=env) (names:=names) (acc:=acc) (fun x hx=>h x (.tail _ hx))) fun cl e h1 h2=>?_
   refine ⟨cl,?_,fun x c hx=>(h1 x c hx).imp id fun q=>⟨q.1,.tail _ q.2⟩,fun x hx=>h2 x (hx.imp (fun q=>?_) id)⟩
   ·rw [List.forIn_cons]
    simp only [hk,Bool.false_eq_true,if_false,pure_bind]
    exact e
   ·rcases List.mem_cons.mp q with q | q
    ·cases q; simp at hk
    ·exact q
  | true =>
   obtain rfl:=beq_iff_eq.mp hk
   refine aj (h n (.head _)) fun c0 hc0=>?_
   refine dA (ju (env:=env) (names:=names) (acc:=(n,c0)::acc) (fun x hx=>h x (.tail _ hx))) fun cl e h1 h2=>?_
   refine ⟨cl,?_,fun x c hx=>?_,fun x hx=>h2 x ?_⟩
   ·rw [List.forIn_cons]
    have:cellOf env n=pure c0:=by unfold cellOf; rw [hc0]
    simp only [this,beq_self_eq_true,if_true,pure_bind]
    exact e
   ·rcases h1 x c hx with q | q
    ·rcases List.mem_cons.mp q with q | q
     ·cases q; exact .inr ⟨hc0,.head _⟩
     ·exact .inl q
    ·exact .inr ⟨q.1,.tail _ q.2⟩
   ·rcases hx with q | ⟨c,q⟩
    ·rcases List.mem_cons.mp q with q | q
     ·cases q; exact .inr ⟨c0,.head _⟩
     ·exact .inl q
    ·exact .inr ⟨c,.tail _ q⟩
theorem BP {scope:Scope}{env:Env}(h:∀ x,(x,NameKind.free)∈scope.names→∃ c,env.cells.lookup x=some c) :
  ∃ cl,closureFor scope env=pure cl∧(∀ x c,cl.lookup x=some c→env.cells.lookup x=some c∧(x,NameKind.free)∈scope.names)∧(∀ x,(x,NameKind.free)∈scope.names→∃ c,cl.lookup x=some c):=by
 refine dA (ju (env:=env) (names:=scope.names) (acc:=[]) h) fun cl e h1 h2=>?_
 refine ⟨cl,?_,fun x c hx=>?_,fun x hx=>?_⟩
 ·unfold closureFor
  show (forIn scope.names ([]:List (Str × Addr)) _ >>= fun r=>pure r)=_
  rw [bind_pure]
  exact e
 ·rcases h1 x c (mem_of_lookup hx) with q | q
  ·simp at q
  ·exact q
 ·refine aj (h2 x (.inl hx)) fun c hc=>?_
  cases q:cl.lookup x with
  | some c=>exact ⟨c,rfl⟩
  | none=>exact absurd hc (by rw [List.lookup_eq_none_iff] at q; exact fun hc=>by have:=q _ hc; simp at this)
noncomputable def Fm.comp (fm:Fm) (env':Env) (names':List Str) (C I D:Addr):Fm:={ fm with env:=env',names:=names',own:=[C],outs:=fm.own++fm.outs,int:=I::D::fm.int }
structure Ab (fm:Fm) (scope:Scope) (cl:List (Str × Addr)):Prop where
 kind:scope.kind=.function
 look:∀ x c,cl.lookup x=some c→fm.env.cells.lookup x=some c∧(x,NameKind.free)∈scope.names
 free:∀ x,(x,NameKind.free)∈scope.names→(∃ c,cl.lookup x=some c)∧fm.env.kindOf x=some .cell
 nocell:∀ y∈scope.names,y.2≠.cell
 loc:∀ y∈scope.names,y.2=.local→scope.names.lookup y.1=some .local
section
variable {fm:Fm}{cx:Cx}{n:Nat}{m:Loc}{H:MH}{s s':Shared}{C I D:Addr}{scope:Scope}{cl:List (Str × Addr)}{names':List Str}
theorem jv (X:Ab fm scope cl) (O:ay fm) {x:Str}:(compEnvC scope cl C fm.env).kindOf x=(scope.names.lookup x).map fun k=>if k=.free then .cell else k:=by
 show ((scope.names.map fun (n,k)=>if (k==NameKind.free&&fm.env.scope.kind==.function&&fm.env.kindOf n==some .cell) then (n,NameKind.cell) else (n,k))).lookup x=_
 have hfree:=X.free
 generalize scope.names=l at hfree
 induction l with
 | nil=>rfl
 | cons p l ih =>
  obtain ⟨a,k⟩:=p
  have ih:=ih fun x hx=>hfree x (.tail _ hx)
  by_cases hk:k=.free
  ·subst hk
   have:=(hfree a (.head _)).2
   simp only [List.map_cons,beq_self_eq_true,O.kind,this,Bool.and_self,if_true,List.lookup_cons]
   cases x==a with
   | true=>rfl
   | false=>simpa [O.kind] using ih
  ·have hk':(k==NameKind.free)=false:=by simpa using hk
   simp only [List.map_cons,hk',Bool.false_and,Bool.false_eq_true,if_false,List.lookup_cons]
   cases x==a with
   | true=>simp [hk]
   | false=>exact ih
theorem Ea (X:Ab fm scope cl) (O:ay fm) {x:Str}(h:(compEnvC scope cl C fm.env).kindOf x=some .cell):(x,NameKind.free)∈scope.names:=by
 rw [jv X O] at h
 refine ae (Option.map_eq_some_iff.mp h) fun k hk e=>?_
 have hm:=mem_of_lookup hk
 by_cases q:k=.free
 ·subst q; exact hm
 ·rw [if_neg q] at e
  exact absurd e (X.nocell _ hm)
theorem ay.comp (O:ay fm) (S:Sat fm m H s) (X:Ab fm scope cl) (hn:names'.Nodup) (hC:s.heap.get? C=none) (hI:s.heap.get? I=none) (hD:s.heap.get? D=none) (hCI:C≠I) (hCD:C≠D) :
  ay (fm.comp (compEnvC scope cl C fm.env) names' C I D):=by
 have fC:=S.fresh_apart hC
 have fI:=S.fresh_apart hI
 have fD:=S.fresh_apart hD
 refine ⟨O.frames,?_,O.glob,O.blt,List.mem_singleton.mpr rfl,?_,?_,hn,?_,?_,?_,?_,?_,O.frEnv,O.wd,?_⟩
 ·exact X.kind
 ·intro x c hx hc
  refine ar (X.look x c hc) fun h1 h2=>?_
  refine ar (O.cellsOwn x c (X.free x h2).2 h1) fun h3 h4=>?_
  refine ⟨.inr (List.mem_append.mpr h3),?_⟩
  exact fun (z:c=C)=>h3.elim (fun q=>fC.1 (z ▸ q)) fun q=>fC.2.1 (z ▸ q)
 ·intro x y c hx hy hcx hcy
  refine ar (X.look x c hcx) fun h1 h2=>?_
  refine ar (X.look y c hcy) fun h3 h4=>?_
  exact O.cellsInj x y c (X.free x h2).2 (X.free y h4).2 h1 h3
 ·intro a ha
  rcases ha with ha | ha | ha
  ·rw [List.mem_singleton.mp ha]; exact fC.2.2.2
  ·rcases List.mem_append.mp ha with q | q
   ·exact O.ownBase a (.inl q)
   ·exact O.ownBase a (.inr (.inl q))
  ·rcases List.mem_cons.mp ha with rfl | ha
   ·exact fI.2.2.2
   ·rcases List.mem_cons.mp ha with rfl | ha
    ·exact fD.2.2.2
    ·exact O.ownBase a (.inr (.inr ha))
 ·intro a ha q
  rw [List.mem_singleton.mp ha] at q
  rcases List.mem_cons.mp q with q | q
  ·exact hCI q
  ·rcases List.mem_cons.mp q with q | q
   ·exact hCD q
   ·exact fC.2.2.1 q
 ·intro a ha q
  rcases List.mem_cons.mp q with rfl | q
  ·rcases List.mem_append.mp ha with z | z
   ·exact fI.1 z
   ·exact fI.2.1 z
  ·rcases List.mem_cons.mp q with rfl | q
   ·rcases List.mem_append.mp ha with z | z
    ·exact fD.1 z
    ·exact fD.2.1 z
   ·rcases List.mem_append.mp ha with z | z
    ·exact O.ownFm a z q
    ·exact O.outsFm a z q
 ·intro a ha q
  rw [List.mem_singleton.mp ha] at q
  rcases List.mem_append.mp q with z | z
  ·exact fC.1 z
  ·exact fC.2.1 z
 ·exact .inr (List.mem_append.mpr O.frIn)
 ·intro e he L hL
  rcases O.fenvsIn e he L hL with q | q
  ·exact .inl q
  ·exact .inr (List.mem_append_right _ q)
theorem xO {b:Addr}{env':Env}:(fm.comp env' names' C I D).ok H b↔fm.ok H b∧b≠C∧b≠I∧b≠D:=by
 unfold Fm.ok Fm.comp Fm.X
 simp only [List.mem_cons,List.mem_append,List.not_mem_nil,or_false,not_or]
 constructor
 ·rintro ⟨⟨⟨a,b,c⟩,d⟩,e,f,g⟩; exact ⟨⟨⟨⟨b,c⟩,d⟩,g⟩,a,e,f⟩
 ·rintro ⟨⟨⟨⟨b,c⟩,d⟩,g⟩,a,e,f⟩; exact ⟨⟨⟨a,b,c⟩,d⟩,e,f,g⟩
theorem Sat.comp {m':Loc}(O:ay fm) (S:Sat fm m H s) (X:Ab fm scope cl) (hC:s.heap.get? C=none) (hI:s.heap.get? I=none) (hD:s.heap.get? D=none)
  (k:∀ b o,s.heap.get? b=some o→s'.heap.get? b=some o) (hC':∃ mm,s'.heap.Ns C mm) (hI':∃ o,s'.heap.get? I=some o) (hD':∃ o,s'.heap.get? D=some o)
  (hm:∀ i x v,names'[i]? = some x→m' i=some v→scope.names.lookup x=some NameKind.free∧∃ j,fm.names[j]? = some x∧m j=some v)
  (hg:s'.gens=s.gens) (ho:s'.os=s.os) (hd:s'.drawn=s.drawn):Sat (fm.comp (compEnvC scope cl C fm.env) names' C I D) m' H s':=by
 have fC:=S.fresh_apart hC
 have fI:=S.fresh_apart hI
 have fD:=S.fresh_apart hD
 have kR:∀ b o,s.heap.get? b=some o→fm.ok H b→s'.heap.get? b=some o∧(fm.comp (compEnvC scope cl C fm.env) names' C I D).ok H b:=fun b o e q =>
  ⟨k b o e,xO.mpr ⟨q,fun z=>(by rw [z,hC] at e; exact nS e),fun z=>(by rw [z,hI] at e; exact nS e),fun z=>(by rw [z,hD] at e; exact nS e)⟩⟩
 refine ⟨fun b o e=>k b o (S.base b o e),S.funs.of_keeps fun b o e _=>⟨o,k b o e,rfl⟩,hC',?_,?_,?_,S.nodup,?_,?_,hg.trans S.gens,ho.trans S.os,hd.trans S.drawn⟩
 ·intro x c hx hc
  refine ar (X.look x c hc) fun h1 h2=>?_
  refine cN (S.cells x c (X.free x h2).2 h1) fun v o h3 h4=>?_
  exact ⟨v,o,k _ _ h3,h4⟩
 ·intro i x v hi hx hv
  obtain ⟨hf,j,hj,hmj⟩:=hm i x v hi hv
  refine ar (X.free x (mem_of_lookup hf)) fun z8=>?_; obtain ⟨c,hc⟩:=z8; intro hkc
  refine ae (S.vars j x v hj (.inr hkc) hmj) fun val hva r=>?_
  refine ⟨val,?_,Rep.mono (fun _ _ e=>e) kR r⟩
  unfold d6 at hva ⊢
  rw [hkc] at hva
  obtain ⟨c',hc',o,h3,h4⟩:=hva
  have hcell:(compEnvC scope cl C fm.env).kindOf x=some .cell:=by rw [jv X O,hf]; rfl
  show match (compEnvC scope cl C fm.env).kindOf x with | some .local=>_ | some .cell=>∃ c,cl.lookup x=some c∧s'.heap.IsCell c (some val) | _=>False
  rw [hcell]
  have:=(X.look x c hc).1
  obtain rfl:c'=c:=Option.some.inj (hc'.symm.trans this)
  exact ⟨c',hc,o,k _ _ h3,h4⟩
 ·exact fun p hp=>dC.conv (fm:=fm) rfl rfl (fun r=>RepL.mono (fun _ _ e=>e) kR r) (fun b _ o e=>k b o e) (S.objs p hp)
 ·intro a ha
  refine uS (S.apart a ha) fun h1 h2 h3 h4=>?_
  refine ⟨fun q=>?_,fun q=>?_,fun q=>?_,h4⟩
  ·rw [List.mem_singleton.mp q] at ha; exact S.fresh_owned hC ha
  ·rcases List.mem_append.mp q with z | z
   ·exact h1 z
   ·exact h2 z
  ·rcases List.mem_cons.mp q with rfl | q
   ·exact S.fresh_owned hI ha
   ·rcases List.mem_cons.mp q with rfl | q
    ·exact S.fresh_owned hD ha
    ·exact h3 q
 ·intro a ha
  rcases ha with ha | ha | ha
  ·rw [List.mem_singleton.mp ha]
   refine zk hC' fun mm o es ep h _=>?_
   exact ⟨o,h⟩
  ·refine aj (S.alive a (by rcases List.mem_append.mp ha with z | z; exact .inl z; exact .inr (.inl z))) fun o h=>?_
   exact ⟨o,k a o h⟩
  ·rcases List.mem_cons.mp ha with rfl | ha
   ·exact hI'
   ·rcases List.mem_cons.mp ha with rfl | ha
    ·exact hD'
    ·refine aj (S.alive a (.inr (.inr ha))) fun o h=>?_; exact ⟨o,k a o h⟩
end
end
end Mine
end
section
open PySem PySem.W PyProof.Rows Builtin.Str
set_option maxRecDepth 20000
set_option genSizeOf false
set_option genInjectivity false
set_option backward.match.sparseCases false
namespace Mine
section
structure pg (fm fm2:Fm) (H1:MH) (s1:Shared) (St:Nat→Heap→Prop) (D:Addr) (inner:LV) (i:Nat) (acc:List V) (H':MH) (s':Shared):Prop where
 tr:af fm H1 s1.heap H' s'.heap
 kf:∀ L,L∈fm.own∨L∈fm.outs→∀ o,s1.heap.get? L=some o→∃ sl,s'.heap.get? L=some { o with slots:=sl }
 sat:∃ v0,Sat fm2 (ba (v0::inner)) H' s'
 st:St i s'.heap
 lst:∃ ys nn,s'.heap.get? D=some { cls:=.type "list",dict:=none,data:=.seq ys nn,slots:=#[] }∧fm2.RL H' s'.heap acc ys.toList∧ys.size≤big
section
variable {fm:Fm}{cx cx':Cx}{n:Nat}{H1:MH}{s1:Shared}{C I D:Addr}{scope:Scope}{cl:List (Str × Addr)}{names':List Str}{m0:Loc}
 {xs:List V}{fp:List Addr}{P:Nat→Value→Prop}{St:Nat→Heap→Prop}{inner:LV}{env':Env}
theorem pg.step {i:Nat}{acc:List V}{Ha Hb:MH}{sa sb:Shared}(O2:ay (fm.comp env' names' C I D)) (K:ID fm H1 s1.heap xs I fp P St) (hC:s1.heap.get? C=none)
  (inv:pg fm (fm.comp env' names' C I D) H1 s1 St D inner i acc Ha sa) (T2:af (fm.comp env' names' C I D) Ha sa.heap Hb sb.heap) (hS:∃ v0,Sat (fm.comp env' names' C I D) (ba (v0::inner)) Hb sb) :
  pg fm (fm.comp env' names' C I D) H1 s1 St D inner i acc Hb sb:=by
 refine aj inv.sat fun v0 Sa=>?_
 have notX2:∀ (b:Addr) (o:Obj),s1.heap.get? b=some o→b ∉ fm.X Ha→b ∉ (fm.comp env' names' C I D).X Ha:=fun b o e nX q=>by
  rcases ax.mp q with q | q | q
  ·rw [List.mem_singleton.mp q] at e; rw [hC] at e; exact nS e
  ·rcases List.mem_append.mp q with z | z
   ·exact nX (ax.mpr (.inl z))
   ·exact nX (ax.mpr (.inr (.inl z)))
  ·exact nX (ax.mpr (.inr (.inr q)))
 have intX:∀ b,b∈(fm.comp env' names' C I D).int→b ∉ (fm.comp env' names' C I D).X Ha:=fun b hb q=>by
  rcases ax.mp q with q | q | q
  ·exact O2.ownFm b q hb
  ·exact O2.outsFm b q hb
  ·exact (Sa.apart b q).2.2.1 hb
 have sub:∀ b,b ∉ (fm.comp env' names' C I D).X Hb→b ∉ fm.X Hb:=fun b h q=>h (by
  rcases ax.mp q with q | q | q
  ·exact ax.mpr (.inr (.inl (List.mem_append_left _ q)))
  ·exact ax.mpr (.inr (.inl (List.mem_append_right _ q)))
  ·exact ax.mpr (.inr (.inr q)))
 refine ⟨⟨fun b o e nX=>?_,fun L hL o e=>?_,fun i a e=>T2.pre i a (inv.tr.pre i a e)⟩,fun L hL o e=>?_,hS,?_,?_⟩
 ·refine ar (inv.tr.keep b o e nX) fun e1 n1=>?_
  refine ar (T2.keep b o e1 (notX2 b o e n1)) fun e2 n2=>?_
  exact ⟨e2,sub b n2⟩
 ·refine aj (inv.tr.outs L hL o e) fun sl e1=>?_
  refine aj (T2.outs L (List.mem_append_right _ hL) _ e1) fun sl2 e2=>?_
  exact ⟨sl2,e2⟩
 ·refine aj (inv.kf L hL o e) fun sl e1=>?_
  refine aj (T2.outs L (by rcases hL with z | z; exact List.mem_append_left _ z; exact List.mem_append_right _ z) _ e1) fun sl2 e2=>?_
  exact ⟨sl2,e2⟩
 ·refine K.W.frame i _ _ inv.st fun b hb o e=>?_
  rcases K.fpX b hb with rfl | ⟨⟨o',e'⟩,hk⟩
  ·exact (T2.keep b o e (intX b (List.mem_cons_self))).1
  ·exact (T2.keep b o e (notX2 b o' e' (inv.tr.keep b o' e' hk.1).2)).1
 ·exact cz inv.lst fun ys nn e r z=>⟨ys,nn,(T2.keep D _ e (intX D (List.mem_cons_of_mem _ List.mem_cons_self))).1,T2.repL r,z⟩
theorem pg.put {i j:Nat}{acc acc':List V}{Ha:MH}{sa sb:Shared}{B:Addr}(O2:ay (fm.comp env' names' C I D)) (hB1:s1.heap.get? B=none) (hB:B∈(fm.comp env' names' C I D).int)
  (inv:pg fm (fm.comp env' names' C I D) H1 s1 St D inner i acc Ha sa) (k:∀ b o,b≠B→sa.heap.get? b=some o→sb.heap.get? b=some o) (hB':∃ o,sb.heap.get? B=some o)
  (hg:sb.gens=sa.gens) (ho:sb.os=sa.os) (hd:sb.drawn=sa.drawn) (st:St j sb.heap)
  (hl:∃ ys nn,sb.heap.get? D=some { cls:=.type "list",dict:=none,data:=.seq ys nn,slots:=#[] }∧(fm.comp env' names' C I D).RL Ha sb.heap acc' ys.toList∧ys.size≤big) :
  pg fm (fm.comp env' names' C I D) H1 s1 St D inner j acc' Ha sb:=by
 refine aj inv.sat fun v0 Sa=>?_
 have ne:∀ (b:Addr) (o:Obj),s1.heap.get? b=some o→b≠B:=fun b o e z=>by rw [z,hB1] at e; exact nS e
 refine ⟨⟨fun b o e nX=>?_,fun L hL o e=>?_,inv.tr.pre⟩,fun L hL o e=>?_,⟨v0,Sat.inner O2 Sa hB k hB' hg ho hd⟩,st,hl⟩
 ·refine ar (inv.tr.keep b o e nX) fun e1 n1=>?_
  exact ⟨k b o (ne b o e) e1,n1⟩
 ·refine aj (inv.tr.outs L hL o e) fun sl e1=>?_
  exact ⟨sl,k L _ (ne L o e) e1⟩
 ·refine aj (inv.kf L hL o e) fun sl e1=>?_
  exact ⟨sl,k L _ (ne L o e) e1⟩
theorem C6 {env':Env}{H:MH}{h h':Heap}{B:Addr}(hB:B∈(fm.comp env' names' C I D).int) (k:∀ b o,b≠B→h.get? b=some o→h'.get? b=some o) {vs:List V}{ys:List Value}(r:(fm.comp env' names' C I D).RL H h vs ys) :
  (fm.comp env' names' C I D).RL H h' vs ys:=RepL.mono (fun _ _ e=>e) (fun b o e q=>⟨k b o (fun z=>q.2 (z ▸ hB)) e,q⟩) r
theorem GI {env':Env}{H:MH}{h h':Heap}{B:Addr}(hB:B∈(fm.comp env' names' C I D).int) (k:∀ b o,b≠B→h.get? b=some o→h'.get? b=some o) {v:V}{y:Value}(r:(fm.comp env' names' C I D).R H h v y) :
  (fm.comp env' names' C I D).R H h' v y:=Rep.mono (fun _ _ e=>e) (fun b o e q=>⟨k b o (fun z=>q.2 (z ▸ hB)) e,q⟩) r
structure L8 (fm:Fm) (m:Loc) (H1:MH) (s1:Shared) (C D:Addr) (vs:List V) (H':MH) (s':Shared):Prop where
 tr:af fm H1 s1.heap H' s'.heap
 sat:Sat (fm.more C) m H' s'
 ns:∃ mm,s'.heap.Ns C mm
 rep:(fm.more C).R H' s'.heap (.lst vs) (.ref D)
theorem GJ {m:Loc}{i:Nat}{acc:List V}{H':MH}{sa s':Shared}(O1:ay fm) (S1:Sat fm m H1 s1) (O2:ay (fm.comp env' names' C I D)) (hloc:env'.locals=C) (hC:s1.heap.get? C=none) (hI:s1.heap.get? I=none) (hD:s1.heap.get? D=none) (hID:I≠D) (hCI:C≠I) (hCD:C≠D)
  (inv:pg fm (fm.comp env' names' C I D) H1 s1 St D inner i acc H' sa) (k:∀ b o,b≠I→sa.heap.get? b=some o→s'.heap.get? b=some o) (hg:s'.gens=sa.gens) (ho:s'.os=sa.os) (hd:s'.drawn=sa.drawn) :
  L8 fm m H1 s1 C D acc H' s':=by
 obtain ⟨v0,S2⟩:=inv.sat
 have ne:∀ (b:Addr) (o:Obj),s1.heap.get? b=some o→b≠I∧b≠C∧b≠D:=fun b o e=>⟨fun z=>(by rw [z,hI] at e; exact nS e),fun z=>(by rw [z,hC] at e; exact nS e),fun z=>(by rw [z,hD] at e; exact nS e)⟩
 have inI:I∈(fm.comp env' names' C I D).int:=List.mem_cons_self
 have inD:D∈(fm.comp env' names' C I D).int:=List.mem_cons_of_mem _ List.mem_cons_self
 have keep:∀ b o,s1.heap.get? b=some o→b ∉ fm.X H1→s'.heap.get? b=some o∧b ∉ fm.X H':=fun b o e nX=>by
  obtain ⟨e1,n1⟩:=inv.tr.keep b o e nX
  exact ⟨k b o (ne b o e).1 e1,n1⟩
 have kf:∀ L,L∈fm.own∨L∈fm.outs→∀ o,s1.heap.get? L=some o→∃ sl,s'.heap.get? L=some { o with slots:=sl }:=fun L hL o e=>by
  obtain ⟨sl,e1⟩:=inv.kf L hL o e
  exact ⟨sl,k L _ (ne L o e).1 e1⟩
 have T:af fm H1 s1.heap H' s'.heap:=⟨keep,fun L hL o e=>kf L (.inr hL) o e,inv.tr.pre⟩
 have kR:∀ b o,s1.heap.get? b=some o→fm.ok H1 b→s'.heap.get? b=some o∧(fm.more C).ok H' b:=fun b o e q=>by
  obtain ⟨e1,n1⟩:=keep b o e q.1
  exact ⟨e1,dK.mpr ⟨⟨n1,q.2⟩,(ne b o e).2.1⟩⟩
 have kR2:∀ b o,sa.heap.get? b=some o→(fm.comp env' names' C I D).ok H' b→s'.heap.get? b=some o∧(fm.more C).ok H' b:=fun b o e q=>by
  refine uS (xO.mp q) fun q1 q2 q3 q4=>?_
  exact ⟨k b o q3 e,dK.mpr ⟨q1,q2⟩⟩
 have ns:∃ mm,s'.heap.Ns C mm:=by
  obtain ⟨mm,hn⟩:=S2.ns
  have hn:sa.heap.Ns env'.locals mm:=hn
  rw [hloc] at hn
  exact ⟨mm,hn.at' fun o e=>k C o hCI e⟩
 refine ⟨T,⟨fun b o (e:fm.base.get? b=some o)=>(keep b o (S1.base b o e) fun q=>by rw [Bj O1 S1 q] at e; exact nS e).1,(o9 O1 S1.funs kf:s'.heap.FunFrames fm.base fm.fenvs),?_,?_,?_,?_,S2.nodup,?_,?_,(hg.trans (S2.gens:sa.gens=_)),(ho.trans (S2.os:sa.os=_)),(hd.trans (S2.drawn:sa.drawn=_))⟩,ns,?_⟩
 ·refine zk S1.ns fun mm o es ep h1 h2=>?_
  obtain ⟨sl,hs⟩:=kf _ (.inl O1.locals) o h1
  exact ⟨mm,_,es,ep,hs,h2⟩
 ·intro x c h1 h2
  obtain ⟨v,o,h3,h4⟩:=S1.cells x c h1 h2
  obtain ⟨sl,hs⟩:=kf c (O1.cellsOwn x c h1 h2).1 o h3
  exact ⟨v,_,hs,h4⟩
 ·intro j x v h1 h2 h3
  obtain ⟨val,h4,h5⟩:=S1.vars j x v h1 h2 h3
  refine ⟨val,d6.slots (h:=s1.heap) (h':=s'.heap) (env:=fm.env) (fun b o hb e=>?_) h4,Rep.mono inv.tr.pre kR h5⟩
  rcases hb with rfl | ⟨c,hc,hk,rfl⟩
  ·exact kf _ (.inl O1.locals) o e
  ·exact kf _ (O1.cellsOwn x _ hk hc).1 o e
 ·exact fun p hp=>dC.conv (fm:=fm.comp env' names' C I D) (fm':=fm.more C) rfl rfl (fun r=>RepL.mono (fun _ _ e=>e) kR2 r) (fun b hb o e=>k b o (fun z=>(S2.apart b (bm hp hb)).2.2.1 (z ▸ inI)) e) (S2.objs p hp)
 ·intro a ha
  refine uS (S2.apart a ha) fun h1 h2 h3 h4=>?_
  refine ⟨fun q=>h2 (List.mem_append_left _ q),fun q=>h2 (List.mem_append_right _ q),fun q=>?_,h4⟩
  rcases List.mem_cons.mp q with rfl | q
  ·exact h1 (List.mem_singleton.mpr rfl)
  ·exact h3 (List.mem_cons_of_mem _ (List.mem_cons_of_mem _ q))
 ·intro a ha
  rcases ha with ha | ha | ha
  ·obtain ⟨o,e⟩:=S1.alive a (.inl ha); obtain ⟨sl,e'⟩:=kf a (.inl ha) o e; exact ⟨_,e'⟩
  ·obtain ⟨o,e⟩:=S1.alive a (.inr (.inl ha)); obtain ⟨sl,e'⟩:=kf a (.inr ha) o e; exact ⟨_,e'⟩
  ·rcases List.mem_cons.mp ha with rfl | ha
   ·refine zk ns fun mm o es ep h _=>?_; exact ⟨o,h⟩
   ·obtain ⟨o,e⟩:=S1.alive a (.inr (.inr ha))
    refine ⟨o,(keep a o e fun q=>?_).1⟩
    rcases ax.mp q with q | q | q
    ·exact O1.ownFm a q ha
    ·exact O1.outsFm a q ha
    ·exact (S1.apart a q).2.2.1 ha
 ·obtain ⟨ys,nn,eD,rD,hz⟩:=inv.lst
  refine ⟨D,ys,rfl,dK.mpr ⟨⟨fun q=>?_,fun q=>?_⟩,fun z=>hCD z.symm⟩,⟨hz,nn,k D _ (fun z=>hID z.symm) eD⟩,RepL.mono (fun _ _ e=>e) kR2 rD⟩
  ·rcases ax.mp q with q | q | q
   ·exact (S1.fresh_apart hD).1 q
   ·exact (S1.fresh_apart hD).2.1 q
   ·exact (S2.apart D q).2.2.1 inD
  ·exact (S1.fresh_apart hD).2.2.1 q
theorem Eb {elt:Expr}{x:Str}{px pos:Pos}{ifs:List Expr}{vs:List V}{G:AH}{RR:Result→Shared→Prop}{E:V→AH→Tr (Option V × AH)}(O1:ay fm) (hh:fm.A.handled=none)
  (C2:Cn (fm.comp env' names' C I D) cx' n) (W:ID fm H1 s1.heap xs I fp P St) (hlen:xs.length≤big) (hC:s1.heap.get? C=none) (hI:s1.heap.get? I=none) (hD:s1.heap.get? D=none) (hID:I≠D)
  (hx:cx'.names[0]? = some x) (hkx:env'.kindOf x=some .local) {fin:LV→AH→Tr (Option V × AH)}
  (hc:∀ {L:Option V × AH→Prop}{v0:V}{Ha:MH}{Q:Bool→Shared→Prop}{X:Value→Shared→Prop}{s:Shared},(E v0 (aa Ha)).tt L→Sat (fm.comp env' names' C I D) (ba (some v0::inner)) Ha s →
   (∀ b Hb sb,(cif b (fin (some v0::inner) (aa Hb)) (.ok (none,aa Hb))).tt L→af (fm.comp env' names' C I D) Ha s.heap Hb sb.heap→Sat (fm.comp env' names' C I D) (ba (some v0::inner)) Hb sb→Q b sb) →
   wpAny fm.M fm.A (forIn ifs true fun c r=>if r=true then do let ok ← isTrue c env' (eval c env'); pure (ForInStep.yield ok) else pure (ForInStep.yield r)) Q X s)
  (he:∀ {L:Option V × AH→Prop}{v0:V}{Ha:MH}{Q:Value→Shared→Prop}{X:Value→Shared→Prop}{s:Shared},(fin (some v0::inner) (aa Ha)).tt L→Sat (fm.comp env' names' C I D) (ba (some v0::inner)) Ha s →
   (∀ c Hb sb y,L (some c,aa Hb)→af (fm.comp env' names' C I D) Ha s.heap Hb sb.heap→Sat (fm.comp env' names' C I D) (ba (some v0::inner)) Hb sb→(fm.comp env' names' C I D).R Hb sb.heap c y→Q y sb) →
   wpAny fm.M fm.A (eval elt env') Q X s)
  (htot:cQ E xs (aa H1) vs G) {s:Shared}(inv0:pg fm (fm.comp env' names' C I D) H1 s1 St D inner 0 [] H1 s)
  {m:Loc}(S1:Sat fm m H1 s1) (hloc:env'.locals=C) (hCI:C≠I) (hCD:C≠D) (hR:∀ H' s',G=aa H'→L8 fm m H1 s1 C D vs H' s'→RR (.ok .next) s') :
  codeAny fm.M fm.A (.compLoop (.ListComp elt [⟨.Name x px,iter,ifs,0⟩] scope pos) 0 (.ref I) (.ref D) env') RR s:=by
 have O2:=C2.O
 have inI:I∈(fm.comp env' names' C I D).int:=List.mem_cons_self
 have inD:D∈(fm.comp env' names' C I D).int:=List.mem_cons_of_mem _ List.mem_cons_self
 refine codeAny_compLoop_tests (fun k s'=>∃ i acc ws H',k=xs.length+1 - i∧i≤xs.length∧acc.length≤i∧pg fm (fm.comp env' names' C I D) H1 s1 St D inner i acc H' s'∧cQ E (xs.drop i) (aa H') ws G∧acc++ws=vs) ?_ (xs.length+1)
  ⟨0,[],vs,H1,rfl,Nat.zero_le _,Nat.zero_le _,inv0,htot,rfl⟩
 intro k s' h
 refine zk h fun i acc ws H' ek h'=>?_
 clear h
 subst ek
 refine gg fun T hT=>Pm h' fun hi hacc inv hrun hvs=>?_
 have go:∀ {acc' us:List V}{Hc:MH}{s4:Shared},i<xs.length→acc'.length≤i+1→pg fm (fm.comp env' names' C I D) H1 s1 St D inner (i+1) acc' Hc s4→cQ E (xs.drop (i+1)) (aa Hc) us G→acc'++us=vs→∃ k',k'<xs.length+1 - i∧∃ i acc ws H',k'=xs.length+1 - i∧i≤xs.length∧acc.length≤i∧pg fm (fm.comp env' names' C I D) H1 s1 St D inner i acc H' s4∧cQ E (xs.drop i) (aa H') ws G∧acc++ws=vs :=
  fun hlt hl inv' h e=>⟨xs.length+1 - (i+1),Nat.sub_lt_sub_left (Nat.lt_succ_of_lt hlt) (Nat.lt_succ_self i),i+1,_,_,_,rfl,hlt,hl,inv',h,e⟩
 rcases Nat.lt_or_eq_of_le hi with hlt | hin
 ·refine hT (W.W.item i s' _ _ hlt inv.st fun y h' tk hP st' hk=>gg fun T hT=>?_)
  have hk':∀ b o,b≠I→s'.heap.get? b=some o→h'.get? b=some o:=fun b o hb e=>hk b o (fun q=>hb (List.mem_singleton.mp q)) e
  refine cz inv.lst fun ys nn eD rD hz=>?_
  have inv1:pg fm (fm.comp env' names' C I D) H1 s1 St D inner (i+1) acc H' { s' with heap:=h',toks:=tk } :=
   inv.put O2 hI inI hk' (W.al _ _ st') rfl rfl rfl st' ⟨ys,nn,hk' D _ (fun q=>hID q.symm) eD,C6 inI hk' rD,hz⟩
  rw [List.drop_eq_getElem_cons hlt] at hrun
  obtain ⟨v',hv',ry⟩:=W.item i y hlt hP
  obtain rfl:=sj ((List.getElem?_eq_getElem hlt).symm.trans hv')
  have ry2:(fm.comp env' names' C I D).R H' h' xs[i] y:=ry (fm.comp env' names' C I D) H' h' rfl rfl inv1.tr.pre (fun b ob e q=>by
   refine ar (inv1.tr.keep b ob e q.1) fun e' n'=>?_
   exact ⟨e',xO.mpr ⟨⟨n',q.2⟩,fun z=>(by rw [z,hC] at e; exact nS e),fun z=>(by rw [z,hI] at e; exact nS e),fun z=>(by rw [z,hD] at e; exact nS e)⟩⟩)
  refine aj inv1.sat fun v0 S1=>?_
  refine hT (wpAny_assign_Name (vR C2 hx hkx S1 ry2 fun s2 T2 S2=>?_))
  have inv2:=inv1.step O2 W hC T2 ⟨_,S2⟩
  have hrun:(E xs[i] (aa H')).tt fun p=>match p.1 with
   | none=>cQ E (xs.drop (i+1)) p.2 ws G
   | some v=>∃ us,ws=v::us∧cQ E (xs.drop (i+1)) p.2 us G:=hrun
  refine hc hrun S2 fun b Hb s3 hb T3 S3=>gg fun T hT=>?_
  have inv3:=inv2.step O2 W hC T3 ⟨_,S3⟩
  cases b with
  | false=>exact hT <| go hlt (Nat.le_succ_of_le hacc) inv3 hb hvs
  | true =>
   refine hT <| he hb S3 fun c Hc s4 z hq T4 S4 rz=>gg fun T hT=>ae hq fun us ew hq=>?_
   have inv4:=inv3.step O2 W hC T4 ⟨_,S4⟩
   refine cz inv4.lst fun ys nn eD rD hz=>?_
   have hsz:ys.size<big:=by
    have e:acc.length=ys.size:=rD.length
    exact Nat.lt_of_lt_of_le (Nat.lt_of_le_of_lt (e ▸ hacc) hlt) hlen
   refine hT <| append_at eD (fun h5 hs5 hn5=>?_) (bX (Nat.le_trans hz (by decide)))
   have k5:∀ b o,b≠D→s4.heap.get? b=some o→h5.get? b=some o:=fun b o hb e=>(hs5.2 b hb).trans e
   have inv5:pg fm (fm.comp env' names' C I D) H1 s1 St D inner (i+1) (acc++[c]) Hc { s4 with heap:=h5 } :=
    inv4.put O2 hD inD k5 ⟨_,hn5⟩ rfl rfl rfl (W.W.frame _ _ _ inv4.st fun b hb o e=>k5 b o (by
     exact fun z=>(W.fpX b hb).elim (fun q=>hID (q.symm.trans z)) fun q=>q.1.elim fun o' e'=>nS (hD.symm.trans (z ▸ e'))) e) ⟨_,_,hn5,by rw [Array.toList_push]; exact RepL.append (C6 inD k5 rD) (RepL.cons (GI inD k5 rz) RepL.nil),by rw [Array.size_push]; exact hsz⟩
   exact go hlt (by rw [List.length_append]; exact Nat.succ_le_succ hacc) inv5 hq (by rw [← hvs,ew,List.append_assoc]; rfl)
 ·subst hin
  refine hT <| W.W.done s' _ _ inv.st fun h' tk hk=>?_
  rw [List.drop_length] at hrun
  obtain ⟨e1,e2⟩:=hrun
  subst e1
  rw [List.append_nil] at hvs
  subst hvs
  exact hR H' _ e2 (GJ O1 S1 O2 hloc hC hI hD hID hCI hCD inv (fun b o hb e=>hk b o (fun q=>hb (List.mem_singleton.mp q)) e) rfl rfl rfl)
end
end
section
noncomputable abbrev PIf (n:Nat) (cx:Cx) (k:Nat):List Expr→Prop
 | []=>True
 | [c]=>PE n cx k c
 | _=>False
structure kI (n:Nat) (cx:Cx) (k:Nat) (e iter:Expr) (x:Str) (ifs:List Expr) (scope:Scope):Prop where
 nset:pb iter=true
 hit:PE n cx k iter
 hifs:PIf n (cx.inner x scope) k ifs
 helt:PE n (cx.inner x scope) k e
 kind:scope.kind=.function
 names:∀ y∈scope.names,y.2≠.cell∧(y.2=.local→scope.names.lookup y.1=some .local)∧(y.2=.free→cx.kinds.lookup y.1=some .cell)
 hx:scope.names.lookup x=some .local
 nodup:(cx.inner x scope).names.Nodup
 hcaps:∀ y∈qH scope.names,cx.names[gI cx.names y]? = some y∧scope.names.lookup y=some .free
noncomputable def GK (cx:Cx) (x:Str) (iter:Expr) (scope:Scope):Bool:=((((pb iter&&scope.kind==.function) &&
 scope.names.all fun y=>(y.2 != .cell&&(y.2 != .local||scope.names.lookup y.1==some .local))&&(y.2 != .free||cx.kinds.lookup y.1==some .cell))&&scope.names.lookup x==some .local) &&
 decide (cx.inner x scope).names.Nodup)&&(qH scope.names).all fun y=>cx.names[gI cx.names y]?==some y&&scope.names.lookup y==some .free
theorem GL {α:Type} [DecidableEq α] {a b:α}{c:Bool}(h:(a != b||c)=true) (e:a=b):c=true:=by
 rw [e,bne_self_eq_false,Bool.false_or] at h
 exact h
theorem Ec {n:Nat}{cx:Cx}{k:Nat}{e iter:Expr}{x:Str}{ifs:List Expr}{scope:Scope}(h:GK cx x iter scope=true) (h1:PE n cx k iter) (h2:PIf n (cx.inner x scope) k ifs) (h3:PE n (cx.inner x scope) k e):kI n cx k e iter x ifs scope :=
 have a5:=an h; have a4:=an a5.1; have a3:=an a4.1; have a2:=an a3.1; have a1:=an a2.1
 ⟨a1.1,h1,h2,h3,eq_of_beq a1.2,fun y hy=>have z:=an (List.all_eq_true.mp a2.2 y hy)
  ⟨fun q=>ff (bne_self_eq_false (a:=NameKind.cell) ▸ q ▸ (an z.1).1),fun q=>eq_of_beq (GL (an z.1).2 q),fun q=>eq_of_beq (GL z.2 q)⟩,eq_of_beq a3.2,of_decide_eq_true a4.2,fun y hy=>have z:=an (List.all_eq_true.mp a5.2 y hy); ⟨eq_of_beq z.1,eq_of_beq z.2⟩⟩
section
variable {fm:Fm}{cx:Cx}{n k:Nat}{m:LV}{H:MH}{s:Shared}
theorem v7 (C0:Cn fm cx n) {elt' iter:Expr}{x:Str}{px pos p0:Pos}{ifs:List Expr}{scope:Scope}(X:kI n cx k elt' iter x ifs scope) {QV1:List V→MH→Prop}{QE:QX}
  (h:EW fm iter (ba m) H (fun v H1=>∃ xs vs G,lT v=some xs∧cQ (zU (fun cx=>evE k cx) cx elt' (.Name x px) ifs scope m) xs (aa H1) vs G∧∀ H2,aa H2=G→QV1 vs H2) QE)
  (S:Sat fm (ba m) H s) {use:Option (Value→Sem Unit)}{Q:Value→Shared→Prop}{E:Value→Shared→Prop}(hE:∀ x s',PX fm (ba m) H s.heap QE x s'→E x s')
  (hK:∀ H1 s1 vs C D H' s',af fm H s.heap H1 s1.heap→Sat fm (ba m) H1 s1→s1.heap.get? C=none→QV1 vs H'→L8 fm (ba m) H1 s1 C D vs H' s'→compPost fm.M fm.A E use Q (.ref D) C (.ok .next) s') :
  wpAny fm.M fm.A (comprehension (.ListComp elt' [⟨.Name x px,iter,ifs,0⟩] scope pos) scope fm.env p0 (newList []) false (eval iter fm.env) use) Q E s:=by
 refine dA (BP (scope:=scope) (env:=fm.env) fun y hy=>C0.cells y (by rw [C0.kindOf]; exact (X.names _ hy).2.2 rfl)) fun cl hcl cl1 cl2=>?_
 have XI:Ab fm scope cl:=⟨X.kind,cl1,fun y hy=>⟨cl2 y hy,by rw [C0.kindOf]; exact (X.names _ hy).2.2 rfl⟩,fun y hy=>(X.names y hy).1,fun y hy=>(X.names y hy).2.1⟩
 refine wpAny_comprehension_free (cl:=cl) rfl (mr X.nset) hcl X.kind XI.loc ?_
 refine h.run S (fun xv s1 v H1 T1 S1 r1 q=>l7 q fun xs vs G hv hrun hq=>?_) fun y s' p=>hE y s' p
 refine CQ hv C0.hh S1 r1 fun o Sti P fp W hlen st0 hgo ho=>?_
 refine wpAny_newObj_type (wpAny_newFunctionEnv XI.nocell (fun y hy=>absurd hy List.not_mem_nil) (fun h₁ hns₁ hsb₁=>?_) X.kind)
 dsimp only at hns₁ hsb₁ ⊢
 generalize hI:s1.heap.objs.size=I at W st0 hgo ho
 have sz1:(s1.heap.push o).objs.size=I+1:=by rw [Heap.size_push,hI]
 generalize hH2:(s1.heap.push o).push { cls:=.type "list",dict:=none,data:=.seq ([]:List Value).toArray }=H2 at hns₁ hsb₁ ⊢
 have sz2:H2.objs.size=I+2:=by rw [← hH2,Heap.size_push,sz1]
 rw [sz1]
 rw [sz2] at hns₁ hsb₁ ⊢
 have fresh:∀ a,I≤a→s1.heap.get? a=none:=fun a ha=>by
  cases e:s1.heap.get? a with
  | none=>rfl
  | some o'=>exact absurd (Nat.lt_of_lt_of_le (Heap.lt_size e) (hI ▸ ha)) (Nat.lt_irrefl _)
 have up1:∀ b ob,(s1.heap.push o).get? b=some ob→h₁.get? b=some ob:=fun b ob e=>by
  have lt:Nat.lt b (I+1):=by have lt:=Heap.lt_size e; rw [sz1] at lt; exact lt
  exact hsb₁.extBut b ob (Nat.ne_of_lt (Nat.lt_succ_of_lt lt)) (Heap.get?_push_of_some _ (hH2 ▸ Heap.get?_push_of_some _ e))
 have up:∀ b ob,s1.heap.get? b=some ob→h₁.get? b=some ob:=fun b ob e=>up1 b ob (Heap.get?_push_of_some _ e)
 have hD1:h₁.get? (I+1)=some { cls:=.type "list",dict:=none,data:=.seq ([]:List Value).toArray }:=by
  refine hsb₁.extBut _ _ (Nat.ne_of_lt (Nat.lt_succ_self _)) (Heap.get?_push_of_some _ ?_)
  rw [← hH2,← sz1]; exact Heap.get?_push_size _ rfl
 have lI1:I≠I+1:=Nat.ne_of_lt (Nat.lt_succ_self _)
 have lI2:I+2≠I:=Nat.ne_of_gt (Nat.lt_succ_of_lt (Nat.lt_succ_self _))
 have lI3:I+2≠I+1:=Nat.ne_of_gt (Nat.lt_succ_self _)
 have hC:s1.heap.get? (I+2)=none:=fresh _ (Nat.le_add_right _ _)
 have hI0:s1.heap.get? I=none:=fresh _ (Nat.le_refl _)
 have hD0:s1.heap.get? (I+1)=none:=fresh _ (Nat.le_add_right _ _)
 have O2:ay (fm.comp (compEnvC scope cl (I+2) fm.env) (cx.inner x scope).names (I+2) I (I+1)):=C0.O.comp S1 XI X.nodup hC hI0 hD0 lI2 lI3
 have C2:Cn (fm.comp (compEnvC scope cl (I+2) fm.env) (cx.inner x scope).names (I+2) I (I+1)) (cx.inner x scope) n:=by
  refine ⟨O2,rfl,?_,C0.room,C0.hh,C0.fns,fun y hy=>cl2 y (Ea XI C0.O hy)⟩
  show (scope.names.map fun (n,k)=>if (k==NameKind.free&&fm.env.scope.kind==.function&&fm.env.kindOf n==some .cell) then (n,NameKind.cell) else (n,k))=o8 cx.kinds scope
  unfold o8
  refine List.map_congr_left fun y _=>?_
  obtain ⟨a,k⟩:=y
  simp only [C0.O.kind,C0.kindOf,beq_self_eq_true,Bool.and_true]
 have S2:∀ s₃:Shared,s₃.heap=h₁→s₃.gens=s1.gens→s₃.os=s1.os→s₃.drawn=s1.drawn→Sat (fm.comp (compEnvC scope cl (I+2) fm.env) (cx.inner x scope).names (I+2) I (I+1)) (ba (none::IO cx scope m)) H1 s₃:=by
  intro s₃ eh eg eo ed
  refine Sat.comp C0.O S1 XI hC hI0 hD0 (by rw [eh]; exact up) ⟨_,by rw [eh]; exact hns₁⟩ ⟨o,by rw [eh]; exact up1 _ _ ho⟩ ⟨_,by rw [eh]; exact hD1⟩ (fun i y u hi hu=>?_) eg eo ed
  cases i with
  | zero=>exact nS hu
  | succ j =>
   have hi:(qH scope.names)[j]? = some y:=hi
   have hu:((qH scope.names).map fun x=>ba m (gI cx.names x))[j]?.join=some u:=hu
   rw [List.getElem?_map,hi] at hu
   refine ar (X.hcaps y (List.mem_of_getElem? hi)) fun c1 c2=>⟨c2,_,?_,hu⟩
   rw [C0.names]; exact c1
 have loop:∀ s₃:Shared,s₃.heap=h₁→s₃.gens=s1.gens→s₃.os=s1.os→s₃.drawn=s1.drawn →
   codeAny fm.M fm.A (.compLoop (.ListComp elt' [⟨.Name x px,iter,ifs,0⟩] scope pos) 0 (.ref I) (.ref (I+1)) (compEnvC scope cl (I+2) fm.env)) (compPost fm.M fm.A E use Q (.ref (I+1)) (I+2)) s₃:=by
  intro s₃ eh eg eo ed
  refine Eb (fin:=fun m G=>evE k (cx.inner x scope) elt' (Option V × AH) m G (fun v G=>.ok (some v,G)) noX) C0.O C0.hh C2 W hlen hC hI0 hD0 lI1 rfl (by rw [jv XI C0.O,X.hx]; rfl) ?_ ?_ hrun ⟨af.of_keeps (by rw [eh]; exact up),fun L _ ob e=>⟨ob.slots,by rw [eh]; exact up L ob e⟩,⟨none,S2 s₃ eh eg eo ed⟩,by rw [eh]; exact W.W.frame 0 _ _ st0 fun b _ ob e=>up1 b ob e,⟨_,0,by rw [eh]; exact hD1,RepL.nil,Nat.zero_le _⟩⟩ S1 rfl lI2 lI3 ?_
  ·intro L v0 Ha Q' E' sa hcf SS kk
   have hi:=X.hifs
   obtain _ | ⟨ce,_ | _⟩:=ifs
   rotate_right
   ·exact hi.elim
   ·exact wpAny_pure (kk true Ha sa hcf (af.refl ..) SS)
   ·rw [List.forIn_cons,if_pos rfl]
    refine wpAny_bind (wpAny_bind (wpAny_mono ((hi _ C2).t hcf (Q:=fun b Hb=>(cif b (evE k (cx.inner x scope) elt' (Option V × AH) (some v0::IO cx scope m) (aa Hb) (fun v G=>.ok (some v,G)) noX) (.ok (none,aa Hb))).tt L) (QE:=fun _ _ _=>False) (s8 fun b Hb z=>z) (fun _ _ _ z=>z) sa SS) (fun b s' p=>?_) fun y s' p=>p.el fun _ _ _ _ _ _ _ _ _ _ _ z=>z.elim))
    obtain ⟨Hb,T',S',z⟩:=p
    exact wpAny_pure (wpAny_pure (kk b Hb s' z T' S'))
  ·intro L v0 Ha Q' E' sa hcf SS kk
   exact ((X.helt _ C2).a hcf (Q:=fun v Hb=>L (some v,aa Hb)) (QE:=fun _ _ _=>False) (fun _ _ z=>z) (fun _ _ _ z=>z)).run SS (fun y s' u Hb T' S' r' z=>kk u Hb s' y z T' S' r') fun y s' p=>p.el fun _ _ _ _ _ _ _ _ _ _ _ z=>z.elim
  ·intro H' s' g ce
   exact hK H1 s1 vs (I+2) (I+1) H' s' T1 S1 hC (hq H' g.symm) ce
 exact codeAny_compStart_list (loop _ rfl rfl rfl rfl) (W.W.self 0 _ _ _ (W.W.frame 0 _ _ st0 fun b _ ob e=>up1 b ob e) (loop _ rfl rfl rfl rfl))
theorem GM {m:Loc}{H H1 H':MH}{h0:Heap}{s1 s' s'':Shared}{C:Addr}(O:ay fm) (S1:∃ m1,Sat fm m1 H1 s1) (hC:s1.heap.get? C=none) (T1:af fm H h0 H1 s1.heap) (T2:af fm H1 s1.heap H' s'.heap) (S:Sat (fm.more C) m H' s')
  (k:∀ b o,b≠C→s'.heap.get? b=some o→s''.heap.get? b=some o) (hg:s''.gens=s'.gens) (ho:s''.os=s'.os) (hd:s''.drawn=s'.drawn) :
  Sat fm m H' s''∧af fm H h0 H' s''.heap:=by
 refine aj S1 fun m1 S1=>?_
 have f:=S1.fresh_apart hC
 refine ⟨S.drop (O.more f.2.2.2 f.1 f.2.1) f.2.2.1 k hg ho hd,T1.trans ⟨fun b o e nX=>?_,fun L hL o e=>?_,T2.pre⟩⟩
 ·refine ar (T2.keep b o e nX) fun e1 n1=>?_
  exact ⟨k b o (fun z=>by rw [z,hC] at e; exact nS e) e1,n1⟩
 ·refine aj (T2.outs L hL o e) fun sl e1=>?_
  exact ⟨sl,k L _ (fun z=>by rw [z,hC] at e; exact nS e) e1⟩
theorem GN (C0:Cn fm cx n) {elt' iter:Expr}{x:Str}{px pos:Pos}{ifs:List Expr}{scope:Scope}(X:kI n cx k elt' iter x ifs scope) {α:Type}{L:α→Prop}{K:V→AH→Tr α}{X':XT α}{QV1:List V→MH→Prop}{QE:QX}
  (h0:(evE (k+1) cx (.ListComp elt' [⟨.Name x px,iter,ifs,0⟩] scope pos) α m (aa H) K X').tt L) (q:∀ vs H',(K (.lst vs) (aa H')).tt L→QV1 vs H') (x':KX L X' QE) :
  EW fm iter (ba m) H (fun v H1=>∃ xs vs G,lT v=some xs∧cQ (zU (fun cx=>evE k cx) cx elt' (.Name x px) ifs scope m) xs (aa H1) vs G∧∀ H2,aa H2=G→QV1 vs H2) QE :=
 vP C0 (X.hit fm C0).a h0 (fun v H1 z=>ae z fun xs e z=>cN z fun vs G e2 z=>⟨xs,vs,G,e,e2,fun H2 g=>q _ _ (by rw [g]; exact z)⟩) x'
theorem Js {elt' iter:Expr}{x:Str}{px pos:Pos}{ifs:List Expr}{scope:Scope}(X:kI n cx k elt' iter x ifs scope):PE n cx (k+1) (.ListComp elt' [⟨.Name x px,iter,ifs,0⟩] scope pos):=.of (fun _=>rfl) fun fm C0 α L m H K X' Q QE h0 q x' s S=>by
 rw [eval_ListComp]
 refine v7 C0 X (use:=none) (QV1:=fun vs H2=>Q (.lst vs) H2) (GN C0 X h0 (fun vs H' z=>q _ _ z) x') S (fun _ _ p=>p) fun H1 s1 vs C D H' s' T1 S1 hC hq ce=>?_
 refine aj ce.ns fun mm hn=>⟨mm,hn,fun h' hs'=>?_⟩
 have kk:∀ b o,b≠C→s'.heap.get? b=some o→h'.get? b=some o:=fun b o hb e=>hs'.extBut b o hb e
 refine ar (GM (s'':={ s' with heap:=h' }) C0.O ⟨_,S1⟩ hC T1 ce.tr ce.sat kk rfl rfl rfl) fun S3 T3=>?_
 exact ⟨_,H',T3,S3,Rep.mono (fun _ _ e=>e) (fun b o e q=>⟨kk b o (dK.mp q).2 e,(dK.mp q).1⟩) ce.rep,hq⟩
theorem GO {α:Type}{e a:Expr}{b:List Comprehension}{c:Scope}{y:Str}{G:AH}{K:V→AH→Tr α}{X:XT α}(h:vw e=.comp a b c):evR cx y e m G K X=ev cx e α m G K X:=by
 unfold evR F4 dE evX
 rw [h]
 rfl
theorem GP {α:Type}{L:α→Prop}{e a:Expr}{b:List Comprehension}{c:Scope}{y:Str}{p pos:Pos}{G:AH}{K:Fl→LV→AH→Tr α}(h:vw e=.comp a b c) (h0:(evS (k+1) cx (.Assign [.Name y p] e pos) α m G K).tt L):(ev cx e α m G (fun v G=>K .next (m.set (gI cx.names y) (some v)) G) (exS K)).tt L:=by
 have h1:(evR cx y e m G (fun v G=>K .next (m.set (gI cx.names y) (some v)) G) (exS K)).tt L:=h0
 rw [GO h] at h1
 exact h1
theorem Jt {elt' iter:Expr}{x y:Str}{px py cpos pos:Pos}{ifs:List Expr}{scope:Scope}(hv:cx.isVar y=true) (sw:eR cx (.ListComp elt' [⟨.Name x px,iter,ifs,0⟩] scope cpos) (some (.Name y py)) pos.line true=true) (X:kI n cx 23 elt' iter x ifs scope) :
  PS n cx (k+1) (.Assign [.Name y py] (.ListComp elt' [⟨.Name x px,iter,ifs,0⟩] scope cpos) pos):=fun fm C0 α L m H K Q h0 q s S=>by
 have h1:=GP (e:=.ListComp elt' [⟨.Name x px,iter,ifs,0⟩] scope cpos) rfl h0
 clear h0
 rw [exec_Assign_Name_used _ _ _ _ (i9 C0.toCn sw)]
 refine wpAny_bind (wpAny_standAt (wpAny_bind ?_))
 show wpAny fm.M fm.A (do let _ ← comprehension (.ListComp elt' [⟨.Name x px,iter,ifs,0⟩] scope cpos) scope fm.env _ (newList []) false (eval iter fm.env) (some (assign (.Name y py) fm.env))) _ _ s
 refine wpAny_bind (wpAny_mono (v7 C0.toCn X (use:=some (assign (.Name y py) fm.env)) (QV1:=fun vs H2=>Q .next (m.set (gI cx.names y) (some (.lst vs))) H2)
  (GN C0.toCn X h1 (fun vs H' z=>q _ _ _ z) (gk q)) S
  (Q:=fun _ s'=>PF fm H s.heap Q .next s') (fun _ _ p=>p) fun H1 s1 vs C D H' s' T1 S1 hC hq ce=>?_) (fun _ s' hq=>wpAny_pure (wpAny_pure hq)) fun _ _ e=>e)
 have f:=S1.fresh_apart hC
 have C':Cs (fm.more C) cx n:=C0.more f.2.2.2 f.1 f.2.1
 show wpAny fm.M fm.A (assign (.Name y py) fm.env (.ref D)) _ _ s'
 refine wpAny_assign_Name (i8 (fm:=fm.more C) C' hv ce.sat ce.rep fun s2 T2 S2=>?_)
 have inC:C∈(fm.more C).int:=List.mem_cons_self
 have nX:C ∉ (fm.more C).X H':=fun q=>by
  rcases ax.mp q with q | q | q
  ·exact C'.O.ownFm _ q inC
  ·exact C'.O.outsFm _ q inC
  ·exact (ce.sat.apart _ q).2.2.1 inC
 have T2':af fm H' s'.heap H' s2.heap:=T2.less
 refine aj ce.ns fun mm hn=>⟨mm,hn.at' fun o e=>(T2.keep C o e nX).1,fun h' hs'=>?_⟩
 have kk:∀ b o,b≠C→s2.heap.get? b=some o→h'.get? b=some o:=fun b o hb e=>hs'.extBut b o hb e
 refine ar (GM (s'':={ s2 with heap:=h' }) C0.O ⟨_,S1⟩ hC T1 (ce.tr.trans T2') S2 kk rfl rfl rfl) fun S3 T3=>?_
 exact ⟨.next,_,H',hq,T3,S3,rfl⟩
end
end
section
noncomputable def orC {P:Prop}(c d:Ck P):Ck P:=match c with
 | some u=>some u
 | none=>d
noncomputable def ifC {P:Prop}(c:Bool) (f:c=true→Ck P) (g:c=false→Ck P):Ck P:=match c,f,g with
 | true,f,_=>f rfl
 | false,_,g=>g rfl
section
variable {n k:Nat}{cx:Cx}
theorem isD {e:Expr}(h:lL e=true) {P:Expr→Prop}(f:∀ p,P (.Name (bi e) p)):P e:=aj (nK h) fun p q=>q ▸ f p
noncomputable def uY (c:∀ e,Ck (PE n cx k e)):∀ es,Ck (PLs n cx k es)
 | []=>ys PLs.nil
 | e::r=>wh (bb [e]) fun h0=>bd (c e) fun h1=>bd (uY c r) fun h2=>ys (PLs.cons h0 h1 h2)
noncomputable def L9 (c:∀ e,Ck (PE n cx k e)) (x:Option Expr):Ck (PP n cx k x):=match x with
 | none=>ys trivial
 | some e=>bd (c e) fun h=>ys h
noncomputable def NT (c:∀ e,Ck (PE n cx k e)) (x:List Expr):Ck (PIf n cx k x):=match x with
 | []=>ys trivial
 | [e]=>bd (c e) fun h=>ys h
 | _=>none
theorem Ju {g:Str}{l t:Expr}{p pos:Pos}(hl:lkF cx.fns g=none) (hg:cU g aI=true) (ht:lL t=true) (hs:cU (bi t) sZ=true) (h1:cx.isGlob aI=true) (h2:cx.isGlob sZ=true) (h3:bb [l]=true) (h:PE n cx k l):PE n cx (k+1) (.Call (.Name g p) [l,t] [] pos):=by
 obtain rfl:=dh hg
 refine isD ht (P:=fun t=>PE n cx (k+1) (.Call (.Name aI p) [l,t] [] pos)) fun p'=>?_
 rw [dh hs]
 exact Ge hl h1 h2 h3 h
theorem KA {g:Str}{args:List Expr}{p pos:Pos}(hl:lkF cx.fns g=none) (h1:cU g aI=false) (h2:sY F0 g=false) {α:Type}{L:α→Prop}{m:LV}{G:AH}{K:V→AH→Tr α}{X:XT α}(h:(evE (k+1) cx (.Call (.Name g p) args [] pos) α m G K X).tt L):False:=by
 have h:(uW (lkF cx.fns g) cx (evE k cx) g args m G K X).tt L:=h
 rw [hl] at h
 simp only [uW,h1,h2,cif] at h
 exact h
theorem NU {g:Str}{args:List Expr}{p pos:Pos}(hl:lkF cx.fns g=none) (h1:cU g aI=false) (h2:sY F0 g=false):PE n cx (k+1) (.Call (.Name g p) args [] pos):=fun fm C=>⟨fun h _ _=>(KA hl h1 h2 h).elim,fun h _ _=>(KA hl h1 h2 h).elim⟩
noncomputable def P4 (c:∀ e,Ck (PE n cx k e)) (g:Str) (p:Pos) (args:List Expr) (pos:Pos):Ck (PE n cx (k+1) (.Call (.Name g p) args [] pos)):=wh (cx.isGlob g) fun hg=>match h:lkF cx.fns g with
 | some o=>match o,h with
  | .h f _,h=>bd (uY c args) fun ha=>ys (P0 h hg ha)
  | .p f _,h=>bd (uY c args) fun ha=>ys (P1 h hg ha)
  | .r f _,h=>wh (Nat.ble args.length 20) fun hl=>bd (uY c args) fun ha=>ys (P3 h hg hl ha)
  | .o f _,h=>match args with
   | []=>ys (P2 h hg)
   | _=>none
 | none=>ifC (cU g aI) (fun h1=>match args with
  | [a,t]=>wh (lL t) fun h2=>wh (cU (bi t) sZ) fun h3=>wh (cx.isGlob aI) fun h4=>wh (cx.isGlob sZ) fun h5=>wh (bb [a]) fun h6=>bd (c a) fun h7=>ys (Ju h h1 h2 h3 h4 h5 h6 h7)
  | _=>none) fun h1=>ifC (sY F0 g) (fun h3=>wh (f9.contains g) fun h2=>bd (uY c args) fun ha=>ys (LN h h2 h3 h1 hg ha)) fun h3=>ys (NU h h1 h3)
theorem Ma {o x y:Expr}{nm:Str}{apos pos:Pos}(hn:cU nm qI=true) (ho:lL o=true) (hs:cU (bi o) xy=true) (h1:cx.isGlob xy=true) (h2:(apos.endLine==pos.line)=true) (h3:bb [x]=true) (h4:bb [y]=true) (h5:PE n cx k x) (h6:PE n cx k y) :
  PE n cx (k+1) (.Call (.Attribute o nm apos) [x,y] [] pos):=by
 obtain rfl:=dh hn
 refine isD ho (P:=fun o=>PE n cx (k+1) (.Call (.Attribute o qI apos) [x,y] [] pos)) fun p=>?_
 rw [dh hs]
 exact BJ h1 h2 h3 h4 h5 h6
noncomputable def P5 (c:∀ e,Ck (PE n cx k e)) (o:Expr) (nm:Str) (apos:Pos) (args:List Expr) (pos:Pos):Ck (PE n cx (k+1) (.Call (.Attribute o nm apos) args [] pos)):=wh (apos.endLine==pos.line) fun h2=>ifC (cU nm qI) (fun hn=>match args with
 | [x,y]=>wh (lL o) fun ho=>wh (cU (bi o) xy) fun hs=>wh (cx.isGlob xy) fun h1=>wh (bb [x]) fun h3=>wh (bb [y]) fun h4=>bd (c x) fun h5=>bd (c y) fun h6=>ys (Ma hn ho hs h1 h2 h3 h4 h5 h6)
 | _=>none) fun hn=>wh (fG o) fun h0=>wh (Nat.blt args.length 20) fun h3=>bd (c o) fun h4=>bd (uY c args) fun h5=>ys (I8 h0 hn h2 h3 h4 h5)
noncomputable def NV (c:∀ e,Ck (PE n cx k e)) (ci:∀ cx e,Ck (PE n cx k e)) (e iter:Expr) (x:Str) (ifs:List Expr) (sc:Scope):Ck (kI n cx k e iter x ifs sc) :=
 wh (GK cx x iter sc) fun h=>bd (c iter) fun h1=>bd (NT (ci (cx.inner x sc)) ifs) fun h2=>bd (ci (cx.inner x sc) e) fun h3=>ys (Ec h h1 h2 h3)
theorem Jv {e iter t:Expr}{ifs:List Expr}{sc:Scope}{pos:Pos}{a:Int}(ht:lL t=true) (ha:(a==0)=true) (h:kI n cx k e iter (bi t) ifs sc):PE n cx (k+1) (.ListComp e [⟨t,iter,ifs,a⟩] sc pos):=by
 rw [eq_of_beq ha]
 exact isD ht (P:=fun t'=>PE n cx (k+1) (.ListComp e [⟨t',iter,ifs,0⟩] sc pos)) fun p=>Js h
noncomputable def NW (ci:∀ cx e,Ck (PE n cx k e)) (cx:Cx) (e:Expr):Ck (PE n cx (k+1) e):=match e with
 | .Constant c _ _=>match c with
  | .none=>ys IZ
  | .bool b=>ys I0
  | .int i=>ys LD
  | .str s=>wh (Nat.ble s.length big) fun h=>ys (LF h)
  | _=>none
 | .Name y _=>wh (cx.isVar y) fun h=>ys (I1 h)
 | .BinOp l op r _=>bd (ci cx l) fun h1=>bd (ci cx r) fun h2=>ys (LG h1 h2)
 | .UnaryOp op a _=>bd (ci cx a) fun h1=>ys (NM h1)
 | .BoolOp op es _=>bd (uY (ci cx) es) fun h=>ys (LM h)
 | .Compare l ops rs _=>match ops,rs with
  | [o],[r]=>wh (!behindInMarks o r) fun h0=>bd (ci cx l) fun h1=>bd (ci cx r) fun h2=>ys (LI (nt h0) h1 h2)
  | [o,o₂],[r,t]=>wh (!behindInMarks o₂ t) fun h0=>bd (ci cx l) fun h1=>bd (ci cx r) fun h2=>bd (ci cx t) fun h3=>ys (I2 (nt h0) h1 h2 h3)
  | _,_=>none
 | .IfExp t a b _=>bd (ci cx t) fun h1=>bd (ci cx a) fun h2=>bd (ci cx b) fun h3=>ys (LJ h1 h2 h3)
 | .Subscript o s _=>match s with
  | .Slice l u st _=>bd (ci cx o) fun h=>bd (L9 (ci cx) l) fun h1=>bd (L9 (ci cx) u) fun h2=>bd (L9 (ci cx) st) fun h3=>ys (Gb h h1 h2 h3)
  | s=>wh (hG s) fun h0=>bd (ci cx o) fun h1=>bd (ci cx s) fun h2=>ys (I3 h0 h1 h2)
 | .Attribute o nm _=>wh (fG o) fun h0=>bd (ci cx o) fun h1=>ys (I4 h0 h1)
 | .Tuple es _ _=>wh (Nat.ble es.length 1000) fun h0=>bd (uY (ci cx) es) fun h=>ys (LK h0 h)
 | .List es _=>wh (Nat.ble es.length 1000) fun h0=>bd (uY (ci cx) es) fun h=>ys (LL h0 h)
 | .Dict ks vs _=>match ks with
  | e::es=>match hd:gc (e::es) vs with
   | some kv=>wh (kv.2.all (fun x=>Nat.ble x.length big)) fun h1=>wh (decide kv.1.Nodup) fun h2=>wh (Nat.ble kv.1.length 15) fun h3=>ys (I5 hd h1 h2 h3)
   | none=>none
  | []=>none
 | .ListComp e gs sc _=>match gs with
  | [g]=>match g with
   | ⟨t,iter,ifs,a⟩=>wh (lL t) fun h1=>wh (a==0) fun h2=>bd (NV (ci cx) ci e iter (bi t) ifs sc) fun h=>ys (Jv h1 h2 h)
  | _=>none
 | .Call f args kws pos=>match kws with
  | []=>match f with
   | .Name g p=>P4 (ci cx) g p args pos
   | .Attribute o nm apos=>P5 (ci cx) o nm apos args pos
   | _=>none
  | _=>none
 | _=>none
noncomputable def Jw:∀ (k:Nat) (cx:Cx) (e:Expr),Ck (PE n cx k e)
 | 0,_,_=>none
 | k+1,cx,e=>NW (Jw k) cx e
end
end
section
section
variable {n k:Nat}
noncomputable abbrev chE (cx:Cx) (e:Expr):Ck (PE n cx 24 e):=Jw 24 cx e
noncomputable def Mb (cx:Cx) (y:Str) (e:Expr):Ck (PR n cx y e):=ifC (Gr e) (fun h=>ys (NP h)) fun _=>wh (dOk e) fun h2=>wh (Nat.ble (zV e).length 1000) fun h4=>bd (chE cx e) fun h1=>bd (uY (chE cx) (zV e)) fun h3=>ys (XR h1 h2 h3 h4)
noncomputable def KC (cx:Cx):∀ ts es,Ck (PRs n cx ts es)
 | [],_=>ys trivial
 | t::ts,es=>match es with
  | e::es=>bd (Mb cx (bi t) e) fun h1=>bd (KC cx ts es) fun h2=>ys ⟨h1,h2⟩
  | []=>ys trivial
variable {cx:Cx}{pos:Pos}
theorem tsd {t:Expr}(h:lL t=true) {P:Expr→Prop}(f:∀ p,P (.Name (bi t) p)):P t:=isD h f
theorem ac {y:Str}{py:Pos}{t v e iter:Expr}{ifs:List Expr}{sc:Scope}{a:Int}{cp:Pos}(ev:v=.ListComp e [⟨t,iter,ifs,a⟩] sc cp) (ht:lL t=true) (ha:(a==0)=true) (hv:cx.isVar y=true) (sw:eR cx v (some (.Name y py)) pos.line true=true) (h:kI n cx 23 e iter (bi t) ifs sc):PS n cx (k+1) (.Assign [.Name y py] v pos):=by
 subst ev
 obtain rfl:=eq_of_beq ha
 obtain ⟨p,e⟩:=nK ht
 generalize bi t=x at e h
 subst e
 exact Jt hv sw h
noncomputable def NX (cx:Cx) (y:Str) (py:Pos) (v:Expr) (pos:Pos) (hv:cx.isVar y=true):Ck (PS n cx (k+1) (.Assign [.Name y py] v pos)):=match h:v with
 | .ListComp e gs sc cp=>match gs,h with
  | [g],h=>match g,h with
   | ⟨t,iter,ifs,a⟩,h=>wh (lL t) fun h1=>wh (a==0) fun h2=>wh (eR cx v (some (.Name y py)) pos.line true) fun h3=>bd (NV (Jw 23 cx) (Jw 23) e iter (bi t) ifs sc) fun h4=>ys (h ▸ ac h h1 h2 hv h3 h4)
  | _,_=>none
 | _=>none
noncomputable def NY (cx:Cx) (ts:List Expr) (a:Nat) (p:Pos) (v:Expr) (pos:Pos):Ck (PS n cx (k+1) (.Assign [.Tuple ts a p] v pos)):=wh (lW cx ts) fun h1=>wh (decide (nG cx ts).Nodup) fun h2=>wh (eR cx v (some (.Tuple ts a p)) pos.line false) fun h3=>wh (pd cx ts a p v) fun h4=>match v,h3,h4 with
 | .Tuple es b p',h3,h4=>wh (bb es) fun h5=>wh (Nat.ble es.length 1000) fun h6=>bd (KC cx ts es) fun h7=>ys (Ji h1 h2 h3 h4 h5 h6 h7)
 | v,h3,h4=>wh (!isTup v) fun h5=>bd (chE cx v) fun h6=>ys (Jj (nt h5) h1 h2 h3 h4 h6)
noncomputable def P6 (cx:Cx) (t v:Expr) (pos:Pos):Ck (PS n cx (k+1) (.Assign [t] v pos)):=match t with
 | .Name y p=>wh (cx.isVar y) fun h1=>ifC (eR cx v (some (.Name y p)) pos.line false) (fun h2=>bd (Mb cx y v) fun h3=>ys (LU h1 h2 h3)) fun _=>NX cx y p v pos h1
 | .Tuple ts a p=>NY cx ts a p v pos
 | .Subscript o i p=>wh (eR cx v (some (.Subscript o i p)) pos.line false) fun h1=>wh (hG i) fun h2=>bd (chE cx v) fun h3=>bd (chE cx o) fun h4=>bd (chE cx i) fun h5=>ys (Jk h1 h2 h3 h4 h5)
 | .Attribute o nm p=>wh (eR cx v (some (.Attribute o nm p)) pos.line false) fun h1=>bd (chE cx o) fun h2=>ifC (Gr v) (fun h3=>ys (Gx h3 h1 h2)) fun _=>wh (dOk v) fun h3=>bd (chE cx v) fun h4=>ys (Jl h3 h1 h4 h2)
 | _=>none
noncomputable def P7 (cx:Cx) (t it:Expr) (b:List Stmt) (pos:Pos) (hb:PBs n cx k b):Ck (PS n cx (k+1) (.For t it b [] pos)):=wh (pb it) fun h1=>bd (chE cx it) fun h2=>match t with
 | .Name y p=>wh (cx.isVar y) fun h3=>ys (Jn h3 h1 h2 hb)
 | .Tuple ts a p=>wh (lW cx ts) fun h3=>ys (Jo h3 h1 h2 hb)
 | _=>none
theorem Mc {y n:Str}{o:Expr}{p':Pos}(ho:lL o=true) (h1:cU y (bi o)=true) (h2:aU.contains n=true):nO y (.Attribute o n p'):=isD ho (P:=fun o=>nO y (.Attribute o n p')) fun p=>GB h1 h2
noncomputable def NZ (y:Str) (x:Expr):Ck (nO y x):=match x with
 | .Attribute o n _=>wh (lL o) fun h0=>wh (cU y (bi o)) fun h1=>wh (aU.contains n) fun h2=>ys (Mc h0 h1 h2)
 | .Constant c _ _=>match c with
  | .str s=>wh (Nat.ble s.length big) fun h=>ys (GC h)
  | _=>none
 | _=>none
noncomputable def N0 (y:Str):∀ xs:List Expr,Ck (∀ x∈xs,nO y x)
 | []=>ys fun _ h=>absurd h List.not_mem_nil
 | x::xs=>bd (NZ y x) fun h1=>bd (N0 y xs) fun h2=>ys fun z hz=>(List.mem_cons.mp hz).elim (fun e=>e ▸ h1) (h2 z)
theorem Jx {x t:Expr}{p1 p3 p4 p5 tp:Pos}{nm:Str}{xs:List Expr}{kk} (ht:lL t=true) (hg:cU (bi t) nN=true) (h1:PE n cx 24 x) (h2:cx.isGlob (bi t)=true) (h3:cx.isVar nm=true) (h4:(cx.kinds.lookup nm==some .local)=true) (h5:∀ x∈xs,nO nm x) (h6:Nat.ble xs.length 1000=true) :
  PS n cx (k+1) (.Try [.Return (some x) p1] [.ExceptHandler (some t) (some nm) [.Return (some (.Tuple xs kk tp)) p3] p4] [] [] p5):=by
 obtain ⟨p2,e⟩:=nK ht
 generalize bi t=g at e hg h2
 subst e
 exact L6 h1 hg h2 h3 (eq_of_beq h4) h5 h6
noncomputable def P8 (cb:∀ sts,Ck (PBs n cx k sts)) (b:List Stmt) (hs:List ExceptHandler) (pos:Pos):Ck (PS n cx (k+1) (.Try b hs [] [] pos)):=match hs with
 | h0::hs=>ifC (F5 b).isNone (fun hr=>bd (cb b) fun h=>ys (Jp hr h)) fun _=>match b,hs,h0 with
  | [.Return (some x) p1],[],.ExceptHandler (some t) (some nm) [.Return (some (.Tuple xs kk tp)) p3] p4 =>
   wh (lL t) fun ht=>wh (cU (bi t) nN) fun hg=>bd (chE cx x) fun h1=>wh (cx.isGlob (bi t)) fun h2=>wh (cx.isVar nm) fun h3=>wh (cx.kinds.lookup nm==some .local) fun h4=>bd (N0 nm xs) fun h5=>wh (Nat.ble xs.length 1000) fun h6=>ys (Jx ht hg h1 h2 h3 h4 h5 h6)
  | _,_,_=>none
 | []=>none
noncomputable def stepT (cx:Cx) (cb:∀ sts,Ck (PBs n cx k sts)) (s:Stmt):Ck (PS n cx (k+1) s):=match s with
 | .Return e _=>match e with
  | none=>ys Jg
  | some e=>bd (Mb cx Lz e) fun h=>ys (LT h)
 | .Expr e pos=>wh (eR cx e none pos.line false) fun h1=>bd (chE cx e) fun h2=>ys (Jh h1 h2)
 | .Assign ts v pos=>match ts with
  | [t]=>P6 cx t v pos
  | _=>none
 | .AugAssign t op v _=>match t with
  | .Name y _=>wh (cx.isVar y) fun h1=>bd (chE cx v) fun h2=>ys (LY h1 h2)
  | _=>none
 | .If t a b _=>bd (chE cx t) fun h1=>bd (cb a) fun h2=>bd (cb b) fun h3=>ys (LZ h1 h2 h3)
 | .While t b el _=>match el with
  | []=>bd (chE cx t) fun h1=>bd (cb b) fun h2=>ys (Gy h1 h2)
  | _=>none
 | .For t it b el pos=>match el with
  | []=>bd (cb b) fun hb=>P7 cx t it b pos hb
  | _=>none
 | .Raise e c _=>match e,c with
  | some e,none=>bd (chE cx e) fun h=>ys (GA h)
  | _,_=>none
 | .Try b hs el fin pos=>match el,fin with
  | [],[]=>P8 cb b hs pos
  | _,_=>none
 | .Pass _=>ys Je
 | .Break _=>ys LS
 | .Continue _=>ys Jf
 | _=>none
noncomputable def Md (c:∀ s,Ck (PS n cx k s)):∀ sts,Ck (PBs n cx k sts)
 | []=>ys PBs.nil
 | s::r=>bd (c s) fun h1=>bd (Md c r) fun h2=>ys (PBs.cons h1 h2)
noncomputable def N6:∀ (k:Nat) (cx:Cx) (s:Stmt),Ck (PS n cx k s)
 | 0,_,_=>none
 | k+1,cx,s=>stepT cx (Md (N6 k cx)) s
end
theorem j3.less {k n:Nat}{a:Addr}{vs:List V}{H:MH}{Q:QV}{QE:QX}(h:j3 k a vs H Q QE) (hk:k≤n):j3 n a vs H Q QE:=fun fm m s xs O hh R S r=>h fm m s xs O hh (R.less hk) S r
noncomputable abbrev FOk (n:Nat) (l:List (Str × FK)):Prop:=∀ g k,lkF l g=some k→uX n g k
theorem FOk.nil {n:Nat}:FOk n []:=fun _ _ h=>nS h
theorem FOk.cons {n:Nat}{y:Str}{f:FK}{l:List (Str × FK)}(h:uX n y f) (t:FOk n l):FOk n ((y,f)::l):=fun g k e=>by
 have e:cif (cU y g) (some f) (lkF l g)=some k:=e
 cases q:cU y g with
 | true=>rw [q] at e; exact sj e ▸ dh q ▸ h
 | false=>rw [q] at e; exact t g k e
theorem iP {k n:Nat}{F:Fn}{g:Str}{f:FS}{c:HC f}(i:Nat) (hF:TAB[i]? = some F) (hn:cU F.name g=true) (h:d9 k F f) (hk:k≤n):uX n g (.h f c):=⟨F,List.mem_of_getElem? hF,dh hn,fun vs H r G' z=>(h vs H r G' z).less hk⟩
theorem az {k n:Nat}{F:Fn}{g:Str}{f:FP}{c:PC f}(i:Nat) (hF:TAB[i]? = some F) (hn:cU F.name g=true) (h:aw k F f) (hk:k≤n):uX n g (.p f c):=⟨F,List.mem_of_getElem? hF,dh hn,fun vs H r z=>(h vs H r z).less hk⟩
theorem P9 {k n:Nat}{g:Str}{f:FS}{c:HC f}(hn:cU g nN=true) (h:d9 k av f) (hk:k≤n):uX n g (.r f c):=⟨(dh hn).trans s9,fun vs H r G' z=>(h vs H r G' z).less hk⟩
noncomputable def Qa:Str:=⟨⟨[79,112,116,105,111,110,115]⟩⟩
theorem Qb {k n:Nat}{g:Str}{f:FS}{c:HC f}(hn:cU g Qa=true) (h:d9 k au f) (hk:k≤n):uX n g (.o f c):=⟨(dh hn).trans (by decide +kernel),fun vs H r G' z=>(h vs H r G' z).less hk⟩
noncomputable abbrev BQ:List Fn:=av::au::TAB
noncomputable def GQ (n:Nat) (F:Fn) (cx:Cx) (d:Fd):Bool:=(C4 F d.names d.np&&V.puL d.dfl)&&(Md (n:=n) (N6 SN cx) d.body).isSome
theorem okH {n:Nat}{F:Fn}{cx:Cx}{d:Fd}(i:Nat) (hF:BQ[i]? = some F) (D:D9 F d cx) (hT:FOk n cx.fns) (h:GQ n F cx d=true:=by kernel_rfl):d9 (n+1) F (fnH cx d):=NR D (List.mem_of_getElem? hF) (an (an h).1).1 hT (cvT (an h).2)
theorem okP {n:Nat}{F:Fn}{cx:Cx}{d:Fd}{th:Bool}(i:Nat) (hF:BQ[i]? = some F) (D:D9 F d cx) (hT:FOk n cx.fns) (h:GQ n F cx d=true:=by kernel_rfl):aw (n+1) F (fnP th cx d):=NS D (List.mem_of_getElem? hF) (an (an h).1).1 (an (an h).1).2 hT (cvT (an h).2)
end
end Mine
end
section
open PySem PySem.W PyProof.Rows Builtin.Str
set_option maxRecDepth 100000
set_option backward.match.sparseCases false
set_option genSizeOf false
namespace Mine
section
section
variable {α β γ δ:Type}
theorem uZ {p q:α→Prop}(h:∃ a,p a) (k:∀ a,p a→q a):∃ a,q a:=h.imp k
theorem Rm {p q r r':α→Prop}(h:∃ a,p a∧q a∧r a) (k:∀ a,r a→r' a):∃ a,p a∧q a∧r' a:=h.imp fun a h=>⟨h.1,h.2.1,k a h.2.2⟩
theorem Qc {p q:α→β→Prop}(h:∃ a b,p a b) (k:∀ a b,p a b→q a b):∃ a b,q a b:=h.imp fun a h=>h.imp (k a)
theorem Qd {p q r:α→β→Prop}(h:∃ a b,p a b∧q a b) (k:∀ a b,q a b→r a b):∃ a b,p a b∧r a b:=h.imp fun a h=>h.imp fun b h=>⟨h.1,k a b h.2⟩
theorem Qe {p q r r':α→β→Prop}(h:∃ a b,p a b∧q a b∧r a b) (k:∀ a b,r a b→r' a b):∃ a b,p a b∧q a b∧r' a b:=h.imp fun a h=>h.imp fun b h=>⟨h.1,h.2.1,k a b h.2.2⟩
theorem Me {p q r r':α→β→γ→Prop}(h:∃ a b c,p a b c∧q a b c∧r a b c) (k:∀ a b c,r a b c→r' a b c):∃ a b c,p a b c∧q a b c∧r' a b c:=h.imp fun a h=>h.imp fun b h=>h.imp fun c h=>⟨h.1,h.2.1,k a b c h.2.2⟩
theorem N7 {p q r r':α→β→γ→δ→Prop}(h:∃ a b c d,p a b c d∧q a b c d∧r a b c d) (k:∀ a b c d,r a b c d→r' a b c d):∃ a b c d,p a b c d∧q a b c d∧r' a b c d:=h.imp fun a h=>h.imp fun b h=>h.imp fun c h=>h.imp fun d h=>⟨h.1,h.2.1,k a b c d h.2.2⟩
end
set_option genCtorIdx false in
inductive Ans where
 | v (x:V) | b (c:Bool) | l (xs:List V) | h (G:AH) | p (r:Res) | r (r:Res) (G:AH) | s (f:Fl) (m:LV) (G:AH) | q (xs:List V) (G:AH) | m (x:Mth)
structure Ob where
 n:Nat
 a:Ans
 P:Prop
 h:P
noncomputable abbrev Or:=List (Nat × Ans)
noncomputable def nxt:Or→Option Ans × Or
 | []=>(none,[])
 | p::o=>match p.1 with
  | 0=>(some p.2,o)
  | n+1=>(none,(n,p.2)::o)
noncomputable def go1 {β:Type} (q:Option β) (k:β→Prop):Prop:=match q with
 | some x=>k x
 | none=>False
section
variable {α:Type}
noncomputable def gO {β:Type} (un:Ans→Option β) (q:Option β) (k:β→Or→Prop) (o:Or):Prop:=match nxt o with
 | (a,o)=>match a with
  | some a=>go1 (un a) fun x=>q=some x∧k x o
  | none=>go1 q fun x=>k x o
noncomputable def usV:Ans→Option V
 | .v x=>some x
 | _=>none
noncomputable def usB:Ans→Option Bool
 | .b x=>some x
 | _=>none
noncomputable def usL:Ans→Option (List V)
 | .l x=>some x
 | _=>none
noncomputable def usH:Ans→Option AH
 | .h x=>some x
 | _=>none
noncomputable def usP:Ans→Option Res
 | .p r=>some r
 | _=>none
noncomputable def usR:Ans→Option (Res × AH)
 | .r r G=>some (r,G)
 | _=>none
noncomputable def usS:Ans→Option (Fl × LV × AH)
 | .s f m G=>some (f,m,G)
 | _=>none
noncomputable def usQ:Ans→Option (List V × AH)
 | .q vs G=>some (vs,G)
 | _=>none
noncomputable def gX {β:Type} (un:Ans→Option β) (q:β→Prop) (c:Option β) (k:β→Or→Prop) (o:Or):Prop:=match nxt o with
 | (a,o)=>match a with
  | some a=>go1 (un a) fun x=>q x∧k x o
  | none=>go1 c fun x=>k x o
noncomputable def gC (q:Bool) (k:Bool→Or→Prop) (o:Or):Prop:=match nxt o with
 | (a,o)=>match a with
  | some a=>go1 (usB a) fun x=>q=x∧k x o
  | none=>k q o
noncomputable def gM (q:Option Mth) (k:Mth→Or→Prop) (o:Or):Prop:=match o with
 | p::o'=>match p.1,p.2 with
  | 0,.m x=>q=some x∧k x o'
  | _,_=>go1 q fun x=>k x o
 | []=>go1 q fun x=>k x o
noncomputable def Tr.pth (L:α→Prop):Tr α→Or→Prop
 | .ok a,_=>L a
 | .no,_=>False
 | .aO q k,o=>gO usV q (fun x=>(k x).pth L) o
 | .aB q k,o=>gO usB q (fun x=>(k x).pth L) o
 | .aC q k,o=>gC q (fun x=>(k x).pth L) o
 | .aL q k,o=>gO usL q (fun x=>(k x).pth L) o
 | .aH q k,o=>gO usH q (fun x=>(k x).pth L) o
 | .aM q k,o=>gM q (fun x=>(k x).pth L) o
 | .aP q c _ k,o=>gX usP q c (fun r=>(k r).pth L) o
 | .aR q c _ k,o=>gX usR (fun p=>q p.1 p.2) c (fun p=>(k p.1 p.2).pth L) o
 | .aS q c _ k,o=>gX usS (fun p=>q p.1 p.2.1 p.2.2) c (fun p=>(k p.1 p.2.1 p.2.2).pth L) o
 | .aQ q c _ k,o=>gX usQ (fun p=>q p.1 p.2) c (fun p=>(k p.1 p.2).pth L) o
theorem ms {β:Type}{q:Option β}{k:β→Prop}(h:go1 q k):∃ x,q=some x∧k x:=by
 cases q with
 | none=>exact h.elim
 | some x=>exact ⟨x,rfl,h⟩
theorem qL {β:Type}{un:Ans→Option β}{q:Option β}{k:β→Or→Prop}{K:β→Prop}{o:Or}(h:gO un q k o) (i:∀ x o,k x o→K x):∃ x,q=some x∧K x:=by
 unfold gO at h
 generalize nxt o=p at h
 obtain ⟨_ | a,o⟩:=p
 ·obtain ⟨x,e,h⟩:=ms h; exact ⟨x,e,i x o h⟩
 ·obtain ⟨x,e,h⟩:=ms h; exact ⟨x,h.1,i x o h.2⟩
theorem qM {β:Type}{un:Ans→Option β}{q:β→Prop}{c:Option β}{k:β→Or→Prop}{K:β→Prop}{o:Or}(g:∀ x,c=some x→q x) (h:gX un q c k o) (i:∀ x o,k x o→K x):∃ x,q x∧K x:=by
 unfold gX at h
 generalize nxt o=p at h
 obtain ⟨_ | a,o⟩:=p
 ·obtain ⟨x,e,h⟩:=ms h; exact ⟨x,g x e,i x o h⟩
 ·obtain ⟨x,e,h⟩:=ms h; exact ⟨x,h.1,i x o h.2⟩
theorem KD {q:Bool}{k:Bool→Or→Prop}{K:Bool→Prop}{o:Or}(h:gC q k o) (i:∀ x o,k x o→K x):K q:=by
 unfold gC at h
 generalize nxt o=p at h
 obtain ⟨_ | a,o⟩:=p
 ·exact i q o h
 ·obtain ⟨x,e,h⟩:=ms h; obtain ⟨rfl,h⟩:=h; exact i _ o h
theorem KE {q:Option Mth}{k:Mth→Or→Prop}{K:Mth→Prop}{o:Or}(h:gM q k o) (i:∀ x o,k x o→K x):∃ x,q=some x∧K x:=by
 have g:go1 q (fun x=>k x o)→∃ x,q=some x∧K x:=fun h=>(ms h).elim fun x h=>⟨x,h.1,i x o h.2⟩
 unfold gM at h
 cases o with
 | nil=>exact g h
 | cons p o =>
  obtain ⟨n,a⟩:=p
  cases n with
  | zero=>cases a with
   | m x=>exact ⟨x,h.1,i x o h.2⟩
   | _=>exact g h
  | succ=>exact g h
theorem Tr.pth_ok {L:α→Prop}(t:Tr α):∀ {o:Or},t.pth L o→t.tt L:=by
 induction t with
 | ok a=>exact fun h=>h
 | no=>exact fun h=>h
 | aO q k ih=>exact fun h=>qL h fun x o h=>ih x h
 | aB q k ih=>exact fun h=>qL h fun x o h=>ih x h
 | aL q k ih=>exact fun h=>qL h fun x o h=>ih x h
 | aH q k ih=>exact fun h=>qL h fun x o h=>ih x h
 | aM q k ih=>exact fun h=>KE h fun x o h=>ih x h
 | aC q k ih=>exact fun h=>KD h fun x o h=>ih x h
 | aP q c g k ih=>exact fun h=>qM g h fun x o h=>ih x h
 | aR q c g k ih=>exact fun h=>let ⟨p,a,b⟩:=qM g h fun x o h=>ih x.1 x.2 h; ⟨p.1,p.2,a,b⟩
 | aS q c g k ih=>exact fun h=>let ⟨p,a,b⟩:=qM g h fun x o h=>ih x.1 x.2.1 x.2.2 h; ⟨p.1,p.2.1,p.2.2,a,b⟩
 | aQ q c g k ih=>exact fun h=>let ⟨p,a,b⟩:=qM g h fun x o h=>ih x.1 x.2 h; ⟨p.1,p.2,a,b⟩
theorem Tr.tt_ex {β:Type}{L:β→α→Prop}(t:Tr α):t.tt (fun a=>∃ j,L j a)→∃ j,t.tt (L j):=by
 induction t with
 | ok a=>exact id
 | no=>exact fun h=>h.elim
 | aO q k ih=>exact fun ⟨x,e,h⟩=>let ⟨j,h⟩:=ih x h; ⟨j,x,e,h⟩
 | aB q k ih=>exact fun ⟨x,e,h⟩=>let ⟨j,h⟩:=ih x h; ⟨j,x,e,h⟩
 | aL q k ih=>exact fun ⟨x,e,h⟩=>let ⟨j,h⟩:=ih x h; ⟨j,x,e,h⟩
 | aH q k ih=>exact fun ⟨x,e,h⟩=>let ⟨j,h⟩:=ih x h; ⟨j,x,e,h⟩
 | aM q k ih=>exact fun ⟨x,e,h⟩=>let ⟨j,h⟩:=ih x h; ⟨j,x,e,h⟩
 | aC q k ih=>exact ih q
 | aP q _ _ k ih=>exact fun ⟨r,e,h⟩=>let ⟨j,h⟩:=ih _ h; ⟨j,r,e,h⟩
 | aR q _ _ k ih=>exact fun ⟨r,G,e,h⟩=>let ⟨j,h⟩:=ih _ _ h; ⟨j,r,G,e,h⟩
 | aS q _ _ k ih=>exact fun ⟨f,m,G,e,h⟩=>let ⟨j,h⟩:=ih _ _ _ h; ⟨j,f,m,G,e,h⟩
 | aQ q _ _ k ih=>exact fun ⟨r,G,e,h⟩=>let ⟨j,h⟩:=ih _ _ h; ⟨j,r,G,e,h⟩
end
noncomputable def obs:List Ob→Or
 | []=>[]
 | o::os=>(o.n,o.a)::obs os
noncomputable def tj (Q:Prop):List Ob→Prop
 | []=>Q
 | o::os=>o.P∧tj Q os
theorem rV {Q:Prop}(q:Q):∀ os:List Ob,tj Q os
 | []=>q
 | o::os=>⟨o.h,rV q os⟩
noncomputable abbrev xV {q:Option V}{x:V}(n:Nat) (h:q=some x):Ob:=⟨n,.v x,_,h⟩
noncomputable abbrev xB {q:Option Bool}{x:Bool}(n:Nat) (h:q=some x):Ob:=⟨n,.b x,_,h⟩
noncomputable abbrev xC {q:Bool}{x:Bool}(n:Nat) (h:q=x):Ob:=⟨n,.b x,_,h⟩
noncomputable abbrev xL {q:Option (List V)}{x:List V}(n:Nat) (h:q=some x):Ob:=⟨n,.l x,_,h⟩
noncomputable abbrev xH {q:Option AH}{x:AH}(n:Nat) (h:q=some x):Ob:=⟨n,.h x,_,h⟩
noncomputable abbrev xM {q:Option Mth}{x:Mth}(n:Nat) (h:q=some x):Ob:=⟨n,.m x,_,h⟩
noncomputable abbrev xP {q:Res→Prop}{r:Res}(n:Nat) (h:q r):Ob:=⟨n,.p r,_,h⟩
noncomputable abbrev xR {q:Res→AH→Prop}{r:Res}{G:AH}(n:Nat) (h:q r G):Ob:=⟨n,.r r G,_,h⟩
noncomputable abbrev xS {q:Fl→LV→AH→Prop}{f:Fl}{m:LV}{G:AH}(n:Nat) (h:q f m G):Ob:=⟨n,.s f m G,_,h⟩
noncomputable abbrev xQ {q:List V→AH→Prop}{vs:List V}{G:AH}(n:Nat) (h:q vs G):Ob:=⟨n,.q vs G,_,h⟩
section
variable {α:Type}{Q:Prop}{cx:Cx}{d:Fd}{vs:List V}{G G':AH}{r:Res}{R:LV→AH→Tr Rd}{S:V→LV→Option LV}{m m1 m':LV}{f:Fl}{x:V}{xs:List V}{th:Bool}
theorem goT {L:α→Prop}{t:Tr α}(q:Q) (os:List Ob) (h:tj Q os=t.pth L (obs os):=by kernel_rfl):t.tt L:=t.pth_ok (h ▸ rV q os)
theorem goP (os:List Ob) (hp:(V.puL vs&&bo d vs)=true) (hr:r.pu=true) (h:tj (r=r) os=(fnT cx d vs []).pth (fH th r) (obs os):=by kernel_rfl):fnP th cx d vs r :=
 ⟨hr,hp,goT rfl os h⟩
theorem goH (os:List Ob) (hp:bo d vs=true) (h:tj (r=r∧G'=G') os=(fnT cx d vs G).pth (fun p=>F6 p r G') (obs os):=by kernel_rfl):fnH cx d vs G r G' :=
 ⟨hp,goT ⟨rfl,rfl⟩ os h⟩
theorem GR {N:Nat→LV→AH→Fl→LV→AH→Prop}{p:Rd}(h:aft (fun m G f m' G'=>∃ j,N j m G f m' G') p f m' G'):∃ j,aft (N j) p f m' G':=by
 obtain ⟨g,m,G⟩:=p
 cases g with
 | next=>exact h
 | cont=>exact h
 | _=>exact ⟨0,h⟩
theorem wI (q:Q) (os:List Ob) (h:tj Q os=(R m G).pth (fun p=>aft (Wh R) p f m' G') (obs os):=by kernel_rfl):Wh R m G f m' G':=by
 have k:=goT q os h
 obtain ⟨j,k⟩:=(R m G).tt_ex ((R m G).tt_mono (fun p h=>GR h) k)
 exact ⟨j+1,k⟩
theorem wE (os:List Ob) (h:tj (f=f∧m'=m'∧G'=G') os=(R m G).pth (fun p=>aft (Wh R) p f m' G') (obs os):=by kernel_rfl):Wh R m G f m' G':=wI ⟨rfl,rfl,rfl⟩ os h
theorem fI {B:LV→AH→Tr Rd}(q:Q) (os:List Ob) (h:tj Q os=go1 (S x m) fun m1=>(B m1 G).pth (fun p=>aft (flr S B xs) p f m' G') (obs os):=by kernel_rfl):flr S B (x::xs) m G f m' G':=by
 have k:=h ▸ rV q os
 obtain ⟨m1,e,k⟩:=ms k
 exact ⟨m1,e,(B m1 G).pth_ok k⟩
theorem fE {B:LV→AH→Tr Rd}(os:List Ob) (h:tj (f=f∧m'=m'∧G'=G') os=go1 (S x m) fun m1=>(B m1 G).pth (fun p=>aft (flr S B xs) p f m' G') (obs os):=by kernel_rfl):flr S B (x::xs) m G f m' G':=fI ⟨rfl,rfl,rfl⟩ os h
theorem fN {B:LV→AH→Tr Rd}:flr S B [] m G .next m G:=⟨rfl,rfl,rfl⟩
end
noncomputable def wR (cx:Cx) (n:Nat) (s:Stmt):LV→AH→Tr Rd:=match s with
 | .While t b _ _=>rnd cx (evS n cx) t b
 | _=>fun _ _=>.no
noncomputable def fS (cx:Cx) (s:Stmt):V→LV→Option LV:=match s with
 | .For t _ _ _ _=>xz cx t
 | _=>fun _ _=>none
noncomputable def fB (cx:Cx) (n:Nat) (s:Stmt):LV→AH→Tr Rd:=match s with
 | .For _ _ b _ _=>bod (evS n cx) b
 | _=>fun _ _=>.no
noncomputable abbrev fR (cx:Cx) (n:Nat) (s:Stmt):=flr (fS cx s) (fB cx n s)
noncomputable def at_ (b:List Stmt) (i:Nat):Stmt:=(b[i]?).getD (.Pass ⟨0,0,0,0⟩)
noncomputable def blk (s:Stmt):List Stmt:=match s with
 | .While _ b _ _=>b
 | .For _ _ b _ _=>b
 | .If _ b _ _=>b
 | _=>[]
noncomputable def sE:Stmt→Expr
 | .Return e _=>e.getD (.Constant .none 0 ⟨0,0,0,0⟩)
 | .Assign _ e _=>e
 | .If e _ _ _=>e
 | .For _ e _ _ _=>e
 | .Expr e _=>e
 | _=>.Constant .none 0 ⟨0,0,0,0⟩
noncomputable def aE (e:Expr) (i:Nat):Expr:=(match vw e with
 | .call _ es=>es[i]?
 | .bin l _ r=>[l,r][i]?
 | .ife t a b=>[t,a,b][i]?
 | .tup es=>es[i]?
 | .lst es=>es[i]?
 | .sub o s=>[o,s][i]?
 | .cmp l _ rs=>(l::rs)[i]?
 | .bop _ es=>es[i]?
 | .un _ e=>some e
 | .comp e _ _=>some e
 | _=>none).getD e
noncomputable def cR (cx:Cx) (n:Nat) (e:Expr) (m:LV):V→AH→Tr (Option V × AH):=match vw e with
 | .comp e gs sc=>match gs with
  | g::_=>zU (evE n) cx e g.target g.ifs sc m
  | []=>fun _ _=>.no
 | _=>fun _ _=>.no
theorem goC {α:Type}{t:Tr α}{p:α}(os:List Ob) (h:tj (p=p) os=t.pth (fun x=>x=p) (obs os):=by kernel_rfl):t.tt fun x=>x=p:=goT rfl os h
theorem dj {β:Type}{E:V→AH→Tr (Option V × AH)}{G:AH}{g f:β→V}:∀ ws:List β,(∀ w∈ws,(E (g w) G).tt fun x=>x=(some (f w),G))→cQ E (ws.map g) G (ws.map f) G
 | [],_=>⟨rfl,rfl⟩
 | w::ws,h=>Tr.tt_mono (fun p e=>by subst e; exact ⟨_,rfl,dj ws fun v hv=>h v (.tail _ hv)⟩) _ (h w (.head _))
noncomputable def sT (i:Nat):Stmt:=at_ pwL.main.body i
end
end Mine
end
section
open PySem PySem.W PyProof.Rows Builtin.Str
set_option maxRecDepth 20000
namespace Mine
noncomputable def KG (s:Stmt):Stmt:=match s with
 | .ClassDef _ _ _ b _ _ _ _ _ _ _=>at_ b 0
 | _=>s
noncomputable def mu:Fd:=aZ (sT 70) []
noncomputable def tm:Cx:=aY mu [] []
noncomputable def hH:FP:=fnP false tm mu
noncomputable def BR:PC hH:=pcP false tm mu
noncomputable def mw:Fd:=aZ (sT 72) []
noncomputable def tn:Cx:=aY mw [] []
noncomputable def fK:FS:=fnH tn mw
noncomputable def tq:HC fK:=pcH tn mw
noncomputable def gz:Fd:=aZ (sT 68) []
noncomputable def j6:Cx:=aY gz [] []
noncomputable def dL:FP:=fnP false j6 gz
noncomputable def rx:PC dL:=pcP false j6 gz
noncomputable def jw:Fd:=aZ (sT 74) []
noncomputable def my:Cx:=aY jw [(⟨⟨[95,108,97,119,95,100,114,97,119]⟩⟩,.h fK tq),(⟨⟨[95,108,97,119,95,115,112,101,108,108,105,110,103,115]⟩⟩,.p dL rx)] []
noncomputable def bp:FS:=fnH my jw
noncomputable def BS:HC bp:=pcH my jw
noncomputable def gJ:Fd:=aZ (sT 75) []
noncomputable def jx:Cx:=aY gJ [] []
noncomputable def bH:FP:=fnP false jx gJ
noncomputable def jy:PC bH:=pcP false jx gJ
noncomputable def jz:Fd:=aZ (sT 87) []
noncomputable def mz:Cx:=aY jz [(⟨⟨[95,108,97,119,95,108,105,115,116,101,100]⟩⟩,.p bH jy)] []
noncomputable def fL:FP:=fnP false mz jz
noncomputable def tu:PC fL:=pcP false mz jz
noncomputable def mA:Fd:=aZ (sT 16) []
noncomputable def tw:Cx:=aY mA [] []
noncomputable def b7:FP:=fnP false tw mA
noncomputable def fM:PC b7:=pcP false tw mA
noncomputable def ph:Fd:=aZ (sT 19) []
noncomputable def v8:Cx:=aY ph [] []
noncomputable def pj:FP:=fnP false v8 ph
noncomputable def Ed:PC pj:=pcP false v8 ph
noncomputable def xT:Fd:=aZ (sT 17) []
noncomputable def C7:Cx:=aY xT [] []
noncomputable def xU:FP:=fnP false C7 xT
noncomputable def Jy:PC xU:=pcP false C7 xT
noncomputable def hJ:Fd:=aZ (sT 18) []
noncomputable def kJ:Cx:=aY hJ [(⟨⟨[100,105,103,105,116]⟩⟩,.p xU Jy)] []
noncomputable def eU:FP:=fnP false kJ hJ
noncomputable def kK:PC eU:=pcP false kJ hJ
noncomputable def mB:Fd:=aZ (sT 20) []
noncomputable def tx:Cx:=aY mB [(⟨⟨[105,115,95,98,108,97,110,107]⟩⟩,.p b7 fM),(⟨⟨[98,97,115,101,95,111,102]⟩⟩,.p pj Ed),(⟨⟨[100,105,103,105,116,115,95,118,97,108,117,101]⟩⟩,.p eU kK)] []
noncomputable def jA:FP:=fnP false tx mB
noncomputable def tz:PC jA:=pcP false tx mB
noncomputable def iQ:Fd:=aZ (KG (sT 1)) [.tup [.str ⟨⟨[78,79,78,69]⟩⟩],.int 0,.int 0]
noncomputable def lX:Cx:=aY iQ [] []
noncomputable def iR:FS:=fnH lX iQ
noncomputable def u0:HC iR:=pcH lX iQ
noncomputable def xW:Fd:=aZ (sT 2) [.tup [.str ⟨⟨[78,79,78,69]⟩⟩]]
noncomputable def C8:Cx:=aY xW [(⟨⟨[82,97,105,115,101,100]⟩⟩,.r iR u0)] []
noncomputable def dO:FS:=fnH C8 xW
noncomputable def gd:HC dO:=pcH C8 xW
noncomputable def jB:Fd:=aZ (sT 21) []
noncomputable def nP:Cx:=aY jB [(⟨⟨[119,104,111,108,101,95,111,102]⟩⟩,.p jA tz),(⟨⟨[101,114,114,111,114]⟩⟩,.h dO gd)] []
noncomputable def jC:FP:=fnP false nP jB
noncomputable def xX:PC jC:=pcP false nP jB
noncomputable def nQ:Fd:=aZ (sT 47) []
noncomputable def tF:Cx:=aY nQ [(⟨⟨[110,101,101,100,95,119,104,111,108,101]⟩⟩,.p jC xX)] []
noncomputable def cE:FP:=fnP false tF nQ
noncomputable def nR:PC cE:=pcP false tF nQ
noncomputable def hV:Fd:=aZ (sT 29) []
noncomputable def kL:Cx:=aY hV [(⟨⟨[105,115,95,98,108,97,110,107]⟩⟩,.p b7 fM),(⟨⟨[101,114,114,111,114]⟩⟩,.h dO gd)] []
noncomputable def eV:FP:=fnP false kL hV
noncomputable def tG:PC eV:=pcP false kL hV
noncomputable def dk:Fd:=aZ (sT 30) []
noncomputable def fO:Cx:=aY dk [(⟨⟨[99,104,101,99,107,95,98,101,104,105,110,100]⟩⟩,.p eV tG),(⟨⟨[101,114,114,111,114]⟩⟩,.h dO gd)] []
noncomputable def dl:FP:=fnP false fO dk
noncomputable def pq:PC dl:=pcP false fO dk
noncomputable def eW:Fd:=aZ (sT 32) []
noncomputable def hX:Cx:=aY eW [(⟨⟨[105,115,95,98,108,97,110,107]⟩⟩,.p b7 fM)] [⟨⟨[111,117,116]⟩⟩]
noncomputable def eY:FP:=fnP false hX eW
noncomputable def tH:PC eY:=pcP false hX eW
noncomputable def eZ:Fd:=aZ (sT 33) []
noncomputable def hY:Cx:=aY eZ [(⟨⟨[105,115,95,98,108,97,110,107]⟩⟩,.p b7 fM),(⟨⟨[98,114,97,99,101,100,95,101,108,101,109,101,110,116]⟩⟩,.p dl pq),(⟨⟨[98,97,114,101,95,101,108,101,109,101,110,116]⟩⟩,.p eY tH)] []
noncomputable def cX:FP:=fnP false hY eZ
noncomputable def tI:PC cX:=pcP false hY eZ
noncomputable def gK:Fd:=aZ (sT 34) []
noncomputable def jD:Cx:=aY gK [(⟨⟨[102,105,110,100,95,101,108,101,109,101,110,116]⟩⟩,.p cX tI)] [⟨⟨[105,116,101,109,115]⟩⟩]
noncomputable def bY:FP:=fnP false jD gK
noncomputable def jE:PC bY:=pcP false jD gK
noncomputable def xY:Fd:=aZ (sT 22) []
noncomputable def C9:Cx:=aY xY [(⟨⟨[100,105,103,105,116,115,95,118,97,108,117,101]⟩⟩,.p eU kK)] []
noncomputable def xZ:FP:=fnP false C9 xY
noncomputable def Jz:PC xZ:=pcP false C9 xY
noncomputable def mC:Fd:=aZ (sT 23) []
noncomputable def tJ:Cx:=aY mC [(⟨⟨[119,104,111,108,101,95,111,102]⟩⟩,.p jA tz),(⟨⟨[109,111,118,101,100]⟩⟩,.p xZ Jz),(⟨⟨[105,115,95,98,108,97,110,107]⟩⟩,.p b7 fM),(⟨⟨[101,114,114,111,114]⟩⟩,.h dO gd)] []
noncomputable def bO:FP:=fnP false tJ mC
noncomputable def mD:PC bO:=pcP false tJ mC
noncomputable def ja:Fd:=aZ (sT 51) []
noncomputable def lE:Cx:=aY ja [(⟨⟨[115,112,108,105,116,95,108,105,115,116]⟩⟩,.p bY jE),(⟨⟨[105,110,100,101,120,95,111,102]⟩⟩,.p bO mD),(⟨⟨[101,114,114,111,114]⟩⟩,.h dO gd)] []
noncomputable def eq:FP:=fnP false lE ja
noncomputable def pw:PC eq:=pcP false lE ja
noncomputable def dP:Fd:=aZ (sT 43) []
noncomputable def gA:Cx:=aY dP [] []
noncomputable def bk:FP:=fnP false gA dP
noncomputable def rA:PC bk:=pcP false gA dP
noncomputable def dm:Fd:=aZ (sT 44) []
noncomputable def fP:Cx:=aY dm [] []
noncomputable def bK:FP:=fnP false fP dm
noncomputable def pz:PC bK:=pcP false fP dm
noncomputable def kM:Fd:=aZ (sT 42) []
noncomputable def qO:Cx:=aY kM [] []
noncomputable def bJ:FP:=fnP false qO kM
noncomputable def qP:PC bJ:=pcP false qO kM
noncomputable def jF:Fd:=aZ (sT 45) []
noncomputable def nU:Cx:=aY jF [] []
noncomputable def fb:FP:=fnP false nU jF
noncomputable def ya:PC fb:=pcP false nU jF
noncomputable def dn:Fd:=aZ (sT 46) []
noncomputable def fc:Cx:=aY dn [(⟨⟨[100,105,103,105,116,115,95,98,101,104,105,110,100]⟩⟩,.p bk rA),(⟨⟨[110,111,117,103,104,116,115,95,98,101,104,105,110,100]⟩⟩,.p bK pz),(⟨⟨[116,104,114,101,101,95,119,97,121]⟩⟩,.p bJ qP),(⟨⟨[99,97,115,101,95,111,114,100,101,114]⟩⟩,.p fb ya)] []
noncomputable def gL:FP:=fnP false fc dn
noncomputable def yb:PC gL:=pcP false fc dn
noncomputable def nV:Fd:=aZ (sT 13) []
noncomputable def tK:Cx:=aY nV [] []
noncomputable def kN:FP:=fnP false tK nV
noncomputable def Ac:PC kN:=pcP false tK nV
noncomputable def pC:Fd:=aZ (sT 40) []
noncomputable def v9:Cx:=aY pC [(⟨⟨[102,111,108,100,101,100]⟩⟩,.p kN Ac)] []
noncomputable def lF:FP:=fnP false v9 pC
noncomputable def Ee:PC lF:=pcP false v9 pC
noncomputable def ia:Fd:=aZ (sT 48) []
noncomputable def kO:Cx:=aY ia [(⟨⟨[100,105,99,116,105,111,110,97,114,121]⟩⟩,.p gL yb),(⟨⟨[99,111,109,112,97,114,101]⟩⟩,.p lF Ee),(⟨⟨[116,104,114,101,101,95,119,97,121]⟩⟩,.p bJ qP)] []
noncomputable def bP:FP:=fnP false kO ia
noncomputable def ic:PC bP:=pcP false kO ia
noncomputable def jG:Fd:=aZ (sT 58) []
noncomputable def tL:Cx:=aY jG [(⟨⟨[99,111,109,112,97,114,101,95,107,101,121,115]⟩⟩,.p bP ic)] []
noncomputable def ie:FP:=fnP false tL jG
noncomputable def BU:PC ie:=pcP false tL jG
noncomputable def kP:Fd:=aZ (sT 59) []
noncomputable def tM:Cx:=aY kP [(⟨⟨[111,114,100,101,114,95,111,102]⟩⟩,.p ie BU)] [⟨⟨[111,117,116]⟩⟩]
noncomputable def nW:FP:=fnP false tM kP
noncomputable def GS:PC nW:=pcP false tM kP
noncomputable def bt:Fd:=aZ (sT 60) []
noncomputable def b8:Cx:=aY bt [(⟨⟨[107,101,121,95,98,121]⟩⟩,.p cE nR),(⟨⟨[112,97,114,116,95,97,116]⟩⟩,.p eq pw),(⟨⟨[109,101,114,103,101,100]⟩⟩,.p nW GS)] [⟨⟨[112,108,97,99,101,115]⟩⟩,⟨⟨[114,117,110,115]⟩⟩]
noncomputable def ge:FP:=fnP false b8 bt
noncomputable def u5:PC ge:=pcP false b8 bt
noncomputable def fg:Fd:=aZ (sT 61) [.bool false]
noncomputable def jH:Cx:=aY fg [(⟨⟨[115,111,114,116,95,112,108,97,99,101,115]⟩⟩,.p ge u5)] [⟨⟨[111,117,116]⟩⟩]
noncomputable def gN:FP:=fnP false jH fg
noncomputable def yc:PC gN:=pcP false jH fg
noncomputable def dp:Fd:=aZ (sT 76) []
noncomputable def fQ:Cx:=aY dp [] []
noncomputable def dq:FP:=fnP false fQ dp
noncomputable def pD:PC dq:=pcP false fQ dp
noncomputable def jb:Fd:=aZ (sT 77) []
noncomputable def pE:Cx:=aY jb [(⟨⟨[95,108,97,119,95,100,105,99,116,105,111,110,97,114,121]⟩⟩,.p dq pD)] []
noncomputable def cj:FP:=fnP false pE jb
noncomputable def pF:PC cj:=pcP false pE jb
noncomputable def gl:Fd:=aZ (sT 78) []
noncomputable def kQ:Cx:=aY gl [] []
noncomputable def eu:FP:=fnP false kQ gl
noncomputable def qQ:PC eu:=pcP false kQ gl
noncomputable def ck:Fd:=aZ (sT 88) []
noncomputable def cn:Cx:=aY ck [(⟨⟨[95,108,97,119,95,105,116,101,109]⟩⟩,.p fL tu),(⟨⟨[109,101,114,103,101,95,115,111,114,116]⟩⟩,.p gN yc),(⟨⟨[95,108,97,119,95,107,101,121]⟩⟩,.p cj pF),(⟨⟨[95,108,97,119,95,111,114,100,101,114]⟩⟩,.p eu qQ)] []
noncomputable def cY:FP:=fnP false cn ck
noncomputable def tN:PC cY:=pcP false cn ck
noncomputable def jI:Fd:=aZ (sT 69) []
noncomputable def nY:Cx:=aY jI [] []
noncomputable def gP:FP:=fnP false nY jI
noncomputable def yd:PC gP:=pcP false nY jI
noncomputable def b9:Fd:=aZ (sT 81) []
noncomputable def ca:Cx:=aY b9 [] [⟨⟨[111,112,116,105,111,110,115]⟩⟩]
noncomputable def dG:FP:=fnP false ca b9
noncomputable def u6:PC dG:=pcP false ca b9
noncomputable def kS:Fd:=aZ (sT 80) []
noncomputable def qR:Cx:=aY kS [] []
noncomputable def cv:FP:=fnP false qR kS
noncomputable def qS:PC cv:=pcP false qR kS
noncomputable def jJ:Fd:=aZ (sT 3) []
noncomputable def nZ:Cx:=aY jJ [(⟨⟨[101,114,114,111,114]⟩⟩,.h dO gd)] []
noncomputable def jK:FS:=fnH nZ jJ
noncomputable def ye:HC jK:=pcH nZ jJ
noncomputable def ig:Fd:=aZ (KG (sT 53)) []
noncomputable def kT:Cx:=aY ig [] []
noncomputable def ii:FS:=fnH kT ig
noncomputable def tO:HC ii:=pcH kT ig
noncomputable def pG:Fd:=aZ (sT 4) []
noncomputable def wa:Cx:=aY pG [] []
noncomputable def pH:FP:=fnP false wa pG
noncomputable def Ef:PC pH:=pcP false wa pG
noncomputable def tP:Fd:=aZ (sT 5) []
noncomputable def yf:Cx:=aY tP [(⟨⟨[101,114,114,111,114]⟩⟩,.h dO gd),(⟨⟨[108,105,115,116,105,110,103]⟩⟩,.p pH Ef)] [⟨⟨[98,101,103,117,110]⟩⟩]
noncomputable def yg:FP:=fnP false yf tP
noncomputable def Mf:PC yg:=pcP false yf tP
noncomputable def iS:Fd:=aZ (sT 49) []
noncomputable def lY:Cx:=aY iS [(⟨⟨[105,110,100,101,120,95,111,102]⟩⟩,.p bO mD),(⟨⟨[101,114,114,111,114]⟩⟩,.h dO gd)] []
noncomputable def iT:FP:=fnP false lY iS
noncomputable def u7:PC iT:=pcP false lY iS
noncomputable def pI:Fd:=aZ (sT 50) []
noncomputable def wc:Cx:=aY pI [(⟨⟨[115,112,108,105,116,95,108,105,115,116]⟩⟩,.p bY jE),(⟨⟨[99,104,101,99,107,95,105,110,100,101,120]⟩⟩,.p iT u7)] []
noncomputable def pJ:FP:=fnP false wc pI
noncomputable def Eg:PC pJ:=pcP false wc pI
noncomputable def kU:Fd:=aZ (sT 55) []
noncomputable def qU:Cx:=aY kU [(⟨⟨[112,97,116,104,95,111,102]⟩⟩,.p pJ Eg)] []
noncomputable def ez:FS:=fnH qU kU
noncomputable def Ad:HC ez:=pcH qU kU
noncomputable def mE:Fd:=aZ (sT 54) []
noncomputable def tQ:Cx:=aY mE [] []
noncomputable def cB:FS:=fnH tQ mE
noncomputable def BV:HC cB:=pcH tQ mE
noncomputable def cZ:Fd:=aZ (sT 56) []
noncomputable def ij:Cx:=aY cZ [(⟨⟨[79,112,116,105,111,110,115]⟩⟩,.o ii tO),(⟨⟨[112,105,99,107]⟩⟩,.p yg Mf),(⟨⟨[101,114,114,111,114]⟩⟩,.h dO gd),(⟨⟨[112,117,116,95,118,97,108,117,101]⟩⟩,.h ez Ad),(⟨⟨[112,117,116,95,102,108,97,103]⟩⟩,.h cB BV)] []
noncomputable def bQ:FP:=fnP false ij cZ
noncomputable def tR:PC bQ:=pcP false ij cZ
noncomputable def cq:Fd:=aZ (sT 62) []
noncomputable def jc:Cx:=aY cq [(⟨⟨[114,101,97,100,95,111,112,116,105,111,110,115]⟩⟩,.p bQ tR),(⟨⟨[101,114,114,111,114]⟩⟩,.h dO gd)] []
noncomputable def bq:FP:=fnP false jc cq
noncomputable def pK:PC bq:=pcP false jc cq
noncomputable def cG:Fd:=aZ (sT 65) []
noncomputable def gB:Cx:=aY cG [(⟨⟨[107,101,121,95,98,121]⟩⟩,.p cE nR),(⟨⟨[112,97,114,116,95,97,116]⟩⟩,.p eq pw),(⟨⟨[99,111,109,112,97,114,101,95,107,101,121,115]⟩⟩,.p bP ic)] []
noncomputable def cH:FP:=fnP false gB cG
noncomputable def rF:PC cH:=pcP false gB cG
noncomputable def gQ:Fd:=aZ (sT 12) []
noncomputable def jL:Cx:=aY gQ [] []
noncomputable def fh:FS:=fnH jL gQ
noncomputable def yh:HC fh:=pcH jL gQ
noncomputable def n0:Fd:=aZ (sT 10) []
noncomputable def tS:Cx:=aY n0 [] []
noncomputable def kW:FP:=fnP false tS n0
noncomputable def GT:PC kW:=pcP false tS n0
noncomputable def jM:Fd:=aZ (sT 11) []
noncomputable def n7:Cx:=aY jM [(⟨⟨[105,110,95,115,101,116]⟩⟩,.p kW GT)] []
noncomputable def fi:FP:=fnP false n7 jM
noncomputable def yi:PC fi:=pcP false n7 jM
noncomputable def tU:Fd:=aZ (sT 14) [.bool false]
noncomputable def yj:Cx:=aY tU [(⟨⟨[102,111,108,100,101,100]⟩⟩,.p kN Ac),(⟨⟨[112,117,116,95,112,108,97,99,101,115]⟩⟩,.h fh yh),(⟨⟨[98,101,104,105,110,100,95,111,110,101]⟩⟩,.p fi yi)] [⟨⟨[97,102,116,101,114]⟩⟩,⟨⟨[112,108,97,99,101,115]⟩⟩]
noncomputable def yk:FP:=fnP false yj tU
noncomputable def Mg:PC yk:=pcP false yj tU
noncomputable def n8:Fd:=aZ (sT 63) []
noncomputable def Ae:Cx:=aY n8 [(⟨⟨[112,97,114,116,95,97,116]⟩⟩,.p eq pw),(⟨⟨[102,105,116,115]⟩⟩,.p yk Mg),(⟨⟨[99,111,109,112,97,114,101,95,107,101,121,115]⟩⟩,.p bP ic),(⟨⟨[107,101,121,95,98,121]⟩⟩,.p cE nR)] []
noncomputable def kY:FP:=fnP false Ae n8
noncomputable def GU:PC kY:=pcP false Ae n8
noncomputable def cI:Fd:=aZ (sT 64) []
noncomputable def gD:Cx:=aY cI [(⟨⟨[105,115,95,104,105,116]⟩⟩,.p kY GU)] [⟨⟨[112,108,97,99,101,115]⟩⟩]
noncomputable def bz:FP:=fnP false gD cI
noncomputable def rG:PC bz:=pcP false gD cI
noncomputable def lG:Fd:=aZ (sT 35) []
noncomputable def pL:Cx:=aY lG [(⟨⟨[105,115,95,98,108,97,110,107]⟩⟩,.p b7 fM)] []
noncomputable def lH:FP:=fnP false pL lG
noncomputable def Eh:PC lH:=pcP false pL lG
noncomputable def yl:Fd:=aZ (sT 37) [.bool false]
noncomputable def Da:Cx:=aY yl [(⟨⟨[109,111,100,101,95,111,102]⟩⟩,.p lH Eh)] [⟨⟨[111,117,116]⟩⟩]
noncomputable def rW:FP:=fnP false Da yl
noncomputable def JA:PC rW:=pcP false Da yl
noncomputable def iI:Fd:=aZ (sT 38) []
noncomputable def kZ:Cx:=aY iI [(⟨⟨[113,117,111,116,101]⟩⟩,.p rW JA)] [⟨⟨[111,117,116]⟩⟩]
noncomputable def iJ:FP:=fnP false kZ iI
noncomputable def Af:PC iJ:=pcP false kZ iI
noncomputable def bL:Fd:=aZ (sT 66) []
noncomputable def du:Cx:=aY bL [(⟨⟨[119,114,111,110,103,95,97,114,103,115]⟩⟩,.h jK ye),(⟨⟨[115,101,97,114,99,104,95,111,112,116,105,111,110,115]⟩⟩,.p bq pK),(⟨⟨[115,112,108,105,116,95,108,105,115,116]⟩⟩,.p bY jE),(⟨⟨[105,110,100,101,120,95,111,102]⟩⟩,.p bO mD),(⟨⟨[107,101,121,95,98,121]⟩⟩,.p cE nR),(⟨⟨[115,101,97,114,99,104,95,115,111,114,116,101,100]⟩⟩,.p cH rF),(⟨⟨[115,101,97,114,99,104,95,108,105,110,101,97,114]⟩⟩,.p bz rG),(⟨⟨[106,111,105,110,95,108,105,115,116]⟩⟩,.p iJ Af)] [⟨⟨[111,117,116]⟩⟩]
noncomputable def bM:FP:=fnP false du bL
noncomputable def pM:PC bM:=pcP false du bL
noncomputable def gm:Fd:=aZ (sT 86) []
noncomputable def qV:Cx:=aY gm [(⟨⟨[108,115,101,97,114,99,104,95,97,99,116,105,111,110]⟩⟩,.p bM pM)] []
noncomputable def bZ:FP:=fnP false qV gm
noncomputable def qW:PC bZ:=pcP false qV gm
noncomputable def gE:Fd:=aZ (sT 82) []
noncomputable def j7:Cx:=aY gE [] []
noncomputable def bA:FP:=fnP false j7 gE
noncomputable def j8:PC bA:=pcP false j7 gE
noncomputable def fj:Fd:=aZ (sT 84) []
noncomputable def jN:Cx:=aY fj [(⟨⟨[95,108,97,119,95,107,101,121]⟩⟩,.p cj pF),(⟨⟨[95,108,97,119,95,111,114,100,101,114]⟩⟩,.p eu qQ)] [⟨⟨[115,97,109,101]⟩⟩]
noncomputable def fk:FP:=fnP false jN fj
noncomputable def ym:PC fk:=pcP false jN fj
noncomputable def fT:Fd:=aZ (sT 79) []
noncomputable def il:Cx:=aY fT [] [⟨⟨[97,102,116,101,114]⟩⟩]
noncomputable def im:FP:=fnP false il fT
noncomputable def BX:PC im:=pcP false il fT
noncomputable def dv:Fd:=aZ (sT 83) []
noncomputable def gS:Cx:=aY dv [(⟨⟨[95,108,97,119,95,102,105,116,115]⟩⟩,.p im BX),(⟨⟨[95,108,97,119,95,110,111,95,110,117,109,98,101,114]⟩⟩,.p bA j8),(⟨⟨[95,108,97,119,95,107,101,121]⟩⟩,.p cj pF)] [⟨⟨[112,108,97,99,101,115]⟩⟩]
noncomputable def dw:FP:=fnP true gS dv
noncomputable def yn:PC dw:=pcP true gS dv
noncomputable def g0:Fd:=aZ (sT 85) []
noncomputable def jd:Cx:=aY g0 [(⟨⟨[95,108,97,119,95,115,116,97,114,116]⟩⟩,.p cv qS),(⟨⟨[95,108,97,119,95,110,111,95,110,117,109,98,101,114]⟩⟩,.p bA j8),(⟨⟨[95,108,97,119,95,115,111,114,116,101,100]⟩⟩,.p fk ym),(⟨⟨[95,108,97,119,95,108,105,110,101,97,114]⟩⟩,.p dw yn),(⟨⟨[95,108,97,119,95,108,105,115,116,101,100]⟩⟩,.p bH jy)] []
noncomputable def jf:FP:=fnP false jd g0
noncomputable def Ei:PC jf:=pcP false jd g0
noncomputable def bB:Fd:=aZ (sT 89) []
noncomputable def bU:Cx:=aY bB [(⟨⟨[95,108,97,119,95,100,114,97,119]⟩⟩,.h fK tq),(⟨⟨[95,108,97,119,95,119,111,114,100]⟩⟩,.h bp BS),(⟨⟨[95,108,97,119,95,105,110,95,111,114,100,101,114]⟩⟩,.p cY tN),(⟨⟨[95,108,97,119,95,112,105,101,99,101,115]⟩⟩,.p gP yd),(⟨⟨[95,108,97,119,95,105,116,101,109]⟩⟩,.p fL tu),(⟨⟨[95,108,97,119,95,111,112,116,105,111,110,115]⟩⟩,.p dG u6),(⟨⟨[95,108,97,119,95,115,116,97,114,116]⟩⟩,.p cv qS),(⟨⟨[95,108,97,119,95,108,105,115,116,101,100]⟩⟩,.p bH jy),(⟨⟨[95,108,97,119,95,104,101,97,114,100]⟩⟩,.p bZ qW),(⟨⟨[95,108,97,119,95,100,117,101]⟩⟩,.p jf Ei)] []
noncomputable def cJ:FS:=fnH bU bB
noncomputable def rI:HC cJ:=pcH bU bB
noncomputable def pN:Fd:=aZ (sT 73) []
noncomputable def we:Cx:=aY pN [] [⟨⟨[]⟩⟩]
noncomputable def fU:FS:=fnH we pN
noncomputable def Ej:HC fU:=pcH we pN
noncomputable def ft:Fd:=aZ (sT 71) []
noncomputable def io:Cx:=aY ft [] []
noncomputable def fu:FP:=fnP false io ft
noncomputable def tV:PC fu:=pcP false io ft
noncomputable def wf:Fd:=aZ (sT 90) []
noncomputable def wg:Cx:=aY wf [(⟨⟨[95,108,97,119,95,116,111,108,100]⟩⟩,.p hH BR),(⟨⟨[95,108,97,119,95,114,111,119,95,114,105,103,104,116]⟩⟩,.h cJ rI),(⟨⟨[95,108,97,119,95,112,101,110]⟩⟩,.h fU Ej),(⟨⟨[95,108,97,119,95,114,101,102,117,115,97,108,115]⟩⟩,.p fu tV),(⟨⟨[95,108,97,119,95,104,101,97,114,100]⟩⟩,.p bZ qW)] []
noncomputable def wi:FS:=fnH wg wf
noncomputable def Q5:HC wi:=pcH wg wf
end Mine
end
section
open PySem PySem.W PyProof.Rows Builtin.Str
set_option maxRecDepth 100000
namespace Mine
theorem tW:aw 1 sF hH:=okP (n:=0) 62 rfl {} FOk.nil
theorem tX:d9 1 sG fK:=okH (n:=0) 64 rfl {} FOk.nil
theorem rJ:aw 1 j0 dL:=okP (n:=0) 60 rfl {} FOk.nil
theorem BY:d9 2 sH bp:=okH (n:=1) 66 rfl {} (FOk.cons (iP 62 rfl (by kernel_rfl) tX (by decide)) (FOk.cons (az 58 rfl (by kernel_rfl) rJ (by decide)) FOk.nil))
theorem jO:aw 1 m9 bH:=okP (n:=0) 67 rfl {} FOk.nil
theorem tY:aw 2 sJ fL:=okP (n:=1) 79 rfl {} (FOk.cons (az 65 rfl (by kernel_rfl) jO (by decide)) FOk.nil)
theorem fV:aw 1 sx b7:=okP (n:=0) 14 rfl {} FOk.nil
theorem Ek:aw 1 vr pj:=okP (n:=0) 17 rfl {} FOk.nil
theorem JB:aw 1 CC xU:=okP (n:=0) 15 rfl {} FOk.nil
theorem lc:aw 2 ki eU:=okP (n:=1) 16 rfl {} (FOk.cons (az 13 rfl (by kernel_rfl) JB (by decide)) FOk.nil)
theorem tZ:aw 3 sy jA:=okP (n:=2) 18 rfl {} (FOk.cons (az 12 rfl (by kernel_rfl) fV (by decide)) (FOk.cons (az 15 rfl (by kernel_rfl) Ek (by decide)) (FOk.cons (az 14 rfl (by kernel_rfl) lc (by decide)) FOk.nil)))
theorem u8:d9 1 av iR:=okH (n:=0) 0 rfl {} FOk.nil
theorem gf:d9 2 CB dO:=okH (n:=1) 2 rfl {} (FOk.cons (P9 (by kernel_rfl) u8 (by decide)) FOk.nil)
theorem yo:aw 4 mX jC:=okP (n:=3) 19 rfl {} (FOk.cons (az 16 rfl (by kernel_rfl) tZ (by decide)) (FOk.cons (iP 0 rfl (by kernel_rfl) gf (by decide)) FOk.nil))
theorem n9:aw 5 zp cE:=okP (n:=4) 41 rfl {} (FOk.cons (az 17 rfl (by kernel_rfl) yo (by decide)) FOk.nil)
theorem t0:aw 3 kj eV:=okP (n:=2) 25 rfl {} (FOk.cons (az 12 rfl (by kernel_rfl) fV (by decide)) (FOk.cons (iP 0 rfl (by kernel_rfl) gf (by decide)) FOk.nil))
theorem pO:aw 4 iX dl:=okP (n:=3) 26 rfl {} (FOk.cons (az 23 rfl (by kernel_rfl) t0 (by decide)) (FOk.cons (iP 0 rfl (by kernel_rfl) gf (by decide)) FOk.nil))
theorem t5:aw 2 kl eY:=okP (n:=1) 28 rfl {} (FOk.cons (az 12 rfl (by kernel_rfl) fV (by decide)) FOk.nil)
theorem t6:aw 5 km cX:=okP (n:=4) 29 rfl {} (FOk.cons (az 12 rfl (by kernel_rfl) fV (by decide)) (FOk.cons (az 24 rfl (by kernel_rfl) pO (by decide)) (FOk.cons (az 26 rfl (by kernel_rfl) t5 (by decide)) FOk.nil)))
theorem jP:aw 6 mY bY:=okP (n:=5) 30 rfl {} (FOk.cons (az 27 rfl (by kernel_rfl) t6 (by decide)) FOk.nil)
theorem JC:aw 3 CD xZ:=okP (n:=2) 20 rfl {} (FOk.cons (az 14 rfl (by kernel_rfl) lc (by decide)) FOk.nil)
theorem mF:aw 4 sA bO:=okP (n:=3) 21 rfl {} (FOk.cons (az 16 rfl (by kernel_rfl) tZ (by decide)) (FOk.cons (az 18 rfl (by kernel_rfl) JC (by decide)) (FOk.cons (az 12 rfl (by kernel_rfl) fV (by decide)) (FOk.cons (iP 0 rfl (by kernel_rfl) gf (by decide)) FOk.nil))))
theorem pP:aw 7 vA eq:=okP (n:=6) 45 rfl {} (FOk.cons (az 28 rfl (by kernel_rfl) jP (by decide)) (FOk.cons (az 19 rfl (by kernel_rfl) mF (by decide)) (FOk.cons (iP 0 rfl (by kernel_rfl) gf (by decide)) FOk.nil)))
theorem rK:aw 1 jX bk:=okP (n:=0) 37 rfl {} FOk.nil
theorem pQ:aw 1 iY bK:=okP (n:=0) 38 rfl {} FOk.nil
theorem qX:aw 1 qs bJ:=okP (n:=0) 36 rfl {} FOk.nil
theorem yp:aw 1 mZ fb:=okP (n:=0) 39 rfl {} FOk.nil
theorem yq:aw 2 m5 gL:=okP (n:=1) 40 rfl {} (FOk.cons (az 35 rfl (by kernel_rfl) rK (by decide)) (FOk.cons (az 36 rfl (by kernel_rfl) pQ (by decide)) (FOk.cons (az 34 rfl (by kernel_rfl) qX (by decide)) (FOk.cons (az 37 rfl (by kernel_rfl) yp (by decide)) FOk.nil))))
theorem Ag:aw 1 zn kN:=okP (n:=0) 12 rfl {} FOk.nil
theorem El:aw 2 vv lF:=okP (n:=1) 35 rfl {} (FOk.cons (az 10 rfl (by kernel_rfl) Ag (by decide)) FOk.nil)
theorem ip:aw 3 kq bP:=okP (n:=2) 42 rfl {} (FOk.cons (az 38 rfl (by kernel_rfl) yq (by decide)) (FOk.cons (az 33 rfl (by kernel_rfl) El (by decide)) (FOk.cons (az 34 rfl (by kernel_rfl) qX (by decide)) FOk.nil)))
theorem BZ:aw 4 sD ie:=okP (n:=3) 51 rfl {} (FOk.cons (az 40 rfl (by kernel_rfl) ip (by decide)) FOk.nil)
theorem GV:aw 5 zr nW:=okP (n:=4) 52 rfl {} (FOk.cons (az 49 rfl (by kernel_rfl) BZ (by decide)) FOk.nil)
theorem u9:aw 8 lP ge:=okP (n:=7) 53 rfl {} (FOk.cons (az 39 rfl (by kernel_rfl) n9 (by decide)) (FOk.cons (az 43 rfl (by kernel_rfl) pP (by decide)) (FOk.cons (az 50 rfl (by kernel_rfl) GV (by decide)) FOk.nil)))
theorem yr:aw 9 m6 gN:=okP (n:=8) 54 rfl {} (FOk.cons (az 51 rfl (by kernel_rfl) u9 (by decide)) FOk.nil)
theorem pR:aw 1 i4 dq:=okP (n:=0) 68 rfl {} FOk.nil
theorem pS:aw 2 vC cj:=okP (n:=1) 69 rfl {} (FOk.cons (az 66 rfl (by kernel_rfl) pR (by decide)) FOk.nil)
theorem qY:aw 1 qu eu:=okP (n:=0) 70 rfl {} FOk.nil
theorem t7:aw 10 ku cY:=okP (n:=9) 80 rfl {} (FOk.cons (az 77 rfl (by kernel_rfl) tY (by decide)) (FOk.cons (az 52 rfl (by kernel_rfl) yr (by decide)) (FOk.cons (az 67 rfl (by kernel_rfl) pS (by decide)) (FOk.cons (az 68 rfl (by kernel_rfl) qY (by decide)) FOk.nil))))
theorem yt:aw 1 m8 gP:=okP (n:=0) 61 rfl {} FOk.nil
theorem vd:aw 1 lQ dG:=okP (n:=0) 73 rfl {} FOk.nil
theorem qZ:aw 1 qv cv:=okP (n:=0) 72 rfl {} FOk.nil
theorem yu:d9 3 mU jK:=okH (n:=2) 3 rfl {} (FOk.cons (iP 0 rfl (by kernel_rfl) gf (by decide)) FOk.nil)
theorem t8:d9 1 au ii:=okH (n:=0) 1 rfl {} FOk.nil
theorem Em:aw 1 vq pH:=okP (n:=0) 4 rfl {} FOk.nil
theorem Mh:aw 3 Fc yg:=okP (n:=2) 5 rfl {} (FOk.cons (iP 0 rfl (by kernel_rfl) gf (by decide)) (FOk.cons (az 2 rfl (by kernel_rfl) Em (by decide)) FOk.nil))
theorem ve:aw 5 lO iT:=okP (n:=4) 43 rfl {} (FOk.cons (az 19 rfl (by kernel_rfl) mF (by decide)) (FOk.cons (iP 0 rfl (by kernel_rfl) gf (by decide)) FOk.nil))
theorem En:aw 7 vz pJ:=okP (n:=6) 44 rfl {} (FOk.cons (az 28 rfl (by kernel_rfl) jP (by decide)) (FOk.cons (az 41 rfl (by kernel_rfl) ve (by decide)) FOk.nil))
theorem Ah:d9 8 qt ez:=okH (n:=7) 48 rfl {} (FOk.cons (az 42 rfl (by kernel_rfl) En (by decide)) FOk.nil)
theorem B0:d9 1 sB cB:=okH (n:=0) 47 rfl {} FOk.nil
theorem t9:aw 9 kr bQ:=okP (n:=8) 49 rfl {} (FOk.cons (Qb (by kernel_rfl) t8 (by decide)) (FOk.cons (az 3 rfl (by kernel_rfl) Mh (by decide)) (FOk.cons (iP 0 rfl (by kernel_rfl) gf (by decide)) (FOk.cons (iP 46 rfl (by kernel_rfl) Ah (by decide)) (FOk.cons (iP 45 rfl (by kernel_rfl) B0 (by decide)) FOk.nil)))))
theorem pT:aw 10 iZ bq:=okP (n:=9) 55 rfl {} (FOk.cons (az 47 rfl (by kernel_rfl) t9 (by decide)) (FOk.cons (iP 0 rfl (by kernel_rfl) gf (by decide)) FOk.nil))
theorem rL:aw 8 jZ cH:=okP (n:=7) 58 rfl {} (FOk.cons (az 39 rfl (by kernel_rfl) n9 (by decide)) (FOk.cons (az 43 rfl (by kernel_rfl) pP (by decide)) (FOk.cons (az 40 rfl (by kernel_rfl) ip (by decide)) FOk.nil)))
theorem yv:d9 1 mW fh:=okH (n:=0) 11 rfl {} FOk.nil
theorem GW:aw 1 zm kW:=okP (n:=0) 9 rfl {} FOk.nil
theorem yw:aw 2 mV fi:=okP (n:=1) 10 rfl {} (FOk.cons (az 7 rfl (by kernel_rfl) GW (by decide)) FOk.nil)
theorem Mi:aw 3 Fe yk:=okP (n:=2) 13 rfl {} (FOk.cons (az 10 rfl (by kernel_rfl) Ag (by decide)) (FOk.cons (iP 9 rfl (by kernel_rfl) yv (by decide)) (FOk.cons (az 8 rfl (by kernel_rfl) yw (by decide)) FOk.nil)))
theorem GX:aw 8 zt kY:=okP (n:=7) 56 rfl {} (FOk.cons (az 43 rfl (by kernel_rfl) pP (by decide)) (FOk.cons (az 11 rfl (by kernel_rfl) Mi (by decide)) (FOk.cons (az 40 rfl (by kernel_rfl) ip (by decide)) (FOk.cons (az 39 rfl (by kernel_rfl) n9 (by decide)) FOk.nil))))
theorem rN:aw 9 jY bz:=okP (n:=8) 57 rfl {} (FOk.cons (az 54 rfl (by kernel_rfl) GX (by decide)) FOk.nil)
theorem Eo:aw 2 vt lH:=okP (n:=1) 31 rfl {} (FOk.cons (az 12 rfl (by kernel_rfl) fV (by decide)) FOk.nil)
theorem JD:aw 3 CE rW:=okP (n:=2) 33 rfl {} (FOk.cons (az 29 rfl (by kernel_rfl) Eo (by decide)) FOk.nil)
theorem Ai:aw 4 qr iJ:=okP (n:=3) 34 rfl {} (FOk.cons (az 31 rfl (by kernel_rfl) JD (by decide)) FOk.nil)
theorem pU:aw 11 i3 bM:=okP (n:=10) 59 rfl {} (FOk.cons (iP 1 rfl (by kernel_rfl) yu (by decide)) (FOk.cons (az 53 rfl (by kernel_rfl) pT (by decide)) (FOk.cons (az 28 rfl (by kernel_rfl) jP (by decide)) (FOk.cons (az 19 rfl (by kernel_rfl) mF (by decide)) (FOk.cons (az 39 rfl (by kernel_rfl) n9 (by decide)) (FOk.cons (az 56 rfl (by kernel_rfl) rL (by decide)) (FOk.cons (az 55 rfl (by kernel_rfl) rN (by decide)) (FOk.cons (az 32 rfl (by kernel_rfl) Ai (by decide)) FOk.nil))))))))
theorem lf:aw 12 qw bZ:=okP (n:=11) 78 rfl {} (FOk.cons (az 57 rfl (by kernel_rfl) pU (by decide)) FOk.nil)
theorem j9:aw 1 j1 bA:=okP (n:=0) 74 rfl {} FOk.nil
theorem yx:aw 3 nf fk:=okP (n:=2) 76 rfl {} (FOk.cons (az 67 rfl (by kernel_rfl) pS (by decide)) (FOk.cons (az 68 rfl (by kernel_rfl) qY (by decide)) FOk.nil))
theorem B1:aw 1 sI im:=okP (n:=0) 71 rfl {} FOk.nil
theorem yy:aw 3 na dw:=okP (n:=2) 75 rfl {} (FOk.cons (az 69 rfl (by kernel_rfl) B1 (by decide)) (FOk.cons (az 72 rfl (by kernel_rfl) j9 (by decide)) (FOk.cons (az 67 rfl (by kernel_rfl) pS (by decide)) FOk.nil)))
theorem Ep:aw 4 vD jf:=okP (n:=3) 77 rfl {} (FOk.cons (az 70 rfl (by kernel_rfl) qZ (by decide)) (FOk.cons (az 72 rfl (by kernel_rfl) j9 (by decide)) (FOk.cons (az 74 rfl (by kernel_rfl) yx (by decide)) (FOk.cons (az 73 rfl (by kernel_rfl) yy (by decide)) (FOk.cons (az 65 rfl (by kernel_rfl) jO (by decide)) FOk.nil)))))
theorem kc:d9 13 j2 cJ:=okH (n:=12) 81 rfl {} (FOk.cons (iP 62 rfl (by kernel_rfl) tX (by decide)) (FOk.cons (iP 64 rfl (by kernel_rfl) BY (by decide)) (FOk.cons (az 78 rfl (by kernel_rfl) t7 (by decide)) (FOk.cons (az 59 rfl (by kernel_rfl) yt (by decide)) (FOk.cons (az 77 rfl (by kernel_rfl) tY (by decide)) (FOk.cons (az 71 rfl (by kernel_rfl) vd (by decide)) (FOk.cons (az 70 rfl (by kernel_rfl) qZ (by decide)) (FOk.cons (az 65 rfl (by kernel_rfl) jO (by decide)) (FOk.cons (az 76 rfl (by kernel_rfl) lf (by decide)) (FOk.cons (az 75 rfl (by kernel_rfl) Ep (by decide)) FOk.nil))))))))))
theorem wj:d9 1 vB fU:=okH (n:=0) 65 rfl {} FOk.nil
theorem lh:aw 1 kt fu:=okP (n:=0) 63 rfl {} FOk.nil
theorem Q6:d9 14 zu wi:=okH (n:=13) 82 rfl {} (FOk.cons (az 60 rfl (by kernel_rfl) tW (by decide)) (FOk.cons (iP 79 rfl (by kernel_rfl) kc (by decide)) (FOk.cons (iP 63 rfl (by kernel_rfl) wj (by decide)) (FOk.cons (az 61 rfl (by kernel_rfl) lh (by decide)) (FOk.cons (az 76 rfl (by kernel_rfl) lf (by decide)) FOk.nil)))))
end Mine
end
section
open PySem PySem.W PyProof.Rows Builtin.Str
set_option maxRecDepth 20000
namespace Mine
noncomputable abbrev Mj (prog:Program) (w:World) (s:Shared) (F:Fn):Fm :=
 {prog,w,base:=s.heap,A:=callerA,env:=nuE F .none .none .none s,fenvs:=[],names:=[],own:=[],outs:=[],int:=[],gens:=s.gens,os:=s.os,drawn:=s.drawn,fr:=0 }
theorem JE {n:Nat}{prog:Program}{w:World}{s:Shared}{F:Fn}{names ps:List Str}{vs:List V}{xs:List Value}{Q:QV}(hn:n<100) (W:Wd prog w s.heap) (hF:F∈av::au::TAB) (hk:ng F names=true) (ha:oR F ps=true) (hp:ps.Nodup)
  (hb:w9 F vs.length ps) (r:RepL prog w s.heap (fun _=>True) [] vs xs)
  (body:∀ fm' dV pm cd L,fm'=CI (Mj prog w s F) F names dV pm cd L→ay fm'→fm'.A.handled=none→qy n fm'.A→qz fm' F.body (g8 names ps (vs++F.dfl.drop (vs.length+F.dfl.length - ps.length))) [] Q fun _ _ _=>False) :
  codeAny (model prog w) callerA (.call (.ref F.addr) ⟨xs,[]⟩) (fun res s'=>∃ v u ok al H',res=.ok (.ret v)∧Q u H'∧Rep prog w s'.heap ok al u v∧(∀ b o,s.heap.get? b=some o→s'.heap.get? b=some o)∧s'.gens=s.gens∧s'.os=s.os) s:=by
 have hroom:callerA.depth<recursionLimit:=by decide
 refine sQ (p:=Mj prog w s F) (H:=[]) hF hk ha hp hb W rfl hroom (fun b o e=>⟨e,trivial⟩) (fun a q=>q.elim (fun q=>nomatch q) fun q=>nomatch q) (fun a q=>nomatch q) (fun e q=>nomatch q) trivial (fun b _=>⟨fun q=>(nomatch q),fun q=>(nomatch q),fun q=>(nomatch q)⟩) (fun q h=>nomatch h) List.nodup_nil (fun a q=>nomatch q) rfl rfl rfl r fun dV pm cd h₁ tk keep fresh O' S'=>?_
 have R':qy n (CI (Mj prog w s F) F names dV pm cd s.heap.objs.size).A:=by
  refine uU.deeper ⟨?_,?_⟩
  ·exact Nat.lt_of_lt_of_le (Nat.add_lt_add_of_le_of_lt (show callerA.depth≤400 by decide) (Nat.mul_lt_mul_of_pos_left (Nat.succ_lt_succ hn) (by decide:0<4))) (by decide)
  ·exact Nat.lt_of_lt_of_le (Nat.add_lt_add_left (Nat.mul_lt_mul_of_pos_left (Nat.succ_lt_succ hn) (by decide:0<16)) 4) (by decide)
 refine codeAny_func (wpAny_mono (body _ dV pm cd _ rfl O' rfl R' _ S') (fun f s' hq=>?_) fun x s' hq=>?_)
 ·obtain ⟨m',v,H',T₂,S₂,r₂,q₂⟩:=hq
  refine ⟨_,_,_,_,_,rfl,q₂,r₂,fun b o hb=>(T₂.keep b o (keep b o hb) fun q=>?_).1,S₂.gens,S₂.os⟩
  rcases ax.mp q with q | q | q
  ·exact nS ((fresh b q).symm.trans hb)
  ·nomatch q
  ·nomatch q
 ·obtain ⟨e,d,tb,ks,us,H',m',rfl,T₂,S₂,ht,q₂⟩:=hq
  exact q₂.elim
theorem N8 {n:Nat}{F:Fn}{cx:Cx}{d:Fd}(i:Nat) (hF:BQ[i]? = some F) (D:D9 F d cx) (hT:FOk n cx.fns) (h:GQ n F cx d=true) (hn:n<100) {prog:Program}{w:World}{s:Shared}(W:Wd prog w s.heap) {vs:List V}{xs:List Value}{u:V}{G:AH}
  (e:fnH cx d vs [] (.ok u) G) (r:RepL prog w s.heap (fun _=>True) [] vs xs) :
  codeAny (model prog w) callerA (.call (.ref F.addr) ⟨xs,[]⟩) (fun res s'=>∃ v ok al,res=.ok (.ret v)∧Rep prog w s'.heap ok al u v∧(∀ b o,s.heap.get? b=some o→s'.heap.get? b=some o)∧s'.gens=s.gens∧s'.os=s.os) s:=by
 have f:=fnF (an (an h).1).1
 have hb:PBs n cx SN d.body:=cvT (an h).2
 have h1:=aX (an e.1).1
 have h2:=aX (an e.1).2
 have f5:=f.c5
 rw [D.dfl] at f5
 have hl:=f.hlen
 have key:=JE (n:=n) (Q:=fun v H'=>Res.ok u=.ok v∧aa H'=G) hn W (List.mem_of_getElem? hF) (names:=d.names) (ps:=d.names.take d.np) (vs:=vs) f.c1 f.c2 f.ndp (v2 f.c4 f.ndp (by rw [hl]; exact h1) (by rw [hl,D.dfl]; exact h2) (by rw [hl,D.dfl]; exact f5)) r ?_
 ·exact codeAny_mono key fun res s' h=>KU h fun v u' ok al h=>Bd h fun H' a b c d=>⟨v,ok,al,a,by cases b.1; exact c,d⟩
 intro fm' dV pm cd L hfm O' hh' R'
 rw [hl,D.body,D.dfl]
 refine xK ⟨⟨O',by rw [hfm,D.names]; rfl,by rw [hfm,← D.kinds]; rfl,R',hh',hT,fun x hx=>by rw [hfm] at hx ⊢; exact f.cells x hx L⟩,by rw [hfm]; exact ⟨[],rfl⟩,fun x c hx hc=>by
  rw [hfm] at hc ⊢
  exact List.mem_cons_of_mem _ (List.mem_filterMap.mpr ⟨(x,c),mem_of_lookup hc,hc⟩),by rw [hfm]; rfl⟩ hb f.hnp f.ndp (ti e.1 f5) ((fnT cx d vs []).tt_mono (fun p z H' g=>by
  obtain ⟨fl,G2⟩:=p
  subst g
  cases fl with
  | ret v=>exact ⟨z.1,z.2.symm⟩
  | next=>exact ⟨z.1,z.2.symm⟩
  | ex ks us=>cases z.1
  | _=>exact z.elim) e.2)
end Mine
end
section
open PySem PySem.W PyProof.Rows
set_option maxRecDepth 1000000
namespace Mine.Z
theorem Er {R:WRecords}{w:World}{s₀ s₁:Shared}{xs:List WData}{a:Addr}{as:List Addr}(L:Laid R w s₀ s₁ [.list xs] [.ref a] as):∃ vs,s₁.heap.get? a=some { cls:=.type "list",dict:=none,data:=.seq vs 0,slots:=#[] }:=by
 refine ae L.laid fun ord _ h=>?_
 simp only [layAllW,layW] at h
 cases e:layAllW R (classAt s₀.heap) w.params ord xs s₀ with
 | none=>rw [e] at h; exact nS h
 | some r =>
  rw [e] at h
  simp only [Option.some.injEq,Prod.mk.injEq,List.cons.injEq,Value.ref.injEq,and_true] at h
  refine ar h fun z9=>?_; subst z9; intro z9; subst z9
  exact ⟨_,Heap.get?_push_size _ rfl⟩
theorem Aj {prog:Program}{w:World}{h:Heap}:∀ {vs:List Value}{ns:List Int},IntsAre vs ns→RepL prog w h (fun _=>True) [] (ns.map V.int) vs
 | _,_,x=>by
  induction x with
  | nil=>exact RepL.nil
  | cons _ _ _ ih=>exact RepL.cons ⟨_,rfl⟩ ih
theorem tT:FOk 13 wg.fns:=(FOk.cons (az 60 rfl (by kernel_rfl) tW (by decide)) (FOk.cons (iP 79 rfl (by kernel_rfl) kc (by decide)) (FOk.cons (iP 63 rfl (by kernel_rfl) wj (by decide)) (FOk.cons (az 61 rfl (by kernel_rfl) lh (by decide)) (FOk.cons (az 76 rfl (by kernel_rfl) lf (by decide)) FOk.nil)))))
theorem Ph:zu∈av::au::TAB:=List.mem_of_getElem? (i:=82) rfl
theorem holds_of (hp:∀ l:List Int,l.length≤63→(∀ x∈l,Builtin.Int.intBits x≤1048576)→∃ G,wi [.lst (l.map .int)] [] (.ok (.bool true)) G):PySem.Challenge.rw_np0151_01.Holds:=by
 rw [Ng]
 refine holds_law Nm fun said=>?_
 refine holds_openX (r:=rwN.row) Pv Fp sL.keeps Nh hpN hkN (fun s _=>⟨fun x hx=>(nomatch hx),fun x hx=>(nomatch hx),?_,?_⟩) (by decide) said okN Nj Nk ?_
 ·intro c c' a h; cases h
 ·intro c fs h; cases h
 ·intro w s₀ s₁ mg mb G Y fa o pm cd doc dV kV ho hd hcd hD hmg hg args vals as L hpre hlay hrd hwl hlo
  have T:=G.T
  have X:=G.X
  wrow_args hpre hlay hrd hwl hlo
  rename_i ns _ _ _ _ _ _ _ la vs _ hL _ _ _ hI _ hlen _
  refine enter_call ?_
  refine aj (Er L) fun us hl=>?_
  refine KT X fun x1 x2 x3 x4 x5 x6 x7=>?_
  have W:Wd pwS.1 w s₁.heap:=⟨T.nolimit,x5,⟨mg,T.g,x1,x2,x3,x4⟩,⟨mb,T.b,fun x hx=>T.builtins x (fun q=>by rw [q] at hx; revert hx; decide)⟩,ae x6 fun K a b=>⟨K,a,KZ b⟩,fun F hF=>x7 _ _ F hF⟩
  rw [Ni,x1 zu (List.mem_of_getElem? (i:=80) rfl)] at hmg
  cases hmg
  obtain ⟨_,ol,hol,_,nn,hdl⟩:=(⟨trivial,hL⟩:True∧s₁.heap.IsList la vs.toArray)
  rw [hl] at hol
  obtain rfl:=sj hol
  cases hdl
  have r:RepL pwS.1 w s₁.heap (fun _=>True) [] [.lst (ns.map .int)] [.ref la]:=by
   have el:=(Aj (prog:=pwS.1) (w:=w) (h:=s₁.heap) hI).length
   rw [List.length_map] at el
   exact RepL.cons ⟨_,_,rfl,trivial,⟨by rw [List.size_toArray,← el]; exact Nat.le_trans (show ns.length≤63 by omega) (by decide),_,hl⟩,Aj hI⟩ RepL.nil
  have hla:PyData.layable0 (.list (ns.map .int))=true:=by assumption
  refine aj (hp ns (by omega) (fun x hx=>PyData.bits_item_of_ints hla hx)) fun G' e=>?_
  have key:=N8 (n:=13) (d:=wf) (cx:=wg) 82 rfl {} tT (by kernel_rfl) (by decide) W e r
  refine codeAny_mono key fun res s' ⟨v,ok,al,a,b,c,d,f⟩=>?_
  subst a
  obtain rfl:v=.bool true:=b
  exact ⟨.inl ⟨_,_,[],rfl,fun _=>rfl,ReadsW.bool true,by first | kernel_rfl | wrow_post,fun _=>⟨List.nodup_nil,fun _ hm=>(nomatch hm)⟩⟩,.of_keep c,f,.of_eq (d.trans hg)⟩
end Mine.Z
end
section
open PySem PySem.W PyProof.Rows Builtin.Str
set_option maxRecDepth 20000
set_option backward.match.sparseCases false
namespace Mine
section
noncomputable def stp (T:Prop) (p:Or→Prop):Or→Prop
 | []=>p []
 | q::o=>match q.1,o with
  | 0,[]=>T
  | _,_=>p (q::o)
section
variable {α:Type}{L:α→Prop}
noncomputable def Tr.ptk (L:α→Prop):Tr α→Or→Prop
 | .ok a,_=>L a
 | .no,_=>False
 | .aO q k,o=>gO usV q (fun x=>stp ((k x).tt L) ((k x).ptk L)) o
 | .aB q k,o=>gO usB q (fun x=>stp ((k x).tt L) ((k x).ptk L)) o
 | .aC q k,o=>gC q (fun x=>stp ((k x).tt L) ((k x).ptk L)) o
 | .aL q k,o=>gO usL q (fun x=>stp ((k x).tt L) ((k x).ptk L)) o
 | .aH q k,o=>gO usH q (fun x=>stp ((k x).tt L) ((k x).ptk L)) o
 | .aM q k,o=>gM q (fun x=>stp ((k x).tt L) ((k x).ptk L)) o
 | .aP q c _ k,o=>gX usP q c (fun r=>stp ((k r).tt L) ((k r).ptk L)) o
 | .aR q c _ k,o=>gX usR (fun p=>q p.1 p.2) c (fun p=>stp ((k p.1 p.2).tt L) ((k p.1 p.2).ptk L)) o
 | .aS q c _ k,o=>gX usS (fun p=>q p.1 p.2.1 p.2.2) c (fun p=>stp ((k p.1 p.2.1 p.2.2).tt L) ((k p.1 p.2.1 p.2.2).ptk L)) o
 | .aQ q c _ k,o=>gX usQ (fun p=>q p.1 p.2) c (fun p=>stp ((k p.1 p.2).tt L) ((k p.1 p.2).ptk L)) o
theorem iU {T:Prop}{p:Or→Prop}{o:Or}(h:stp T p o) (i:∀ o,p o→T):T:=by
 cases o with
 | nil=>exact i _ h
 | cons q o =>
  obtain ⟨n,a⟩:=q
  cases n with
  | zero=>cases o with
   | nil=>exact h
   | cons=>exact i _ h
  | succ n=>exact i _ h
theorem Tr.ptk_ok (t:Tr α):∀ {o:Or},t.ptk L o→t.tt L:=by
 induction t with
 | ok a=>exact fun h=>h
 | no=>exact fun h=>h
 | aO q k ih=>exact fun h=>qL h fun x o h=>iU h fun o=>ih x
 | aB q k ih=>exact fun h=>qL h fun x o h=>iU h fun o=>ih x
 | aL q k ih=>exact fun h=>qL h fun x o h=>iU h fun o=>ih x
 | aH q k ih=>exact fun h=>qL h fun x o h=>iU h fun o=>ih x
 | aM q k ih=>exact fun h=>KE h fun x o h=>iU h fun o=>ih x
 | aC q k ih=>exact fun h=>KD h fun x o h=>iU h fun o=>ih x
 | aP q c g k ih=>exact fun h=>qM g h fun x o h=>iU h fun o=>ih x
 | aR q c g k ih=>exact fun h=>let ⟨p,a,b⟩:=qM (K:=fun x=>(k x.1 x.2).tt L) g h fun x o h=>iU h fun o=>ih x.1 x.2; ⟨p.1,p.2,a,b⟩
 | aS q c g k ih=>exact fun h=>let ⟨p,a,b⟩:=qM (K:=fun x=>(k x.1 x.2.1 x.2.2).tt L) g h fun x o h=>iU h fun o=>ih x.1 x.2.1 x.2.2; ⟨p.1,p.2.1,p.2.2,a,b⟩
 | aQ q c g k ih=>exact fun h=>let ⟨p,a,b⟩:=qM (K:=fun x=>(k x.1 x.2).tt L) g h fun x o h=>iU h fun o=>ih x.1 x.2; ⟨p.1,p.2,a,b⟩
noncomputable def N9 (n:Nat):List Ob→Or
 | []=>[(n,.b true)]
 | o::os=>(o.n,o.a)::N9 n os
theorem goK {t:Tr α}{R:Prop}(q:R) (n:Nat) (os:List Ob) (h:tj R os=t.ptk L (N9 n os):=by kernel_rfl):t.tt L:=t.ptk_ok (h ▸ rV q os)
end
theorem Oa {S:V→LV→Option LV}{B:LV→AH→Tr Rd}{xs:List V}{x:V}{m m1:LV}{G:AH}{t:Tr Rd}{P:Fl × LV × AH→Prop}(e:S x m=some m1) (ht:B m1 G=t) (h:t.tt fun p=>∃ j:{z // P z},aft (flr S B xs) p j.1.1 j.1.2.1 j.1.2.2) :
  ∃ j:{z // P z},flr S B (x::xs) m G j.1.1 j.1.2.1 j.1.2.2:=(Tr.tt_ex (L:=fun (j:{z // P z}) p=>aft (flr S B xs) p j.1.1 j.1.2.1 j.1.2.2) _ (ht ▸ h)).imp fun j h=>⟨m1,e,h⟩
theorem Qf {R:LV→AH→Tr Rd}{m:LV}{G:AH}{P:Fl × LV × AH→Prop}(h:(R m G).tt fun p=>∃ j:{z // P z},aft (Wh R) p j.1.1 j.1.2.1 j.1.2.2) :
  ∃ j:{z // P z},Wh R m G j.1.1 j.1.2.1 j.1.2.2:=by
 refine (Tr.tt_ex (L:=fun (j:{z // P z}) p=>aft (Wh R) p j.1.1 j.1.2.1 j.1.2.2) _ h).imp fun j h=>?_
 exact ((R m G).tt_ex ((R m G).tt_mono (fun p h=>GR h) h)).elim fun j' k=>⟨j'+1,k⟩
theorem je {P:Fl × LV × AH→Prop}{N:Fl→LV→AH→Prop}{X:Prop}(h:∃ j:{z // P z},N j.1.1 j.1.2.1 j.1.2.2) (k:∀ f m G,P (f,m,G)→N f m G→X):X:=h.elim fun j n=>k _ _ _ j.2 n
end
end Mine
end
section
open PySem.StrLaws PySem PySem.W PyProof.Rows Builtin.Str
set_option maxRecDepth 20000
set_option backward.match.sparseCases false
namespace Mine
section
noncomputable abbrev S (l:List Nat):V:=.str ⟨⟨l⟩⟩
theorem dT {p:Prop} [Decidable p] (h:p):decide p=true:=decide_eq_true h
theorem dF {p:Prop} [Decidable p] (h:¬ p):decide p=false:=decide_eq_false h
theorem nB {b x:Bool}(h:b=x):(!b)=!x:=congrArg _ h
section
variable {a b:Nat}{i j:Int}
theorem cT (h:a=b):((⟨⟨[a]⟩⟩:Str)==⟨⟨[b]⟩⟩)=true:=beq_iff_eq.mpr (by rw [h])
theorem cF (h:¬ a=b):((⟨⟨[a]⟩⟩:Str)==⟨⟨[b]⟩⟩)=false:=beq_eq_false_iff_ne.mpr fun q=>h (by cases q; rfl)
theorem ltT (h:a<b):decide ((a:Int)<(b:Int))=true:=dT (Int.ofNat_lt.mpr h)
theorem ltF (h:b≤a):decide ((a:Int)<(b:Int))=false:=dF (Int.not_lt.mpr (Int.ofNat_le.mpr h))
theorem leT (h:a≤b):decide ((a:Int)≤(b:Int))=true:=dT (Int.ofNat_le.mpr h)
theorem leF (h:b<a):decide ((a:Int)≤(b:Int))=false:=dF (Int.not_le.mpr (Int.ofNat_lt.mpr h))
theorem qT (h:i=j):(i==j)=true:=beq_iff_eq.mpr h
theorem qF (h:¬ i=j):(i==j)=false:=beq_eq_false_iff_ne.mpr h
theorem nT (h:a=b):((a:Int)==(b:Int))=true:=qT (congrArg _ h)
theorem nF (h:¬ a=b):((a:Int)==(b:Int))=false:=qF fun q=>h (Int.ofNat_inj.mp q)
end
section
variable {G:AH}{l a b:List Nat}{k c:Nat}{vs us:List V}{v:V}
theorem Ak {α:Type}{l:List α}(hk:0<l.length):cS l (-1)=l[l.length - 1]?:=fx (Nat.ble_eq_true_of_le hk)
@[simp] theorem Es (a b:List Nat):((⟨⟨a⟩⟩:Str)==⟨⟨b⟩⟩)=decide (a=b):=by
 rw [Bool.eq_iff_iff]; simp
theorem Q7 (l:List Nat):(⟨⟨l⟩⟩:Str).length=l.length:=rfl
theorem Db (a b:List Nat):(⟨⟨a⟩⟩:Str)++⟨⟨b⟩⟩=⟨⟨a++b⟩⟩:=by
 apply Str.ext'
 rw [Str.cps_append]
 simp
@[simp] theorem Pi:d8 ⟨⟨a⟩⟩ ⟨⟨b⟩⟩=decide (a<b):=rfl
theorem li (G:AH) (e:l[k]? = some c):aG G (S l) (.int (k:Int))=some (S [c]):=congrArg Cv.v (cC (o:=cS l (k:Int)) e)
theorem bS (G:AH) (e:vs[k]? = some v):aG G (.lst vs) (.int (k:Int))=some v:=congrArg Cv.v (cC (o:=cS vs (k:Int)) e)
theorem Mk (G:AH) (e:vs[k]? = some v):aG G (.tup vs) (.int (k:Int))=some v:=congrArg Cv.v (cC (o:=cS vs (k:Int)) e)
theorem am (e:l[k]? = some c):aG [] (S l) (.int (k:Int))=some (S [c]):=li [] e
theorem ua (e:vs[k]? = some v):aG [] (.lst vs) (.int (k:Int))=some v:=bS [] e
theorem Qg (e:vs[k]? = some v):aG [] (.tup vs) (.int (k:Int))=some v:=Mk [] e
theorem Et (e:vs.getLast? = some v):aG [] (.lst vs) (.int (-1))=some v:=congrArg Cv.v (cC (o:=cS vs (-1)) (by
 rw [Ak (by cases vs <;> simp at e ⊢),← List.getLast?_eq_getElem?,e]))
theorem Q8:aF [] .Eq (S a) (S b)=some (decide (a=b)):=congrArg some (Es a b)
theorem Q9:aF [] .NotEq (S a) (S b)=some (!decide (a=b)):=congrArg (fun b=>some (!b)) (Es a b)
theorem Ra:aF [] .Lt (S a) (S b)=some (decide (a<b)):=rfl
theorem Rb:aF [] .Gt (S a) (S b)=some (decide (b<a)):=rfl
theorem Rc:aF [] .LtE (S a) (S b)=some (!decide (b<a)):=rfl
theorem Oc {x y:Nat}:([x]<[y])↔x<y:=by
 constructor
 ·intro h; cases h with
  | rel h=>exact h
  | cons h=>cases h
 ·exact fun h=>.rel h
theorem eH {a b:Nat}(h:a≤b):Nat.ble a b=true:=Nat.ble_eq_true_of_le h
theorem ub (h:a.length+b.length≤big):cA .Add (S a) (S b)=some (S (a++b)):=(congrArg Cv.v (fx (eH h))).trans (congrArg (fun x=>some (V.str x)) (Db a b))
theorem JF (h:a.length+b.length≤big):FX .Add (S a) (S b)=some (S (a++b)):=(congrArg Cv.v (fx (eH h))).trans (congrArg (fun x=>some (V.str x)) (Db a b))
theorem yz (h:vs.length+us.length≤big):cA .Add (.lst vs) (.lst us)=some (.lst (vs++us)):=congrArg Cv.v (fx (eH h))
theorem Qh {i j:Int}:cA .Add (.int i) (.int j)=some (.int (i+j)):=rfl
theorem uc {α:Type}{l:List α}{a:Nat}:l.drop (min a l.length)=l.drop a:=by
 rcases Nat.lt_or_ge a l.length with q | q
 ·rw [Nat.min_eq_left (Nat.le_of_lt q)]
 ·rw [Nat.min_eq_right q,List.drop_of_length_le (Nat.le_refl _),List.drop_of_length_le q]
theorem Al {a n:Nat}:max 0 (min (if (a:Int)<0 then (a:Int)+n else a) (n:Int))=(min a n:Nat):=by
 rw [if_neg (Int.not_lt.mpr (Int.natCast_nonneg a))]
 rcases Nat.le_total a n with h | h
 ·rw [Int.min_eq_left (Int.ofNat_le.mpr h),Nat.min_eq_left h,Int.max_eq_right (Int.natCast_nonneg _)]
 ·rw [Int.min_eq_right (Int.ofNat_le.mpr h),Nat.min_eq_right h,Int.max_eq_right (Int.natCast_nonneg _)]
theorem yA {a b n:Nat}:strSliceIndices (some (a:Int)) (some (b:Int)) 1 n=sliceRange (min a n:Nat) (min b n:Nat) 1:=by
 rw [← Al (a:=a) (n:=n),← Al (a:=b) (n:=n)]
 rfl
theorem mG (l:List Nat) (a b:Nat):fA ⟨⟨l⟩⟩ (some a) (some b)=⟨⟨(l.drop a).take (b - a)⟩⟩:=by
 have e:fA ⟨⟨l⟩⟩ (some (a:Int)) (some (b:Int))=fA ⟨⟨l⟩⟩ (some ((min a l.length:Nat):Int)) (some ((min b l.length:Nat):Int)):=by
  unfold fA
  rw [show (⟨⟨l⟩⟩:Str).length=l.length from rfl,yA,yA,Nat.min_assoc,Nat.min_assoc,Nat.min_self]
 have ha:min a l.length≤l.length:=Nat.min_le_right ..
 have hb:min b l.length≤l.length:=Nat.min_le_right ..
 rw [e]
 rcases Nat.le_total (min a l.length) (min b l.length) with h | h
 ·refine (sliceText_nat ⟨⟨l⟩⟩ h hb).trans (congrArg (fun l=>(⟨⟨l⟩⟩:Str)) ?_)
  show (l.drop (min a l.length)).take _=_
  rw [uc]
  rcases Nat.le_total b l.length with q | q
  ·rw [Nat.min_eq_left q]
   rcases Nat.le_total a l.length with q2 | q2
   ·rw [Nat.min_eq_left q2]
   ·rw [List.drop_of_length_le q2,List.take_nil,List.take_nil]
  ·rw [Nat.min_eq_right q,List.take_of_length_le (by rw [List.length_drop]; exact Nat.sub_le_sub_left (Nat.min_le_left ..) _),List.take_of_length_le (by rw [List.length_drop]; exact Nat.sub_le_sub_right q _)]
 ·have k:(l.drop a).take (b - a)=[]:=by
   rcases Nat.le_total b a with q | q
   ·rw [Nat.sub_eq_zero_of_le q,List.take_zero]
   ·rcases Nat.le_total l.length a with q2 | q2
    ·rw [List.drop_of_length_le q2,List.take_nil]
    ·rw [Nat.min_eq_left q2] at h
     rcases Nat.le_total b l.length with q3 | q3
     ·rw [Nat.min_eq_left q3] at h
      rw [Nat.sub_eq_zero_of_le h,List.take_zero]
     ·rw [Nat.min_eq_right q3] at h
      rw [List.drop_of_length_le h,List.take_nil]
  have r:strSliceIndices (some ((min a l.length:Nat):Int)) (some ((min b l.length:Nat):Int)) 1 l.length=[]:=by
   rw [yA,Nat.min_assoc,Nat.min_assoc,Nat.min_self]
   show (List.range (if ((min a l.length:Nat):Int)<(min b l.length:Nat) then _ else 0:Int).toNat).map _=[]
   rw [if_neg (Int.not_lt.mpr (Int.ofNat_le.mpr h))]
   rfl
  rw [k]
  unfold fA
  rw [show (⟨⟨l⟩⟩:Str).length=l.length from rfl,r]
  cases l with
  | nil=>rfl
  | cons=>rfl
theorem Am {l:List Nat}:fA ⟨⟨l⟩⟩ (some (-1)) none=⟨⟨l.drop (l.length - 1)⟩⟩:=by
 cases l with
 | nil=>rfl
 | cons c l =>
  have h:=sliceText_from_neg (x:=⟨⟨c::l⟩⟩) (i:=-1) (by decide) (Int.neg_le_neg (Int.ofNat_le.mpr (Nat.succ_pos l.length)))
  have e:((-1:Int)+(⟨⟨c::l⟩⟩:Str).length)=(l.length:Nat):=by
   show (-1:Int)+((l.length+1:Nat):Int)=_
   rw [Int.natCast_add,Int.add_comm,Int.natCast_one,Int.add_neg_cancel_right]
  rw [e] at h
  refine h.trans (congrArg (fun l=>(⟨⟨l⟩⟩:Str)) ?_)
  exact List.take_of_length_le (by
   rw [List.length_drop]
   show (l.length+1) - l.length≤((((l.length+1:Nat):Int)) - (l.length:Nat)).toNat
   rw [Int.toNat_sub]
   exact Nat.le_refl _)
theorem An (l:List Nat) (a:Nat):fA ⟨⟨l⟩⟩ (some a) none=⟨⟨l.drop a⟩⟩:=by
 have:=mG l a l.length
 rw [List.take_of_length_le (by simp)] at this
 rw [← this]
 unfold fA
 rw [sliceIdx_none_hi]; rfl
theorem Eu (l:List Nat) (b:Nat):fA ⟨⟨l⟩⟩ none (some b)=⟨⟨l.take b⟩⟩:=by
 have:=mG l 0 b
 rw [List.drop_zero,Nat.sub_zero] at this
 rw [← this]
 unfold fA
 rw [sliceIdx_none_lo]; rfl
theorem lj {i j:Nat}:bG (S l) (some (.int i)) (some (.int j)) none=some (S ((l.drop i).take (j - i))):=congrArg (fun x=>some (V.str x)) (mG l i j)
theorem fW:bG (S l) (some (.int (-1))) none none=some (S (l.drop (l.length - 1))):=congrArg (fun x=>some (V.str x)) Am
theorem Oe {i:Nat}:bG (S l) (some (.int i)) none none=some (S (l.drop i)):=congrArg (fun x=>some (V.str x)) (An l i)
theorem ud {i:Nat}:bG (S l) none (some (.int i)) none=some (S (l.take i)):=congrArg (fun x=>some (V.str x)) (Eu l i)
end
end
end Mine
end
section
open PySem.StrLaws PySem PySem.W PyProof.Rows Builtin.Str
set_option maxRecDepth 20000
namespace Mine
noncomputable def c6 (c:Nat):Bool:=c==32||c==9||c==10||c==11||c==12||c==13
theorem Of (c d:Nat):((⟨⟨[d]⟩⟩:Str)==⟨⟨[c]⟩⟩)=(c==d):=by
 rw [Es,Bool.eq_iff_iff]; simp; exact eq_comm
theorem cc {c:Nat}:b7 [S [c]] (.ok (.bool (c6 c))):=by
 have h:b7 [S [c]] (.ok (.bool ([32,9,10,11,12,13].foldr (fun d x=>((⟨⟨[d]⟩⟩:Str)==⟨⟨[c]⟩⟩)||x) false))):=goP [] rfl rfl
 simpa only [List.foldr,Of,Bool.or_false,c6,Bool.or_assoc] using h
theorem oa {t w:List Nat}{k:Nat}(hl:t.length≤1000000) (h:∀ c,t[k]? = some c→c6 c=true) :
  eV [S t,.int (k:Int),S w] (.ok .none):=by
 rcases Nat.lt_or_ge k t.length with q | q
 ·have e:t[k]? = some t[k]:=List.getElem?_eq_getElem q
  exact goP [xC 5 (dF (Int.not_le.mpr (Int.ofNat_lt.mpr q))),xV 2 (am e),xP 0 (cc (c:=t[k])),xC 1 (h _ e)] rfl rfl
 ·exact goP [xC 5 (leT q),xC 1 (leT q)] rfl rfl
theorem aJ {t r:List Nat}{k c:Nat}(h:t.drop k=c::r):t[k]? = some c∧k<t.length∧t.drop (k+1)=r:=by
 have h1:t[k]? = some c:=by
  have:=congrArg List.head? h
  rw [List.head?_drop] at this
  exact this
 refine ⟨h1,?_,?_⟩
 ·rcases Nat.lt_or_ge k t.length with q | q
  ·exact q
  ·rw [List.drop_of_length_le q] at h; cases h
 ·rw [← List.drop_drop,h]; rfl
theorem drop_nil {t:List Nat}{k:Nat}(h:t.drop k=[]):t.length≤k:=by simpa using h
theorem Ev {t r:List Nat}{k c:Nat}(h:t.drop k=r) (e:t[k]? = some c):r.head? = some c:=by
 rw [← h,List.head?_drop]; exact e
noncomputable def iy:Nat→List Nat→Bool
 | d,[]=>d==0
 | d,c::r=>if c=92 then false else if c=123 then iy (d+1) r else if c=125 then (match d with | 0=>false | d+1=>iy d r) else iy d r
theorem Ao {d:Nat}:FX .Sub (.int ((d+1:Nat):Int)) (.int 1)=some (.int (d:Nat)):=congrArg (fun i=>some (V.int i)) (by lia:((d+1:Nat):Int) - 1=d)
noncomputable abbrev brW:=wR fO 7 (at_ dk.body 1)
theorem iK {t rest:List Nat}{f:Nat}(hl:t.length≤1000000) (hr:∀ c,rest.head? = some c→c6 c=true):∀ (u:List Nat) (d k:Nat) (x:Option V),t.drop k=u++125::rest→iy d u=true →
  Wh brW [some (S t),some (.int f),some (.int (d+1:Nat)),some (.int k),x] [] (.ret (.tup [S ((t.drop f).take (k+u.length - f)),.int (k+u.length+1:Nat)])) [] []
 | [],d,k,x,h,hs=>by
  refine bW (aJ h) fun h1 h2 h3=>?_
  obtain rfl:d=0:=by simpa [iy] using hs
  have hc:=oa (k:=k+1) (w:=[98,114,97,99,101,115]) hl fun c e=>hr c (Ev h3 e)
  exact wE [xC 5 (ltT h2),xV 2 (am h1),xP 21 hc,xV 4 (lj (l:=t) (i:=f) (j:=k))]
 | c::u,d,k,x,h,hs=>by
  refine bW (aJ h) fun h1 h2 h3=>?_
  rw [show k+(c::u).length=k+1+u.length by simp; lia]
  unfold iy at hs
  split at hs
  ·exact ff hs
  rename_i c1
  split at hs
  ·rename_i c2
   exact wI (iK (f:=f) hl hr u (d+1) (k+1) (some (S [c])) h3 hs) [xC 5 (ltT h2),xV 2 (am h1),xC 3 (cF c1),xC 3 (cT c2)]
  rename_i c2
  split at hs
  ·rename_i c3
   split at hs
   ·exact ff hs
   ·rename_i d
    exact wI (iK (f:=f) hl hr u d (k+1) (some (S [c])) h3 hs) [xC 5 (ltT h2),xV 2 (am h1),xC 3 (cF c1),xC 3 (cF c2),xC 3 (cT c3),xV 1 (Ao (d:=d+1))]
  ·rename_i c3
   exact wI (iK (f:=f) hl hr u d (k+1) (some (S [c])) h3 hs) [xC 5 (ltT h2),xV 2 (am h1),xC 3 (cF c1),xC 3 (cF c2),xC 3 (cF c3)]
theorem Ap {t u rest:List Nat}{k:Nat}(hl:t.length≤1000000) (h:t.drop k=u++125::rest) (hs:iy 0 u=true) (hr:∀ c,rest.head? = some c→c6 c=true) :
  dl [S t,.int (k:Int)] (.ok (.tup [S u,.int (k+u.length+1:Nat)])):=by
 have w:=iK (f:=k) hl hr u 0 k none h hs
 rw [show (t.drop k).take (k+u.length - k)=u by rw [h,Nat.add_sub_cancel_left]; simp] at w
 exact goP [xS 1 w] rfl rfl
end Mine
end
section
open PySem.StrLaws PySem PySem.W PyProof.Rows Builtin.Str
set_option maxRecDepth 20000
set_option backward.match.sparseCases false
namespace Mine
theorem a8 {α:Type}{f:α→V}(h:∀ a,(f a).pu=true):∀ l:List α,V.puL (l.map f)=true
 | []=>rfl
 | a::l=>by rw [List.map_cons,V.puL,h a,a8 h l]; rfl
theorem bf {G:AH}{i:Nat}{l:List V}{v:V}(e:G[i]? = some (.list l)) (h:l.length+1≤big):nE G (.ref i) (o0 .append) [v]=some (G.set i (.list (l++[v]))):=by
 have k:o0 .append l [v]=some (l++[v]):=congrArg Cv.v (fx (eH h))
 unfold nE
 dsimp only
 rw [e]
 dsimp only
 rw [k]
theorem og:∀ us:List (List Nat),fF (us.map S)=some (us.map fun u=>⟨⟨u⟩⟩)
 | []=>rfl
 | u::us=>by simp only [List.map_cons,fF,og us,Option.map_some]
noncomputable def cg (sep:List Nat):List (List Nat)→List Nat
 | []=>[]
 | [x]=>x
 | x::y::r=>x++sep++cg sep (y::r)
theorem GY (sep:List Nat):∀ us:List (List Nat),Str.join ⟨⟨sep⟩⟩ (us.map fun u=>⟨⟨u⟩⟩)=⟨⟨cg sep us⟩⟩
 | []=>rfl
 | [x]=>rfl
 | x::y::r=>by
  show (⟨⟨x⟩⟩:Str)++⟨⟨sep⟩⟩++Str.join ⟨⟨sep⟩⟩ ((y::r).map fun u=>⟨⟨u⟩⟩)=_
  rw [GY sep (y::r),Db,Db]
  rfl
theorem Aq (sep:List Nat) (us:List (List Nat)):Txt.join ⟨⟨sep⟩⟩ (us.map fun u=>⟨⟨u⟩⟩)=⟨⟨cg sep us⟩⟩:=by
 rw [← GY]
 exact StrLaws.glued_eq_join _ _
theorem pV (sep:List Nat):∀ us:List (List Nat),(cg sep us).length≤(us.map (·.length)).sum+us.length*sep.length
 | []=>Nat.zero_le _
 | [x]=>by simp [cg]
 | x::y::r=>by
  have:=pV sep (y::r)
  simp only [cg,List.length_append,List.map_cons,List.sum_cons,List.length_cons,Nat.add_mul,Nat.one_mul] at this ⊢
  exact Nat.le_trans (Nat.add_le_add_left this _) (Nat.le_of_eq (by rw [Nat.add_assoc x.length,Nat.add_left_comm sep.length,← Nat.add_assoc x.length,Nat.add_comm sep.length (_+_)]))
theorem pW {sep:List Nat}{us:List (List Nat)}(h:(us.map (·.length)).sum+us.length*sep.length≤big):eQ .join (S sep) [.lst (us.map S)]=some (S (cg sep us)):=by
 have h1:oZ ⟨⟨sep⟩⟩ (us.map fun u=>⟨⟨u⟩⟩)=true:=by
  rw [oZ,Aq,List.map_map,List.length_map]
  exact Bool.and_eq_true_iff.mpr ⟨eH h,eH (Nat.le_trans (pV sep us) h)⟩
 have q:eQ .join (S sep) [.lst (us.map S)]=_:=congrArg Cv.v ((cC (og us)).trans (fx h1))
 exact q.trans (congrArg (fun x=>some (V.str x)) (Aq sep us))
theorem q5:∀ us:List Nat,cg [] (us.map fun c=>[c])=us
 | []=>rfl
 | [x]=>rfl
 | x::y::r=>congrArg (x::·) (q5 (y::r))
noncomputable def B2 (u:List Nat):Prop:=∀ c∈u,c6 c=false∧c≠92
noncomputable abbrev baW:=wR hX 7 (at_ eW.body 1)
theorem wm {t rest:List Nat}(hr:∀ c,rest.head? = some c→c6 c=true) {O:List V}{E:Nat}:∀ (u:List Nat) (o:List V) (k:Nat) (x:Option V),t.drop k=u++rest→B2 u→o.length+u.length≤big →
  o++(u.map fun c=>[c]).map S=O→k+u.length=E→∃ x',Wh baW [some (S t),some (.int k),some (.ref 0),x] [.list o] .next [some (S t),some (.int E),some (.ref 0),x'] [.list O]
 | [],o,k,x,h,hb,hO,h1,h2=>by
  rw [List.map_nil,List.map_nil,List.append_nil] at h1
  subst h1 h2
  refine ⟨x,?_⟩
  cases rest with
  | nil =>
   have q:=drop_nil h
   exact wE [xC 5 (ltF q),xC 1 (ltF q)]
  | cons c r =>
   refine bW (aJ (t:=t) (r:=r) h) fun g1 g2 g3=>?_
   exact wE [xC 5 (ltT g2),xV 2 (li [.list o] g1),xP 0 (cc (c:=c)),xC 2 (nB (hr c rfl))]
 | c::u,o,k,x,h,hb,hO,h1,h2=>by
  refine bW (aJ h) fun g1 g2 g3=>?_
  refine ar (hb c (.head _)) fun b1 b2=>?_
  rw [List.length_cons,← Nat.add_assoc,Nat.add_right_comm] at hO
  refine uZ (wm (O:=O) (E:=E) hr u (o++[S [c]]) (k+1) (some (S [c])) g3 (fun c hc=>hb c (.tail _ hc)) (by simpa using hO) (by rw [← h1,List.append_assoc]; rfl) (by rw [← h2,List.length_cons,Nat.add_assoc,Nat.add_comm 1])) fun x' w=>?_
  exact wI w [xC 5 (ltT g2),xV 2 (li [.list o] g1),xP 0 (cc (c:=c)),xC 2 (nB b1),xV 2 (li [.list o] g1),xC 3 (cF b2),xH 4 (bf (G:=[.list o]) (i:=0) (v:=S [c]) rfl (Nat.le_trans (Nat.le_add_right ..) hO))]
theorem As:∀ u:List Nat,((u.map fun c=>[c]).map (·.length)).sum=u.length
 | []=>rfl
 | c::u=>by rw [List.map_cons,List.map_cons,List.sum_cons,As u]; exact Nat.add_comm ..
theorem Ew {t u rest:List Nat}{k:Nat}(hl:t.length≤big) (h:t.drop k=u++rest) (hb:B2 u) (hr:∀ c,rest.head? = some c→c6 c=true) :
  eY [S t,.int (k:Int)] (.ok (.tup [S u,.int (k+u.length:Nat)])):=by
 have hu:u.length≤big:=by
  have:=congrArg List.length h
  rw [List.length_drop,List.length_append] at this
  exact Nat.le_trans (Nat.le_add_right ..) (this ▸ Nat.le_trans (Nat.sub_le ..) hl)
 refine aj (wm hr u [] k none h hb (by simpa using hu) rfl rfl) fun x' w=>?_
 have hj:=pW (sep:=[]) (us:=u.map fun c=>[c]) (by rw [As]; exact hu)
 rw [q5] at hj
 exact goP [xS 0 w,xV 2 hj] rfl rfl
noncomputable def enc (w:List Nat):List Nat:=if w=[]∨32∈w then 123::(w++[125]) else w
structure yB (w:List Nat):Prop where
 sc:iy 0 w=true
 br:32 ∉ w→B2 w∧∀ c∈w,c≠123∧c≠34
noncomputable abbrev fiW:=wR hY 7 (at_ eZ.body 0)
theorem pX {t r:List Nat}{E:Nat}(hr:∀ c,r.head? = some c→c6 c=false):∀ (sp:List Nat) (k:Nat),t.drop k=sp++r→(∀ c∈sp,c6 c=true)→k+sp.length=E →
  Wh fiW [some (S t),some (.int k)] [] .next [some (S t),some (.int E)] []
 | [],k,h,hs,e=>by
  subst e
  cases r with
  | nil =>
   have q:=drop_nil h
   exact wE [xC 5 (ltF q),xC 1 (ltF q)]
  | cons c r =>
   refine bW (aJ (t:=t) (r:=r) h) fun h1 h2 h3=>?_
   exact wE [xC 5 (ltT h2),xV 2 (am h1),xP 0 (cc (c:=c)),xC 1 (hr c rfl)]
 | c::sp,k,h,hs,e=>by
  refine bW (aJ h) fun h1 h2 h3=>?_
  have ih:=pX (E:=E) hr sp (k+1) h3 (fun c hc=>hs c (.tail _ hc)) (by rw [← e,List.length_cons,Nat.add_assoc,Nat.add_comm 1])
  exact wI ih [xC 5 (ltT h2),xV 2 (am h1),xP 0 (cc (c:=c)),xC 1 (hs c (.head _))]
theorem wn {t sp:List Nat}{k:Nat}(h:t.drop k=sp) (hs:∀ c∈sp,c6 c=true):cX [S t,.int (k:Int)] (.ok .none):=by
 have w:=pX (t:=t) (r:=[]) nofun sp k (by rw [h,List.append_nil]) hs rfl
 have he:t.length≤k+sp.length:=by have:=congrArg List.length h; rw [List.length_drop] at this; exact Nat.sub_le_iff_le_add'.mp (Nat.le_of_eq this)
 exact goP [xS 0 w,xC 5 (leT he)] rfl rfl
theorem wo {t sp w rest:List Nat}{k:Nat}(hl:t.length≤big) (h:t.drop k=sp++(enc w++rest)) (hs:∀ c∈sp,c6 c=true) (ok:yB w)
  (hr:∀ c,rest.head? = some c→c6 c=true):cX [S t,.int (k:Int)] (.ok (.tup [S w,.int (k+sp.length+(enc w).length:Nat)])):=by
 have hd:t.drop (k+sp.length)=enc w++rest:=by rw [← List.drop_drop,h,List.drop_left]
 have wl:=fun q=>pX (r:=enc w++rest) q sp k h hs rfl
 by_cases e:w=[]∨32∈w
 ·have en:enc w=123::(w++[125]):=if_pos e
  rw [en] at wl hd ⊢
  refine bW (aJ hd) fun g1 g2 g3=>?_
  have hb:=Ap (k:=k+sp.length+1) (u:=w) hl (rest:=rest) (g3.trans (List.append_assoc ..)) ok.sc hr
  rw [show k+sp.length+(123::(w++[125])).length=k+sp.length+1+w.length+1 by rw [List.length_cons,List.length_append]; exact congrArg (·+1) (Nat.add_right_comm _ w.length 1)]
  have wl:=wl fun d hd=>sj hd ▸ rfl
  exact goP [xS 0 wl,xC 5 (leF g2),xV 2 (am g1),xP 6 hb] rfl rfl
 ·have en:enc w=w:=if_neg e
  rw [en] at wl hd ⊢
  refine ar (not_or.mp e) fun e1 e2=>ar (ok.br e2) fun b1 b2=>?_
  have hb:=Ew (k:=k+sp.length) hl (rest:=rest) hd b1 hr
  cases w with
  | nil=>exact absurd rfl e1
  | cons c w =>
   refine bW (aJ hd) fun g1 g2 g3=>?_
   have wl:=wl fun d hd=>sj hd ▸ (b1 c (.head _)).1
   exact goP [xS 0 wl,xC 5 (leF g2),xV 2 (am g1),xC 2 (cF (b2 c (.head _)).1),xV 2 (am g1),xC 2 (cF (b2 c (.head _)).2),xP 2 hb] rfl rfl
noncomputable def oh:List (List Nat)→List Nat
 | []=>[]
 | w::ws=>32::(enc w++oh ws)
theorem ue:∀ (ws:List (List Nat)) (c:Nat),(oh ws).head? = some c→c6 c=true
 | [],_,h=>nS h
 | _::_,_,h=>sj h ▸ rfl
theorem uf (w:List Nat):∀ ws:List (List Nat),cg [32] ((w::ws).map enc)=enc w++oh ws
 | []=>(List.append_nil _).symm
 | v::ws=>by
  rw [List.map_cons,List.map_cons,cg,← List.map_cons,uf v ws,List.append_assoc]; rfl
noncomputable abbrev spW:=wR jD 7 (at_ gK.body 2)
theorem At:∀ ws:List (List Nat),ws.length≤(oh ws).length
 | []=>Nat.le_refl _
 | w::ws=>by have:=At ws; simp [oh]; exact Nat.le_trans this (Nat.le_add_left ..)
theorem wp {t:List Nat}{o:List V}:Wh spW [some (S t),some (.ref 0),some .none] [.list o] .next [some (S t),some (.ref 0),some .none] [.list o]:=by exact wE []
theorem ug {t:List Nat}{O:List V}(hl:t.length≤big):∀ (ws:List (List Nat)) (w:List Nat) (o:List V) (k:Nat),t.drop k=oh ws→(∀ w∈ws,yB w)→o.length+ws.length<big→o++S w::ws.map S=O →
  Wh spW [some (S t),some (.ref 0),some (.tup [S w,.int k])] [.list o] .next [some (S t),some (.ref 0),some .none] [.list O]
 | [],w,o,k,h,ok,hO,e=>by
  subst e
  have w0:=wp (t:=t) (o:=o++[S w])
  exact wI w0 [xH 7 (bf (G:=[.list o]) (i:=0) (v:=S w) rfl hO),xP 4 (wn (k:=k) (sp:=[]) h nofun)]
 | v::ws,w,o,k,h,ok,hO,e=>by
  rw [List.length_cons] at hO
  have hf:=wo (k:=k) (sp:=[32]) (w:=v) (rest:=oh ws) hl h (fun c hc=>List.mem_singleton.mp hc ▸ rfl) (ok v (.head _)) (ue ws)
  have ih:=ug (O:=O) hl ws v (o++[S w]) (k+1+(enc v).length) (by rw [Nat.add_assoc,← List.drop_drop,h,oh,Nat.add_comm 1]; exact List.drop_left) (fun w hw=>ok w (.tail _ hw)) (by rw [List.length_append]; exact Nat.lt_of_le_of_lt (Nat.le_of_eq (by rw [Nat.add_assoc,Nat.add_comm ws.length]; rfl)) hO) (by rw [← e,List.append_assoc]; rfl)
  exact wI ih [xH 7 (bf (G:=[.list o]) (i:=0) (v:=S w) rfl (Nat.le_trans (Nat.succ_le_succ (Nat.le_add_right ..)) hO)),xP 4 hf]
theorem uh {t:List Nat}(ws:List (List Nat)) (hl:t.length≤big) (e:t=cg [32] (ws.map enc)) (ok:∀ w∈ws,yB w):bY [S t] (.ok (.lst (ws.map S))):=by
 cases ws with
 | nil =>
  have w:=wp (t:=t) (o:=[])
  exact goP [xP 1 (wn (k:=0) (sp:=[]) e nofun),xS 0 w] rfl rfl
 | cons v ws =>
  rw [uf] at e
  have hn:ws.length<t.length:=by
   have h1:=At ws
   have h3:1≤(enc v).length:=by
    unfold enc
    split
    ·exact Nat.succ_pos _
    ·rename_i q; cases v with
     | nil=>exact absurd (Or.inl rfl) q
     | cons=>exact Nat.succ_pos _
   rw [e,List.length_append]; exact Nat.lt_of_le_of_lt h1 (Nat.lt_add_of_pos_left h3)
  have w:=ug (t:=t) hl ws v [] (0+0+(enc v).length) (by rw [e]; simp) (fun w hw=>ok w (.tail _ hw)) (by rw [List.length_nil,Nat.zero_add]; exact Nat.lt_of_lt_of_le hn hl) rfl
  exact goP [xP 1 (wo (k:=0) (sp:=[]) (w:=v) (rest:=oh ws) hl e nofun (ok v (.head _)) (ue ws)),xS 0 w] rfl (a8 (fun _=>rfl) _)
theorem Ex {a b:Nat}(h:¬ a=b):((⟨⟨[b]⟩⟩:Str)==⟨⟨[a]⟩⟩)=false:=cF fun q=>h q.symm
theorem orF {a b:Bool}(h:a=false) (k:b=false):(a||b)=false:=by rw [h,k]; rfl
theorem eqF {a b:Nat}(h:¬ a=b):aF [] .Eq (S [a]) (S [b])=some false:=congrArg some (cF h)
theorem GZ {a b c:Nat}(h1:¬ c=a) (h2:¬ c=b):aF [] .In (S [c]) (.tup [S [a],S [b]])=some false:=congrArg some (orF (Ex h1) (orF (Ex h2) rfl))
theorem Qi {a b d e c:Nat}(h1:¬ c=a) (h2:¬ c=b) (h3:¬ c=d) (h4:¬ c=e):aF [] .In (S [c]) (.tup [S [a],S [b],S [d],S [e]])=some false:=congrArg some (orF (Ex h1) (orF (Ex h2) (orF (Ex h3) (orF (Ex h4) rfl))))
structure wq (c:Nat):Prop where
 a:c≠93∧c≠34∧c≠91∧c≠36∧c≠59∧c≠92∧c≠35
 b:c6 c=true→c=32
noncomputable abbrev moW:=wR pL 7 (at_ lG.body 7)
theorem bF {b:Bool}(h:¬ b=true):b=false:=Bool.eq_false_iff.mpr h
theorem jg {t b:List Nat}{h ih I W:Bool}{E:Nat}:∀ (u:List Nat) (d k:Nat) (ib wb:Bool) (x:Option V),t.drop k=u→iy d u=true→(∀ c∈u,wq c)→(ib||u.contains 32)=I→(wb||u.contains 32)=W→k+u.length=E →
  ∃ x',Wh moW [some (S t),some (.bool h),some (S b),some (.bool ib),some (.bool ih),some (.bool wb),some (.bool false),some (.int d),some (.int k),x] []
   .next [some (S t),some (.bool h),some (S b),some (.bool I),some (.bool ih),some (.bool W),some (.bool false),some (.int 0),some (.int E),x'] []
 | [],d,k,ib,wb,x,e,hs,hp,hI,hW,hE=>by
  obtain rfl:d=0:=of_decide_eq_true hs
  have q:=drop_nil e
  have hI:=(Bool.or_false ib).symm.trans hI
  have hW:=(Bool.or_false wb).symm.trans hW
  subst hI hW hE
  refine ⟨x,?_⟩
  exact wE [xC 5 (ltF q)]
 | c::u,d,k,ib,wb,x,e,hs,hp,hI,hW,hE=>by
  refine bW (aJ e) fun h1 h2 h3=>?_
  obtain ⟨⟨p1,p2,p3,p4,p5,p6,p7⟩,p8⟩:=hp c (.head _)
  have hq:∀ c∈u,wq c:=fun c hc=>hp c (.tail _ hc)
  rw [List.length_cons,← Nat.add_assoc,Nat.add_right_comm] at hE
  have hu:¬ c=32→(c::u).contains 32=u.contains 32:=fun q=>by rw [List.contains_cons,beq_eq_false_iff_ne.mpr (Ne.symm q),Bool.false_or]
  unfold iy at hs
  rw [if_neg p6] at hs
  split at hs
  ·rename_i c2
   subst c2
   rw [hu (by decide)] at hI hW
   refine uZ (jg (b:=b) (h:=h) (ih:=ih) (I:=I) (W:=W) u (d+1) (k+1) ib wb (some (S [123])) h3 hs hq hI hW hE) fun x' w=>?_
   exact wI w [xC 5 (ltT h2),xV 2 (am h1)]
  rename_i c2
  split at hs
  ·rename_i c3
   subst c3
   rw [hu (by decide)] at hI hW
   split at hs
   ·exact ff hs
   rename_i d
   refine uZ (jg (b:=b) (h:=h) (ih:=ih) (I:=I) (W:=W) u d (k+1) ib wb (some (S [125])) h3 hs hq hI hW hE) fun x' w=>?_
   exact wI w [xC 5 (ltT h2),xV 2 (am h1),xV 11 (Ao (d:=d))]
  rename_i c3
  by_cases c4:c=32
  ·subst c4
   rw [List.contains_cons,beq_self_eq_true,Bool.true_or,Bool.or_true] at hI hW
   refine uZ (jg (b:=b) (h:=h) (ih:=ih) (I:=I) (W:=W) u d (k+1) true true (some (S [32])) h3 hs hq hI hW hE) fun x' w=>?_
   exact wI w [xC 5 (ltT h2),xV 2 (am h1),xP 19 (cc (c:=32))]
  ·rw [hu c4] at hI hW
   refine uZ (jg (b:=b) (h:=h) (ih:=ih) (I:=I) (W:=W) u d (k+1) ib wb (some (S [c])) h3 hs hq hI hW hE) fun x' w=>?_
   exact wI w [xC 5 (ltT h2),xV 2 (am h1),xC 5 (cF c2),xC 3 (cF c3),xB 1 (GZ p1 p2),xB 3 (Qi p3 p4 p5 p6),xP 3 (cc (c:=c)),xC 1 (bF fun q=>c4 (p8 q))]
noncomputable def fX (w:List Nat):Prop:=yB w∧∀ c∈w,wq c
noncomputable def wr (w:List Nat):List Nat:=if w=[]∨32∈w then [98,114,97,99,101] else [110,111,110,101]
theorem Ey {w:List Nat}{h:Bool}(ok:fX w):lH [S w,.bool h] (.ok (S (wr w))):=by
 cases w with
 | nil =>
  have q:wr []=[98,114,97,99,101]:=if_pos (.inl rfl)
  rw [q]
  exact goP [] rfl rfl
 | cons c u =>
  obtain ⟨⟨p1,p2,p3,p4,p5,p6,p7⟩,p8⟩:=ok.2 c (.head _)
  have ml:=fun I ib (e:(ib||(c::u).contains 32)=I)=>jg (b:=[c]) (h:=h) (ih:=false) (t:=c::u) (c::u) 0 0 ib ib none rfl ok.1.sc ok.2 e e rfl
  by_cases q:c=123
  ·subst q
   have e:wr (123::u)=[98,114,97,99,101]:=if_pos (.inr (Classical.byContradiction fun n=>((ok.1.br n).2 123 (.head _)).1 rfl))
   rw [e]
   refine aj (ml true true rfl) fun x' w=>?_
   cases h with
   | true=>exact goP [xS 16 w] rfl rfl
   | false=>exact goP [xS 14 w] rfl rfl
  ·by_cases q2:32∈c::u
   ·have e:wr (c::u)=[98,114,97,99,101]:=if_pos (.inr q2)
    rw [e]
    refine aj (ml true false (List.contains_iff_mem.mpr q2)) fun x' w=>?_
    cases h with
    | true=>exact goP [xB 7 (GZ q p2),xB 4 (eqF p7),xS 4 w] rfl rfl
    | false=>exact goP [xB 7 (GZ q p2),xS 7 w] rfl rfl
   ·have e:wr (c::u)=[110,111,110,101]:=if_neg (not_or.mpr ⟨nofun,q2⟩)
    rw [e]
    refine aj (ml false false (bF fun k=>q2 (List.contains_iff_mem.mp k))) fun x' w=>?_
    cases h with
    | true=>exact goP [xB 7 (GZ q p2),xB 4 (eqF p7),xS 4 w] rfl rfl
    | false=>exact goP [xB 7 (GZ q p2),xS 7 w] rfl rfl
theorem B3 {w:List Nat}{h:Bool}(hl:w.length≤1000) (ok:fX w):rW [S w,.bool h] (.ok (S (enc w))):=by
 have hm:=Ey (h:=h) ok
 unfold wr at hm
 unfold enc
 split <;> rename_i q
 ·rw [if_pos q] at hm
  have a1:=ub (a:=[123]) (b:=w) (Nat.le_trans (Nat.add_le_add_left hl 1) (by decide))
  have a2:=ub (a:=[123]++w) (b:=[125]) (Nat.le_trans (Nat.add_le_add_right (Nat.le_trans (Nat.le_of_eq (List.length_append)) (Nat.add_le_add_left hl 1)) 1) (by decide))
  exact goP [xP 2 hm,xV 9 a1,xV 0 a2] rfl rfl
 ·rw [if_neg q] at hm
  exact goP [xP 2 hm] rfl rfl
theorem yC (w:List Nat):(enc w).length≤w.length+2:=by
 unfold enc
 split
 ·rw [List.length_cons,List.length_append]; exact Nat.le_refl _
 ·exact Nat.le_add_right ..
theorem yD:∀ {ws:List (List Nat)},((ws.map enc).map (·.length)).sum≤((ws.map (·.length)).sum+2*ws.length)
 | []=>Nat.le_refl _
 | w::ws=>by
  have h1:=yD (ws:=ws)
  have h2:=yC w
  simp only [List.map_cons,List.sum_cons,List.length_cons] at h1 ⊢
  exact Nat.le_trans (Nat.add_le_add h2 h1) (Nat.le_of_eq (by rw [Nat.mul_succ,Nat.add_add_add_comm,Nat.add_comm 2]))
theorem Au {ws:List (List Nat)}(hn:ws.length≤1000) (hs:(ws.map (·.length)).sum≤10000):eQ .join (S [32]) [.lst ((ws.map enc).map S)]=some (S (cg [32] (ws.map enc))):=pW (by
 have h1:=yD (ws:=ws)
 rw [List.length_map,List.length_singleton,Nat.mul_one]
 exact Nat.le_trans (Nat.add_le_add h1 hn) (Nat.le_trans (Nat.add_le_add_right (Nat.add_le_add hs (Nat.mul_le_mul_left 2 hn)) 1000) (by decide)))
noncomputable abbrev joF:=fR kZ 7 (at_ iI.body 1)
theorem wu {L:V}:∀ (ws o:List (List Nat)) (x:Option V),(∀ w∈ws,fX w∧w.length≤1000)→o.length+ws.length≤big →
  ∃ x',joF (ws.map S) [some L,some (.ref 0),x] [.list (o.map S)] .next [some L,some (.ref 0),x'] [.list ((o++ws.map enc).map S)]
 | [],o,x,h,hO=>⟨x,by rw [List.map_nil (f:=enc),List.append_nil]; exact fN⟩
 | w::ws,o,x,h,hO=>by
  rw [List.length_cons,← Nat.add_assoc,Nat.add_right_comm] at hO
  have ih:=wu (L:=L) ws (o++[enc w]) (some (S w)) (fun w hw=>h w (.tail _ hw)) (by rw [List.length_append]; exact hO)
  rw [List.append_assoc,List.map_append] at ih
  refine aj ih fun x' ih=>ar (h w (.head _)) fun h1 h2=>⟨x',?_⟩
  have ap:=bf (G:=[.list (o.map S)]) (i:=0) (v:=S (enc w)) rfl (by rw [List.length_map]; exact Nat.le_trans (Nat.le_add_right ..) hO)
  exact fI ih [xP 5 (B3 h2 h1 (h:=((o.map S).length:Int)==0)),xH 0 ap]
theorem ui {ws:List (List Nat)}(h:∀ w∈ws,fX w∧w.length≤1000) (hn:ws.length≤1000) (hs:(ws.map (·.length)).sum≤10000) :
  iJ [.lst (ws.map S)] (.ok (S (cg [32] (ws.map enc)))):=by
 refine aj (wu (L:=.lst (ws.map S)) ws [] none h (by rw [List.length_nil,Nat.zero_add]; exact Nat.le_trans hn (by decide))) fun x' ih=>?_
 have pv:=a8 (f:=S) (fun _=>rfl) ws
 exact goP [xS 2 ih,xV 2 (Au hn hs)] (by rw [V.puL,V.pu,pv]; rfl) rfl
theorem KH {c:Nat}{l:List Nat}:aF [] .In (S [c]) (S l)=some (decide (c∈l)):=congrArg some (found_one ⟨⟨l⟩⟩ c)
theorem Oh {c:Nat}{l:List Nat}:aF [] .NotIn (S [c]) (S l)=some (!decide (c∈l)):=congrArg (fun b=>some (!b)) (found_one ⟨⟨l⟩⟩ c)
noncomputable abbrev liE:=aE (sE (at_ gJ.body 0)) 0
theorem ll {ws:List (List Nat)}(h:∀ w∈ws,w.length≤1000) (hn:ws.length≤1000) (hs:(ws.map (·.length)).sum≤10000) :
  bH [.lst (ws.map S)] (.ok (S (cg [32] (ws.map enc)))):=by
 have hc:cQ (cR jx 22 liE [some (.lst (ws.map S))]) (ws.map S) [] (ws.map fun w=>S (enc w)) []:=dj ws fun w hw=>by
  have hl:=h w hw
  have a1:=ub (a:=[123]) (b:=w) (Nat.le_trans (Nat.add_le_add_left hl 1) (by decide))
  have a2:=ub (a:=[123]++w) (b:=[125]) (Nat.le_trans (Nat.add_le_add_right (Nat.le_trans (Nat.le_of_eq (List.length_append)) (Nat.add_le_add_left hl 1)) 1) (by decide))
  unfold enc
  generalize (ws.map S)=L
  by_cases q:w=[]
  ·subst q
   rw [if_pos (.inl rfl)]
   exact goC []
  ·have e1:=(Es w []).trans (decide_eq_false q)
   by_cases q2:32∈w
   ·rw [if_pos (.inr q2)]
    exact goC [xC 3 e1,xB 1 (KH (c:=32) (l:=w)),xC 1 (dT q2),xV 1 a1,xV 0 a2]
   ·rw [if_neg (not_or.mpr ⟨q,q2⟩)]
    exact goC [xC 3 e1,xB 1 (KH (c:=32) (l:=w)),xC 1 (dF q2)]
 have hj:=Au hn hs
 rw [List.map_map] at hj
 have pv:=a8 (f:=S) (fun _=>rfl) ws
 exact goP [xQ 2 hc,xV 0 hj] (by rw [V.puL,V.pu,pv]; rfl) rfl
structure Wo where
 t:List Nat
 n:Option Int
noncomputable def mH:Option Int→V
 | none=>.none
 | some i=>.int i
noncomputable def Wo.v (w:Wo):V:=.tup [S w.t,mH w.n]
noncomputable def bl (g:List Wo):List Nat:=if g.length=1 then (g.headD ⟨[],none⟩).t else cg [32] (g.map fun w=>enc w.t)
theorem pY {α:Type}{f:α→Nat}{B:Nat}:∀ {l:List α},(∀ x∈l,f x≤B)→(l.map f).sum≤l.length*B
 | [],_=>Nat.zero_le _
 | a::l,h=>by
  rw [List.map_cons,List.sum_cons,List.length_cons,Nat.add_mul,Nat.one_mul,Nat.add_comm]
  exact Nat.add_le_add (pY fun x hx=>h x (.tail _ hx)) (h a (.head _))
theorem G0 (n:Option Int):(mH n).pu=true:=by cases n <;> rfl
theorem oi (w:Wo):w.v.pu=true:=by rw [Wo.v,V.pu,V.puL,V.puL,G0]; rfl
noncomputable abbrev itE:=aE (aE (sE (at_ jz.body 0)) 2) 0
theorem ww {g:List Wo}(h:∀ w∈g,w.t.length≤1000) (hn:g.length≤5):fL [.lst (g.map Wo.v)] (.ok (S (bl g))):=by
 have pv:=a8 oi g
 by_cases q:g.length=1
 ·obtain ⟨w,rfl⟩:=List.length_eq_one_iff.mp q
  exact goP [] (by rw [V.puL,V.pu,pv]; rfl) rfl
 ·have hl:=ll (ws:=g.map (·.t)) (by intro w hw; exact ae (List.mem_map.mp hw) fun a ha e=>e ▸ h a ha) (by rw [List.length_map]; exact Nat.le_trans hn (by decide)) (by
   rw [List.map_map]; exact Nat.le_trans (pY h) (Nat.le_trans (Nat.mul_le_mul_right _ hn) (by decide)))
  rw [List.map_map,List.map_map] at hl
  have hc:cQ (cR mz 21 itE [some (.lst (g.map Wo.v))]) (g.map Wo.v) [] (g.map fun w=>S w.t) []:=dj g fun w hw=>by
   generalize (g.map Wo.v)=L
   exact goC []
  have e:bl g=cg [32] (g.map fun w=>enc w.t):=if_neg q
  rw [e]
  have q':=nF (b:=1) (mt (List.length_map (as:=g) Wo.v).symm.trans q)
  exact goP [xC 4 q',xQ 2 hc,xP 0 hl] (by rw [V.puL,V.pu,pv]; rfl) rfl
theorem gR {th:Bool}{cx:Cx}{d:Fd}{vs:List V}{r:Res}(e:xD th cx d vs=some r:=by kernel_rfl):fnP th cx d vs r:=CT vs r e
noncomputable def B4 (c:Nat):Bool:=c != 93&&c != 34&&c != 91&&c != 36&&c != 59&&c != 92&&c != 35&&(!c6 c||c==32)
theorem bN {b:Bool}(h:(!b)=true):b=false:=by cases b <;> first | rfl | exact h.symm
theorem neB {a b:Nat}(h:(a != b)=true):a≠b:=bne_iff_ne.mp h
theorem oj {c:Nat}(h:B4 c=true):wq c:=by
 simp only [B4,Bool.and_eq_true] at h
 obtain ⟨⟨⟨⟨⟨⟨⟨a,b⟩,d⟩,e⟩,f⟩,g⟩,i⟩,k⟩:=h
 exact ⟨⟨neB a,neB b,neB d,neB e,neB f,neB g,neB i⟩,fun q=>by rw [q] at k; exact eq_of_beq k⟩
noncomputable def Oi (w:List Nat):Bool:=w.all fun c=>(!c6 c&&c != 92)&&(c != 123&&c != 34)
noncomputable def yE (w:List Nat):Bool:=(iy 0 w&&w.all B4)&&(w.contains 32||Oi w)
theorem wx {w:List Nat}(h:yE w=true):fX w:=by
 obtain ⟨h,c⟩:=an h
 refine ⟨⟨(an h).1,fun q=>?_⟩,fun c hc=>oj (List.all_eq_true.mp (an h).2 c hc)⟩
 rw [bF fun k=>q (List.contains_iff_mem.mp k)] at c
 have c:=List.all_eq_true.mp c
 exact ⟨fun d hd=>ar (an (an (c d hd)).1) fun a b=>⟨bN a,neB b⟩,fun d hd=>ar (an (an (c d hd)).2) fun a b=>⟨neB a,neB b⟩⟩
noncomputable def bv:List Nat:=[97,65,98,66,49,57,233,201,95,42]
noncomputable def bV:List (List Nat):=[]::(bv.map fun a=>[a])++bv.flatMap fun a=>bv.map fun b=>[a,b]
noncomputable def bT:List Wo:=[⟨[49],some 1⟩,⟨[48,49],some 1⟩,⟨[48,120,49],some 1⟩,⟨[45,49],some (-1)⟩,⟨[49,48],some 10⟩,⟨[57],some 9⟩,⟨[32,57],some 9⟩,⟨[48,66,49,49],some 3⟩,⟨[43,51],some 3⟩,⟨[45,48,111,55],some (-7)⟩,
 ⟨[49,49,56,48,53,57,49,54,50,48,55,49,55,52,49,49,51,48,51,52,50,52],some 1180591620717411303424⟩,⟨[48,88,102,70],some 255⟩,⟨[49,120],none⟩]
noncomputable def dom (mode:Nat):List Wo:=if mode=2 then bT else bV.map fun t=>⟨t,none⟩
noncomputable def G3:List (List Nat):=bT.map (·.t)++bV
theorem B5:G3.all (fun w=>yE w&&Nat.ble w.length 22)=true:=by kernel_rfl
theorem lI {mode:Nat}{w:Wo}(h:w∈dom mode):w.t∈G3:=by
 unfold dom at h
 split at h
 ·exact List.mem_append_left _ (List.mem_map_of_mem h)
 ·exact ae (List.mem_map.mp h) fun t ht e=>e ▸ List.mem_append_right _ ht
theorem dx {mode:Nat}{w:Wo}(h:w∈dom mode):fX w.t∧w.t.length≤22:=ar (an (List.all_eq_true.mp B5 _ (lI h))) fun a b=>⟨wx a,aX b⟩
theorem wy (d c:Nat) (r:List Nat):iy d (c::r)=if c=92 then false else if c=123 then iy (d+1) r else if c=125 then (match d with | 0=>false | d+1=>iy d r) else iy d r:=rfl
theorem gn {b:List Nat}{d:Nat}:∀ {a:List Nat}{e:Nat},iy e a=true→iy (e+d) (a++b)=iy d b
 | [],e,h=>by
  obtain rfl:e=0:=of_decide_eq_true h
  rw [Nat.zero_add]; rfl
 | c::a,e,h=>by
  rw [wy] at h
  rw [List.cons_append,wy]
  split at h
  ·exact ff h
  rename_i c1
  rw [if_neg c1]
  split at h
  ·rename_i c2
   rw [if_pos c2,Nat.add_right_comm]
   exact gn h
  ·rename_i c2
   rw [if_neg c2]
   split at h
   ·rename_i c3
    rw [if_pos c3]
    cases e with
    | zero=>exact ff h
    | succ e =>
     rw [Nat.add_right_comm]
     exact gn h
   ·rename_i c3
    rw [if_neg c3,gn h]
theorem Av {w r:List Nat}(h:iy 0 w=true):iy 0 (enc w++r)=iy 0 r:=by
 unfold enc
 split
 ·have:=gn (a:=w) (e:=0) (d:=1) (b:=125::r) h
  rw [Nat.zero_add] at this
  show iy 1 (w++[125]++r)=_
  rw [List.append_assoc]
  exact this
 ·exact gn (a:=w) (e:=0) (d:=0) (b:=r) h
theorem wz {w:List Nat}(h:∀ c∈w,wq c):∀ c∈enc w,wq c:=by
 intro c hc
 unfold enc at hc
 split at hc
 ·rcases List.mem_cons.mp hc with e | hc
  ·exact e ▸ oj rfl
  ·rcases List.mem_append.mp hc with hc | hc
   ·exact h c hc
   ·exact List.mem_singleton.mp hc ▸ oj rfl
 ·exact h c hc
theorem B6 {a b:List Nat}(ha:fX a) (hb:fX b):fX (enc a++[32]++enc b):=by
 have h2:=Av (r:=[]) hb.1.sc
 rw [List.append_nil] at h2
 rw [List.append_assoc]
 refine ⟨⟨(Av ha.1.sc).trans h2,fun h=>absurd (List.mem_append_right _ (.head _)) h⟩,fun c hc=>?_⟩
 rcases List.mem_append.mp hc with hc | hc
 ·exact wz ha.2 c hc
 ·rcases List.mem_cons.mp hc with e | hc
  ·exact e ▸ oj rfl
  ·exact wz hb.2 c hc
noncomputable def iq (sh:Nat):V:=.lst (if sh=0 then [] else if sh=1 then [S [48]] else [S [101,110,100]])
noncomputable def aN (sh:Nat) (g:List Wo):Wo:=if sh=2 then g.getLastD ⟨[],none⟩ else g.headD ⟨[],none⟩
structure Grp (mode sh:Nat) (g:List Wo):Prop where
 w:∀ x∈g,x∈dom mode
 n:g.length=if sh=0 then 1 else 2
theorem Grp.el {mode sh:Nat}{g:List Wo}{P:Prop}(h:Grp mode sh g) (k1:∀ a,sh=0→a∈dom mode→g=[a]→P) (k2:∀ a b,sh≠0→a∈dom mode→b∈dom mode→g=[a,b]→P):P:=by
 obtain ⟨w,n⟩:=h
 by_cases q:sh=0
 ·rw [if_pos q] at n
  exact aj (List.length_eq_one_iff.mp n) fun a e=>k1 a q (w a (e ▸ .head _)) e
 ·rw [if_neg q] at n
  refine sq (List.exists_cons_of_length_eq_add_one n) fun a t e=>?_
  subst e
  refine aj (List.length_eq_one_iff.mp (Nat.succ.inj n)) fun b e=>?_
  subst e
  exact k2 a b q (w a (.head _)) (w b (.tail _ (.head _))) rfl
theorem Grp.plain {mode sh:Nat}{g:List Wo}(h:Grp mode sh g):fX (bl g)∧(bl g).length≤100 :=
 h.el (fun a _ ha e=>by subst e; exact ar (dx ha) fun h1 h2=>⟨h1,Nat.le_trans h2 (by decide)⟩) fun a b _ ha hb e=>by
  subst e
  refine ar (dx ha) fun h1 h2=>ar (dx hb) fun h3 h4=>⟨B6 h1 h3,?_⟩
  show (enc a.t++[32]++enc b.t).length≤100
  rw [List.length_append,List.length_append]
  exact Nat.le_trans (Nat.add_le_add (Nat.add_le_add (Nat.le_trans (yC _) (Nat.add_le_add_right h2 2)) (Nat.le_refl 1)) (Nat.le_trans (yC _) (Nat.add_le_add_right h4 2))) (by decide)
theorem jh {mode sh:Nat}{g:List Wo}(h:Grp mode sh g) (hs:sh<3):eq [S (bl g),iq sh] (.ok (S (aN sh g).t)) :=
 h.el (fun a q ha e=>by
  subst q e
  exact goP [] rfl rfl (by kernel_rfl)) fun a b q ha hb e=>by
  have hsp:=uh (t:=bl g) [a.t,b.t] (Nat.le_trans h.plain.2 (by decide)) (by subst e; rfl) fun w hw=>(List.mem_cons.mp hw).elim (fun e=>e ▸ (dx ha).1.1) fun hw=>List.mem_singleton.mp hw ▸ (dx hb).1.1
  subst e
  rcases Nat.lt_or_ge sh 2 with q2 | q2
  ·obtain rfl:sh=1:=Nat.le_antisymm (Nat.le_of_lt_succ q2) (Nat.pos_of_ne_zero q)
   have f:fR lE 7 (at_ ja.body 0) [S [48]] [some (S (bl [a,b])),some (iq 1),none,none,none,none,none] [] .next [some (S a.t),some (iq 1),some (S [48]),some (.lst [S a.t,S b.t]),some (.int 1),some (.int 0),none] []:=by
    exact fE [xP 1 hsp]
   exact goP [xS 2 f] rfl rfl
  ·obtain rfl:sh=2:=Nat.le_antisymm (Nat.le_of_lt_succ hs) q2
   have f:fR lE 7 (at_ ja.body 0) [S [101,110,100]] [some (S (bl [a,b])),some (iq 2),none,none,none,none,none] [] .next [some (S b.t),some (iq 2),some (S [101,110,100]),some (.lst [S a.t,S b.t]),some (.int 1),some (.int 1),none] []:=by
    exact fE [xP 1 hsp]
   exact goP [xS 2 f] rfl rfl
noncomputable def Aw (a b:Int):Int:=if a<b then -1 else if b<a then 1 else 0
noncomputable def vg (a b:List Nat):Int:=if a<b then -1 else if b<a then 1 else 0
theorem yF {a b:Int}:bJ [.int a,.int b] (.ok (.int (Aw a b))):=by
 unfold Aw
 split <;> rename_i h
 ·exact goP [xC 4 (dT h)] rfl rfl
 ·split <;> rename_i h'
  ·exact goP [xC 4 (dF h),xC 4 (dT h')] rfl rfl
  ·exact goP [xC 4 (dF h),xC 4 (dF h')] rfl rfl
theorem yG {a b:List Nat}:bJ [S a,S b] (.ok (.int (vg a b))):=by
 unfold vg
 split <;> rename_i h
 ·exact goP [xC 4 (dT h)] rfl rfl
 ·split <;> rename_i h'
  ·exact goP [xC 4 (dF h),xC 4 (dT h')] rfl rfl
  ·exact goP [xC 4 (dF h),xC 4 (dF h')] rfl rfl
theorem seT {a b:List Nat}(h:a=b):((⟨⟨a⟩⟩:Str)==⟨⟨b⟩⟩)=true:=(Es a b).trans (dT h)
theorem seF {a b:List Nat}(h:¬ a=b):((⟨⟨a⟩⟩:Str)==⟨⟨b⟩⟩)=false:=(Es a b).trans (dF h)
noncomputable def lo (c:Nat):Nat:=if c=201 then 233 else if 65≤c∧c≤90 then c+32 else c
noncomputable def upN (c:Nat):Bool:=c==201||(Nat.ble 65 c&&Nat.ble c 90)
noncomputable def lwN (c:Nat):Bool:=c==233||(Nat.ble 97 c&&Nat.ble c 122)
noncomputable def chs:List Nat:=[32,42,43,45,48,49,50,51,52,53,54,55,56,57,63,65,66,70,88,91,92,93,95,97,98,102,111,120,201,233]
theorem JG:chs.all (fun c=>(Txt.lower ⟨⟨[c]⟩⟩==⟨⟨[lo c]⟩⟩)&&((Txt.isupper ⟨⟨[c]⟩⟩==upN c)&&(Txt.islower ⟨⟨[c]⟩⟩==lwN c)))=true:=by kernel_rfl
theorem uj {c:Nat}(h:c∈chs):Txt.lower ⟨⟨[c]⟩⟩=⟨⟨[lo c]⟩⟩∧Txt.isupper ⟨⟨[c]⟩⟩=upN c∧Txt.islower ⟨⟨[c]⟩⟩=lwN c :=
 ar (an (List.all_eq_true.mp JG c h)) fun a b=>⟨eq_of_beq a,eq_of_beq (an b).1,eq_of_beq (an b).2⟩
theorem rX {c:Nat}(h:c∈chs):eQ .lower (S [c]) []=some (S [lo c]) :=
 have e:=(uj h).1
 (congrArg Cv.v (fx (by rw [e]; rfl))).trans (congrArg (fun x=>some (V.str x)) e)
theorem Qj {c:Nat}(h:c∈chs):eQ .isupper (S [c]) []=some (.bool (upN c)):=congrArg (fun x=>some (V.bool x)) (uj h).2.1
theorem Pj {c:Nat}(h:c∈chs):eQ .islower (S [c]) []=some (.bool (lwN c)):=congrArg (fun x=>some (V.bool x)) (uj h).2.2
noncomputable abbrev foF:=fR tK 7 (at_ nV.body 1)
theorem wA {L:V}{O:List Nat}:∀ (l o:List Nat) (x y:Option V),(∀ c∈l,c∈chs)→o.length+l.length≤big→o++l.map lo=O →
  ∃ x' y',foF (l.map fun c=>S [c]) [some L,some (S o),x,y] [] .next [some L,some (S O),x',y'] []
 | [],o,x,y,hc,h,e=>⟨x,y,by rw [← e,List.map_nil (f:=lo),List.append_nil]; exact fN⟩
 | c::l,o,x,y,hc,h,e=>by
  rw [List.length_cons,← Nat.add_assoc,Nat.add_right_comm] at h
  refine Qc (wA (L:=L) (O:=O) l (o++[lo c]) (some (S [c])) (some (S [lo c])) (fun c h=>hc c (.tail _ h)) (by rw [List.length_append]; exact h) (by rw [List.append_assoc]; exact e)) fun x' y' ih=>?_
  exact fI ih [xV 1 (rX (hc c (.head _))),xV 7 (JF (a:=o) (b:=[lo c]) (Nat.le_trans (Nat.le_add_right ..) h))]
theorem iL {l:List Nat}(hc:∀ c∈l,c∈chs) (h:l.length≤big):kN [S l] (.ok (S (l.map lo))):=by
 refine sq (wA (L:=S l) (O:=l.map lo) l [] none none hc (by rw [List.length_nil,Nat.zero_add]; exact h) rfl) fun x' y' ih=>?_
 exact goP [xS 2 ih] rfl rfl
theorem yH {a b:List Nat}(ha:∀ c∈a,c∈chs) (hb:∀ c∈b,c∈chs) (la:a.length≤big) (lb:b.length≤big) :
  lF [S a,S b,.bool true,.int (a.length+b.length:Nat)] (.ok (.int (vg (a.map lo) (b.map lo)))):=by
 have t1:=ud (l:=a) (i:=a.length+b.length)
 have t2:=ud (l:=b) (i:=a.length+b.length)
 rw [List.take_of_length_le (Nat.le_add_right ..)] at t1
 rw [List.take_of_length_le (Nat.le_add_left ..)] at t2
 have f1:=iL ha la
 have f2:=iL hb lb
 generalize a.length+b.length=n at *
 generalize a.map lo=a' at *
 generalize b.map lo=b' at *
 unfold vg
 split <;> rename_i q
 ·exact goP [xV 6 t1,xV 2 t2,xP 4 f1,xP 1 f2,xC 4 (seF fun e:a'=b'=>List.lt_irrefl b' (e ▸ q)),xC 4 (dT q)] rfl rfl
 ·split <;> rename_i q2
  ·exact goP [xV 6 t1,xV 2 t2,xP 4 f1,xP 1 f2,xC 4 (seF fun e:a'=b'=>List.lt_irrefl b' (e ▸ q2)),xC 4 (dF q)] rfl rfl
  ·obtain rfl:=List.le_antisymm (List.not_lt.mp q2) (List.not_lt.mp q)
   exact goP [xV 6 t1,xV 2 t2,xP 4 f1,xP 1 f2,xC 4 (seT (a:=a') rfl)] rfl rfl
noncomputable def B7 (c:Nat):Bool:=Nat.ble 48 c&&Nat.ble c 57
noncomputable def G4 (c d:Nat):Int:=if upN c&&lwN d then -1 else if lwN c&&upN d then 1 else 0
theorem Ez {c d:Nat}(hc:c∈chs) (hd:d∈chs):fb [S [c],S [d]] (.ok (.int (G4 c d))):=by
 have a1:=(uj hc).2.1
 have a2:=(uj hd).2.1
 have b1:=(uj hc).2.2
 have b2:=(uj hd).2.2
 unfold G4
 generalize upN c=u1 at *
 generalize upN d=u2 at *
 generalize lwN c=l1 at *
 generalize lwN d=l2 at *
 cases u1 with
 | true=>cases l2 with
  | true=>exact goP [xC 3 a1,xC 3 b2] rfl rfl
  | false=>cases l1 with
   | true=>cases u2 with
    | true=>exact goP [xC 3 a1,xC 3 b2,xC 3 b1,xC 3 a2] rfl rfl
    | false=>exact goP [xC 3 a1,xC 3 b2,xC 3 b1,xC 3 a2] rfl rfl
   | false=>exact goP [xC 3 a1,xC 3 b2,xC 3 b1,xC 1 b1] rfl rfl
 | false=>cases l1 with
  | true=>cases u2 with
   | true=>exact goP [xC 3 a1,xC 1 a1,xC 3 b1,xC 3 a2] rfl rfl
   | false=>exact goP [xC 3 a1,xC 1 a1,xC 3 b1,xC 3 a2] rfl rfl
  | false=>exact goP [xC 3 a1,xC 1 a1,xC 3 b1,xC 1 b1] rfl rfl
noncomputable abbrev dbW:=wR gA 7 (at_ dP.body 0)
theorem pZ {x y:Nat}(h:x≤y):(!d8 ⟨⟨[y]⟩⟩ ⟨⟨[x]⟩⟩)=true:=nB (dF fun k=>Nat.not_lt.mpr h (Oc.mp k))
theorem om {x y:Nat}(h:y<x):(!d8 ⟨⟨[y]⟩⟩ ⟨⟨[x]⟩⟩)=false:=nB (dT (Oc.mpr h))
theorem Ax {t r:List Nat}{E:Nat}(hr:∀ c,r.head? = some c→B7 c=false):∀ (u:List Nat) (k:Nat),t.drop k=u++r→(∀ c∈u,B7 c=true)→k+u.length=E →
  Wh dbW [some (S t),some (.int k)] [] .next [some (S t),some (.int E)] []
 | [],k,h,hs,e=>by
  subst e
  cases r with
  | nil =>
   have q:=drop_nil h
   exact wE [xC 5 (ltF q),xC 1 (ltF q)]
  | cons c r =>
   refine bW (aJ (t:=t) (r:=r) h) fun h1 h2 h3=>?_
   rcases Nat.lt_or_ge c 48 with q | q
   ·exact wE [xC 5 (ltT h2),xV 2 (am h1),xC 1 (om q)]
   ·have q2:57<c:=Nat.lt_of_not_le fun k=>ff ((hr c rfl).symm.trans (Bool.and_eq_true_iff.mpr ⟨eH q,eH k⟩))
    exact wE [xC 5 (ltT h2),xV 2 (am h1),xC 1 (pZ q),xC 2 (om q2)]
 | c::u,k,h,hs,e=>by
  refine bW (aJ h) fun h1 h2 h3=>ar (an (hs c (.head _))) fun g1 g2=>?_
  have ih:=Ax (E:=E) hr u (k+1) h3 (fun c hc=>hs c (.tail _ hc)) (by rw [← e,List.length_cons,Nat.add_assoc,Nat.add_comm 1])
  exact wI ih [xC 5 (ltT h2),xV 2 (am h1),xC 1 (pZ (aX g1)),xC 2 (pZ (aX g2))]
noncomputable def dg (l:List Nat):Nat:=(l.takeWhile B7).length
theorem on {t u:List Nat}{k:Nat}(h:t.drop k=u):bk [S t,.int k] (.ok (.int (k+dg u:Nat))):=by
 have w:=Ax (t:=t) (r:=u.dropWhile B7) (E:=k+dg u) (fun c hc=>by
  have:=List.head?_dropWhile_not B7 u
  rw [hc] at this
  exact bF fun k=>by simp [k] at this) (u.takeWhile B7) k (by rw [h,List.takeWhile_append_dropWhile]) (fun c hc=>List.all_eq_true.mp List.all_takeWhile c hc) rfl
 exact goP [xS 0 w] rfl rfl
theorem Ay {t:List Nat}{k b c:Nat}(e:t[k]? = some c) (hc:c≠48):bK [S t,.int k,.int b] (.ok (.int k)):=by
 have w:Wh (wR fP 7 (at_ dm.body 0)) [some (S t),some (.int k),some (.int b)] [] .next [some (S t),some (.int k),some (.int b)] []:=by
  rcases Nat.lt_or_ge (k+1) b with q | q
  ·exact wE [xC 5 (ltT q),xV 2 (am e),xC 2 (cF hc)]
  ·exact wE [xC 5 (ltF q),xC 1 (ltF q)]
 exact goP [xS 0 w] rfl rfl
section
noncomputable def lp:Nat→List Nat→List Nat→Int→Int
 | 0,_,_,_=>0
 | _+1,[],[],tie=>Aw tie 0
 | _+1,[],_::_,_=>-1
 | _+1,_::_,[],_=>1
 | f+1,c::u,d::v,tie =>
  if 0<dg (c::u)∧0<dg (d::v) then
   if Aw (dg (c::u)) (dg (d::v))=0 then
    if vg ((c::u).take (dg (c::u))) ((d::v).take (dg (d::v)))=0 then lp f ((c::u).drop (dg (c::u))) ((d::v).drop (dg (d::v))) tie else vg ((c::u).take (dg (c::u))) ((d::v).take (dg (d::v)))
   else Aw (dg (c::u)) (dg (d::v))
  else
   if vg [lo c] [lo d]=0 then lp f u v (if tie=0 then G4 c d else tie) else vg [lo c] [lo d]
noncomputable abbrev diW:=wR fc 7 (at_ dn.body 1)
noncomputable abbrev diM (a b:List Nat) (i j:Nat) (tie:Int) (y5 y6 y7 y8 y9:Option V):LV:=[some (S a),some (S b),some (.int i),some (.int j),some (.int tie),y5,y6,y7,y8,y9]
inductive JH (a b:List Nat) (r:Int):Fl→LV→Prop
 | rt:JH a b r (.ret (.int r)) []
 | nx (i j:Nat) (tie:Int) (y5 y6 y7 y8 y9:Option V) (e:r=(if i<a.length then 1 else if j<b.length then -1 else Aw tie 0)):JH a b r .next (diM a b i j tie y5 y6 y7 y8 y9)
theorem KI {i p:Nat}:cA .Sub (.int ((i+p:Nat):Int)) (.int i)=some (.int p):=congrArg (fun i=>some (V.int i)) (by rw [Int.natCast_add,Int.add_comm,Int.add_sub_cancel])
theorem KJ {i:Int}:cA .Sub (.int i) (.int i)=some (.int 0):=congrArg (fun i=>some (V.int i)) (Int.sub_self i)
noncomputable abbrev diB (i:Nat) (m:LV) (G:AH):Tr Rd:=evB (evS 7 fc) ((blk (at_ dn.body 1)).drop i) m G fun f m G=>.ok (f,m,G)
noncomputable abbrev diI (els:Bool) (i:Nat) (m:LV) (G:AH):Tr Rd:=evB (evS 6 fc) ((match at_ (blk (at_ dn.body 1)) 2 with
 | .If _ b e _=>bif els then e else b
 | _=>[]).drop i) m G fun f m G=>match f with
 | .next=>diB 3 m G
 | f=>.ok (f,m,G)
section
variable {L:Rd→Prop}{a b P Q:List Nat}{i j p q c d:Nat}{tie o o':Int}{y5 y6 y7 y8 y9:Option V}
theorem Qk (h:¬ o=0) (k:L (.ret (.int o),diM a b i j tie y5 y6 y7 y8 (some (.int o)),[])):(diB 3 (diM a b i j tie y5 y6 y7 y8 (some (.int o))) []).tt L:=by
 exact goT k [xC 3 (nB (qF h))]
theorem Ql (k:L (.next,diM a b i j tie y5 y6 y7 y8 (some (.int 0)),[])):(diB 3 (diM a b i j tie y5 y6 y7 y8 (some (.int 0))) []).tt L:=by
 exact goT k []
theorem Qm (h:i<a.length) (g:j<b.length) (d1:bk [S a,.int i] (.ok (.int (i+p:Nat)))) (d2:bk [S b,.int j] (.ok (.int (j+q:Nat)))) (hp:0<p) (hq:0<q) (n1:bK [S a,.int i,.int (i+p:Nat)] (.ok (.int i))) (n2:bK [S b,.int j,.int (j+q:Nat)] (.ok (.int j))) (t3:bJ [.int p,.int q] (.ok (.int o)))
  (k:(diI false 3 (diM a b i j tie (some (.int (i+p:Nat))) (some (.int (j+q:Nat))) (some (.int i)) (some (.int j)) (some (.int o))) []).tt L):(diW (diM a b i j tie y5 y6 y7 y8 y9) []).tt L:=by
 have b1:=ltT (Nat.lt_add_of_pos_right (n:=i) hp)
 have b2:=ltT (Nat.lt_add_of_pos_right (n:=j) hq)
 exact goK k 0 [xC 5 (ltT h),xC 5 (ltT g),xP 2 d1,xP 2 d2,xC 4 b1,xC 4 b2,xP 3 n1,xP 3 n2,xV 2 (KI (i:=i) (p:=p)),xV 2 (KI (i:=j) (p:=q)),xP 0 t3]
theorem Qn (s1:bG (S a) (some (.int i)) (some (.int (i+p:Nat))) none=some (S P)) (s2:bG (S b) (some (.int j)) (some (.int (j+q:Nat))) none=some (S Q)) (t4:bJ [S P,S Q] (.ok (.int o)))
  (k:(diI false 4 (diM a b i j tie (some (.int (i+p:Nat))) (some (.int (j+q:Nat))) (some (.int i)) (some (.int j)) (some (.int o))) []).tt L):(diI false 3 (diM a b i j tie (some (.int (i+p:Nat))) (some (.int (j+q:Nat))) (some (.int i)) (some (.int j)) (some (.int 0))) []).tt L:=by
 exact goK k 0 [xV 7 s1,xV 3 s2,xP 0 t4]
theorem Qo (h:¬ o=0) (k:(diI false 4 (diM a b i j tie y5 y6 y7 y8 (some (.int o))) []).tt L):(diI false 3 (diM a b i j tie y5 y6 y7 y8 (some (.int o))) []).tt L:=by
 exact goK k 0 [xC 3 (qF h)]
theorem Oj (k:(diB 3 (diM a b p q tie (some (.int p)) (some (.int q)) (some (.int i)) (some (.int j)) y9) []).tt L):(diI false 4 (diM a b i j tie (some (.int p)) (some (.int q)) (some (.int i)) (some (.int j)) y9) []).tt L:=by
 by_cases z:tie=0
 ·subst z
  exact goK k 3 [xV 6 (KJ (i:=i)),xV 2 (KJ (i:=j))]
 ·exact goK k 2 [xC 3 (qF z)]
theorem Qp (h:i<a.length) (g:j<b.length) (d1:bk [S a,.int i] (.ok (.int (i+p:Nat)))) (d2:bk [S b,.int j] (.ok (.int (j+q:Nat)))) (hpq:¬ (0<p∧0<q)) (i1:aG [] (S a) (.int i)=some (S [c])) (i2:aG [] (S b) (.int j)=some (S [d]))
  (k1:eQ .lower (S [c]) []=some (S [lo c])) (k2:eQ .lower (S [d]) []=some (S [lo d])) (t:bJ [S [lo c],S [lo d]] (.ok (.int o)))
  (k:(diI true 1 (diM a b i j tie (some (.int (i+p:Nat))) (some (.int (j+q:Nat))) y7 y8 (some (.int o))) []).tt L):(diW (diM a b i j tie y5 y6 y7 y8 y9) []).tt L:=by
 have k5:∀ x:Nat,bG (S [x]) none (some (.int 1)) none=some (S [x]):=fun x=>ud (l:=[x]) (i:=1)
 have k6:=k5 (lo c)
 have k7:=k5 (lo d)
 generalize lo c=c' at *
 generalize lo d=d' at *
 cases p with
 | zero=>exact goK k 0 [xC 5 (ltT h),xC 5 (ltT g),xP 2 d1,xP 2 d2,xC 4 (ltF (Nat.le_refl i)),xC 1 (ltF (Nat.le_refl i)),xV 2 i1,xV 0 k1,xV 0 k6,xV 2 i2,xV 0 k2,xV 0 k7,xP 0 t]
 | succ p=>cases q with
  | zero =>
   have b1:=ltT (Nat.lt_add_of_pos_right (n:=i) (Nat.succ_pos p))
   exact goK k 0 [xC 5 (ltT h),xC 5 (ltT g),xP 2 d1,xP 2 d2,xC 4 b1,xC 4 (ltF (Nat.le_refl j)),xV 2 i1,xV 0 k1,xV 0 k6,xV 2 i2,xV 0 k2,xV 0 k7,xP 0 t]
  | succ q=>exact absurd ⟨Nat.succ_pos p,Nat.succ_pos q⟩ hpq
theorem Qq (i1:aG [] (S a) (.int i)=some (S [c])) (i2:aG [] (S b) (.int j)=some (S [d])) (k4:fb [S [c],S [d]] (.ok (.int o')))
  (k:(diB 3 (diM a b (i+1) (j+1) (if tie=0 then o' else tie) y5 y6 y7 y8 y9) []).tt L):(diI true 1 (diM a b i j tie y5 y6 y7 y8 y9) []).tt L:=by
 by_cases z:tie=0
 ·subst z
  exact goK k 4 [xV 6 i1,xV 2 i2,xP 0 k4]
 ·rw [if_neg z] at k
  exact goK k 4 [xC 3 (qF z)]
noncomputable def DiP (a b:List Nat) (r:Int) (N:Fl→LV→AH→Prop):Prop:=∃ j:{z:Fl × LV × AH // JH a b r z.1 z.2.1∧z.2.2=[]},N j.1.1 j.1.2.1 j.1.2.2
theorem G5 {r:Int}(k:o=0→DiP a b r (Wh diW (diM a b i j tie y5 y6 y7 y8 (some (.int 0))) [])):(diB 3 (diM a b i j tie y5 y6 y7 y8 (some (.int o))) []).tt fun p=>DiP a b (if o=0 then r else o) (aft (Wh diW) p):=by
 by_cases z:o=0
 ·subst z
  exact Ql (k rfl)
 ·rw [if_neg z]
  exact Qk z ⟨⟨(.ret (.int o),[],[]),.rt,rfl⟩,rfl,rfl,rfl⟩
theorem Ok {r:Int}(s1:bG (S a) (some (.int i)) (some (.int (i+p:Nat))) none=some (S P)) (s2:bG (S b) (some (.int j)) (some (.int (j+q:Nat))) none=some (S Q)) (t4:bJ [S P,S Q] (.ok (.int o')))
  (k:DiP a b r (Wh diW (diM a b (i+p) (j+q) tie (some (.int (i+p:Nat))) (some (.int (j+q:Nat))) (some (.int i)) (some (.int j)) (some (.int 0))) [])) :
  (diI false 3 (diM a b i j tie (some (.int (i+p:Nat))) (some (.int (j+q:Nat))) (some (.int i)) (some (.int j)) (some (.int o))) []).tt fun z=>DiP a b (if o=0 then if o'=0 then r else o' else o) (aft (Wh diW) z):=by
 by_cases z:o=0
 ·subst z
  exact Qn s1 s2 t4 (Oj (G5 fun _=>k))
 ·exact Qo z (Oj (G5 fun q=>absurd q z))
end
noncomputable def DiL (a b:List Nat) (f:Nat):Prop:=∀ (u v:List Nat) (i j:Nat) (tie:Int) (x5 x6 x7 x8 x9:Option V),a.drop i=u→b.drop j=v→u.length<f→DiP a b (lp f u v tie) (Wh diW (diM a b i j tie x5 x6 x7 x8 x9) [])
section
variable {a b u v:List Nat}{f i j c d:Nat}{tie:Int}{x5 x6 x7 x8 x9:Option V}
theorem Ol (hu:a.drop i=[]) (hv:b.drop j=v):DiP a b (lp (f+1) [] v tie) (Wh diW (diM a b i j tie x5 x6 x7 x8 x9) []):=by
 have e1:=drop_nil hu
 refine ⟨⟨(.next,_,_),.nx i j tie x5 x6 x7 x8 x9 ?_,rfl⟩,wE [xC 5 (ltF e1),xC 1 (ltF e1)] (by kernel_rfl)⟩
 rw [if_neg (Nat.not_lt.mpr e1)]
 cases v with
 | nil=>rw [if_neg (Nat.not_lt.mpr (drop_nil hv))]; rfl
 | cons d v=>rw [if_pos (aJ hv).2.1]; rfl
theorem Om (hu:a.drop i=c::u) (hv:b.drop j=[]):DiP a b (lp (f+1) (c::u) [] tie) (Wh diW (diM a b i j tie x5 x6 x7 x8 x9) []) :=
 have h2:=(aJ hu).2.1
 ⟨⟨(.next,_,_),.nx i j tie x5 x6 x7 x8 x9 (if_pos h2).symm,rfl⟩,wE [xC 5 (ltT h2),xC 5 (ltF (drop_nil hv))] (by kernel_rfl)⟩
theorem On (c1:c∈chs∧c≠48) (e1:d∈chs∧d≠48) (ih:DiL a b f) (hu:a.drop i=c::u) (hv:b.drop j=d::v) (hf:u.length<f):DiP a b (lp (f+1) (c::u) (d::v) tie) (Wh diW (diM a b i j tie x5 x6 x7 x8 x9) []):=by
 refine bW (aJ hu) fun h1 h2 h3=>bW (aJ hv) fun g1 g2 g3=>Qf ?_
 by_cases hpq:0<dg (c::u)∧0<dg (d::v)
 ·have e:lp (f+1) (c::u) (d::v) tie=_:=if_pos hpq
  rw [e]
  have s1:=lj (l:=a) (i:=i) (j:=i+dg (c::u))
  have s2:=lj (l:=b) (i:=j) (j:=j+dg (d::v))
  rw [hu,Nat.add_sub_cancel_left] at s1
  rw [hv,Nat.add_sub_cancel_left] at s2
  exact Qm h2 g2 (on hu) (on hv) hpq.1 hpq.2 (Ay h1 c1.2) (Ay g1 e1.2) yF (Ok s1 s2 yG (ih _ _ _ _ _ _ _ _ _ _ (by rw [← List.drop_drop,hu]) (by rw [← List.drop_drop,hv]) (by rw [List.length_drop]; exact Nat.lt_of_le_of_lt (Nat.sub_le_sub_left hpq.1 _) hf)))
 ·have e:lp (f+1) (c::u) (d::v) tie=_:=if_neg hpq
  rw [e]
  exact Qp h2 g2 (on hu) (on hv) hpq (am h1) (am g1) (rX c1.1) (rX e1.1) yG (Qq (am h1) (am g1) (Ez c1.1 e1.1) (G5 fun _=>ih _ _ _ _ _ _ _ _ _ _ h3 g3 hf))
end
theorem EA {a b:List Nat}(ha:∀ c∈a,c∈chs∧c≠48) (hb:∀ c∈b,c∈chs∧c≠48) (f:Nat):DiL a b f:=by
 induction f with
 | zero=>exact fun _ _ _ _ _ _ _ _ _ _ _ _ h=>absurd h (Nat.not_lt_zero _)
 | succ f ih =>
  intro u v i j tie x5 x6 x7 x8 x9 hu hv hf
  cases u with
  | nil=>exact Ol hu hv
  | cons c u=>cases v with
   | nil=>exact Om hu hv
   | cons d v=>exact On (ha c (List.mem_of_getElem? (aJ hu).1)) (hb d (List.mem_of_getElem? (aJ hv).1)) ih hu hv (Nat.lt_of_succ_lt_succ hf)
theorem EB {a b:List Nat}(ha:∀ c∈a,c∈chs∧c≠48) (hb:∀ c∈b,c∈chs∧c≠48):gL [S a,S b] (.ok (.int (lp (a.length+1) a b 0))):=by
 refine je (EA ha hb (a.length+1) a b 0 0 0 none none none none none rfl rfl (Nat.lt_succ_self _)) fun g m G hE w=>?_
 obtain rfl:G=[]:=hE.2
 replace hE:JH a b _ g m:=hE.1
 generalize lp (a.length+1) a b 0=r at *
 cases hE with
 | rt=>exact goP [xS 0 w] rfl rfl
 | nx i j tie y5 y6 y7 y8 y9 e =>
  by_cases q:i<a.length
  ·rw [if_pos q] at e
   subst e
   exact goP [xS 0 w,xC 5 (ltT q)] rfl rfl
  ·rw [if_neg q] at e
   by_cases q2:j<b.length
   ·rw [if_pos q2] at e
    subst e
    exact goP [xS 0 w,xC 5 (ltF (Nat.not_lt.mp q)),xC 5 (ltT q2)] rfl rfl
   ·rw [if_neg q2] at e
    subst e
    exact goP [xS 0 w,xC 5 (ltF (Nat.not_lt.mp q)),xC 5 (ltF (Nat.not_lt.mp q2)),xP 1 (yF (a:=tie) (b:=0))] rfl rfl
end
noncomputable def EC:Nat→List Nat→List Int × List Int
 | 0,_=>([],[])
 | _+1,[]=>([],[])
 | f+1,c::u=>if B7 c then (48::((((c::u).take (dg (c::u))).foldl (fun n d=>10*n+(d - 48)) 0:Nat):Int)::(EC f ((c::u).drop (dg (c::u)))).1,0::(EC f ((c::u).drop (dg (c::u)))).2)
  else ((lo c:Int)::0::(EC f u).1,(if upN c then 0 else 1)::(EC f u).2)
noncomputable def lJ (t:List Nat):List Int:=(EC (t.length+1) t).1++-1::(EC (t.length+1) t).2
noncomputable def cK (mode:Nat) (nc:Bool) (w:Wo):List Int :=
 if mode=2 then [w.n.getD 0] else if mode=1 then lJ w.t else w.t.map fun c=>if nc then (lo c:Int) else (c:Int)
noncomputable def cL:List Int→List Int→Int
 | [],[]=>0
 | [],_::_=>-1
 | _::_,[]=>1
 | a::as,b::bs=>if a=b then cL as bs else if a<b then -1 else 1
theorem wB:∀ {vs:List V}{l:List Int},eM vs=some l→vs=l.map .int
 | [],l,h=>sj h ▸ rfl
 | v::vs,l,h=>by
  cases v with
  | int i=>exact gj h fun r hr e=>by rw [← e,wB hr]; rfl
  | _=>exact nS h
noncomputable def isL (l:List Int):Option Res→Bool
 | some (.ok (.lst vs))=>eM vs==some l
 | _=>false
theorem uk {l:List Int}{r:Option Res}(h:isL l r=true):r=some (.ok (.lst (l.map .int))):=by
 unfold isL at h
 split at h
 ·rw [wB (eq_of_beq h)]
 ·exact ff h
theorem ED:bV.all (fun t=>isL (lJ t) (xD false fQ dp [S t]))=true:=by kernel_rfl
theorem B8 {t:List Nat}(h:t∈bV):dq [S t] (.ok (.lst ((lJ t).map .int))):=gR (uk (List.all_eq_true.mp ED t h))
theorem B9:(bV.all fun a=>bV.all fun b=>lp (a.length+1) a b 0==cL (lJ a) (lJ b))=true:=by kernel_rfl
theorem EE:bV.all (fun a=>Nat.ble a.length 2&&a.all fun c=>chs.contains c&&c != 48)=true:=by kernel_rfl
theorem ji {a:List Nat}(h:a∈bV):a.length≤2∧∀ c∈a,c∈chs∧c≠48 :=
 ar (an (List.all_eq_true.mp EE a h)) fun p q=>⟨aX p,fun c hc=>ar (an (List.all_eq_true.mp q c hc)) fun r s=>⟨List.contains_iff_mem.mp r,neB s⟩⟩
theorem Qr {a b:Nat}:nA [] ⟨⟨[109,105,110]⟩⟩ [.int a,.int b]=some (.int (min a b:Nat)):=congrArg (fun i=>some (V.int i)) (by show (if (b:Int)<a then (b:Int) else a)=_; split <;> lia)
theorem bR {a b:Nat}(hb:b≤big) (ha:a≤big):lT (.rng a b)=some ((List.range' a (b - a)).map fun i=>.int (i:Nat)):=by
 have e:CP a b=true:=Bool.and_eq_true_iff.mpr ⟨Bool.and_eq_true_iff.mpr ⟨eH (Nat.le_trans ha (by decide)),eH (Nat.le_trans hb (by decide))⟩,eH (by rw [Int.toNat_sub]; exact Nat.le_trans (Nat.sub_le ..) hb)⟩
 have h:(cV a b).map V.int=(List.range' a (b - a)).map fun i=>.int (i:Nat):=by
  unfold cV
  rw [Int.toNat_sub,List.map_map,List.range'_eq_map_range,List.map_map]
  rfl
 exact (congrArg Cv.v (fx e)).trans (congrArg some h)
noncomputable def fw (mode:Nat):List Nat:=if mode=0 then [97,115,99,105,105] else if mode=1 then [100,105,99,116,105,111,110,97,114,121] else [105,110,116,101,103,101,114]
noncomputable def fy (mode:Nat) (w:Wo):V:=if mode=2 then .int (w.n.getD 0) else S w.t
structure cw (mode:Nat) (w:Wo):Prop where
 d:w∈dom mode
 k:mode=2→w.n.isSome=true
theorem dy {mode:Nat}{w:Wo}(h:w∈dom mode) (hm:mode≠2):w.t∈bV∧w.n=none:=by
 unfold dom at h
 rw [if_neg hm] at h
 exact ae (List.mem_map.mp h) fun t ht e=>e ▸ ⟨ht,rfl⟩
noncomputable def isN (i:Int):Option Res→Bool
 | some (.ok (.int j))=>i==j
 | _=>false
theorem Ml {i:Int}{r:Option Res}(h:isN i r=true):r=some (.ok (.int i)):=by
 unfold isN at h
 split at h
 ·rw [eq_of_beq h]
 ·exact ff h
theorem JI:(bT.all fun w=>w.n.isNone||isN (w.n.getD 0) (xD false tF nQ [S (fw 2),S w.t]))=true:=by kernel_rfl
theorem tri {m:Nat}{P:Prop}(h:m<3) (k0:m=0→P) (k1:m=1→P) (k2:m=2→P):P :=
 match m,h,k0,k1,k2 with
 | 0,_,k,_,_=>k rfl
 | 1,_,_,k,_=>k rfl
 | 2,_,_,_,k=>k rfl
theorem lq {mode:Nat}{w:Wo}(h:cw mode w) (hm:mode<3):cE [S (fw mode),S w.t] (.ok (fy mode w)) :=
 tri hm (fun e=>by subst e; exact goP [] rfl rfl (by kernel_rfl)) (fun e=>by subst e; exact goP [] rfl rfl (by kernel_rfl)) fun e=>by
  subst e
  have k:=List.all_eq_true.mp JI w h.d
  rw [Option.isNone_eq_false_iff.mpr (h.k rfl)] at k
  exact gR (Ml k)
noncomputable def bu:V:=.tup ([[84,67,76],[86,65,76,85,69],[78,85,77,66,69,82]].map S)
noncomputable def cf (t:List Nat):List Nat:=[101,120,112,101,99,116,101,100,32,105,110,116,101,103,101,114,32,98,117,116,32,103,111,116,32,34]++t++[34]
noncomputable def Az:List Str:=[⟨⟨[99,111,100,101]⟩⟩,⟨⟨[118,97,108,117,101]⟩⟩,⟨⟨[101,114,114,111,114,99,111,100,101]⟩⟩,⟨⟨[108,101,118,101,108]⟩⟩,⟨⟨[114,101,116]⟩⟩,⟨⟨[105,110,102,111]⟩⟩,⟨⟨[105,115,95,110,111,116,101,100]⟩⟩,⟨⟨[108,105,110,101]⟩⟩,⟨⟨[101,120,116,114,97]⟩⟩]
noncomputable def AA (why:List Nat) (code:V):List V:=[.int 1,S why,code,.int 0,.int 0,S [],.bool false,.int 0,.lst []]
theorem Dc:cE [S (fw 2),S [49,120]] (.ex Az (AA (cf [49,120]) bu)):=gR
theorem ul:∀ a b:List Nat,vg a b=cL (a.map fun c:Nat=>(c:Int)) (b.map fun c:Nat=>(c:Int))
 | [],[]=>rfl
 | [],b::bs=>if_pos (.nil)
 | a::as,[]=>(if_neg nofun).trans (if_pos .nil)
 | a::as,b::bs=>by
  have ih:=ul as bs
  unfold vg at ih ⊢
  rw [List.map_cons,List.map_cons,cL,← ih]
  simp only [List.cons_lt_cons_iff]
  rcases Nat.lt_trichotomy a b with h | h | h
  ·rw [if_pos (.inl h),if_neg (fun e=>Nat.ne_of_lt h (Int.ofNat_inj.mp e)),if_pos (Int.ofNat_lt.mpr h)]
  ·subst h; simp
  ·rw [if_neg (fun e=>e.elim (Nat.lt_asymm h) fun e=>Nat.ne_of_gt h e.1),if_pos (.inl h),if_neg (fun e=>Nat.ne_of_gt h (Int.ofNat_inj.mp e)),if_neg (fun e=>Nat.lt_asymm h (Int.ofNat_lt.mp e))]
theorem G6 (a b:Int):Aw a b=cL [a] [b]:=by
 unfold Aw cL cL
 rcases Int.lt_trichotomy a b with h | h | h
 ·rw [if_pos h,if_neg (Int.ne_of_lt h),if_pos h]
 ·subst h; rw [if_neg (Int.lt_irrefl a),if_neg (Int.lt_irrefl a),if_pos rfl]
 ·rw [if_neg (Int.lt_asymm h),if_pos h,if_neg (Int.ne_of_gt h),if_neg (Int.lt_asymm h)]
theorem oo {mode:Nat}{nc:Bool}{w v:Wo}(hw:cw mode w) (hv:cw mode v) (hm:mode<3) :
  bP [S (fw mode),.bool nc,fy mode w,fy mode v] (.ok (.int (cL (cK mode nc w) (cK mode nc v)))) :=
 tri hm (fun e=>by
  subst e
  have h1:=ji (dy hw.d (by decide)).1
  have h2:=ji (dy hv.d (by decide)).1
  cases nc with
  | false =>
   have t:=yG (a:=w.t) (b:=v.t)
   rw [ul] at t
   exact goP [xP 11 t] rfl rfl
  | true =>
   have hc:=yH (fun c hc=>(h1.2 c hc).1) (fun c hc=>(h2.2 c hc).1) (Nat.le_trans h1.1 (by decide)) (Nat.le_trans h2.1 (by decide))
   rw [ul,List.map_map,List.map_map] at hc
   exact goP [xP 18 hc] rfl rfl (by kernel_rfl)) (fun e=>by
  subst e
  have h1:=(dy hw.d (by decide)).1
  have h2:=(dy hv.d (by decide)).1
  have hd:=EB (ji h1).2 (ji h2).2
  rw [eq_of_beq (List.all_eq_true.mp (List.all_eq_true.mp B9 _ h1) _ h2)] at hd
  exact goP [xP 6 hd] rfl rfl (by kernel_rfl)) fun e=>by
  subst e
  have t:=yF (a:=w.n.getD 0) (b:=v.n.getD 0)
  rw [G6] at t
  cases nc with
  | false=>exact goP [xP 11 t] rfl rfl
  | true=>exact goP [xP 13 t] rfl rfl
noncomputable def q7:List Int→List Int→Option Int
 | a::as,b::bs=>if a=b then q7 as bs else some (if a<b then -1 else 1)
 | _,_=>none
theorem wC:∀ {a b:List Int},q7 a b=none→cL a b=if a.length=b.length then 0 else if a.length<b.length then -1 else 1
 | [],[],_=>rfl
 | [],_::_,_=>rfl
 | _::_,[],_=>rfl
 | a::as,b::bs,h=>by
  unfold q7 at h
  split at h
  ·rename_i e
   rw [cL,if_pos e,wC h,List.length_cons,List.length_cons]
   simp only [Nat.add_right_cancel_iff,Nat.add_lt_add_iff_right]
  ·exact sN h
theorem wD {o:Int}:∀ {a b:List Int},q7 a b=some o→cL a b=o
 | [],[],h=>nS h
 | [],_::_,h=>nS h
 | _::_,[],h=>nS h
 | a::as,b::bs,h=>by
  unfold q7 at h
  split at h
  ·rename_i e
   rw [cL,if_pos e,wD h]
  ·rename_i e
   rw [cL,if_neg e,sj h]
noncomputable abbrev loF:=fR kQ 7 (at_ gl.body 0)
theorem q8 {a b:List Int}:∀ (n k:Nat) (u v:List Int) (x:Option V),a.drop k=u→b.drop k=v→n=min u.length v.length →
  ∃ f m,((q7 u v=none∧f=.next∧∃ x,m=[some (.lst (a.map .int)),some (.lst (b.map .int)),x])∨∃ o,q7 u v=some o∧f=.ret (.int o)∧m=[]) ∧
   loF ((List.range' k n).map fun i=>.int (i:Nat)) [some (.lst (a.map .int)),some (.lst (b.map .int)),x] [] f m []
 | _,k,[],v,x,hu,hv,hn=>⟨_,_,.inl ⟨by cases v <;> rfl,rfl,x,rfl⟩,by rw [hn,List.length_nil,Nat.zero_min]; exact fN⟩
 | _,k,_::_,[],x,hu,hv,hn=>⟨_,_,.inl ⟨rfl,rfl,x,rfl⟩,by rw [hn,List.length_nil,Nat.min_zero]; exact fN⟩
 | 0,k,c::u,d::v,x,hu,hv,hn=>by rw [List.length_cons,List.length_cons,Nat.succ_min_succ] at hn; cases hn
 | n+1,k,c::u,d::v,x,hu,hv,hn=>by
  have q1:a[k]? = some c:=by have:=congrArg List.head? hu; rw [List.head?_drop] at this; exact this
  have q2:b[k]? = some d:=by have:=congrArg List.head? hv; rw [List.head?_drop] at this; exact this
  have i1:=ua (vs:=a.map V.int) (k:=k) (v:=.int c) (by rw [List.getElem?_map,q1]; rfl)
  have i2:=ua (vs:=b.map V.int) (k:=k) (v:=.int d) (by rw [List.getElem?_map,q2]; rfl)
  rw [List.length_cons,List.length_cons,Nat.succ_min_succ] at hn
  rw [List.range'_succ,List.map_cons]
  unfold q7
  split <;> rename_i h
  ·subst h
   refine Qd (q8 (a:=a) (b:=b) n (k+1) u v (some (.int k)) (by rw [← List.drop_drop,hu]; rfl) (by rw [← List.drop_drop,hv]; rfl) (Nat.succ.inj hn)) fun f m w=>?_
   exact fI w [xV 2 i1,xV 2 i2,xC 2 (nB (qT (i:=c) rfl))]
  ·refine ⟨_,_,.inr ⟨_,rfl,rfl,rfl⟩,?_⟩
   split <;> rename_i h'
   ·exact fE [xV 2 i1,xV 2 i2,xC 2 (nB (qF h)),xV 2 i1,xV 2 i2,xC 2 (dT h')]
   ·exact fE [xV 2 i1,xV 2 i2,xC 2 (nB (qF h)),xV 2 i1,xV 2 i2,xC 2 (dF h')]
theorem q9 {a b:List Int}(la:a.length≤big) (lb:b.length≤big):eu [.lst (a.map .int),.lst (b.map .int)] (.ok (.int (cL a b))):=by
 refine cN (q8 (min a.length b.length) 0 a b none rfl rfl rfl) fun f m hE w=>?_
 have p1:=a8 (f:=V.int) (fun _=>rfl) a
 have p2:=a8 (f:=V.int) (fun _=>rfl) b
 have pp:(V.puL [.lst (a.map .int),.lst (b.map .int)]&&bo gl [.lst (a.map .int),.lst (b.map .int)])=true:=by rw [V.puL,V.pu,p1,V.puL,V.pu,p2]; rfl
 have it:=bR (a:=0) (b:=min a.length b.length) (Nat.le_trans (Nat.min_le_left ..) la) (Nat.zero_le _)
 have l1:=List.length_map (as:=a) V.int
 have l2:=List.length_map (as:=b) V.int
 have mn:=(Qr (a:=(a.map V.int).length) (b:=(b.map V.int).length)).trans (show _=some (V.int (min a.length b.length:Nat)) by rw [l1,l2])
 rcases hE with ⟨e,e1,x,e2⟩ | ⟨o,e,e1,e2⟩
 ·rw [e1,e2] at w
  rw [wC e]
  split <;> rename_i q
  ·exact goP [xV 4 mn,xL 1 it,xS 0 w,xC 6 (nT (l1.trans (q.trans l2.symm)))] pp rfl
  ·have q':=nF (fun h=>q (l1.symm.trans (h.trans l2)))
   split <;> rename_i q2
   ·exact goP [xV 4 mn,xL 1 it,xS 0 w,xC 6 q',xC 6 (ltT (Nat.lt_of_lt_of_eq (Nat.lt_of_le_of_lt (Nat.le_of_eq l1) q2) l2.symm))] pp rfl
   ·exact goP [xV 4 mn,xL 1 it,xS 0 w,xC 6 q',xC 6 (ltF (Nat.le_trans (Nat.le_of_eq l2) (Nat.le_trans (Nat.not_lt.mp q2) (Nat.le_of_eq l1.symm))))] pp rfl
 ·rw [e1,e2] at w
  rw [wD e]
  exact goP [xV 4 mn,xL 1 it,xS 0 w] pp rfl
noncomputable def JJ (mode:Nat) (nc:Bool) (w:Wo):Bool:=isL (cK mode nc w) (xD false pE jb [.int mode,.bool nc,w.v])
theorem Oo:(dom 0).all (fun w=>JJ 0 false w&&JJ 0 true w)=true:=by kernel_rfl
theorem Op:bT.all (fun w=>w.n.isNone||(JJ 2 false w&&JJ 2 true w))=true:=by kernel_rfl
theorem jj {mode:Nat}{nc:Bool}{w:Wo}(hw:cw mode w) (hm:mode<3):cj [.int mode,.bool nc,w.v] (.ok (.lst ((cK mode nc w).map .int))) :=
 tri hm (fun e=>by
  subst e
  have k:=an (List.all_eq_true.mp Oo w hw.d)
  cases nc with
  | false=>exact gR (uk k.1)
  | true=>exact gR (uk k.2)) (fun e=>by
  subst e
  have hd:=B8 (dy hw.d (by decide)).1
  have pv:(V.puL [.int (1:Nat),.bool nc,w.v]&&bo jb [.int (1:Nat),.bool nc,w.v])=true:=by rw [V.puL,V.puL,V.puL,oi]; rfl
  have pr:(Res.ok (.lst ((cK 1 nc w).map .int))).pu=true:=a8 (f:=V.int) (fun _=>rfl) _
  exact goP [xP 11 hd] pv pr (by kernel_rfl)) fun e=>by
  subst e
  have k:=List.all_eq_true.mp Op w hw.d
  rw [Option.isNone_eq_false_iff.mpr (hw.k rfl)] at k
  have k:=an k
  cases nc with
  | false=>exact gR (uk k.1)
  | true=>exact gR (uk k.2)
theorem g6 (a b:Int) (as bs:List Int):cL (a::as) (b::bs)=if a=b then cL as bs else if a<b then -1 else 1:=rfl
theorem p9:∀ a:List Int,cL a a=0
 | []=>rfl
 | a::as=>by rw [g6,if_pos rfl,p9 as]
theorem Dd:∀ {a b:List Int},cL a b=0→a=b
 | [],[],_=>rfl
 | [],_::_,h=>nomatch h
 | _::_,[],h=>nomatch h
 | a::as,b::bs,h=>by
  rw [g6] at h
  split at h
  ·rename_i e; rw [e,Dd h]
  ·split at h <;> cases h
theorem jk:∀ a b:List Int,cL b a=- cL a b
 | [],[]=>rfl
 | [],_::_=>rfl
 | _::_,[]=>rfl
 | a::as,b::bs=>by
  rw [g6,g6]
  rcases Int.lt_trichotomy a b with h | h | h
  ·rw [if_neg (Int.ne_of_gt h),if_neg (Int.lt_asymm h),if_neg (Int.ne_of_lt h),if_pos h]; rfl
  ·subst h; rw [if_pos rfl,if_pos rfl,jk as bs]
  ·rw [if_neg (Int.ne_of_lt h),if_pos h,if_neg (Int.ne_of_gt h),if_neg (Int.lt_asymm h)]
theorem mI:∀ {a b c:List Int},cL a b≤0→cL b c≤0→cL a c≤0
 | [],b,[],_,_=>Int.le_refl 0
 | [],b,_::_,_,_=>(by decide:(-1:Int)≤0)
 | _::_,[],c,h,_=>absurd h (by decide:¬ (1:Int)≤0)
 | _::_,_::_,[],_,h=>absurd h (by decide:¬ (1:Int)≤0)
 | a::as,b::bs,c::cs,h,h'=>by
  rw [g6] at h h' ⊢
  split at h
  ·rename_i e
   subst e
   split at h'
   ·rename_i e
    rw [if_pos e]
    exact mI h h'
   ·rename_i n
    rw [if_neg n]
    exact h'
  ·rename_i n
   split at h
   ·rename_i l
    split at h'
    ·rename_i e
     subst e
     rw [if_neg n,if_pos l]; decide
    ·split at h'
     ·rename_i l2
      rw [if_neg (Int.ne_of_lt (Int.lt_trans l l2)),if_pos (Int.lt_trans l l2)]; decide
     ·exact absurd h' (by decide)
   ·exact absurd h (by decide)
noncomputable def gp (mode:Nat) (nc dec:Bool) (w v:Wo):Int:=if dec then - cL (cK mode nc w) (cK mode nc v) else cL (cK mode nc w) (cK mode nc v)
noncomputable def gq (mode:Nat) (nc dec:Bool) (sh:Nat):V:=.tup [S (fw mode),.bool nc,.bool dec,.lst [],iq sh]
theorem oq (sh:Nat):(iq sh).pu=true:=by unfold iq; split; rfl; split <;> rfl
theorem AB {mode:Nat}(hm:mode<3):¬ fw mode=[99,111,109,109,97,110,100] :=
 tri hm (fun e=>by subst e; decide) (fun e=>by subst e; decide) (fun e=>by subst e; decide)
theorem ot (mode:Nat) (w:Wo):(fy mode w).pu=true:=by unfold fy; split <;> rfl
theorem yI {mode:Nat}{nc dec:Bool}{sh:Nat}:(gq mode nc dec sh).pu=true:=by rw [gq,V.pu,V.puL,V.puL,V.puL,V.puL,V.puL,oq]; rfl
theorem Ca {mode sh:Nat}{nc dec:Bool}{w v:Wo}(hw:cw mode w) (hv:cw mode v) (hm:mode<3) :
  ie [.none,fy mode w,fy mode v,gq mode nc dec sh] (.ok (.int (gp mode nc dec w v))):=by
 have hc:=oo (nc:=nc) hw hv hm
 have hp:(V.puL [.none,fy mode w,fy mode v,gq mode nc dec sh]&&bo jG [.none,fy mode w,fy mode v,gq mode nc dec sh])=true:=by rw [V.puL,V.puL,V.puL,V.puL,ot,ot,yI]; rfl
 cases dec with
 | false=>exact goP [xC 5 (seF (AB hm)),xP 4 hc] hp rfl
 | true=>exact goP [xC 5 (seF (AB hm)),xP 4 hc] hp rfl
section
theorem jQ {α:Type} (l:List α) (lo hi:Option Int):a6 l lo hi none=(l.drop (lo.elim 0 (clipAt l.length))).take (hi.elim l.length (clipAt l.length) - lo.elim 0 (clipAt l.length)):=by
 unfold a6
 rw [sliceBounds_plain]
 simp only [sliceRange_one]
 have:=pick_run l.toArray (lo.elim 0 (clipAt l.length)) (hi.elim l.length (clipAt l.length) - lo.elim 0 (clipAt l.length))
 simpa using this
theorem mJ {n a:Nat}:clipAt n (a:Int)=min a n:=by
 unfold clipAt
 rw [if_neg (Int.not_lt.mpr (Int.natCast_nonneg a))]
 rcases Nat.le_total a n with h | h
 ·rw [Int.min_eq_left (Int.ofNat_le.mpr h),Nat.min_eq_left h,Int.max_eq_right (Int.natCast_nonneg _),Int.toNat_natCast]
 ·rw [Int.min_eq_right (Int.ofNat_le.mpr h),Nat.min_eq_right h,Int.max_eq_right (Int.natCast_nonneg _),Int.toNat_natCast]
theorem AC {α:Type} (l:List α) (a:Nat):a6 l (some (a:Int)) none none=l.drop a:=by
 rw [jQ]
 simp only [Option.elim,mJ]
 rw [uc,List.take_of_length_le]
 rw [List.length_drop]
 exact Nat.sub_le_sub_left (Nat.min_le_left ..) _
theorem EF {α:Type} (l:List α) (a:Nat):a6 l none (some (a:Int)) none=l.take a:=by
 rw [jQ]
 simp only [Option.elim,mJ,List.drop_zero,Nat.sub_zero]
 rcases Nat.lt_or_ge a l.length with q | q
 ·rw [Nat.min_eq_left (Nat.le_of_lt q)]
 ·rw [Nat.min_eq_right q,List.take_of_length_le (Nat.le_refl _),List.take_of_length_le q]
theorem Cc {α:Type} (l:List α) (a b:Nat):a6 l (some (a:Int)) (some (b:Int)) none=(l.drop a).take (b - a):=by
 rw [jQ]
 simp only [Option.elim,mJ]
 rcases Nat.lt_or_ge a l.length with q | q
 ·rw [Nat.min_eq_left (Nat.le_of_lt q)]
  rcases Nat.lt_or_ge b l.length with q' | q'
  ·rw [Nat.min_eq_left (Nat.le_of_lt q')]
  ·rw [Nat.min_eq_right q',List.take_of_length_le (by rw [List.length_drop]; exact Nat.le_refl _),List.take_of_length_le (by rw [List.length_drop]; exact Nat.sub_le_sub_right q' a)]
 ·rw [uc,List.drop_of_length_le q,List.take_nil,List.take_nil]
section
variable {vs:List V}{i j:Nat}
theorem um (h:(vs.drop i).length≤big):bG (.lst vs) (some (.int i)) none none=some (.lst (vs.drop i)) :=
 have e:=AC vs i
 have k:=eH (e ▸ h)
 have q:∀ P:SlS (.lst vs) (some (.int i)) none none (.lst (a6 vs (some (i:Int)) none none)),Cv.v (P:=SlS (.lst vs) (some (.int i)) none none) (wh (Nat.ble (a6 vs (some (i:Int)) none none).length big) fun hn=>yes (.lst (a6 vs (some (i:Int)) none none)) P)=some (.lst (vs.drop i)):=fun P=>(congrArg Cv.v (fx k)).trans (congrArg (fun x=>some (V.lst x)) e)
 q (fun {_ _ _ _ _ _ _ _ _ _ _ _ _ _}=>sV (lo:=(some (i:Int))) (hi:=none) (k:=none) rfl rfl rfl nofun k)
theorem G7 (h:(vs.take i).length≤big):bG (.lst vs) none (some (.int i)) none=some (.lst (vs.take i)) :=
 have e:=EF vs i
 have k:=eH (e ▸ h)
 have q:∀ P:SlS (.lst vs) none (some (.int i)) none (.lst (a6 vs none (some (i:Int)) none)),Cv.v (P:=SlS (.lst vs) none (some (.int i)) none) (wh (Nat.ble (a6 vs none (some (i:Int)) none).length big) fun hn=>yes (.lst (a6 vs none (some (i:Int)) none)) P)=some (.lst (vs.take i)):=fun P=>(congrArg Cv.v (fx k)).trans (congrArg (fun x=>some (V.lst x)) e)
 q (fun {_ _ _ _ _ _ _ _ _ _ _ _ _ _}=>sV (lo:=none) (hi:=(some (i:Int))) (k:=none) rfl rfl rfl nofun k)
theorem G8 (h:((vs.drop i).take (j - i)).length≤big):bG (.lst vs) (some (.int i)) (some (.int j)) none=some (.lst ((vs.drop i).take (j - i))) :=
 have e:=Cc vs i j
 have k:=eH (e ▸ h)
 have q:∀ P:SlS (.lst vs) (some (.int i)) (some (.int j)) none (.lst (a6 vs (some (i:Int)) (some (j:Int)) none)),Cv.v (P:=SlS (.lst vs) (some (.int i)) (some (.int j)) none) (wh (Nat.ble (a6 vs (some (i:Int)) (some (j:Int)) none).length big) fun hn=>yes (.lst (a6 vs (some (i:Int)) (some (j:Int)) none)) P)=some (.lst ((vs.drop i).take (j - i))):=fun P=>(congrArg Cv.v (fx k)).trans (congrArg (fun x=>some (V.lst x)) e)
 q (fun {_ _ _ _ _ _ _ _ _ _ _ _ _ _}=>sV (lo:=(some (i:Int))) (hi:=(some (j:Int))) (k:=none) rfl rfl rfl nofun k)
end
theorem uo {G:AH}{i:Nat}{l us:List V}(e:G[i]? = some (.list l)) (h:l.length+us.length≤big):nE G (.ref i) (o0 .extend) [.lst us]=some (G.set i (.list (l++us))):=by
 have k:o0 .extend l [.lst us]=some (l++us):=congrArg Cv.v (fx (eH h))
 unfold nE
 dsimp only
 rw [e]
 dsimp only
 rw [k]
noncomputable def bx (K:Nat→V) (p:Nat):V:=.tup [K p,.int p]
structure Od (K:Nat→V) (R:V) (o:Nat→Nat→Int) (N:Nat):Prop where
 pu:∀ p,(K p).pu=true
 pr:R.pu=true
 h:∀ p q,p<N→q<N→ie [.none,K p,K q,R] (.ok (.int (o p q)))
 tr:∀ a b c,o a b≤0→o b c≤0→o a c≤0
 to:∀ a b,o a b≤0∨o b a≤0
 n:N≤1000
noncomputable abbrev leB (o:Nat→Nat→Int) (a b:Nat):Bool:=decide (o a b≤0)
noncomputable abbrev Lt (N:Nat) (l:List Nat):Prop:=∀ p∈l,p<N
section
variable {K:Nat→V}{R:V}{o:Nat→Nat→Int}{N:Nat}
theorem Od.pair (d:Od K R o N) (p:Nat):(bx K p).pu=true:=by rw [bx,V.pu,V.puL,d.pu]; rfl
theorem Oq {A:List Nat}{k p:Nat}(h:A[k]? = some p):(A.map (bx K))[k]? = some (bx K p):=by rw [List.getElem?_map,h]; rfl
theorem ou {A:List Nat}:(A.map (bx K)).length=A.length:=List.length_map ..
noncomputable abbrev meW:=wR tM 7 (at_ kP.body 2)
noncomputable abbrev meM (K:Nat→V) (R:V) (A B:List Nat) (i j:Nat) (x:Option V):LV:=[some .none,some (.lst (A.map (bx K))),some (.lst (B.map (bx K))),some R,some (.bool false),some (.ref 0),some (.int i),some (.int j),x]
theorem mK (d:Od K R o N) {A B:List Nat}(hA:Lt N A) (hB:Lt N B):∀ (n:Nat) (l r:List Nat) (i j:Nat) (c:List Nat) (x:Option V),A.drop i=l→B.drop j=r→l.length+r.length=n→c.length+n≤big →
  ∃ (i' j':Nat) (c':List Nat) (x':Option V),c'++(A.drop i'++B.drop j')=c++List.merge l r (leB o)∧Wh meW (meM K R A B i j x) [.list (c.map (bx K))] .next (meM K R A B i' j' x') [.list (c'.map (bx K))]
 | n,[],r,i,j,c,x,hl,hr,hn,hO=>by
  have q:=drop_nil (hl.trans rfl)
  refine ⟨i,j,c,x,by rw [hl,hr,List.nil_merge,List.nil_append],?_⟩
  exact wE [xC 5 (ltF (Nat.le_trans (Nat.le_of_eq (ou (K:=K))) q)),xC 1 (ltF (Nat.le_trans (Nat.le_of_eq (ou (K:=K))) q))]
 | n,p::l,[],i,j,c,x,hl,hr,hn,hO=>by
  refine bW (aJ hl) fun h1 h2 h3=>?_
  have q:=drop_nil (hr.trans rfl)
  refine ⟨i,j,c,x,by rw [hl,hr,List.merge_right,List.append_nil],?_⟩
  exact wE [xC 5 (ltT (Nat.lt_of_lt_of_eq h2 (ou (K:=K)).symm)),xC 5 (ltF (Nat.le_trans (Nat.le_of_eq (ou (K:=K))) q))]
 | 0,p::l,q::r,i,j,c,x,hl,hr,hn,hO=>nomatch hn
 | n+1,p::l,q::r,i,j,c,x,hl,hr,hn,hO=>by
  refine bW (aJ hl) fun h1 h2 h3=>bW (aJ hr) fun g1 g2 g3=>?_
  have ho:=d.h p q (hA p (List.mem_of_getElem? h1)) (hB q (List.mem_of_getElem? g1))
  rw [← Nat.add_assoc,Nat.add_right_comm] at hO
  have hO':∀ z,(c++[z]).length+n≤big:=fun z=>by rw [List.length_append]; exact hO
  have pa:=fun z=>bf (G:=[.list (c.map (bx K))]) (i:=0) (v:=bx K z) rfl (by rw [ou]; exact Nat.le_trans (Nat.le_add_right ..) hO)
  have ea:∀ z,(c++[z]).map (bx K)=c.map (bx K)++[bx K z]:=fun z=>List.map_append
  have i1:=bS [.list (c.map (bx K))] (Oq (K:=K) h1)
  have i2:=bS [.list (c.map (bx K))] (Oq (K:=K) g1)
  have c1:=ltT (Nat.lt_of_lt_of_eq h2 (ou (K:=K)).symm)
  have c2:=ltT (Nat.lt_of_lt_of_eq g2 (ou (K:=K)).symm)
  rw [List.cons_merge_cons]
  by_cases hle:o p q≤0
  ·refine zk (mK d hA hB n l (q::r) (i+1) j (c++[p]) (some (.int (o p q))) h3 hr (by rw [List.length_cons,Nat.add_right_comm] at hn; exact Nat.succ.inj hn) (hO' p)) fun i' j' c' x' e w=>⟨i',j',c',x',by rw [e,if_pos (decide_eq_true hle),List.append_assoc]; rfl,?_⟩
   rw [ea] at w
   have pa:=pa p
   rcases Int.lt_or_eq_of_le hle with hlt | h0
   ·exact wI w [xC 5 c1,xC 5 c2,xV 3 i1,xV 3 i2,xP 2 ho,xC 3 (dT hlt),xC 1 (dT hlt),xV 3 i1,xH 0 pa]
   ·rw [h0] at ho w
    exact wI w [xC 5 c1,xC 5 c2,xV 3 i1,xV 3 i2,xP 2 ho,xV 15 i1,xH 0 pa]
  ·refine zk (mK d hA hB n (p::l) r i (j+1) (c++[q]) (some (.int (o p q))) hl g3 (Nat.succ.inj hn) (hO' q)) fun i' j' c' x' e w=>⟨i',j',c',x',by rw [e,if_neg (mt of_decide_eq_true hle),List.append_assoc]; rfl,?_⟩
   rw [ea] at w
   have pa:=pa q
   exact wI w [xC 5 c1,xC 5 c2,xV 3 i1,xV 3 i2,xP 2 ho,xC 3 (dF fun h=>hle (Int.le_of_lt h)),xC 3 (qF fun h:o p q=0=>hle (Int.le_of_eq h)),xC 1 (qF fun h:o p q=0=>hle (Int.le_of_eq h)),xV 3 i2,xH 0 pa,xC 6 (qF fun h:o p q=0=>hle (Int.le_of_eq h))]
theorem re (d:Od K R o N) {A B:List Nat}(hA:Lt N A) (hB:Lt N B) (hn:A.length+B.length≤big) :
  nW [.none,.lst (A.map (bx K)),.lst (B.map (bx K)),R,.bool false] (.ok (.lst ((List.merge A B (leB o)).map (bx K)))):=by
 refine zk (mK d hA hB (A.length+B.length) A B 0 0 [] none rfl rfl rfl (by rw [List.length_nil,Nat.zero_add]; exact hn)) fun i j c x e w=>?_
 rw [List.nil_append] at e
 have hl:c.length+(A.drop i).length+(B.drop j).length≤big:=by
  rw [← List.length_append,← List.length_append,List.append_assoc,e,(List.merge_perm_append (leB o)).length_eq,List.length_append]; exact hn
 have s1:=um (vs:=A.map (bx K)) (i:=i) (by rw [← List.map_drop,ou]; exact Nat.le_trans (Nat.le_trans (Nat.le_add_left ..) (Nat.le_add_right ..)) hl)
 have s2:=um (vs:=B.map (bx K)) (i:=j) (by rw [← List.map_drop,ou]; exact Nat.le_trans (Nat.le_add_left ..) hl)
 rw [← List.map_drop] at s1 s2
 have m1:=uo (G:=[.list (c.map (bx K))]) (i:=0) (us:=(A.drop i).map (bx K)) rfl (by rw [ou,ou]; exact Nat.le_trans (Nat.le_add_right ..) hl)
 have m2:=uo (G:=[.list (c.map (bx K)++(A.drop i).map (bx K))]) (i:=0) (us:=(B.drop j).map (bx K)) rfl (by rw [List.length_append,ou,ou,ou]; exact hl)
 have pA:=a8 d.pair A
 have pB:=a8 d.pair B
 have pp:(V.puL [.none,.lst (A.map (bx K)),.lst (B.map (bx K)),R,.bool false]&&bo kP [.none,.lst (A.map (bx K)),.lst (B.map (bx K)),R,.bool false])=true:=by
  rw [V.puL,V.puL,V.pu,pA,V.puL,V.pu,pB,V.puL,d.pr]; rfl
 have pr:=a8 d.pair (List.merge A B (leB o))
 rw [← e,List.map_append,List.map_append,← List.append_assoc] at pr ⊢
 exact goP [xS 0 w,xV 3 s1,xH 0 m1,xV 4 s2,xH 0 m2] pp pr
end
end
section
theorem Cd {us:List V}{n:Nat}{v:V}(h:n<us.length):j5 [.list us] (.ref 0) (.int (n:Nat)) v=some [.list (us.set n v)]:=congrArg Cv.v (fx (eH h))
theorem JK {us:List V}{n:Nat}{v:V}(h:us[n]? = some v):aG [.list us] (.ref 0) (.int (n:Nat))=some v:=congrArg Cv.v (cC (o:=cS us (n:Nat)) h)
theorem uq {α:Type}{u:List α}:∀ {rs:List (List α)}{a:Nat},rs[a]? = some u→(u++(rs.set a []).flatten).Perm rs.flatten
 | r::t,0,h=>by obtain rfl:=sj h; exact .refl _
 | r::t,a+1,h=>(List.perm_append_comm_assoc ..).trans ((uq (rs:=t) (a:=a) h).append_left r)
theorem set_set {α:Type}{u:List α}{rs:List (List α)}{a:Nat}(h:rs[a]? = some []):(rs.set a u).flatten.Perm (u++rs.flatten):=by
 have hl:a<rs.length:=(List.getElem?_eq_some_iff.mp h).1
 have k:=uq (rs:=rs.set a u) (a:=a) (u:=u) (List.getElem?_set_self hl)
 rw [List.set_set,(congrArg (rs.set a) (List.getElem?_eq_some_iff.mp h).2.symm).trans (List.set_getElem_self hl)] at k
 exact k.symm
section
variable {K:Nat→V}{R:V}{o:Nat→Nat→Int}{N:Nat}{its:List V}
noncomputable abbrev Srt (o:Nat→Nat→Int) (l:List Nat):Prop:=l.Pairwise fun a b=>leB o a b=true
theorem Od.merge (d:Od K R o N) {A B:List Nat}(a:Srt o A) (b:Srt o B):Srt o (List.merge A B (leB o)):=List.pairwise_merge (fun a b c h1 h2=>decide_eq_true (d.tr a b c (of_decide_eq_true h1) (of_decide_eq_true h2))) (fun a b=>Bool.or_eq_true_iff.mpr ((d.to a b).imp decide_eq_true decide_eq_true)) A B a b
noncomputable def eJ (K:Nat→V) (r:List Nat):V:=.lst (r.map (bx K))
structure RO (o:Nat→Nat→Int) (rs:List (List Nat)) (run M:List Nat):Prop where
 s:∀ r∈rs,Srt o r
 r:Srt o run
 p:(run++rs.flatten).Perm M
theorem RO.lt {rs:List (List Nat)}{run M:List Nat}(h:RO o rs run M) (l:Lt N M):Lt N run∧∀ r∈rs,Lt N r :=
 ⟨fun p hp=>l p (h.p.mem_iff.mp (List.mem_append_left _ hp)),fun r hr p hp=>l p (h.p.mem_iff.mp (List.mem_append_right _ (List.mem_flatten.mpr ⟨r,hr,hp⟩)))⟩
noncomputable abbrev soW:=wR b8 6 (at_ (blk (at_ bt.body 1)) 2)
noncomputable abbrev soM (I R P:V) (run:List Nat) (K:Nat→V) (a:Nat):LV:=[some .none,some I,some R,some (.bool false),some (.ref 0),some P,some (eJ K run),some (.int a),none,none,none]
theorem AD (d:Od K R o N) {I P:V}{M:List Nat}(hM:Lt N M) (hl:M.length≤big):∀ (n:Nat) (rs:List (List Nat)) (a:Nat) (run:List Nat),a+n=rs.length→RO o rs run M →
  ∃ (rs':List (List Nat)) (run':List Nat) (a':Nat),rs'.length=rs.length∧(a'<rs'.length∧rs'[a']? = some []∨a'=rs'.length)∧RO o rs' run' M ∧
   Wh soW (soM I R P run K a) [.list (rs.map (eJ K))] .next (soM I R P run' K a') [.list (rs'.map (eJ K))]
 | 0,rs,a,run,hn,H=>by
  refine ⟨rs,run,a,rfl,.inr hn,H,?_⟩
  exact wE [xC 5 (ltF (Nat.le_of_eq ((List.length_map (eJ K)).trans hn.symm))),xC 1 (ltF (Nat.le_of_eq ((List.length_map (eJ K)).trans hn.symm)))]
 | n+1,rs,a,run,hn,H=>by
  have ha:a<rs.length:=by rw [← hn]; exact Nat.lt_add_of_pos_right (Nat.succ_pos n)
  have hg:rs[a]? = some rs[a]:=List.getElem?_eq_getElem ha
  have c1:=ltT (Nat.lt_of_lt_of_eq ha (List.length_map (as:=rs) (eJ K)).symm)
  have it:=JK (us:=rs.map (eJ K)) (n:=a) (v:=eJ K rs[a]) (by rw [List.getElem?_map,hg]; rfl)
  have hs:=H.s _ (List.getElem_mem ha)
  generalize rs[a]=u at *
  cases u with
  | nil =>
   refine ⟨rs,run,a,rfl,.inl ⟨ha,hg⟩,H,?_⟩
   exact wE [xC 5 c1,xV 2 it]
  | cons p r =>
   have hp:0<((p::r).map (bx K)).length:=Nat.succ_pos _
   generalize p::r=u at *
   have kp:=uq hg
   have pm:(List.merge u run (leB o)++(rs.set a []).flatten).Perm M:=((List.merge_perm_append (leB o)).append_right _).trans (((List.perm_append_comm (l₁:=u)).append_right _).trans ((by rw [List.append_assoc]; exact kp.append_left run:(run++u++(rs.set a []).flatten).Perm (run++rs.flatten)).trans H.p))
   obtain ⟨rs',run',a',e1,e2,e3,w⟩:=AD d (I:=I) (P:=P) hM hl n (rs.set a []) (a+1) (List.merge u run (leB o)) (by rw [List.length_set,← hn,Nat.add_right_comm]; rfl) ⟨fun r hr=>(List.mem_or_eq_of_mem_set hr).elim (H.s r) fun e=>e ▸ .nil,d.merge hs H.r,pm⟩
   refine ⟨rs',run',a',e1.trans (List.length_set ..),e2,e3,?_⟩
   have hx:u.length+run.length≤big:=by
    have:=pm.length_eq
    rw [List.length_append,(List.merge_perm_append (leB o)).length_eq,List.length_append] at this
    exact Nat.le_trans (Nat.le_add_right ..) (this ▸ hl)
   have mg:=re d ((H.lt hM).2 _ (List.mem_of_getElem? hg)) (H.lt hM).1 hx
   have st:=Cd (us:=rs.map (eJ K)) (n:=a) (v:=.lst []) (by rw [List.length_map]; exact ha)
   rw [List.map_set] at w
   exact wI w [xC 5 c1,xV 2 it,xC 3 (ltT hp),xV 3 it,xP 3 mg,xH 2 st]
structure Kys (K:Nat→V) (R r0 r4:V) (N:Nat) (its:List V):Prop where
 n:its.length=N
 p:V.puL its=true
 e0:∀ G,aG G R (.int 0)=some r0
 e4:∀ G,aG G R (.int 4)=some r4
 k:∀ k T,its[k]? = some T→∃ U,eq [T,r4] (.ok U)∧cE [r0,U] (.ok (K k))
theorem AE {N k:Nat}(h:k≤N):Lt N (List.range k):=fun p hp=>Nat.lt_of_lt_of_le (List.mem_range.mp hp) h
noncomputable abbrev soB:=fB b8 7 (at_ bt.body 1)
noncomputable abbrev soF:=fR b8 7 (at_ bt.body 1)
theorem AF {r0 r4:V}(d:Od K R o N) (Y:Kys K R r0 r4 N its):∀ (n k:Nat) (rs:List (List Nat)) (x5 x6 x7:Option V),k+n=N→rs.length≤k→RO o rs [] (List.range k) →
  ∃ (y5 y6 y7:Option V) (rs':List (List Nat)),rs'.length≤N∧RO o rs' [] (List.range N)∧soF ((List.range' k n).map fun i=>.int (i:Nat)) [some .none,some (.lst its),some R,some (.bool false),some (.ref 0),x5,x6,x7,none,none,none] [.list (rs.map (eJ K))]
   .next [some .none,some (.lst its),some R,some (.bool false),some (.ref 0),y5,y6,y7,none,none,none] [.list (rs'.map (eJ K))]
 | 0,k,rs,x5,x6,x7,hk,hl,H=>⟨x5,x6,x7,rs,by rw [← hk]; exact hl,by rw [← hk]; exact H,fN⟩
 | n+1,k,rs,x5,x6,x7,hk,hl,H=>by
  have hkN:k<N:=by rw [← hk]; exact Nat.lt_add_of_pos_right (Nat.succ_pos n)
  have hki:k<its.length:=Y.n ▸ hkN
  have hT:its[k]? = some its[k]:=List.getElem?_eq_getElem hki
  refine ae (Y.k k _ hT) fun U hU hK=>?_
  have hsz:k+1≤big:=Nat.le_trans hkN (Nat.le_trans d.n (by decide))
  obtain ⟨rs1,run,a,f1,f2,f3,w⟩:=AD d (I:=.lst its) (P:=.int k) (M:=List.range (k+1)) (AE hkN) (by rw [List.length_range]; exact hsz) rs.length rs 0 [k] (Nat.zero_add _) ⟨H.s,List.pairwise_singleton ..,by rw [List.range_succ]; exact (List.perm_append_comm (l₁:=[k])).trans (H.p.append_right _)⟩
  have it:=bS [.list (rs.map (eJ K))] hT
  have e0:=Y.e0 [.list (rs.map (eJ K))]
  have e4:=Y.e4 [.list (rs.map (eJ K))]
  have fin:∀ rs2:List (List Nat),rs2.length≤k+1→(∀ r∈rs2,Srt o r)→rs2.flatten.Perm (run++rs1.flatten)→_:=fun rs2 g1 g2 g3=>AF d Y n (k+1) rs2 (some (.int k)) (some (eJ K run)) (some (.int a)) (by rw [Nat.add_right_comm]; exact hk) g1 ⟨g2,.nil,g3.trans f3.p⟩
  rw [List.range'_succ,List.map_cons]
  generalize its[k]=T at *
  rcases f2 with ⟨q,q2⟩ | q
  ·refine N7 (fin (rs1.set a run) (by rw [List.length_set,f1]; exact Nat.le_succ_of_le hl) (fun r hr=>(List.mem_or_eq_of_mem_set hr).elim (f3.s r) fun e=>e ▸ f3.r) (set_set q2)) fun y5 y6 y7 rs' ih=>?_
   have st:=Cd (us:=rs1.map (eJ K)) (n:=a) (v:=eJ K run) (by rw [List.length_map]; exact q)
   rw [List.map_set] at ih
   exact fI ih [xV 1 e0,xV 2 it,xV 1 e4,xP 0 hU,xP 0 hK,xS 1 w,xC 5 (nF fun e:a=(rs1.map (eJ K)).length=>Nat.ne_of_lt q (e.trans (List.length_map ..))),xH 3 st]
  ·refine N7 (fin (rs1++[run]) (by rw [List.length_append,f1]; exact Nat.succ_le_succ hl) (fun r hr=>(List.mem_append.mp hr).elim (f3.s r) fun e=>List.mem_singleton.mp e ▸ f3.r) (by rw [List.flatten_append,List.flatten_singleton]; exact List.perm_append_comm)) fun y5 y6 y7 rs' ih=>?_
   have pa:=bf (G:=[.list (rs1.map (eJ K))]) (i:=0) (v:=.lst []) rfl (by rw [List.length_map,f1]; exact Nat.le_trans (Nat.succ_le_succ hl) hsz)
   have ql:a=(rs1.map (eJ K)).length:=q.trans (List.length_map ..).symm
   have st:=Cd (us:=rs1.map (eJ K)++[.lst []]) (n:=a) (v:=eJ K run) (by rw [List.length_append,ql]; exact Nat.lt_succ_self _)
   have es:(rs1.map (eJ K)++[V.lst []]).set a (eJ K run)=(rs1++[run]).map (eJ K):=by rw [ql,List.set_append_right _ _ (Nat.le_refl _),Nat.sub_self,List.map_append]; rfl
   rw [es] at st
   exact fI ih [xV 1 e0,xV 2 it,xV 1 e4,xP 0 hU,xP 0 hK,xS 1 w,xC 5 (nT ql),xH 1 pa,xH 4 st]
noncomputable abbrev whF:=fR b8 7 (at_ bt.body 3)
theorem ur (d:Od K R o N) {I:V}{X5 X7:Option V}{M:List Nat}(hM:Lt N M) (hl:M.length≤big):∀ (rs:List (List Nat)) (w:List Nat) (x6:Option V),RO o rs w M →
  ∃ (x':Option V) (w':List Nat),Srt o w'∧w'.Perm M∧whF (rs.map (eJ K)) [some .none,some I,some R,some (.bool false),some (.ref 0),X5,x6,X7,some (eJ K w),none,none] [.dead] .next [some .none,some I,some R,some (.bool false),some (.ref 0),X5,x',X7,some (eJ K w'),none,none] [.dead]
 | [],w,x6,H=>⟨x6,w,H.r,by have:=H.p; rwa [List.flatten_nil,List.append_nil] at this,fN⟩
 | r::rs,w,x6,H=>by
  have pm:(List.merge r w (leB o)++rs.flatten).Perm M:=((List.merge_perm_append (leB o)).append_right _).trans (((List.perm_append_comm (l₁:=r)).append_right _).trans ((by rw [List.append_assoc]; exact .refl _:(w++r++rs.flatten).Perm (w++(r::rs).flatten)).trans H.p))
  have hx:r.length+w.length≤big:=by
   have:=pm.length_eq
   rw [List.length_append,(List.merge_perm_append (leB o)).length_eq,List.length_append] at this
   exact Nat.le_trans (Nat.le_add_right ..) (this ▸ hl)
  have mg:=re d ((H.lt hM).2 _ (.head _)) (H.lt hM).1 hx
  refine Qe (ur d (I:=I) (X5:=X5) (X7:=X7) hM hl rs _ (some (eJ K r)) ⟨fun r hr=>H.s r (.tail _ hr),d.merge (H.s _ (.head _)) H.r,pm⟩) fun x' w' ih=>?_
  exact fI ih [xP 5 mg]
noncomputable abbrev plF:=fR b8 7 (at_ bt.body 5)
theorem rf {a b c d e f g h i:Option V}{O:List Nat}:∀ (w u:List Nat) (x:Option V),u.length+w.length≤big→u++w=O →
  ∃ x',plF (w.map (bx K)) [a,b,c,d,e,f,g,h,i,some (.ref 1),x] [.dead,.list (u.map fun p=>.int (p:Nat))] .next [a,b,c,d,e,f,g,h,i,some (.ref 1),x'] [.dead,.list (O.map fun p=>.int (p:Nat))]
 | [],u,x,hl,q=>⟨x,by rw [← q,List.append_nil]; exact fN⟩
 | p::w,u,x,hl,q=>by
  rw [List.length_cons,← Nat.add_assoc,Nat.add_right_comm] at hl
  refine uZ (rf (a:=a) (b:=b) (c:=c) (d:=d) (e:=e) (f:=f) (g:=g) (h:=h) (i:=i) (O:=O) w (u++[p]) (some (bx K p)) (by rw [List.length_append]; exact hl) (by rw [List.append_assoc]; exact q)) fun x' ih=>?_
  have pa:=bf (G:=[.dead,.list (u.map fun p=>V.int (p:Nat))]) (i:=1) (v:=.int (p:Nat)) rfl (by rw [List.length_map]; exact Nat.le_trans (Nat.le_add_right ..) hl)
  rw [List.map_append] at ih
  exact fI ih [xH 3 pa]
theorem qc {r0 r4:V}(d:Od K R o N) (Y:Kys K R r0 r4 N its):∃ ps:List Nat,ps.Perm (List.range N)∧Srt o ps∧ge [.none,.lst its,R,.bool false] (.ok (.lst (ps.map fun p=>.int (p:Nat)))):=by
 have hN:N≤big:=Nat.le_trans d.n (by decide)
 refine E9 (AF d Y N 0 [] none none none (Nat.zero_add N) (Nat.le_refl 0) ⟨nofun,.nil,.nil⟩) fun y5 y6 y7 rs h1 h2 w1=>?_
 refine cz (ur d (I:=.lst its) (X5:=y5) (X7:=y7) (AE (Nat.le_refl N)) (by rw [List.length_range]; exact hN) rs [] y6 h2) fun x' ps g1 g2 w2=>?_
 have hpl:ps.length≤big:=by rw [g2.length_eq,List.length_range]; exact hN
 refine aj (rf (K:=K) (a:=some .none) (b:=some (.lst its)) (c:=some R) (d:=some (.bool false)) (e:=some (.ref 0)) (f:=y5) (g:=x') (h:=y7) (i:=some (eJ K ps)) (O:=ps) ps [] none (by rw [List.length_nil,Nat.zero_add]; exact hpl) rfl) fun x3 w3=>⟨ps,g2,g1,?_⟩
 have it:=bR (a:=0) (b:=its.length) (Y.n ▸ hN) (Nat.zero_le _)
 rw [← Y.n] at w1
 have pp:(V.puL [.none,.lst its,R,.bool false]&&bo bt [.none,.lst its,R,.bool false])=true:=by
  rw [V.puL,V.puL,V.pu,Y.p,V.puL,d.pr]; rfl
 have pr:V.puL (ps.map fun p=>V.int (p:Nat))=true:=a8 (fun _=>rfl) ps
 exact goP [xL 3 it,xS 0 w1,xS 3 w2,xS 2 w3] pp pr
end
end
section
structure Gs (mode sh:Nat) (gs:List (List Wo)):Prop where
 m:mode<3
 s:sh<3
 g:∀ g∈gs,Grp mode sh g
 n:gs.length≤20
noncomputable def ke (mode sh:Nat) (gs:List (List Wo)):Prop:=∀ g∈gs,cw mode (aN sh g)
noncomputable def hd (sh:Nat) (gs:List (List Wo)) (p:Nat):Wo:=aN sh (gs[p]?.getD [])
noncomputable def itS (g:List Wo):V:=S (bl g)
noncomputable def aq (gs:List (List Wo)):V:=.lst (gs.map itS)
section
variable {mode sh:Nat}{nc dec:Bool}{gs:List (List Wo)}
theorem Gs.big (h:Gs mode sh gs):gs.length≤big:=Nat.le_trans h.n (by decide)
theorem yJ {a b c:Wo}(h1:gp mode nc dec a b≤0) (h2:gp mode nc dec b c≤0):gp mode nc dec a c≤0:=by
 unfold gp at *
 cases dec with
 | false=>exact mI (b:=cK mode nc b) h1 h2
 | true =>
  rw [if_pos rfl,← jk] at *
  exact mI (b:=cK mode nc b) h2 h1
theorem JL (a b:Wo):gp mode nc dec a b≤0∨gp mode nc dec b a≤0:=by
 unfold gp
 have k:∀ x:Int,x≤0∨-x≤0:=fun x=>(Int.le_total x 0).imp_right Int.neg_nonpos_of_nonneg
 cases dec with
 | false =>
  rw [if_neg (by decide),if_neg (by decide),jk (cK mode nc a)]
  exact k _
 | true =>
  rw [if_pos rfl,if_pos rfl,jk (cK mode nc b),Int.neg_neg]
  exact k _
theorem G9 (h:Gs mode sh gs) (hh:ke mode sh gs):Od (fun p=>fy mode (hd sh gs p)) (gq mode nc dec sh) (fun a b=>gp mode nc dec (hd sh gs a) (hd sh gs b)) gs.length where
 pu:=fun p=>ot ..
 pr:=yI
 h:=fun p q hp hq =>
  have k:∀ p,p<gs.length→cw mode (hd sh gs p):=fun p hp=>by
   unfold hd
   rw [List.getElem?_eq_getElem hp]
   exact hh _ (List.getElem_mem hp)
  Ca (k p hp) (k q hq) h.m
 tr:=fun _ _ _ h1 h2=>yJ h1 h2
 to:=fun _ _=>JL _ _
 n:=Nat.le_trans h.n (by decide)
theorem EG (h:Gs mode sh gs) (hh:ke mode sh gs):Kys (fun p=>fy mode (hd sh gs p)) (gq mode nc dec sh) (S (fw mode)) (iq sh) gs.length (gs.map itS) where
 n:=List.length_map ..
 p:=a8 (fun _=>rfl) _
 e0:=fun _=>rfl
 e4:=fun _=>rfl
 k:=fun k T e=>by
  rw [List.getElem?_map] at e
  refine gj e fun g hg e=>e ▸ ⟨_,jh (h.g g (List.mem_of_getElem? hg)) h.s,?_⟩
  have e2:hd sh gs k=aN sh g:=by unfold hd; rw [hg]; rfl
  rw [e2]
  exact lq (hh g (List.mem_of_getElem? hg)) h.m
noncomputable abbrev msF:=fR jH 7 (at_ fg.body 1)
theorem De (hn:gs.length≤big) {R:V}:∀ (ps:List Nat) (u:List (List Wo)) (x:Option V),Lt gs.length ps→u.length+ps.length≤big →
  ∃ x',msF (ps.map fun p=>.int (p:Nat)) [some .none,some (aq gs),some R,some (.bool false),some (.ref 0),x] [.list (u.map itS)] .next [some .none,some (aq gs),some R,some (.bool false),some (.ref 0),x'] [.list ((u++ps.map fun p=>gs[p]?.getD []).map itS)]
 | [],u,x,h,hl=>⟨x,by rw [List.map_nil (f:=fun p=>gs[p]?.getD []),List.append_nil]; exact fN⟩
 | p::ps,u,x,h,hl=>by
  rw [List.length_cons,← Nat.add_assoc,Nat.add_right_comm] at hl
  have hp:=h p (.head _)
  have eg:gs[p]? = some gs[p]:=List.getElem?_eq_getElem hp
  have it:=bS [.list (u.map itS)] (vs:=gs.map itS) (k:=p) (v:=itS gs[p]) (by rw [List.getElem?_map,eg]; rfl)
  have pa:=bf (G:=[.list (u.map itS)]) (i:=0) (v:=itS gs[p]) rfl (by rw [List.length_map]; exact Nat.le_trans (Nat.le_add_right ..) hl)
  refine uZ (De hn (R:=R) ps (u++[gs[p]]) (some (.int p)) (fun p hp=>h p (.tail _ hp)) (by rw [List.length_append]; exact hl)) fun x' ih=>?_
  rw [List.append_assoc,List.map_append] at ih
  rw [List.map_cons (f:=fun p=>gs[p]?.getD []),eg]
  generalize gs[p]=g at *
  exact fI ih [xV 3 it,xH 0 pa]
theorem rO (h:Gs mode sh gs) (hh:ke mode sh gs):∃ gs':List (List Wo),gs'.Perm gs∧(gs'.Pairwise fun g g'=>gp mode nc dec (aN sh g) (aN sh g')≤0)∧gN [.none,aq gs,gq mode nc dec sh] (.ok (aq gs')):=by
 refine dA (qc (G9 (nc:=nc) (dec:=dec) h hh) (EG h hh)) fun ps h1 h2 w1=>?_
 refine aj (De h.big (R:=gq mode nc dec sh) ps [] none (fun p hp=>List.mem_range.mp (h1.mem_iff.mp hp)) (by rw [h1.length_eq,List.length_range,List.length_nil,Nat.zero_add]; exact h.big)) fun x' w2=>⟨ps.map fun p=>gs[p]?.getD [],?_,?_,?_⟩
 ·refine (h1.map _).trans ?_
  have:(List.range gs.length).map (fun p=>gs[p]?.getD [])=gs:=by
   apply List.ext_getElem?
   intro i
   rw [List.getElem?_map]
   rcases Nat.lt_or_ge i gs.length with h | h
   ·rw [List.getElem?_range h,List.getElem?_eq_getElem h,Option.map_some,List.getElem?_eq_getElem h,Option.getD_some]
   ·rw [List.getElem?_eq_none (by rw [List.length_range]; exact h),List.getElem?_eq_none h]; rfl
  rw [this]
 ·rw [List.pairwise_map]
  exact h2.imp fun h=>of_decide_eq_true h
 ·have pv:V.puL (gs.map itS)=true:=a8 (fun _=>rfl) _
  have pp:(V.puL [.none,aq gs,gq mode nc dec sh]&&bo fg [.none,aq gs,gq mode nc dec sh])=true:=by rw [V.puL,V.puL,aq,V.pu,pv,V.puL,yI]; rfl
  have pr:(aq (ps.map fun p=>gs[p]?.getD [])).pu=true:=a8 (f:=itS) (fun _=>rfl) _
  exact goP [xP 4 w1,xS 1 w2] pp pr
end
end
theorem Hd {a c:V}{da dc:PyData}(h1:V.data a=some da) (h2:V.data c=some dc) (h:((da.canLay0&&dc.canLay0)&&Nat.ble da.depth 20)=true):(eqD a c).v=some (PyData.eqv da dc):=by
 have e:eqD a c=_:=cC h1
 have e2:eqD a c=_:=e.trans (cC h2)
 exact congrArg Cv.v (e2.trans (fx h))
theorem yK {G:AH}{a c:V}{x:Bool}(h:(eqC a c).v=some x):aF G .Eq a c=some x :=
 have k:∀ o:Cv (EqS a c),o.v=some x→Cv.v (P:=uV G .Eq a c) (match o with | some b=>yes b.1 fun _ hu _ _ ra rc=>(b.2 hu ra rc).1 | none=>none)=some x:=fun o h=>match o,h with
  | some b,h=>h
  | none,h=>nS h
 k _ h
theorem He {G:AH}{a c:V}{x:Bool}(h:(eqC a c).v=some x):aF G .NotEq a c=some (!x) :=
 have k:∀ o:Cv (EqS a c),o.v=some x→Cv.v (P:=uV G .NotEq a c) (match o with | some b=>yes (!b.1) fun _ hu _ _ ra rc=>(b.2 hu ra rc).2 | none=>none)=some (!x):=fun o h=>match o,h with
  | some b,h=>congrArg (Option.map (!·)) h
  | none,h=>nS h
 k _ h
noncomputable def kg (v:V):Bool:=match V.data v with
 | some d=>d.canLay0&&Nat.ble d.depth 20
 | none=>false
theorem JM {v:V}{P:Prop}(h:kg v=true) (k:∀ d,V.data v=some d→d.canLay0=true→Nat.ble d.depth 20=true→P):P:=by
 unfold kg at h
 cases e:V.data v with
 | none=>rw [e] at h; exact ff h
 | some d=>rw [e] at h; exact k d e (an h).1 (an h).2
theorem Hf {v:V}(h:kg v=true):(eqD v v).v=some true:=JM h fun d e a b=>by
 rw [Hd e e (Bool.and_eq_true_iff.mpr ⟨Bool.and_eq_true_iff.mpr ⟨a,a⟩,b⟩),SeqAt.eqv_refl d a]
theorem AG {v:V}(h:kg v=true):(eqC v v).v=some true:=by
 cases v with
 | int i=>exact congrArg some (beq_self_eq_true i)
 | str x=>exact congrArg some (beq_self_eq_true x)
 | _=>exact Hf h
theorem qd {α:Type}{f:α→V}{g:α→PyData}(h:∀ a,V.data (f a)=some (g a)):∀ ws:List α,V.datas (ws.map f)=some (ws.map g)
 | []=>rfl
 | w::ws=>by rw [List.map_cons,V.datas,h,qd h ws]; rfl
theorem ut {α:Type}{f:α→V}{g:α→PyData}(h:∀ a,V.data (f a)=some (g a)) (ws:List α):V.data (.lst (ws.map f))=some (.list (ws.map g)):=by rw [V.data,qd h]; rfl
theorem Os {α:Type}{f:α→V}{g:α→PyData}(h:∀ a,V.data (f a)=some (g a)) (ws:List α):V.data (.tup (ws.map f))=some (.tuple (ws.map g)):=by rw [V.data,qd h]; rfl
theorem rY {α:Type}{g:α→PyData}{n:Nat}:∀ {ws:List α},(∀ w∈ws,(g w).canLay0=true∧(g w).depth≤n)→PyData.canLayAll0 (ws.map g)=true∧PyData.depthAll (ws.map g)≤n
 | [],_=>⟨rfl,Nat.zero_le _⟩
 | w::ws,h=>by
  have k:=rY fun w hw=>h w (.tail _ hw)
  have k2:=h w (.head _)
  rw [List.map_cons,PyData.canLayAll0,PyData.depthAll,k.1,k2.1]
  exact ⟨rfl,Nat.max_le.mpr ⟨k2.2,k.2⟩⟩
noncomputable def okT (t:List Nat):Bool:=PyData.strOk ⟨⟨t⟩⟩
theorem JN {ws:List (List Nat)}(h:∀ w∈ws,okT w=true):kg (.lst (ws.map S))=true:=by
 have k:=rY (g:=fun w=>PyData.str ⟨⟨w⟩⟩) (n:=1) fun w hw=>⟨h w hw,Nat.zero_le 1⟩
 rw [kg,ut (g:=fun w=>PyData.str ⟨⟨w⟩⟩) fun _=>rfl]
 exact Bool.and_eq_true_iff.mpr ⟨k.1,eH (Nat.le_trans (Nat.succ_le_succ k.2) (by decide))⟩
theorem KK:∀ a b:List Int,PyData.eqvAll (a.map .int) (b.map .int)=decide (a=b)
 | [],[]=>rfl
 | [],_::_=>rfl
 | _::_,[]=>rfl
 | i::a,j::b=>by
  rw [List.map_cons,List.map_cons,PyData.eqvAll,PyData.eqv,KK a b,Bool.eq_iff_iff]; simp
theorem Hg (a b:List Int):(eqC (.lst (a.map .int)) (.lst (b.map .int))).v=some (decide (a=b)):=by
 have k:=fun a:List Int=>rY (g:=PyData.int) (n:=1) (ws:=a) fun w _=>⟨rfl,Nat.zero_le 1⟩
 have e:=fun a:List Int=>ut (f:=V.int) (g:=.int) (fun _=>rfl) a
 exact (Hd (e a) (e b) (Bool.and_eq_true_iff.mpr ⟨Bool.and_eq_true_iff.mpr ⟨(k a).1,(k b).1⟩,eH (Nat.le_trans (Nat.succ_le_succ (k a).2) (by decide))⟩)).trans (congrArg some (KK a b))
theorem Hh {a b:List Str}(h:a.Perm b):nz a=nz b :=
 List.Perm.eq_of_pairwise (le:=nle) (fun x y _ _ h1 h2=>kC h2 h1) (gH a) (gH b) ((dU a).trans (h.trans (dU b).symm))
theorem AI {ws:List (List Nat)}(h:ws.length<64):nA [] ⟨⟨[115,111,114,116,101,100]⟩⟩ [.lst (ws.map S)]=some (.lst ((nz (ws.map fun w=>⟨⟨w⟩⟩)).map .str)):=by
 have e:CO [] [.lst (ws.map S)]=_:=cC (og ws)
 have e:=e.trans (fx (eH (by rw [List.length_map]; exact h)))
 exact congrArg (fun c=>Cv.v (blI [] ⟨⟨[115,111,114,116,101,100]⟩⟩ [.lst (ws.map S)] ⟨⟨[115,111,114,116,101,100]⟩⟩ c (by decide +kernel) none)) e
theorem Hi {t:List Nat}(h:t.all (fun c=>Nat.blt c 0x110000)=true):okT t=true:=by
 unfold okT PyData.strOk
 rw [← Array.all_toList]
 exact List.all_eq_true.mpr fun c hc=>decide_eq_true (aX (List.all_eq_true.mp h c hc))
noncomputable def nd (d c:Nat):Nat:=if c=123 then d+1 else if c=125 then d - 1 else d
noncomputable def cut:Nat→List Nat→List Nat × List Nat
 | _,[]=>([],[])
 | d,c::r=>if (c==32&&d==0)=true then ([],r) else (c::(cut (nd d c) r).1,(cut (nd d c) r).2)
noncomputable def Mm:Nat→List Nat→Bool
 | d,[]=>d==0
 | d,c::r=>!(c==32&&d==0)&&Mm (nd d c) r
theorem yL {r:List Nat}:∀ {u:List Nat}{d:Nat},Mm d u=true→cut d (u++32::r)=(u,r)
 | [],d,h=>by
  obtain rfl:d=0:=eq_of_beq h
  rfl
 | c::u,d,h=>by
  have h:=an h
  rw [List.cons_append,cut,bN h.1,if_neg (by decide),yL h.2]
theorem yM:(G3.all fun w=>Mm 0 (enc w)&&(w.all (fun c=>chs.contains c&&Nat.blt c 0x110000)&&G3.all fun v=>enc w != enc v||w==v))=true:=by kernel_rfl
theorem Ce:(bT.all fun a=>bT.all fun b=>a.t != b.t||decide (a.n=b.n))=true:=by kernel_rfl
theorem rg {a b:Bool}(h:(a||b)=true) (k:a=false):b=true:=by rw [k] at h; exact h
theorem yN {mode:Nat}{a b:Wo}(ha:a∈dom mode) (hb:b∈dom mode) (e:enc a.t=enc b.t):a=b:=by
 have e:a.t=b.t:=eq_of_beq (rg (List.all_eq_true.mp (an (an (List.all_eq_true.mp yM _ (lI ha))).2).2 _ (lI hb)) (by rw [e]; exact bne_self_eq_false _))
 obtain ⟨t,n⟩:=a
 obtain ⟨t',n'⟩:=b
 obtain rfl:t=t':=e
 by_cases hm:mode=2
 ·subst hm
  have k:=of_decide_eq_true (rg (List.all_eq_true.mp (List.all_eq_true.mp Ce _ ha) _ hb) (bne_self_eq_false _))
  exact congrArg (Wo.mk t) k
 ·exact congrArg (Wo.mk t) ((dy ha hm).2.trans (dy hb hm).2.symm)
theorem JO {mode sh:Nat}{g g':List Wo}(h:Grp mode sh g) (h':Grp mode sh g') (e:bl g=bl g'):g=g' :=
 h.el (fun a q ha eg=>h'.el (fun a' _ ha' eg'=>by
  subst eg eg'
  exact congrArg (fun x=>[x]) (yN ha ha' (congrArg enc e))) fun a b q' _ _ _=>absurd q q') fun a b q ha hb eg=>h'.el (fun a' q' _ _=>absurd q' q) fun a' b' _ ha' hb' eg'=>by
  subst eg eg'
  have k:=fun {w:Wo}(hw:w∈dom mode)=>(an (List.all_eq_true.mp yM _ (lI hw))).1
  have e:enc a.t++[32]++enc b.t=enc a'.t++[32]++enc b'.t:=e
  rw [List.append_assoc,List.append_assoc] at e
  have e:=(yL (k ha)).symm.trans ((congrArg (cut 0) e).trans (yL (k ha')))
  rw [yN ha ha' (Prod.mk.inj e).1,yN hb hb' (Prod.mk.inj e).2]
noncomputable abbrev ltU (t:List Nat):Prop:=t.all (fun c=>Nat.blt c 0x110000)=true
theorem rZ {mode:Nat}{w:Wo}(h:w∈dom mode):(∀ c∈w.t,c∈chs)∧ltU w.t:=by
 have k:=List.all_eq_true.mp (an (an (List.all_eq_true.mp yM _ (lI h))).2).1
 exact ⟨fun c hc=>List.contains_iff_mem.mp (an (k c hc)).1,List.all_eq_true.mpr fun c hc=>(an (k c hc)).2⟩
theorem JP {a b:List Nat}(h:ltU a) (h':ltU b):ltU (a++b):=by unfold ltU; rw [List.all_append]; exact Bool.and_eq_true_iff.mpr ⟨h,h'⟩
theorem Hj {w:List Nat}(h:ltU w):ltU (enc w):=by
 unfold enc
 split
 ·exact JP (a:=[123]) rfl (JP h rfl)
 ·exact h
theorem Hk {mode sh:Nat}{g:List Wo}(h:Grp mode sh g):ltU (bl g) :=
 h.el (fun a _ ha e=>by subst e; exact (rZ ha).2) fun a b _ ha hb e=>by
  subst e
  exact JP (JP (Hj (rZ ha).2) rfl) (Hj (rZ hb).2)
section
noncomputable def iu (g:List Wo):V:=.lst (g.map Wo.v)
noncomputable def aA (gs:List (List Wo)):V:=.lst (gs.map iu)
theorem Mn (g:List Wo):(iu g).pu=true:=a8 oi g
theorem wF (gs:List (List Wo)):(aA gs).pu=true:=a8 Mn gs
theorem Cf {ws:List (List Nat)}{k:List Nat}(h:k∈ws):∃ j,ws[j]? = some k∧eQ .lindex (.lst (ws.map S)) [S k]=some (.int (j:Nat)):=by
 have hm:(⟨⟨k⟩⟩:Str)∈ws.map fun w=>(⟨⟨w⟩⟩:Str):=List.mem_map_of_mem h
 have hj:=List.idxOf_lt_length_iff.mpr hm
 have q:eQ .lindex (.lst (ws.map S)) [S k]=_:=congrArg Cv.v ((cC (og ws)).trans (fx (List.contains_iff_mem.mpr hm)))
 refine ⟨_,?_,q⟩
 have e:=List.getElem?_eq_getElem hj
 rw [List.getElem_idxOf hj,List.getElem?_map] at e
 exact gj e fun w hw e=>by rw [hw]; exact congrArg some (congrArg (fun s:Str=>s.cps.toList) e)
theorem mL (a b:List Int):cL a b=-1∨cL a b=0∨cL a b=1:=by
 induction a generalizing b with
 | nil=>cases b with
  | nil=>exact .inr (.inl rfl)
  | cons=>exact .inl rfl
 | cons a as ih=>cases b with
  | nil=>exact .inr (.inr rfl)
  | cons b bs =>
   rw [g6]
   split
   ·exact ih bs
   ·split
    ·exact .inl rfl
    ·exact .inr (.inr rfl)
section
variable {mode sh:Nat}{nc dec:Bool}{gs:List (List Wo)}
theorem EH (hm:mode<3):aG [] (.lst [S [97,115,99,105,105],S [100,105,99,116,105,111,110,97,114,121],S [105,110,116,101,103,101,114]]) (.int (mode:Nat))=some (S (fw mode)) :=
 tri hm (fun e=>by subst e; rfl) (fun e=>by subst e; rfl) fun e=>by subst e; rfl
theorem Cg (hs:sh<3):bG (.lst [S [48],S [101,110,100]]) (some (.int ((sh:Int) - 1))) (some (.int sh)) none=some (iq sh) :=
 tri hs (fun e=>by subst e; kernel_rfl) (fun e=>by subst e; kernel_rfl) fun e=>by subst e; kernel_rfl
theorem Hl {g:List Wo}(h:Grp mode sh g):aG [] (iu g) (.int (if sh=2 then -1 else 0))=some (aN sh g).v :=
 h.el (fun a q ha e=>by subst q e; rfl) fun a b q ha hb e=>by
  subst e
  by_cases q2:sh=2
  ·subst q2; rfl
  ·rw [if_neg q2,aN,if_neg q2]; rfl
noncomputable def kV (mode sh:Nat) (nc:Bool) (g:List Wo):V:=.lst ((cK mode nc (aN sh g)).map .int)
theorem yO {nc:Bool}{w:Wo}(h:w∈dom mode):(cK mode nc w).length≤big:=by
 unfold cK
 split
 ·exact (by decide:1≤big)
 ·rename_i hm
  have h1:=(dy h hm).1
  split
  ·have hall:bV.all (fun t=>Nat.ble (lJ t).length big)=true:=by kernel_rfl
   exact aX (List.all_eq_true.mp hall _ h1)
  ·rw [List.length_map]; exact Nat.le_trans (ji h1).1 (by decide)
noncomputable abbrev ioF:=fR cn 7 (at_ ck.body 6)
theorem c7 {d:Nat}:cA .Sub (.int ((d+1:Nat):Int)) (.int 1)=some (.int (d:Nat)):=congrArg (fun i=>some (V.int i)) (by rw [Int.natCast_add,Int.natCast_one,Int.add_sub_cancel])
theorem Df {R X0 X1 X2 X3 X5 X6 X7:Option V}{Ks:List (List Int)}{A:V}(hA:A=.lst (Ks.map fun k=>.lst (k.map .int))) (hR:R=some (gq mode nc dec sh)) (hl:∀ k∈Ks,k.length≤big) (hp:Ks.Pairwise fun a b=>(if dec then - cL a b else cL a b)≤0) :
  ∀ (n k:Nat) (x:Option V),k+1+n=Ks.length →
  ∃ x',ioF ((List.range' (k+1) n).map fun i=>.int (i:Nat)) [X0,X1,X2,X3,R,X5,X6,X7,some A,x] [] .next [X0,X1,X2,X3,R,X5,X6,X7,some A,x'] []
 | 0,k,x,h=>⟨x,fN⟩
 | n+1,k,x,h=>by
  refine uZ (Df hA hR hl hp (X0:=X0) (X1:=X1) (X2:=X2) (X3:=X3) (X5:=X5) (X6:=X6) (X7:=X7) n (k+1) (some (.int (k+1:Nat))) (by rw [← h,Nat.add_right_comm _ 1 n]; rfl)) fun x' ih=>?_
  have h2:k+1<Ks.length:=by rw [← h]; exact Nat.lt_add_of_pos_right (Nat.succ_pos n)
  have h1:=Nat.lt_of_succ_lt h2
  have i1:=ua (vs:=Ks.map fun k=>V.lst (k.map .int)) (k:=k) (v:=.lst (Ks[k].map .int)) (by rw [List.getElem?_map,List.getElem?_eq_getElem h1]; rfl)
  have i2:=ua (vs:=Ks.map fun k=>V.lst (k.map .int)) (k:=k+1) (v:=.lst (Ks[k+1].map .int)) (by rw [List.getElem?_map,List.getElem?_eq_getElem h2]; rfl)
  have ho:=q9 (hl Ks[k] (List.getElem_mem h1)) (hl Ks[k+1] (List.getElem_mem h2))
  have hle:=List.pairwise_iff_getElem.mp hp k (k+1) h1 h2 (Nat.lt_succ_self k)
  have hc:=mL Ks[k] Ks[k+1]
  rw [← hA] at i1 i2
  subst hR
  rw [List.range'_succ,List.map_cons]
  generalize cL Ks[k] Ks[k+1]=z at *
  generalize Ks[k].map V.int=L1 at *
  generalize Ks[k+1].map V.int=L2 at *
  clear hA hp hl
  rcases hc with e | e | e
  ·subst e
   cases dec with
   | false=>exact fI ih [xV 2 (c7 (d:=k)),xV 0 i1,xV 2 i2,xP 0 ho]
   | true=>exact absurd hle (by decide)
  ·subst e
   cases dec with
   | false=>exact fI ih [xV 2 (c7 (d:=k)),xV 0 i1,xV 2 i2,xP 0 ho]
   | true=>exact fI ih [xV 2 (c7 (d:=k)),xV 0 i1,xV 2 i2,xP 0 ho]
  ·subst e
   cases dec with
   | false=>exact absurd hle (by decide)
   | true=>exact fI ih [xV 2 (c7 (d:=k)),xV 0 i1,xV 2 i2,xP 0 ho]
noncomputable def bit (f:Int) (k:Int):Bool:=(f.fdiv k).fmod 2==1
noncomputable abbrev ioE (i:Nat):=sE (at_ ck.body i)
theorem Hm {gs':List (List Wo)}(h:Gs mode sh gs) (p:gs'.Perm gs):∃ v,nA [] ⟨⟨[115,111,114,116,101,100]⟩⟩ [aq gs]=some v∧nA [] ⟨⟨[115,111,114,116,101,100]⟩⟩ [aq gs']=some v∧aF [] .NotEq v v=some false:=by
 have e:∀ gs:List (List Wo),aq gs=.lst ((gs.map bl).map S):=fun gs=>by rw [List.map_map]; rfl
 have hn:gs.length<64:=Nat.lt_of_le_of_lt h.n (by decide)
 refine ⟨_,by rw [e]; exact AI (by rw [List.length_map]; exact hn),?_,He (AG ?_)⟩
 ·rw [e,AI (by rw [List.length_map,p.length_eq]; exact hn),Hh ((p.map bl).map _)]
 ·have k:∀ l:List Str,(∀ x∈l,okT x.cps.toList=true)→kg (.lst (l.map .str))=true:=fun l hl=>by
   have:=JN (ws:=l.map fun x=>x.cps.toList) fun w hw=>ae (List.mem_map.mp hw) fun x hx e=>e ▸ hl x hx
   rw [List.map_map] at this
   exact this
  refine k _ fun x hx=>?_
  have hx:=(dU _).mem_iff.mp hx
  exact ae (List.mem_map.mp hx) fun w hw e=>ae (List.mem_map.mp hw) fun g hg e'=>by subst e e'; exact Hi (Hk (h.g g hg))
theorem vh (h:Gs mode sh gs) (hh:ke mode sh gs) (f:Int):∃ gs':List (List Wo),gs'.Perm gs∧(gs'.Pairwise fun g g'=>gp mode (bit f 8) (bit f 16) (aN sh g) (aN sh g')≤0)∧cY [.int mode,.int sh,.int f,aA gs] (.ok (aA gs')):=by
 refine dA (rO (nc:=bit f 8) (dec:=bit f 16) h hh) fun gs' p ps hm=>⟨gs',p,ps,?_⟩
 refine dA (Hm h p) fun v n1 n2 n3=>?_
 have hg:∀ g∈gs',g∈gs:=fun g hg=>p.mem_iff.mp hg
 have c1:∀ m,cQ (cR cn 23 (ioE 1) m) (gs.map iu) [] (gs.map itS) []:=fun m=>dj gs fun g hg=>by
  have hgg:=h.g g hg
  have k:=ww (g:=g) (fun w hw=>Nat.le_trans (dx (hgg.w w hw)).2 (by decide)) (by rw [hgg.n]; split <;> decide)
  exact goC [xP 1 k]
 have c2:cQ (cR cn 23 (ioE 4) [some (.int mode),some (.int sh),some (.int f),some (aA gs),some (gq mode (bit f 8) (bit f 16) sh),some (aq gs),some (aq gs'),none,none,none]) (gs'.map itS) [] (gs'.map iu) []:=dj gs' fun g hg'=>by
  refine ae (Cf (ws:=gs.map bl) (k:=bl g) (List.mem_map_of_mem (hg g hg'))) fun j hj he=>?_
  rw [List.getElem?_map] at hj
  refine gj hj fun g' hj' e=>?_
  obtain rfl:=JO (h.g g' (List.mem_of_getElem? hj')) (h.g g (hg g hg')) e
  have it:=ua (vs:=gs.map iu) (k:=j) (v:=iu g') (by rw [List.getElem?_map,hj']; rfl)
  rw [List.map_map] at he
  exact goC [xV 3 he,xV 0 it]
 have c3:cQ (cR cn 23 (ioE 5) [some (.int mode),some (.int sh),some (.int f),some (aA gs),some (gq mode (bit f 8) (bit f 16) sh),some (aq gs),some (aq gs'),some (aA gs'),none,none]) (gs'.map iu) [] (gs'.map (kV mode sh (bit f 8))) []:=dj gs' fun g hg'=>by
  have k1:=jj (nc:=bit f 8) (hh g (hg g hg')) h.m
  have g1:=Hl (h.g g (hg g hg'))
  generalize bit f 8=nc at *
  generalize bit f 16=dec at *
  by_cases q:sh=2
  ·subst q
   exact goC [xV 9 g1,xP 0 k1]
  ·rw [if_neg q] at g1
   exact goC [xC 7 (nF q),xV 0 g1,xP 0 k1]
 have it:=bR (a:=1) (b:=(gs'.map (kV mode sh (bit f 8))).length) (by rw [List.length_map,p.length_eq]; exact h.big) (by decide)
 have hio:∃ x',ioF ((List.range' 1 ((gs'.map (kV mode sh (bit f 8))).length - 1)).map fun i=>.int (i:Nat)) [some (.int mode),some (.int sh),some (.int f),some (aA gs),some (gq mode (bit f 8) (bit f 16) sh),some (aq gs),some (aq gs'),some (aA gs'),some (.lst (gs'.map (kV mode sh (bit f 8)))),none] []
   .next [some (.int mode),some (.int sh),some (.int f),some (aA gs),some (gq mode (bit f 8) (bit f 16) sh),some (aq gs),some (aq gs'),some (aA gs'),some (.lst (gs'.map (kV mode sh (bit f 8)))),x'] []:=by
  cases hq:gs' with
  | nil=>exact ⟨none,fN⟩
  | cons g r =>
   rw [← hq]
   exact Df (Ks:=gs'.map fun g=>cK mode (bit f 8) (aN sh g)) (by rw [List.map_map]; rfl) rfl (fun k hk=>ae (List.mem_map.mp hk) fun g hg' e=>e ▸ yO (hh g (hg g hg')).d) (List.pairwise_map.mpr ps) _ 0 none (by rw [List.length_map,List.length_map,hq]; exact Nat.add_comm 1 _)
 refine aj hio fun x' w=>?_
 have pp:(V.puL [.int mode,.int sh,.int f,aA gs]&&bo ck [.int mode,.int sh,.int f,aA gs])=true:=by rw [V.puL,V.puL,V.puL,V.puL,wF]; rfl
 have c1:=c1 [some (.int mode),some (.int sh),some (.int f),some (aA gs),some (gq mode (bit f 8) (bit f 16) sh),none,none,none,none,none]
 exact goP [xV 1 (EH h.m),xV 11 (Cg h.s),xQ 2 c1,xP 2 hm,xV 1 n2,xV 1 n1,xB 0 n3,xQ 4 c2,xQ 2 c3,xL 3 it,xS 0 w] pp (wF gs')
end
end
section
theorem bc {α:Type}{l:List α}{k:Nat}{x:α}(e:l[k]? = some x):k<l.length:=(List.getElem?_eq_some_iff.mp e).1
theorem Hn {l:List Nat}{c i k:Nat}(hik:i≤k) (hk:l[k]? = some c) (hn:∀ v,i≤v→v<k→l[v]?≠some c):Txt.find3 ⟨⟨l⟩⟩ ⟨⟨[c]⟩⟩ (i:Int)=(k:Int):=by
 have hkl:=bc hk
 have hf:fromIndex (⟨⟨l⟩⟩:Str).length (i:Int)=i:=by
  show fromIndex l.length (i:Int)=i
  unfold fromIndex
  rw [if_neg (Int.not_lt.mpr (Int.natCast_nonneg i))]
  rfl
 have h3:=find3_spec ⟨⟨l⟩⟩ c (i:Int)
 rw [hf] at h3
 rcases h3 with ⟨h1,h2⟩ | ⟨j,h1,h2,h3,h4,h5⟩
 ·exact absurd (getD_of_getElem? (x:=⟨⟨l⟩⟩) hk) (h2 k hik hkl)
 ·rcases Nat.lt_trichotomy j k with q | q | q
  ·exact absurd (getElem?_of_getD (x:=⟨⟨l⟩⟩) h3 h4) (hn j h2 q)
  ·rw [← q]; exact h1
  ·exact absurd (getD_of_getElem? (x:=⟨⟨l⟩⟩) hk) (h5 k hik q)
theorem uu {l:List Nat}{c i k:Nat}(hik:i≤k) (hk:l[k]? = some c) (hn:∀ v,i≤v→v<k→l[v]?≠some c):eQ .find (S l) [S [c],.int i]=some (.int k):=congrArg (fun x=>some (V.int x)) (Hn hik hk hn)
section
variable {l r:List Nat}{k a b c x:Nat}
theorem gr {w:List Nat}(h:l.drop k=w++r) (i:Nat) {x:Nat}(hi:w[i]? = some x):l[k+i]? = some x:=by
 rw [← List.getElem?_drop,h,List.getElem?_append_left (bc hi),hi]
theorem cM (e:l[k]? = some x):bG (S l) (some (.int k)) (some (.int (k+1:Nat))) none=some (S [x]):=by
 have h:=lj (l:=l) (i:=k) (j:=k+1)
 rw [Nat.add_sub_cancel_left,List.drop_eq_getElem_cons (bc e),(List.getElem?_eq_some_iff.mp e).2] at h
 exact h
theorem AJ (e:l.length≤k):bG (S l) (some (.int k)) (some (.int (k+1:Nat))) none=some (S []):=by
 have h:=lj (l:=l) (i:=k) (j:=k+1)
 rw [List.drop_of_length_le e,List.take_nil] at h
 exact h
noncomputable abbrev isW:=wR tS 7 (at_ n0.body 2)
noncomputable abbrev isM (l:List Nat) (k c:Nat) (low high close:Option V):LV:=[some (S l),some (.int k),some (S [c]),some (.int l.length),low,high,close]
theorem Dg (e:l[k]? = some 93) {p q s:Option V}:Wh isW (isM l k c p q s) [] .next (isM l k c p q s) []:=by
 have hk:=bc e
 exact wE [xC 4 (ltT hk),xV 2 (am e)]
theorem Ch {f:Fl}{m:LV}(e:l[k]? = some a) (e2:l[k+1]? = some x) (ha:a≠93) (hx:x≠45) {p q s:Option V}(hc:c≠a)
  (h:Wh isW (isM l (k+1) c (some (S [a])) (some (S [a])) s) [] f m []):Wh isW (isM l k c p q s) [] f m []:=by
 have hk:=bc e
 have o1:=cM e2
 rcases Nat.lt_trichotomy c a with q | q | q
 ·exact wI h [xC 4 (ltT hk),xV 2 (am e),xC 2 (nB (cF ha)),xV 2 (am e),xV 7 o1,xC 2 (cF hx),xC 4 (om q),xC 1 (om q),xC 4 (om q),xC 1 (om q)]
 ·exact absurd q hc
 ·exact wI h [xC 4 (ltT hk),xV 2 (am e),xC 2 (nB (cF ha)),xV 2 (am e),xV 7 o1,xC 2 (cF hx),xC 4 (pZ (Nat.le_of_lt q)),xC 4 (om q),xC 4 (pZ (Nat.le_of_lt q)),xC 4 (om q)]
theorem Dh (e:l[k]? = some a) (e2:l[k+1]? = some x) (ha:a≠93) (hx:x≠45) {p q s:Option V}{j:Nat}(hj:k+1≤j) (ej:l[j]? = some 93) (hn:∀ v,k+1≤v→v<j→l[v]?≠some 93) :
  Wh isW (isM l k a p q s) [] (.ret (.tup [.bool true,.int (j+1:Nat)])) [] []:=by
 have hk:=bc e
 have o1:=cM e2
 exact wE [xC 4 (ltT hk),xV 2 (am e),xC 2 (nB (cF ha)),xV 2 (am e),xV 7 o1,xC 2 (cF hx),xC 4 (pZ (Nat.le_refl a)),xC 4 (pZ (Nat.le_refl a)),xC 1 (pZ (Nat.le_refl a)),xV 2 (uu hj ej hn)]
theorem Ho (e:l[k]? = some a) (e2:l[k+1]? = some 45) (e3:l[k+2]? = some b) (e4:l[k+3]? = some 93) (ha:a≠93) (hab:a≤b) {p q s:Option V}(h1:a≤c) (h2:c≤b) :
  Wh isW (isM l k c p q s) [] (.ret (.tup [.bool true,.int (k+3+1:Nat)])) [] []:=by
 have hk:=bc e
 have o1:=cM e2
 have f:=uu (l:=l) (c:=93) (i:=k+3) (k:=k+3) (Nat.le_refl _) e4 fun v h1 h2=>absurd h1 (Nat.not_le.mpr h2)
 exact wE [xC 4 (ltT hk),xV 2 (am e),xC 2 (nB (cF ha)),xV 2 (am e),xV 7 o1,xC 8 (leF (bc e3)),xV 3 (am e3),xC 6 (pZ h1),xC 4 (pZ h2),xC 1 (pZ h2),xV 2 f]
theorem EI (e:l[k]? = some a) (e2:l[k+1]? = some 45) (e3:l[k+2]? = some b) (e4:l[k+3]? = some 93) (ha:a≠93) (hab:a≤b) {p q s:Option V}(hc:¬ (a≤c∧c≤b)) :
  Wh isW (isM l k c p q s) [] .next (isM l (k+3) c (some (S [a])) (some (S [b])) s) []:=by
 have hk:=bc e
 have o1:=cM e2
 have w:=Dg (c:=c) e4 (p:=some (S [a])) (q:=some (S [b])) (s:=s)
 rcases Nat.lt_or_ge c a with q1 | q1
 ·have q2:=Nat.lt_of_lt_of_le q1 hab
  exact wI w [xC 4 (ltT hk),xV 2 (am e),xC 2 (nB (cF ha)),xV 2 (am e),xV 7 o1,xC 8 (leF (bc e3)),xV 3 (am e3),xC 6 (om q1),xC 1 (om q1),xC 4 (om q2),xC 1 (om q2)]
 ·have q2:b<c:=Nat.lt_of_not_le fun h=>hc ⟨q1,h⟩
  have q3:=Nat.lt_of_le_of_lt hab q2
  exact wI w [xC 4 (ltT hk),xV 2 (am e),xC 2 (nB (cF ha)),xV 2 (am e),xV 7 o1,xC 8 (leF (bc e3)),xV 3 (am e3),xC 6 (pZ q1),xC 4 (om q2),xC 4 (pZ (Nat.le_of_lt q2)),xC 4 (om q3)]
theorem wG (h:l.drop k=[91,a,b,93]++r) (ha:a≠93∧a≠45) (hb:b≠93∧b≠45):kW [S l,.int k,S [c]] (.ok (.tup [.bool (c==a||c==b),.int (k+4:Nat)])):=by
 have e0:=gr h 1 rfl
 have e1:=gr h 2 rfl
 have e2:=gr h 3 rfl
 by_cases q1:c=a
 ·subst q1
  have w:=Dh (p:=none) (q:=none) (s:=none) e0 e1 ha.1 hb.2 (j:=k+3) (Nat.le_add_right (k+2) 1) e2 fun v h1 h2=>by
   rw [Nat.le_antisymm (Nat.le_of_lt_succ h2) h1,e1]
   exact fun h=>hb.1 (sj h)
  rw [beq_self_eq_true,Bool.true_or]
  exact goP [xS 4 w] rfl rfl
 ·by_cases q2:c=b
  ·subst q2
   have w:=Ch (p:=none) (q:=none) (s:=none) e0 e1 ha.1 hb.2 q1 (Dh e1 e2 hb.1 (by decide) (j:=k+3) (Nat.le_refl _) e2 fun v h1 h2=>absurd h1 (Nat.not_le.mpr h2))
   rw [beq_self_eq_true,Bool.or_true]
   exact goP [xS 4 w] rfl rfl
  ·have w:=Ch (p:=none) (q:=none) (s:=none) e0 e1 ha.1 hb.2 q1 (Ch e1 e2 hb.1 (by decide) q2 (Dg e2))
   rw [beq_eq_false_iff_ne.mpr q1,beq_eq_false_iff_ne.mpr q2]
   exact goP [xS 4 w,xC 4 (ltT (bc e2))] rfl rfl
theorem lr (h:l.drop k=[91,a,45,b,93]++r) (ha:a≠93) (hab:a≤b):kW [S l,.int k,S [c]] (.ok (.tup [.bool (Nat.ble a c&&Nat.ble c b),.int (k+5:Nat)])):=by
 have e0:=gr h 1 rfl
 have e1:=gr h 2 rfl
 have e2:=gr h 3 rfl
 have e3:=gr h 4 rfl
 by_cases q:a≤c∧c≤b
 ·have w:=Ho (c:=c) (p:=none) (q:=none) (s:=none) e0 e1 e2 e3 ha hab q.1 q.2
  rw [eH q.1,eH q.2]
  exact goP [xS 4 w] rfl rfl
 ·have w:=EI (c:=c) (p:=none) (q:=none) (s:=none) e0 e1 e2 e3 ha hab q
  rw [bF fun h=>q ⟨aX (an h).1,aX (an h).2⟩]
  exact goP [xS 4 w,xC 4 (ltT (bc e3))] rfl rfl
inductive vj:List Nat→(Nat→Bool)→Prop
 | any:vj [63] (fun _=>true)
 | sign {x:Nat}:x≠63→x≠91→x≠92→x≠42→vj [x] (fun c=>c==x)
 | back {x:Nat}:vj [92,x] (fun c=>c==x)
 | two {a b:Nat}:a≠93∧a≠45→b≠93∧b≠45→vj [91,a,b,93] (fun c=>c==a||c==b)
 | range {a b:Nat}:a≠93→a≤b→vj [91,a,45,b,93] (fun c=>Nat.ble a c&&Nat.ble c b)
theorem AK {w:List Nat}{mt:Nat→Bool}(hf:vj w mt) (h:l.drop k=w++r) (hm:mt c=true):fi [S l,.int k,S [c]] (.ok (.int (k+w.length:Nat))):=by
 cases hf with
 | any=>exact goP [xV 2 (am (gr h 0 rfl))] rfl rfl
 | sign h1 h2 h3 h4 =>
  have e0:=gr h 0 rfl
  obtain rfl:=eq_of_beq hm
  exact goP [xV 2 (am e0),xC 2 (cF h1),xV 2 (am e0),xC 2 (cF h2),xV 2 (am e0),xC 2 (cF h3),xV 4 (cM e0),xC 3 (cT (a:=c) rfl)] rfl rfl
 | back =>
  have e1:=gr h 1 rfl
  obtain rfl:=eq_of_beq hm
  exact goP [xV 2 (am (gr h 0 rfl)),xV 5 (am (gr h 0 rfl)),xV 5 (am (gr h 0 rfl)),xV 9 (cM e1),xC 3 (cT (a:=c) rfl)] rfl rfl
 | two ha hb =>
  have hs:=wG (c:=c) h ha hb
  rw [show (c==_||c==_)=true from hm] at hs
  exact goP [xV 2 (am (gr h 0 rfl)),xV 5 (am (gr h 0 rfl)),xP 6 hs] rfl rfl
 | range ha hab =>
  have hs:=lr (c:=c) h ha hab
  rw [show (Nat.ble _ c&&Nat.ble c _)=true from hm] at hs
  exact goP [xV 2 (am (gr h 0 rfl)),xV 5 (am (gr h 0 rfl)),xP 6 hs] rfl rfl
theorem EJ {w:List Nat}{mt:Nat→Bool}(hf:vj w mt) (h:l.drop k=w++r) (hm:mt c=false):fi [S l,.int k,S [c]] (.ok (.int (-1))):=by
 cases hf with
 | any=>exact tf hm
 | sign h1 h2 h3 h4 =>
  have e0:=gr h 0 rfl
  exact goP [xV 2 (am e0),xC 2 (cF h1),xV 2 (am e0),xC 2 (cF h2),xV 2 (am e0),xC 2 (cF h3),xV 4 (cM e0),xC 3 (cF fun e=>beq_eq_false_iff_ne.mp hm e.symm)] rfl rfl
 | back =>
  have e1:=gr h 1 rfl
  exact goP [xV 2 (am (gr h 0 rfl)),xV 5 (am (gr h 0 rfl)),xV 5 (am (gr h 0 rfl)),xV 9 (cM e1),xC 3 (cF fun e=>beq_eq_false_iff_ne.mp hm e.symm)] rfl rfl
 | two ha hb =>
  have hs:=wG (c:=c) h ha hb
  rw [show (c==_||c==_)=false from hm] at hs
  exact goP [xV 2 (am (gr h 0 rfl)),xV 5 (am (gr h 0 rfl)),xP 6 hs] rfl rfl
 | range ha hab =>
  have hs:=lr (c:=c) h ha hab
  rw [show (Nat.ble _ c&&Nat.ble c _)=false from hm] at hs
  exact goP [xV 2 (am (gr h 0 rfl)),xV 5 (am (gr h 0 rfl)),xP 6 hs] rfl rfl
end
end
section
noncomputable abbrev Pk:=List Nat × (Nat→Bool)
noncomputable def aT (p:Pk):Bool:=p.1==[42]
noncomputable def jR (p:Pk):Prop:=p.1=[42]∨vj p.1 p.2
noncomputable def tk (p:Pk) (t:List Nat) (k:Nat):Bool:=match t[k]? with
 | some c=>p.2 c
 | none=>false
noncomputable def exL (f:Nat→Bool):Nat→Bool
 | 0=>f 0
 | k+1=>exL f k||f (k+1)
noncomputable def ent (ps:List Pk) (t:List Nat):Nat→Nat→Bool
 | 0,k=>k==0
 | i+1,k=>match ps[i]? with
  | none=>false
  | some p=>if aT p=true then exL (ent ps t i) k else match k with
   | 0=>false
   | k+1=>ent ps t i k&&tk p t k
noncomputable def St (ps:List Pk) (i:Nat):Prop:=∃ p,ps[i]? = some p∧aT p=true
noncomputable def Qs (ps:List Pk) (t:List Nat) (i k:Nat):Prop:=ent ps t i k=true∨(St ps i∧exL (ent ps t i) k=true)
theorem Hp {f:Nat→Bool}:∀ {k:Nat},f k=true→exL f k=true
 | 0,h=>h
 | k+1,h=>by rw [exL,h,Bool.or_true]
section
variable {ps:List Pk}{t:List Nat}{i k:Nat}{p:Pk}
theorem mM:ent ps t (i+1) k=match ps[i]? with
  | none=>false
  | some p=>if aT p=true then exL (ent ps t i) k else match k with
   | 0=>false
   | k+1=>ent ps t i k&&tk p t k:=rfl
theorem jl (e:ps[i]? = some p) (s:aT p=true):ent ps t (i+1) k=exL (ent ps t i) k:=by rw [mM,e]; exact if_pos s
theorem uv (e:ps[i]? = some p) (s:¬ aT p=true):ent ps t (i+1) (k+1)=(ent ps t i k&&tk p t k):=by rw [mM,e]; exact if_neg s
theorem r5 (e:ps[i]? = some p) (s:¬ aT p=true):ent ps t (i+1) 0=false:=by rw [mM,e]; exact if_neg s
theorem Qs.ex (h:Qs ps t i k):exL (ent ps t i) k=true:=h.elim Hp fun h=>h.2
theorem Qs.en (h:Qs ps t i k) (s:¬ St ps i):ent ps t i k=true:=h.elim id fun h=>absurd h.1 s
theorem St.no (e:ps[i]? = some p) (s:¬ aT p=true):¬ St ps i:=fun ⟨q,e',h⟩=>s (sj (e.symm.trans e') ▸ h)
theorem Qs.stay (h:Qs ps t i k) (s:St ps i):Qs ps t i (k+1):=.inr ⟨s,by rw [exL,h.ex]; rfl⟩
theorem Qs.step (h:Qs ps t i k) (e:ps[i]? = some p) (s:¬ aT p=true) (x:tk p t k=true):Qs ps t (i+1) (k+1):=.inl (by rw [uv e s,h.en (St.no e s),x]; rfl)
theorem Qs.skip (h:Qs ps t i k) (s:St ps i):Qs ps t (i+1) k:=s.elim fun p hp=>.inl ((jl hp.1 hp.2).trans h.ex)
theorem Mp (h:ent ps t i k=true):i≤ps.length:=by
 cases i with
 | zero=>exact Nat.zero_le _
 | succ i =>
  rw [mM] at h
  cases e:ps[i]? with
  | none=>rw [e] at h; exact ff h
  | some p=>exact bc e
theorem Qs.le (h:Qs ps t i k):i≤ps.length:=h.elim Mp fun h=>h.1.elim fun p hp=>Nat.le_of_lt (bc hp.1)
theorem AL (h:ent ps t i k=true):(i=0∧k=0)∨∃ j p,i=j+1∧ps[j]? = some p∧((aT p=true∧Qs ps t j k)∨(¬ aT p=true∧∃ k',k=k'+1∧Qs ps t j k'∧tk p t k'=true)):=by
 cases i with
 | zero=>exact .inl ⟨rfl,eq_of_beq h⟩
 | succ i =>
  refine .inr ?_
  cases e:ps[i]? with
  | none=>rw [mM,e] at h; exact ff h
  | some p =>
   refine ⟨i,p,rfl,e,?_⟩
   by_cases s:aT p=true
   ·rw [jl e s] at h
    exact .inl ⟨s,.inr ⟨⟨p,e,s⟩,h⟩⟩
   ·refine .inr ⟨s,?_⟩
    cases k with
    | zero=>rw [r5 e s] at h; exact ff h
    | succ k=>rw [uv e s] at h; exact ⟨k,rfl,.inl (an h).1,(an h).2⟩
theorem Qs.orig (h:Qs ps t i (k+1)):(St ps i∧Qs ps t i k)∨∃ j p,i=j+1∧ps[j]? = some p∧((aT p=true∧Qs ps t j (k+1))∨(¬ aT p=true∧Qs ps t j k∧tk p t k=true)):=by
 have k1:ent ps t i (k+1)=true→∃ j p,i=j+1∧ps[j]? = some p∧((aT p=true∧Qs ps t j (k+1))∨(¬ aT p=true∧Qs ps t j k∧tk p t k=true)):=fun h=>(AL h).elim (fun h=>absurd h.2 (Nat.succ_ne_zero k)) fun ⟨j,p,e,hp,h⟩=>⟨j,p,e,hp,h.imp id fun ⟨s,k',ek,q,x⟩=>by
  obtain rfl:=Nat.succ.inj ek
  exact ⟨s,q,x⟩⟩
 rcases h with h | ⟨s,h⟩
 ·exact .inr (k1 h)
 ·rw [exL] at h
  cases e:exL (ent ps t i) k with
  | true=>exact .inl ⟨s,.inr ⟨s,e⟩⟩
  | false=>rw [e] at h; exact .inr (k1 h)
theorem Qs.none (h:∀ i,¬ Qs ps t i k):∀ (d i:Nat),¬ Qs ps t i (k+d)
 | 0,i,q=>h i q
 | d+1,i,q=>by
  induction i with
  | zero=>exact q.orig.elim (fun q=>Qs.none h d 0 q.2) fun ⟨j,p,e,_⟩=>absurd e.symm (Nat.succ_ne_zero j)
  | succ i ih=>exact q.orig.elim (fun q=>Qs.none h d _ q.2) fun ⟨j,p,e,_,q⟩=>(by
    obtain rfl:=Nat.succ.inj e
    exact q.elim (fun q=>ih q.2) fun q=>Qs.none h d _ q.2.1)
noncomputable def pat (ps:List Pk):List Nat:=(ps.map (·.1)).flatten
noncomputable def off (ps:List Pk) (i:Nat):Nat:=(pat (ps.take i)).length
theorem JQ {w:List Nat}{mt:Nat→Bool}(h:vj w mt):∃ x r,w=x::r∧x≠42:=by
 cases h with
 | any=>exact ⟨_,_,rfl,by decide⟩
 | sign h1 h2 h3 h4=>exact ⟨_,_,rfl,h4⟩
 | back=>exact ⟨_,_,rfl,by decide⟩
 | two=>exact ⟨_,_,rfl,by decide⟩
 | range=>exact ⟨_,_,rfl,by decide⟩
theorem Di {p:Pk}(h:jR p):∃ x r,p.1=x::r∧(aT p=true→x=42)∧(¬ aT p=true→¬ x=42):=by
 rcases h with h | h
 ·exact ⟨42,[],h,fun _=>rfl,fun s=>absurd (by rw [aT,h]; rfl) s⟩
 ·refine cN (JQ h) fun x r e hx=>⟨x,r,e,fun s=>?_,fun _=>hx⟩
  have s:=eq_of_beq (show (p.1==[42])=true from s)
  rw [e] at s
  exact (List.cons.inj s).1
theorem uw (e:ps[i]? = some p):off ps (i+1)=off ps i+p.1.length:=by
 unfold off pat
 rw [List.take_add_one,e,List.map_append,List.flatten_append,List.length_append]
 exact congrArg (_+·) (congrArg List.length (List.flatten_singleton (l:=p.1)))
theorem ow (h:ps.length≤i):off ps i=(pat ps).length:=by
 unfold off
 rw [List.take_of_length_le h]
theorem Hq (i:Nat):(pat ps).drop (off ps i)=pat (ps.drop i):=by
 have:pat ps=pat (ps.take i)++pat (ps.drop i):=by unfold pat; rw [← List.flatten_append,← List.map_append,List.take_append_drop]
 unfold off
 rw [this,List.drop_left]
theorem JR (e:ps[i]? = some p):ps.drop i=p::ps.drop (i+1):=by
 rw [List.drop_eq_getElem_cons (bc e),(List.getElem?_eq_some_iff.mp e).2]
theorem yP (e:ps[i]? = some p):(pat ps).drop (off ps i)=p.1++pat (ps.drop (i+1)):=by
 rw [Hq,JR e]; rfl
theorem AM (ok:∀ p∈ps,jR p) (e:ps[i]? = some p):∃ x,(pat ps)[off ps i]? = some x∧(aT p=true→x=42)∧(¬ aT p=true→¬ x=42) :=
 cN (Di (ok p (List.mem_of_getElem? e))) fun x r ep hx=>⟨x,(aJ ((yP e).trans (by rw [ep]; rfl))).1,hx⟩
theorem yQ (ok:∀ p∈ps,jR p) (hj:i<ps.length):off ps i<off ps (i+1):=by
 have e:=List.getElem?_eq_getElem hj
 rw [uw e]
 refine cN (Di (ok _ (List.getElem_mem hj))) fun x r ep _=>Nat.lt_add_of_pos_right ?_
 rw [ep]; exact Nat.succ_pos _
theorem Ci (ok:∀ p∈ps,jR p) {j:Nat}(h:i<j) (hj:j≤ps.length):off ps i<off ps j:=by
 induction j with
 | zero=>exact absurd h (Nat.not_lt_zero _)
 | succ j ih=>exact (Nat.lt_or_eq_of_le (Nat.le_of_lt_succ h)).elim (fun q=>Nat.lt_trans (ih q (Nat.le_of_lt hj)) (yQ ok hj)) fun q=>by subst q; exact yQ ok hj
theorem JS (ok:∀ p∈ps,jR p) {j:Nat}(hi:i≤ps.length) (hj:j≤ps.length) (e:off ps i=off ps j):i=j :=
 (Nat.lt_trichotomy i j).elim (fun h=>absurd e (Nat.ne_of_lt (Ci ok h hj))) fun h=>h.elim id fun h=>absurd e (Nat.ne_of_gt (Ci ok h hi))
noncomputable def vk (P:List Nat) (i:Nat):List Nat:=if i∈P then P else P++[i]
noncomputable abbrev cy (ps:List Pk) (P:List Nat):List Int:=P.map fun i=>((off ps i:Nat):Int)
noncomputable abbrev eK (ps:List Pk) (P:List Nat):AO:=.dI (cy ps P)
structure PSt (ps:List Pk) (t:List Nat) (k:Nat) (A:List Nat) (x:Nat):Prop where
 cl:∀ j∈A,j≠x→St ps j→j+1∈A
 nd:A.Nodup
 sd:∀ j∈A,Qs ps t j k
theorem wH:∀ (m:Nat) (l:List Nat),l.Nodup→(∀ j∈l,j<m)→l.length≤m
 | 0,[],h,hl=>Nat.le_refl _
 | 0,a::l,h,hl=>absurd (hl a (.head _)) (Nat.not_lt_zero _)
 | m+1,l,h,hl=>by
  have k:=wH m (l.erase m) (h.erase m) fun j hj=>by
   have:=h.mem_erase_iff.mp hj
   exact Nat.lt_of_le_of_ne (Nat.le_of_lt_succ (hl j this.2)) this.1
  rw [List.length_erase] at k
  split at k
  ·exact Nat.le_add_of_sub_le k
  ·exact Nat.le_succ_of_le k
variable {A:List Nat}{x:Nat}
theorem PSt.le (h:PSt ps t k A x):∀ j∈A,j≤ps.length:=fun j hj=>(h.sd j hj).le
theorem PSt.len (h:PSt ps t k A x):A.length≤ps.length+1:=wH _ _ h.nd fun j hj=>Nat.lt_succ_of_le (h.le j hj)
theorem c9 {P:List Nat}{j:Nat}:j∈vk P i↔j∈P∨j=i:=by
 unfold vk
 split <;> rename_i h
 ·exact ⟨.inl,fun q=>q.elim id fun e=>e ▸ h⟩
 ·rw [List.mem_append,List.mem_singleton]
theorem ux {P:List Nat}(h:P.Nodup):(vk P i).Nodup:=by
 unfold vk
 split <;> rename_i hn
 ·exact h
 ·exact List.nodup_append.mpr ⟨h,List.nodup_cons.mpr ⟨nofun,.nil⟩,fun a ha b hb e=>hn (List.mem_singleton.mp hb ▸ e ▸ ha)⟩
theorem AN (ok:∀ p∈ps,jR p) {P:List Nat}(hi:i≤ps.length) (hP:∀ j∈P,j≤ps.length):(cy ps P).contains ((off ps i:Nat):Int)=decide (i∈P):=by
 rw [Bool.eq_iff_iff,List.contains_iff_mem,List.mem_map,decide_eq_true_eq]
 exact ⟨fun ⟨j,hj,e⟩=>JS ok (hP j hj) hi (Int.ofNat_inj.mp e) ▸ hj,fun h=>⟨i,h,rfl⟩⟩
theorem uy (ok:∀ p∈ps,jR p) {G:AH}{r:Nat}(hn:ps.length≤1000) (h:PSt ps t k A x) (hi:i≤ps.length) (e:G[r]? = some (eK ps A)):j5 G (.ref r) (.int (off ps i)) (.bool true)=some (G.set r (eK ps (vk A i))):=by
 have q:FW G (.ref r) (.int (off ps i)) (.bool true)=_:=cC e
 have q2:=q.trans (fx (eH (by rw [List.length_map]; exact Nat.le_trans (Nat.succ_le_succ h.len) (Nat.le_trans (Nat.add_le_add_right hn 2) (by decide)))))
 refine (congrArg Cv.v q2).trans (congrArg (fun ks=>some (G.set r (AO.dI ks))) ?_)
 rw [AN ok hi h.le]
 unfold vk
 by_cases hm:i∈A
 ·rw [if_pos hm,if_pos (decide_eq_true hm)]
 ·rw [if_neg hm,if_neg (mt of_decide_eq_true hm)]; exact (List.map_append (f:=fun i=>((off ps i:Nat):Int)) (l₁:=A) (l₂:=[i])).symm
noncomputable abbrev ppW:=wR jL 7 (at_ gQ.body 1)
theorem fY {G:AH}{r:Nat}{o:AO}(e:G[r]? = some o):G.set r o=G:=by
 obtain ⟨h,e⟩:=List.getElem?_eq_some_iff.mp e
 rw [← e]
 exact List.set_getElem_self h
theorem AP (ok:∀ p∈ps,jR p) (hn:ps.length≤1000) {r:Nat}:∀ (d i:Nat) (A:List Nat) (G:AH),i+d=ps.length→PSt ps t k A i→i∈A→G[r]? = some (eK ps A) →
  ∃ A' m',PSt ps t k A' ps.length∧(∀ j∈A,j∈A')∧Wh ppW [some (S (pat ps)),some (.int (off ps i)),some (.ref r)] G .next m' (G.set r (eK ps A'))
 | 0,i,A,G,hd,h,hi,e=>by
  obtain rfl:i=ps.length:=hd
  refine ⟨A,[some (S (pat ps)),some (.int (off ps ps.length)),some (.ref r)],h,fun j hj=>hj,?_⟩
  rw [fY e]
  have o:=AJ (Nat.le_of_eq (ow (Nat.le_refl ps.length)).symm)
  exact wE [xV 4 o]
 | d+1,i,A,G,hd,h,hi,e=>by
  have hl:i<ps.length:=by rw [← hd]; exact Nat.lt_add_of_pos_right (Nat.succ_pos d)
  have ep:=List.getElem?_eq_getElem hl
  generalize ps[i]=p at ep
  refine dA (AM ok ep) fun x hx h1 h2=>?_
  have o:=cM hx
  by_cases s:aT p=true
  ·obtain rfl:=h1 s
   have sp:=uy ok hn h hl e
   have hp:p.1.length=1:=by rw [eq_of_beq (show (p.1==[42])=true from s)]; rfl
   have es:=uw ep
   rw [hp] at es
   have st:St ps i:=⟨p,ep,s⟩
   obtain ⟨A',m',h3,h4,w⟩:=AP ok hn d (i+1) (vk A (i+1)) (G.set r (eK ps (vk A (i+1)))) (by rw [← hd,Nat.add_right_comm]; rfl) ⟨fun j hj hne sj=>c9.mpr ((c9.mp hj).elim (fun hj=>by
     by_cases q:j=i
     ·exact .inr (congrArg Nat.succ q)
     ·exact .inl (h.cl j hj q sj)) fun q=>absurd q hne),ux h.nd,fun j hj=>(c9.mp hj).elim (h.sd j) fun q=>q ▸ (h.sd i hi).skip st⟩ (c9.mpr (.inr rfl)) (by
     rw [List.getElem?_set_self (bc e)])
   rw [List.set_set] at w
   rw [es] at w sp
   refine ⟨A',m',h3,fun j hj=>h4 j (c9.mpr (.inl hj)),?_⟩
   exact wI w [xV 4 o,xH 7 sp]
  ·refine ⟨A,[some (S (pat ps)),some (.int (off ps i)),some (.ref r)],⟨fun j hj hne sj=>h.cl j hj (fun q=>St.no ep s (q ▸ sj)) sj,h.nd,h.sd⟩,fun j hj=>hj,?_⟩
   rw [fY e]
   exact wE [xV 4 o,xC 2 (cF (h2 s))]
theorem uz (ok:∀ p∈ps,jR p) (hn:ps.length≤1000) {G:AH}{r:Nat}(h:PSt ps t k A ps.length) (q:Qs ps t i k) (e:G[r]? = some (eK ps A)) :
  ∃ A',PSt ps t k A' ps.length∧(∀ j∈A,j∈A')∧i∈A'∧fh [S (pat ps),.int (off ps i),.ref r] G (.ok .none) (G.set r (eK ps A')):=by
 have sp:=uy ok hn h q.le e
 have hs:=Nat.add_sub_of_le q.le
 obtain ⟨A',m',h3,h4,w⟩:=AP ok hn (t:=t) (k:=k) (r:=r) _ i (vk A i) (G.set r (eK ps (vk A i))) hs ⟨fun j hj hne s=>c9.mpr (.inl (h.cl j ((c9.mp hj).elim id fun e=>absurd e hne) (fun e=>by
   obtain ⟨p,hp,_⟩:=s
   exact absurd (e ▸ bc hp) (Nat.lt_irrefl _)) s)),ux h.nd,fun j hj=>(c9.mp hj).elim (h.sd j) fun e=>e ▸ q⟩ (c9.mpr (.inr rfl)) (by rw [List.getElem?_set_self (bc e)])
 rw [List.set_set] at w
 refine ⟨A',h3,fun j hj=>h4 j (c9.mpr (.inl hj)),h4 i (c9.mpr (.inr rfl)),?_⟩
 exact goH [xH 2 sp,xS 0 w] rfl
end
end
section
section
variable {ps:List Pk}{t:List Nat}{c k r:Nat}{A:List Nat}{G:AH}
noncomputable abbrev ftF:=fR yj 7 (at_ tU.body 4)
noncomputable abbrev ftI:=fR yj 6 (at_ (blk (at_ tU.body 4)) 2)
structure Cb (ps:List Pk) (c:Nat) (A:List Nat) (i:Nat):Prop where
 s:St ps i→i∈A
 m:∀ p,ps[i]? = some p→¬ aT p=true→p.2 c=true→i+1∈A
theorem Cb.up {A':List Nat}{i:Nat}(h:Cb ps c A i) (k:∀ j∈A,j∈A'):Cb ps c A' i:=⟨fun s=>k _ (h.s s),fun p e s m=>k _ (h.m p e s m)⟩
theorem Mq {p:Pk}(ec:t[k]? = some c):tk p t k=p.2 c:=by rw [tk,ec]
noncomputable abbrev ftM (ps:List Pk) (T NC X4 x5 x6 x7 x8:Option V):LV:=[some (S (pat ps)),T,NC,some (.int (pat ps).length),X4,x5,x6,x7,x8]
theorem uA (ok:∀ p∈ps,jR p) (hn:ps.length≤1000) (ec:t[k]? = some c) {T NC X4:Option V}:∀ (L A:List Nat) (G:AH) (x7 x8:Option V),(∀ i∈L,Qs ps t i k)→PSt ps t (k+1) A ps.length→G[r]? = some (eK ps A) →
  ∃ A' y7 y8,PSt ps t (k+1) A' ps.length∧((∀ j∈A,j∈A')∧∀ i∈L,Cb ps c A' i)∧ftI ((cy ps L).map .int) (ftM ps T NC X4 (some (S [c])) (some (.ref r)) x7 x8) G .next (ftM ps T NC X4 (some (S [c])) (some (.ref r)) y7 y8) (G.set r (eK ps A'))
 | [],A,G,x7,x8,hq,h,e=>⟨A,x7,x8,h,⟨fun j hj=>hj,nofun⟩,by rw [fY e]; exact fN⟩
 | i::L,A,G,x7,x8,hq,h,e=>by
  have q:=hq i (.head _)
  have rl:=bc e
  have go:∀ A1 y8,PSt ps t (k+1) A1 ps.length→(∀ j∈A,j∈A1)→Cb ps c A1 i→∃ A' y7 z8,PSt ps t (k+1) A' ps.length∧((∀ j∈A,j∈A')∧∀ i'∈i::L,Cb ps c A' i')∧ftI ((cy ps L).map .int) (ftM ps T NC X4 (some (S [c])) (some (.ref r)) (some (.int (off ps i))) y8) (G.set r (eK ps A1)) .next (ftM ps T NC X4 (some (S [c])) (some (.ref r)) y7 z8) (G.set r (eK ps A')):=fun A1 y8 h1 h2 h3=>by
   refine l7 (uA ok hn ec (T:=T) (NC:=NC) (X4:=X4) L A1 (G.set r (eK ps A1)) (some (.int (off ps i))) y8 (fun i hi=>hq i (.tail _ hi)) h1 (by rw [List.getElem?_set_self rl])) fun A' y7 z8 g1 g2 w=>⟨A',y7,z8,g1,⟨fun j hj=>g2.1 j (h2 j hj),fun i' hi=>(List.mem_cons.mp hi).elim (fun q=>q ▸ h3.up g2.1) (g2.2 i')⟩,?_⟩
   rw [List.set_set] at w
   exact w
  cases ep:ps[i]? with
  | none =>
   have hge:ps.length≤i:=List.getElem?_eq_none_iff.mp ep
   have eo:=ow hge
   refine Me (go A x8 h (fun j hj=>hj) ⟨fun ⟨p,e',_⟩=>nS (ep.symm.trans e'),fun p e'=>nS (ep.symm.trans e')⟩) fun A' y7 z8 w=>?_
   rw [fY e] at w
   have o:=AJ (Nat.le_of_eq eo.symm)
   exact fI w [xV 4 o,xC 7 (ltF (Nat.le_of_eq eo.symm))]
  | some p =>
   refine dA (AM ok ep) fun x hx h1 h2=>?_
   have o:=cM hx
   by_cases s:aT p=true
   ·obtain rfl:=h1 s
    have st:St ps i:=⟨p,ep,s⟩
    refine Bd (uz ok hn h (q.stay st) e) fun A1 p1 p2 p3 p4=>?_
    refine Me (go A1 x8 p1 p2 ⟨fun _=>p3,fun p' e' s'=>absurd st (St.no e' s')⟩) fun A' y7 z8 w=>?_
    exact fI w [xV 4 o,xR 6 p4]
   ·have hf:vj p.1 p.2:=(ok p (List.mem_of_getElem? ep)).elim (fun h=>absurd (by rw [aT,h]; rfl) s) id
    cases hm:p.2 c with
    | true =>
     have hb:=AK hf (yP ep) hm
     rw [← uw ep] at hb
     refine Bd (uz ok hn h (q.step ep s ((Mq ec).trans hm)) e) fun A1 p1 p2 p3 p4=>?_
     refine Me (go A1 (some (.int (off ps (i+1):Nat))) p1 p2 ⟨fun st=>absurd st (St.no ep s),fun p' e' s' m=>p3⟩) fun A' y7 z8 w=>?_
     exact fI w [xV 4 o,xC 2 (cF (h2 s)),xC 4 (ltT (bc hx)),xP 3 hb,xR 7 p4]
    | false =>
     have hb:=EJ hf (yP ep) hm
     refine l7 (go A (some (.int (-1))) h (fun j hj=>hj) ⟨fun st=>absurd st (St.no ep s),fun p' e' s' m=>(by
      obtain rfl:=sj (ep.symm.trans e')
      exact ff (hm.symm.trans m))⟩) fun A' y7 z8 g1 g2 w=>⟨A',y7,z8,g1,g2,?_⟩
     rw [fY e] at w
     exact fI w [xV 4 o,xC 2 (cF (h2 s)),xC 4 (ltT (bc hx)),xP 3 hb]
theorem Ot (ec:t[k]? = some c) (h:PSt ps t (k+1) A ps.length) (hc:∀ i,Qs ps t i k→Cb ps c A i):∀ i,Qs ps t i (k+1)→i∈A
 | 0,q=>q.orig.elim (fun q=>(hc 0 q.2).s q.1) fun ⟨j,p,e,_⟩=>absurd e.symm (Nat.succ_ne_zero j)
 | i+1,q=>q.orig.elim (fun q=>(hc _ q.2).s q.1) fun ⟨j,p,e,ep,q⟩=>(by
  obtain rfl:=Nat.succ.inj e
  exact q.elim (fun q=>h.cl i (Ot ec h hc i q.2) (fun e=>Nat.lt_irrefl _ (e ▸ bc ep)) ⟨p,ep,q.1⟩) fun q=>(hc _ q.2.1).m p ep q.1 ((Mq ec).symm.trans q.2.2))
structure Fz (ps:List Pk) (t:List Nat) (k:Nat) (P:List Nat):Prop where
 p:PSt ps t k P ps.length
 f:∀ i,Qs ps t i k→i∈P
theorem Qs.end (h:Qs ps t ps.length k):ent ps t ps.length k=true:=h.en fun ⟨p,e,_⟩=>Nat.lt_irrefl _ (bc e)
theorem Fz.fin {P:List Nat}(h:Fz ps t k P):decide (ps.length∈P)=ent ps t ps.length k:=by
 rw [Bool.eq_iff_iff,decide_eq_true_eq]
 exact ⟨fun q=>(h.p.sd _ q).end,fun q=>h.f _ (.inl q)⟩
theorem Fz.none (h:Fz ps t k []) (hk:k≤t.length):ent ps t ps.length t.length=false :=
 bF fun q=>by
  have k1:=Qs.none (fun i q=>nomatch h.f i q) (t.length - k) ps.length
  rw [Nat.add_sub_of_le hk] at k1
  exact k1 (.inl q)
theorem AQ {f:Nat→Bool}{k:Nat}(h:exL f k=true):∀ d,exL f (k+d)=true
 | 0=>h
 | d+1=>by rw [← Nat.add_assoc,exL,AQ h d]; rfl
theorem Fz.exit (ok:∀ p∈ps,jR p) {P:List Nat}(h:Fz ps t k P) (hk:k≤t.length) (h1:(pat ps).drop ((pat ps).length - 1)=[42]) (h2:(cy ps P).contains (((pat ps).length:Int) - 1)=true):ent ps t ps.length t.length=true:=by
 refine ae (List.mem_map.mp (List.contains_iff_mem.mp h2)) fun i hi e=>?_
 have hpos:0<(pat ps).length:=by
  cases q:pat ps with
  | nil=>rw [q] at h1; exact nomatch h1
  | cons=>exact Nat.succ_pos _
 have e:off ps i=(pat ps).length - 1:=by
  rw [← Int.natCast_one,← Int.natCast_sub hpos] at e
  exact Int.ofNat_inj.mp e
 have q:=h.p.sd i hi
 have hlt:i<ps.length:=Nat.lt_of_le_of_ne q.le fun q=>by
  rw [q,ow (Nat.le_refl _)] at e
  exact absurd e (Nat.ne_of_gt (Nat.sub_lt hpos Nat.one_pos))
 have ep:=List.getElem?_eq_getElem hlt
 generalize ps[i]=p at ep
 have hd:=yP ep
 rw [e,h1] at hd
 have hl:i+1=ps.length:=(Nat.lt_or_eq_of_le hlt).elim (fun q=>by
  have k1:=yQ ok hlt
  have k2:=Ci ok q (Nat.le_refl _)
  rw [ow (Nat.le_refl _)] at k2
  rw [e] at k1
  exact absurd (Nat.lt_of_le_of_lt (Nat.le_of_pred_lt k1) k2) (Nat.lt_irrefl _)) id
 rw [List.drop_of_length_le (Nat.le_of_eq hl.symm)] at hd
 have hs:aT p=true:=by
  have:p.1=[42]:=((List.append_nil _).symm.trans hd.symm)
  rw [aT,this]; rfl
 have g:=AQ q.ex (t.length - k)
 rw [Nat.add_sub_of_le hk,← jl ep hs,hl] at g
 exact g
theorem Ou {a:V}{x:Bool}(h:(FD G a).v=some x):unV G .Not a=some (.bool (!x)) :=
 have k:∀ o:Cv (Lf G a),o.v=some x→Cv.v (P:=UnS G .Not a) (match o with | some b=>yes (.bool (!b.1)) fun O e S r q=>not_value (b.2 O e _ _ _ _ _ S r fun tk=>aK S g7 q) | none=>none)=some (.bool (!x)):=fun o h=>match o,h with
  | some b,h=>congrArg (Option.map fun x=>V.bool (!x)) h
  | none,h=>nS h
 k _ h
theorem yR {l:List Int}(e:G[r]? = some (.dI l)):unV G .Not (.ref r)=some (.bool (!!l.isEmpty)):=by
 have q:FD G (.ref r)=_:=cC e
 exact Ou (congrArg Cv.v q)
theorem Dj {l:List Int}(e:G[r]? = some (.dI l)):look G r=some (.dI l):=by
 have q:CR G r=_:=cC e
 exact congrArg Cv.v q
inductive Mr (ps:List Pk) (t:List Nat) (T NC:Option V):Fl→LV→Prop
 | rt:Mr ps t T NC (.ret (.bool (ent ps t ps.length t.length))) []
 | nx (P:List Nat) (x5 x6 x7 x8:Option V) (h:Fz ps t t.length P):Mr ps t T NC .next (ftM ps T NC (some (.dI (cy ps P))) x5 x6 x7 x8)
noncomputable def FtP (ps:List Pk) (t:List Nat) (T NC:Option V) (N:Fl→LV→AH→Prop):Prop:=∃ j:{z:Fl × LV × AH // Mr ps t T NC z.1 z.2.1},N j.1.1 j.1.2.1 j.1.2.2
theorem FtP.ret {N:Fl→LV→AH→Prop}{ps:List Pk}{t:List Nat}{T NC:Option V}{b:Bool}{G:AH}(e:ent ps t ps.length t.length=b) (h:N (.ret (.bool b)) [] G):FtP ps t T NC N:=⟨⟨(.ret (.bool b),[],G),e ▸ .rt⟩,h⟩
theorem Qt:(G++[AO.dI []])[G.length]? = some (.dI []):=by rw [List.getElem?_append_right (Nat.le_refl _),Nat.sub_self]; rfl
theorem Dk (ok:∀ p∈ps,jR p) (hn:ps.length≤1000) (ec:t[k]? = some c) {P:List Nat}(h:Fz ps t k P) {T NC X4 x7 x8:Option V}(e:G[r]? = some (eK ps [])) :
  ∃ A y7 y8,Fz ps t (k+1) A∧(G.set r (eK ps A))[r]? = some (eK ps A)∧ftI ((cy ps P).map .int) (ftM ps T NC X4 (some (S [c])) (some (.ref r)) x7 x8) G .next (ftM ps T NC X4 (some (S [c])) (some (.ref r)) y7 y8) (G.set r (eK ps A)) :=
 l7 (uA ok hn ec (T:=T) (NC:=NC) (X4:=X4) P [] G x7 x8 h.p.sd ⟨nofun,.nil,nofun⟩ e) fun A y7 y8 g1 g2 w=>⟨A,y7,y8,⟨g1,Ot ec g1 fun i q=>g2.2 i (h.f i q)⟩,by rw [List.getElem?_set_self (bc e)],w⟩
section
variable {T NC x5 x6 x7 x8 y7 y8:Option V}{P A:List Nat}{a:Nat}{xs:List V}{f:Fl}{m:LV}{G':AH}
theorem JT (e1:(pat ps).drop ((pat ps).length - 1)=[42]) (e2:(cy ps P).contains (((pat ps).length:Int) - 1)=true):ftF (S [c]::xs) (ftM ps T NC (some (.dI (cy ps P))) x5 x6 x7 x8) G (.ret (.bool true)) [] G :=
 fE [xV 2 (fW (l:=pat ps)),xC 2 (seT e1),xC 5 e2]
theorem Ms (b:(pat ps).drop ((pat ps).length - 1)=[42]→(cy ps P).contains (((pat ps).length:Int) - 1)=false) (eA:((G++[AO.dI []]).set G.length (eK ps []))[G.length]? = some (eK ps []))
  (w:ftI ((cy ps P).map .int) (ftM ps T NC (some (.dI (cy ps P))) (some (S [c])) (some (.ref G.length)) x7 x8) (G++[AO.dI []]) .next (ftM ps T NC (some (.dI (cy ps P))) (some (S [c])) (some (.ref G.length)) y7 y8) ((G++[AO.dI []]).set G.length (eK ps []))) :
  ftF (S [c]::xs) (ftM ps T NC (some (.dI (cy ps P))) x5 x6 x7 x8) G (.ret (.bool false)) [] ((G++[AO.dI []]).set G.length (eK ps [])):=by
 by_cases q:(pat ps).drop ((pat ps).length - 1)=[42]
 ·exact fE [xV 2 (fW (l:=pat ps)),xC 2 (seT q),xC 5 (b q),xS 2 w,xV 1 (yR eA)]
 ·exact fE [xV 2 (fW (l:=pat ps)),xC 2 (seF q),xC 1 (seF q),xS 2 w,xV 1 (yR eA)]
theorem Ov (b:(pat ps).drop ((pat ps).length - 1)=[42]→(cy ps P).contains (((pat ps).length:Int) - 1)=false) (eA:((G++[AO.dI []]).set G.length (eK ps (a::A)))[G.length]? = some (eK ps (a::A)))
  (w:ftI ((cy ps P).map .int) (ftM ps T NC (some (.dI (cy ps P))) (some (S [c])) (some (.ref G.length)) x7 x8) (G++[AO.dI []]) .next (ftM ps T NC (some (.dI (cy ps P))) (some (S [c])) (some (.ref G.length)) y7 y8) ((G++[AO.dI []]).set G.length (eK ps (a::A))))
  (ih:ftF xs (ftM ps T NC (some (.dI (cy ps (a::A)))) (some (S [c])) (some (.ref G.length)) y7 y8) (((G++[AO.dI []]).set G.length (eK ps (a::A))).set G.length .dead) f m G') :
  ftF (S [c]::xs) (ftM ps T NC (some (.dI (cy ps P))) x5 x6 x7 x8) G f m G':=by
 by_cases q:(pat ps).drop ((pat ps).length - 1)=[42]
 ·exact fI ih [xV 2 (fW (l:=pat ps)),xC 2 (seT q),xC 5 (b q),xS 2 w,xV 1 (yR eA),xV 3 (Dj eA)]
 ·exact fI ih [xV 2 (fW (l:=pat ps)),xC 2 (seF q),xC 1 (seF q),xS 2 w,xV 1 (yR eA),xV 3 (Dj eA)]
end
noncomputable def FtL (ps:List Pk) (t:List Nat) (T NC:Option V) (u:List Nat):Prop:=∀ (k:Nat) (P:List Nat) (x5 x6 x7 x8:Option V) (G:AH),t.drop k=u→k≤t.length→Fz ps t k P→FtP ps t T NC (ftF (u.map fun c=>S [c]) (ftM ps T NC (some (.dI (cy ps P))) x5 x6 x7 x8) G)
theorem JU (ok:∀ p∈ps,jR p) (hn:ps.length≤1000) {T NC:Option V}{u:List Nat}(ih:FtL ps t T NC u):FtL ps t T NC (c::u):=fun k P x5 x6 x7 x8 G hd hk h=>by
 refine bW (aJ hd) fun ec hl hd'=>?_
 by_cases ex:(pat ps).drop ((pat ps).length - 1)=[42]∧(cy ps P).contains (((pat ps).length:Int) - 1)=true
 ·exact .ret (h.exit ok hk ex.1 ex.2) (JT ex.1 ex.2)
 ·refine l7 (Dk ok hn ec h (T:=T) (NC:=NC) (X4:=some (.dI (cy ps P))) (x7:=x7) (x8:=x8) (Qt (G:=G))) fun A y7 y8 hA eA w=>?_
  have b:=fun q=>bF fun e=>ex ⟨q,e⟩
  cases A with
  | nil=>exact .ret (hA.none hl) (Ms b eA w)
  | cons a A=>exact (ih (k+1) (a::A) _ _ _ _ _ hd' hl hA).imp fun j=>Ov b eA w
theorem EK (ok:∀ p∈ps,jR p) (hn:ps.length≤1000) {T NC:Option V}(u:List Nat):FtL ps t T NC u:=by
 induction u with
 | nil =>
  intro k P x5 x6 x7 x8 G hd hk h
  obtain rfl:k=t.length:=Nat.le_antisymm hk (drop_nil hd)
  exact ⟨⟨(.next,_,_),.nx P x5 x6 x7 x8 h⟩,fN⟩
 | cons c u ih=>exact JU ok hn ih
theorem Cj (ok:∀ p∈ps,jR p) (hn:ps.length≤1000) {T NC:Option V}{u P:List Nat}(et:t=c::u) (h:Fz ps t 0 P) :
  FtP ps t T NC (ftF (S [c]::u.map fun c=>S [c]) (ftM ps T NC (some (.ref 0)) none none none none) [eK ps P]):=by
 have sl:=fW (l:=pat ps)
 have ec:t[0]? = some c:=by rw [et]; rfl
 by_cases ex:(pat ps).drop ((pat ps).length - 1)=[42]∧(cy ps P).contains (((pat ps).length:Int) - 1)=true
 ·exact .ret (G:=[eK ps P]) (h.exit ok (Nat.zero_le _) ex.1 ex.2) (fE [xV 2 sl,xC 2 (seT ex.1),xC 5 ex.2])
 ·refine l7 (Dk ok hn ec h (T:=T) (NC:=NC) (X4:=some (.ref 0)) (x7:=none) (x8:=none) (G:=[.dead,.dI []]) (r:=1) rfl) fun A y7 y8 hA eA w=>?_
  have hl:1≤t.length:=by rw [et]; exact Nat.succ_pos _
  have b:=fun q=>bF fun e=>ex ⟨q,e⟩
  cases A with
  | nil =>
   refine .ret (G:=[.dead,.dI []]) (hA.none hl) ?_
   by_cases q:(pat ps).drop ((pat ps).length - 1)=[42]
   ·exact fE [xV 2 sl,xC 2 (seT q),xC 5 (b q),xS 3 w]
   ·exact fE [xV 2 sl,xC 2 (seF q),xC 1 (seF q),xS 3 w]
  | cons a A =>
   refine (EK ok hn (T:=T) (NC:=NC) u 1 (a::A) (some (S [c])) (some (.ref 1)) y7 y8 [.dead,.dead] (by rw [et]; rfl) hl hA).imp fun j ih=>?_
   by_cases q:(pat ps).drop ((pat ps).length - 1)=[42]
   ·exact fI ih [xV 2 sl,xC 2 (seT q),xC 5 (b q),xS 3 w]
   ·exact fI ih [xV 2 sl,xC 2 (seF q),xC 1 (seF q),xS 3 w]
end
end
set_option genCtorIdx false in
inductive Kd where
 | star | any | sign (x:Nat) | back (x:Nat) | two (a b:Nat) | range (a b:Nat)
noncomputable def Kd.w:Kd→List Nat
 | .star=>[42]
 | .any=>[63]
 | .sign x=>[x]
 | .back x=>[92,x]
 | .two a b=>[91,a,b,93]
 | .range a b=>[91,a,45,b,93]
noncomputable def Kd.f:Kd→Nat→Bool
 | .star=>fun _=>false
 | .any=>fun _=>true
 | .sign x=>fun c=>c==x
 | .back x=>fun c=>c==x
 | .two a b=>fun c=>c==a||c==b
 | .range a b=>fun c=>Nat.ble a c&&Nat.ble c b
noncomputable def Kd.low:Kd→Kd
 | .sign x=>.sign (lo x)
 | .back x=>.back (lo x)
 | .two a b=>.two (lo a) (lo b)
 | .range a b=>.range (lo a) (lo b)
 | k=>k
noncomputable def Kd.ok:Kd→Bool
 | .sign x=>(x != 63&&x != 91)&&(x != 92&&x != 42)
 | .two a b=>(a != 93&&a != 45)&&(b != 93&&b != 45)
 | .range a b=>a != 93&&Nat.ble a b
 | _=>true
theorem Ow {k:Kd}(h:k.ok=true):jR (k.w,k.f):=by
 cases k with
 | star=>exact .inl rfl
 | any=>exact .inr .any
 | sign x=>exact .inr (.sign (neB (an (an h).1).1) (neB (an (an h).1).2) (neB (an (an h).2).1) (neB (an (an h).2).2))
 | back x=>exact .inr .back
 | two a b=>exact .inr (.two ⟨neB (an (an h).1).1,neB (an (an h).1).2⟩ ⟨neB (an (an h).2).1,neB (an (an h).2).2⟩)
 | range a b=>exact .inr (.range (neB (an h).1) (aX (an h).2))
structure Pc where
 k:Kd
 s:List Nat
 m:List Nat
noncomputable def Pc.v (p:Pc):V:=.tup [S p.k.w,S p.s,S p.m]
noncomputable def pcs:List Pc:=[⟨.star,[],[]⟩,⟨.any,[],[]⟩,⟨.two 98 49,[98,49],[98,49]⟩,⟨.range 65 98,[65,66,70,88,95,97,98],[97,98]⟩,⟨.back 42,[42],[42]⟩,
 ⟨.range 49 57,[49,50,51,52,53,54,55,56,57],[49,50,51,52,53,54,55,56,57]⟩,⟨.sign 97,[97],[97]⟩,⟨.sign 65,[65],[97]⟩,⟨.two 57 66,[57,66],[57,98]⟩,⟨.back 98,[98],[98]⟩,⟨.sign 201,[201],[233]⟩,⟨.sign 95,[95],[95]⟩]
theorem AR:gP [] (.ok (.lst (pcs.map Pc.v))):=gR
noncomputable def uB (nc:Bool) (p:Pc):Pk:=((if nc then p.k.low else p.k).w,(if nc then p.k.low else p.k).f)
noncomputable def lk (nc:Bool) (p:Pc):Pk:=(p.k.w,fun c=>p.k.w==[63]||(if nc then p.m.contains (lo c) else p.s.contains c))
noncomputable def Mt (c:Nat):Bool:=(c==63||c==91)||(c==92||c==93)
theorem Dl:(pcs.all fun p=>(p.k.w.map lo==p.k.low.w&&(Nat.ble p.k.w.length 5&&p.k.w.all chs.contains))&&[false,true].all fun nc=>((if nc then p.k.low else p.k).ok&&aT (uB nc p)==aT (lk nc p))&&(aT (lk nc p)||chs.all fun c=>Mt c||(uB nc p).2 (if nc then lo c else c)==(lk nc p).2 c))=true:=by kernel_rfl
noncomputable def Txc (c:Nat):Prop:=c∈chs∧Mt c=false
theorem Ox {p:Pc}(h:p∈pcs):p.k.w.map lo=p.k.low.w∧p.k.w.length≤5∧∀ c∈p.k.w,c∈chs :=
 have k:=an (an (List.all_eq_true.mp Dl p h)).1
 ⟨eq_of_beq k.1,aX (an k.2).1,fun c hc=>List.contains_iff_mem.mp (List.all_eq_true.mp (an k.2).2 c hc)⟩
theorem KL {nc:Bool}{p:Pc}(h:p∈pcs):jR (uB nc p)∧aT (lk nc p)=aT (uB nc p)∧(¬ aT (lk nc p)=true→∀ c,Txc c→(lk nc p).2 c=(uB nc p).2 (if nc then lo c else c)):=by
 have k:=an (List.all_eq_true.mp (an (List.all_eq_true.mp Dl p h)).2 nc (by cases nc <;> decide))
 refine ⟨Ow (an k.1).1,(eq_of_beq (an k.1).2).symm,fun hs c hc=>?_⟩
 exact (eq_of_beq (rg (List.all_eq_true.mp (rg k.2 (bF hs)) c hc.1) hc.2)).symm
theorem wJ {pl:List Pc}{f g:Pc→Pk}{t t':List Nat}(h:∀ p∈pl,aT (f p)=aT (g p)∧(¬ aT (f p)=true→∀ k,tk (f p) t k=tk (g p) t' k)):∀ i,ent (pl.map f) t i=ent (pl.map g) t' i
 | 0=>rfl
 | i+1=>by
  funext k
  have ih:=wJ h i
  cases e:pl[i]? with
  | none=>rw [mM,mM,List.getElem?_map,List.getElem?_map,e]; rfl
  | some p =>
   have e1:(pl.map f)[i]? = some (f p):=by rw [List.getElem?_map,e]; rfl
   have e2:(pl.map g)[i]? = some (g p):=by rw [List.getElem?_map,e]; rfl
   have hp:=h p (List.mem_of_getElem? e)
   by_cases s:aT (f p)=true
   ·rw [jl e1 s,jl e2 (hp.1 ▸ s),ih]
   ·cases k with
    | zero=>rw [r5 e1 s,r5 e2 (hp.1 ▸ s)]
    | succ k=>rw [uv e1 s,uv e2 (hp.1 ▸ s),ih,hp.2 s]
noncomputable def mO (pl:List Pc):List Nat:=(pl.map (·.k.w)).flatten
theorem Hr {nc:Bool}{pl:List Pc}(h:∀ p∈pl,p∈pcs):pat (pl.map (uB nc))=if nc then (mO pl).map lo else mO pl:=by
 unfold pat mO
 rw [List.map_map]
 cases nc with
 | false=>rfl
 | true =>
  rw [if_pos rfl,List.map_flatten,List.map_map]
  exact congrArg List.flatten (List.map_congr_left fun p hp=>(Ox (h p hp)).1.symm)
theorem Dm:∀ {pl:List Pc},(∀ p∈pl,p∈pcs)→(∀ c∈mO pl,c∈chs)∧(mO pl).length≤5*pl.length
 | [],_=>⟨nofun,Nat.le_refl _⟩
 | p::pl,h=>by
  refine ar (Dm (pl:=pl) fun q hq=>h q (.tail _ hq)) fun a b=>bW (Ox (h p (.head _))) fun _ c d=>?_
  have e:mO (p::pl)=p.k.w++mO pl:=rfl
  rw [e,List.length_append,List.length_cons,Nat.mul_add,Nat.add_comm]
  exact ⟨fun x hx=>(List.mem_append.mp hx).elim (d x) (a x),Nat.add_le_add b c⟩
noncomputable def Cl (nc:Bool) (pl:List Pc) (t:List Nat):Bool:=ent (pl.map (lk nc)) t pl.length t.length
theorem Qu {t:List Nat}:(t.map lo).length=t.length:=List.length_map ..
theorem JV {nc:Bool}{pl:List Pc}{t t':List Nat}(hp:∀ p∈pl,p∈pcs) (ht:∀ c∈t,Txc c) (e:t'=if nc then t.map lo else t):ent (pl.map (uB nc)) t' (pl.map (uB nc)).length t'.length=Cl nc pl t:=by
 have e1:t'.length=t.length:=by rw [e]; cases nc; rfl; exact Qu
 rw [e1,List.length_map,Cl]
 refine congrFun (wJ (fun p hpm=>?_) pl.length).symm t.length
 have k:=(KL (nc:=nc) (hp p hpm)).2
 refine ⟨k.1,fun s j=>?_⟩
 have k2:=k.2 s
 rw [tk,tk,e]
 cases nc with
 | false =>
  rw [if_neg (by decide)]
  cases ej:t[j]? with
  | none=>rfl
  | some c=>exact k2 c (ht c (List.mem_of_getElem? ej))
 | true =>
  rw [if_pos rfl,List.getElem?_map]
  cases ej:t[j]? with
  | none=>rfl
  | some c=>exact k2 c (ht c (List.mem_of_getElem? ej))
theorem Oy {ps:List Pk}{t A:List Nat}(h:PSt ps t 0 A ps.length) (h0:0∈A):Fz ps t 0 A:=⟨h,fun i=>by
 induction i with
 | zero=>exact fun _=>h0
 | succ i ih=>exact fun q=>(AL (show ent ps t (i+1) 0=true from q.elim id fun q=>q.2)).elim (fun e=>nomatch e.1) fun ⟨j,p,e,ep,q⟩=>(by
   obtain rfl:=Nat.succ.inj e
   exact q.elim (fun q=>h.cl i (ih q.2) (fun e=>Nat.lt_irrefl _ (e ▸ bc ep)) ⟨p,ep,q.1⟩) fun q=>q.2.elim fun k q=>(nomatch q.1))⟩
inductive FtR (ps:List Pk) (t:List Nat) (nc B:Bool):Fl→LV→AH→Prop
 | rt (G:AH):FtR ps t nc B (.ret (.bool B)) [] G
 | nx (X4:V) (x5 x6 x7 x8:Option V) (G:AH) (h:aF G .In (.int (pat ps).length) X4=some B):FtR ps t nc B .next (ftM ps (some (S t)) (some (.bool nc)) (some X4) x5 x6 x7 x8) G
theorem Hs {ps:List Pk}{t:List Nat}{nc:Bool}(ok:∀ p∈ps,jR p) (hn:ps.length≤1000):∃ A,fh [S (pat ps),.int 0,.ref 0] [.dI []] (.ok .none) [eK ps A] ∧
  ∃ j:{z:Fl × LV × AH // FtR ps t nc (ent ps t ps.length t.length) z.1 z.2.1 z.2.2},ftF (t.map fun c=>S [c]) (ftM ps (some (S t)) (some (.bool nc)) (some (.ref 0)) none none none none) [eK ps A] j.1.1 j.1.2.1 j.1.2.2 :=
 Bd (uz ok hn (r:=0) (G:=[.dI []]) (⟨nofun,.nil,nofun⟩:PSt ps t 0 [] ps.length) (.inl rfl:Qs ps t 0 0) rfl) fun A a1 a2 a3 a4=>by
 have hF:=Oy a1 a3
 have cm:∀ P,Fz ps t t.length P→(cy ps P).contains ((pat ps).length:Int)=ent ps t ps.length t.length:=fun P h=>by
  have:=AN ok (Nat.le_refl _) h.p.le (P:=P)
  rw [ow (Nat.le_refl _),h.fin] at this
  exact this
 refine ⟨A,a4,?_⟩
 cases et:t with
 | nil =>
  subst et
  exact ⟨⟨(.next,_,[eK ps A]),.nx (.ref 0) none none none none _ (congrArg some (cm A hF))⟩,fN⟩
 | cons c u =>
  rw [← et]
  have el:(S [c]::u.map fun c=>S [c])=t.map fun c=>S [c]:=by rw [et]; rfl
  have w:=Cj ok hn (T:=some (S t)) (NC:=some (.bool nc)) et hF
  rw [el] at w
  refine je w fun f m G' hE w'=>?_
  cases hE with
  | rt=>exact ⟨⟨(.ret (.bool _),[],G'),.rt G'⟩,w'⟩
  | nx P x5 x6 x7 x8 h=>exact ⟨⟨(.next,_,G'),.nx (.dI (cy ps P)) x5 x6 x7 x8 G' (congrArg some (cm P h))⟩,w'⟩
theorem EL {nc:Bool}{pl:List Pc}{t:List Nat}(hp:∀ p∈pl,p∈pcs) (hn:pl.length≤1000) (ht:∀ c∈t,Txc c) (hl:t.length≤big):yk [S (mO pl),S t,.bool nc] (.ok (.bool (Cl nc pl t))):=by
 refine ar (Dm hp) fun h1 h2=>?_
 have ok:∀ p∈pl.map (uB nc),jR p:=fun p h=>ae (List.mem_map.mp h) fun q hq e=>e ▸ (KL (hp q hq)).1
 have hn':(pl.map (uB nc)).length≤1000:=by rw [List.length_map]; exact hn
 have hpl:(mO pl).length≤big:=Nat.le_trans h2 (Nat.le_trans (Nat.mul_le_mul_left 5 hn) (by decide))
 have hB:=fun t' (e:t'=if nc then t.map lo else t)=>JV hp ht e
 have hpat:=Hr (nc:=nc) hp
 have f1:=iL h1 hpl
 have f2:=iL (fun c hc=>(ht c hc).1) hl
 generalize Cl nc pl t=B at *
 generalize pl.map (uB nc)=ps at *
 generalize mO pl=pn at *
 clear hp ht h1 h2
 cases nc with
 | false =>
  obtain rfl:pat ps=pn:=hpat
  have hB:ent ps t ps.length t.length=B:=hB t rfl
  refine ae (Hs ok hn' (t:=t) (nc:=false)) fun A w1 h=>je h fun f m G' hE w2=>?_
  rw [hB] at hE
  cases hE with
  | rt=>exact goP [xR 7 w1,xS 3 w2] rfl rfl
  | nx X4 x5 x6 x7 x8 _ hin=>exact goP [xR 7 w1,xS 3 w2,xB 2 hin] rfl rfl
 | true =>
  have hpat:pn.map lo=pat ps:=hpat.symm
  rw [hpat] at f1
  have hB:ent ps (t.map lo) ps.length (t.map lo).length=B:=hB _ rfl
  refine ae (Hs ok hn' (t:=t.map lo) (nc:=true)) fun A w1 h=>je h fun f m G' hE w2=>?_
  rw [hB] at hE
  cases hE with
  | rt=>exact goP [xP 4 f1,xP 1 f2,xR 4 w1,xS 3 w2] rfl rfl
  | nx X4 x5 x6 x7 x8 _ hin=>exact goP [xP 4 f1,xP 1 f2,xR 4 w1,xS 3 w2,xB 2 hin] rfl rfl
section
noncomputable abbrev be (R:List Nat):V:=.lst (R.map fun k=>.int (k:Nat))
theorem wK:∀ R:List Nat,eM (R.map fun k=>V.int (k:Nat))=some (R.map fun k:Nat=>(k:Int))
 | []=>rfl
 | a::R=>by rw [List.map_cons,eM,wK R]; rfl
theorem Mu {G:AH}{a c:V}{x:Bool}(h:(inC G a c).v=some x):aF G .In a c=some x :=
 have k:∀ o:Cv (InS G a c),o.v=some x→Cv.v (P:=uV G .In a c) (match o with | some b=>yes b.1 fun O _ g S ra rc=>(b.2 O g S ra rc).1 | none=>none)=some x:=fun o h=>match o,h with
  | some b,h=>h
  | none,h=>nS h
 k _ h
section
variable {G:AH}{R:List Nat}{k:Nat}
theorem oy:aF G .In (.int k) (be R)=some (R.contains k):=by
 have h:∀ R:List Nat,kz (k:Int) (R.map fun k=>V.int (k:Nat))=some (R.contains k):=fun R=>by
  induction R with
  | nil=>rfl
  | cons a R ih =>
   rw [List.map_cons,kz,ih,Option.map_some,List.contains_cons]
   congr 2
   rw [Bool.eq_iff_iff,beq_iff_eq,beq_iff_eq,Int.ofNat_inj]
   exact eq_comm
 have q:inC G (.int (k:Nat)) (be R)=_:=cC (h R)
 exact Mu (congrArg Cv.v q)
theorem Dn:aF G .NotEq (be R) (.lst [])=some (!R.isEmpty):=by
 have h:=Hg (R.map fun k:Nat=>(k:Int)) []
 rw [List.map_map] at h
 refine (He h).trans ?_
 cases R <;> rfl
theorem uC:∀ (R:List Nat) (a:Nat),∃ m:Nat,(R.map fun k:Nat=>(k:Int)).foldl (fun m x=>if x<m then x else m) (a:Int)=m∧∀ k:Nat,m≤k↔∃ j∈a::R,j≤k
 | [],a=>⟨a,rfl,fun k=>⟨fun h=>⟨a,.head _,h⟩,fun ⟨j,hj,h⟩=>List.mem_singleton.mp hj ▸ h⟩⟩
 | b::R,a=>by
  rw [List.map_cons,List.foldl_cons]
  by_cases h:b<a
  ·rw [if_pos (Int.ofNat_lt.mpr h)]
   refine ae (uC R b) fun m e hm=>⟨m,e,fun k=>(hm k).trans ⟨fun ⟨j,hj,q⟩=>⟨j,.tail _ hj,q⟩,fun ⟨j,hj,q⟩=>(List.mem_cons.mp hj).elim (fun e=>⟨b,.head _,Nat.le_trans (Nat.le_of_lt h) (e ▸ q)⟩) fun hj=>⟨j,hj,q⟩⟩⟩
  ·rw [if_neg fun q=>h (Int.ofNat_lt.mp q)]
   refine ae (uC R a) fun m e hm=>⟨m,e,fun k=>(hm k).trans ⟨fun ⟨j,hj,q⟩=>⟨j,(List.mem_cons.mp hj).elim (fun e=>e ▸ .head _) fun hj=>.tail _ (.tail _ hj),q⟩,fun ⟨j,hj,q⟩=>(List.mem_cons.mp hj).elim (fun e=>⟨a,.head _,e ▸ q⟩) fun hj=>(List.mem_cons.mp hj).elim (fun e=>⟨a,.head _,Nat.le_trans (Nat.not_lt.mp h) (e ▸ q)⟩) fun hj=>⟨j,.tail _ hj,q⟩⟩⟩
theorem Ht {a:Nat}{R:List Nat}:∃ m:Nat,nA G ⟨⟨[109,105,110]⟩⟩ [be (a::R)]=some (.int m)∧∀ k:Nat,m≤k↔∃ j∈a::R,j≤k:=by
 refine ae (uC R a) fun m e hm=>⟨m,?_,hm⟩
 have q:Nx G [be (a::R)]=_:=cC (wK (a::R))
 have q2:=congrArg (fun c=>Cv.v (blI G ⟨⟨[109,105,110]⟩⟩ [be (a::R)] ⟨⟨[109,105,110]⟩⟩ c (by decide +kernel) none)) q
 exact Eq.trans q2 (congrArg (fun i=>some (V.int i)) e)
end
section
variable {ps:List Pk}{nc:Bool}{pl:List Pc}{t:List Nat}{i:Nat}{G:AH}
noncomputable abbrev gt (ps:List Pk) (t:List Nat) (i:Nat):List Nat:=(List.range' 0 (t.length+1)).filter (ent ps t i)
theorem wL {k:Nat}:k∈gt ps t i↔k≤t.length∧ent ps t i k=true:=by
 rw [List.mem_filter,List.mem_range'_1,Nat.zero_add]
 exact ⟨fun h=>⟨Nat.le_of_lt_succ h.1.2,h.2⟩,fun h=>⟨⟨Nat.zero_le _,Nat.lt_succ_of_le h.1⟩,h.2⟩⟩
theorem yS {f:Nat→Bool}:∀ {k:Nat},exL f k=true↔∃ j,j≤k∧f j=true
 | 0=>⟨fun h=>⟨0,Nat.le_refl _,h⟩,fun ⟨j,hj,h⟩=>by obtain rfl:=Nat.le_zero.mp hj; exact h⟩
 | k+1=>by
  rw [exL,Bool.or_eq_true,yS]
  exact ⟨fun h=>h.elim (fun ⟨j,hj,h⟩=>⟨j,Nat.le_succ_of_le hj,h⟩) fun h=>⟨_,Nat.le_refl _,h⟩,fun ⟨j,hj,h⟩=>(Nat.lt_or_eq_of_le hj).elim (fun q=>.inl ⟨j,Nat.le_of_lt_succ q,h⟩) fun q=>.inr (q ▸ h)⟩
noncomputable abbrev lfI:=fR il 6 (at_ (blk (at_ fT.body 1)) 1)
noncomputable abbrev lfO:=fR il 7 (at_ fT.body 1)
noncomputable abbrev lfM (PV:Option V) (t:List Nat) (nc:Bool) (R:List Nat) (p:Pc) (x7 x8 x9:Option V):LV:=[PV,some (S t),some (.bool nc),some (be R),some (S p.k.w),some (S p.s),some (S p.m),x7,x8,x9]
theorem leV {a b:Nat}(h:a≤b):aF G .LtE (.int a) (.int b)=some true:=congrArg some (leT h)
theorem leN {a b:Nat}(h:b<a):aF G .LtE (.int a) (.int b)=some false:=congrArg some (leF h)
theorem jS {r:Nat}{l:List V}(e:G[r]? = some (.list l)):Iz G (.ref r) ⟨⟨[97,112,112,101,110,100]⟩⟩=some .append:=by
 have q:Ls G (.ref r) ⟨⟨[97,112,112,101,110,100]⟩⟩=_:=cC e
 exact congrArg Cv.v q
theorem KM {c:Nat}{l:List Nat}:aF G .In (S [c]) (S l)=some (decide (c∈l)):=congrArg some (found_one ⟨⟨l⟩⟩ c)
noncomputable abbrev lfB (i:Nat) (m:LV) (G:AH):Tr Rd:=evB (evS 6 il) ((blk (at_ (blk (at_ fT.body 1)) 1)).drop i) m G fun f m G=>.ok (f,m,G)
section
variable {L:Rd→Prop}{PV x7 y:Option V}{R:List Nat}{p:Pc}{k m a r c:Nat}{b:Bool}{l:List V}{G':AH}
theorem Qv (e:G[r]? = some (.list l)) (pa:nE G (.ref r) (o0 .append) [.int k]=some G') (q:L (.next,lfM PV t nc R p (some (.ref r)) (some (.int k)) (some (.bool true)),G')):(lfB 1 (lfM PV t nc R p (some (.ref r)) (some (.int k)) (some (.bool true))) G).tt L:=by
 have ma:=jS e
 exact goT q [xM 4 ma,xH 1 pa]
theorem Qw (q:L (.next,lfM PV t nc R p x7 (some (.int k)) (some (.bool false)),G)):(lfB 1 (lfM PV t nc R p x7 (some (.int k)) (some (.bool false))) G).tt L:=by
 exact goT q []
theorem Oz (sw:p.k.w=[42]) (q:(lfB 1 (lfM PV t nc [] p x7 (some (.int k)) (some (.bool false))) G).tt L):(lfB 0 (lfM PV t nc [] p x7 (some (.int k)) y) G).tt L:=by
 have n1:=Dn (G:=G) (R:=[])
 exact goK q 2 [xC 3 (seT sw),xB 1 n1]
theorem KN (sw:p.k.w=[42]) (hm:nA G ⟨⟨[109,105,110]⟩⟩ [be (a::R)]=some (.int m)) (hb:aF G .LtE (.int m) (.int k)=some b) (q:(lfB 1 (lfM PV t nc (a::R) p x7 (some (.int k)) (some (.bool b))) G).tt L):(lfB 0 (lfM PV t nc (a::R) p x7 (some (.int k)) y) G).tt L:=by
 have n1:=Dn (G:=G) (R:=a::R)
 exact goK q 0 [xC 3 (seT sw),xB 1 n1,xV 3 hm,xB 1 hb]
theorem Qx (sw:¬ p.k.w=[42]) (q:L (.next,lfM PV t nc R p x7 (some (.int (0:Nat))) (some (.bool false)),G)):(lfB 0 (lfM PV t nc R p x7 (some (.int (0:Nat))) y) G).tt L:=by
 exact goT q [xC 3 (seF sw)]
theorem OA (sw:¬ p.k.w=[42]) (hin:aF G .In (.int k) (be R)=some false) (q:L (.next,lfM PV t nc R p x7 (some (.int (k+1:Nat))) (some (.bool false)),G)):(lfB 0 (lfM PV t nc R p x7 (some (.int (k+1:Nat))) y) G).tt L:=by
 exact goT q [xC 3 (seF sw),xC 3 (ltT (Nat.succ_pos k)),xV 1 (c7 (d:=k)),xB 1 hin]
theorem Mv (sw:¬ p.k.w=[42]) (hin:aF G .In (.int k) (be R)=some true) (q2:p.k.w=[63]) (q:(lfB 1 (lfM PV t nc R p x7 (some (.int (k+1:Nat))) (some (.bool true))) G).tt L):(lfB 0 (lfM PV t nc R p x7 (some (.int (k+1:Nat))) y) G).tt L:=by
 exact goK q 0 [xC 3 (seF sw),xC 3 (ltT (Nat.succ_pos k)),xV 1 (c7 (d:=k)),xB 1 hin,xC 6 (nB (seT q2))]
theorem OB (sw:¬ p.k.w=[42]) (hin:aF G .In (.int k) (be R)=some true) (q2:¬ p.k.w=[63]) (it:aG G (S t) (.int k)=some (S [c])) (i2:aF G .In (S [c]) (S p.s)=some b) (q:(lfB 1 (lfM PV t false R p x7 (some (.int (k+1:Nat))) (some (.bool b))) G).tt L):(lfB 0 (lfM PV t false R p x7 (some (.int (k+1:Nat))) y) G).tt L:=by
 exact goK q 0 [xC 3 (seF sw),xC 3 (ltT (Nat.succ_pos k)),xV 1 (c7 (d:=k)),xB 1 hin,xC 6 (nB (seF q2)),xV 5 (c7 (d:=k)),xV 0 it,xB 1 i2]
theorem OC (sw:¬ p.k.w=[42]) (hin:aF G .In (.int k) (be R)=some true) (q2:¬ p.k.w=[63]) (it:aG G (S t) (.int k)=some (S [c])) (lw:eQ .lower (S [c]) []=some (S [lo c])) (i2:aF G .In (S [lo c]) (S p.m)=some b) (q:(lfB 1 (lfM PV t true R p x7 (some (.int (k+1:Nat))) (some (.bool b))) G).tt L):(lfB 0 (lfM PV t true R p x7 (some (.int (k+1:Nat))) y) G).tt L:=by
 exact goK q 0 [xC 3 (seF sw),xC 3 (ltT (Nat.succ_pos k)),xV 1 (c7 (d:=k)),xB 1 hin,xC 6 (nB (seF q2)),xV 5 (c7 (d:=k)),xV 0 it,xV 0 lw,xB 1 i2]
end
theorem Mw {p:Pc}{k r:Nat}(hp:p∈pcs) (ep:ps[i]? = some (lk nc p)) (ht:∀ c∈t,c∈chs) (hkt:k≤t.length) {PV y:Option V}{L:Rd→Prop}
  (q:∀ b,ent ps t (i+1) k=b→(lfB 1 (lfM PV t nc (gt ps t i) p (some (.ref r)) (some (.int k)) (some (.bool b))) G).tt L)
  (q0:ent ps t (i+1) k=false→L (.next,lfM PV t nc (gt ps t i) p (some (.ref r)) (some (.int k)) (some (.bool false)),G)) :
  (lfB 0 (lfM PV t nc (gt ps t i) p (some (.ref r)) (some (.int k)) y) G).tt L:=by
 have hR:=fun k=>wL (ps:=ps) (t:=t) (i:=i) (k:=k)
 generalize gt ps t i=R at *
 by_cases s:aT (lk nc p)=true
 ·have sw:p.k.w=[42]:=eq_of_beq (show (p.k.w==[42])=true from s)
  have es:=jl ep s (t:=t) (k:=k)
  cases R with
  | nil=>exact Oz sw (q false (es.trans (bF fun q=>ae (yS.mp q) fun j hj h=>nomatch (hR j).mpr ⟨Nat.le_trans hj hkt,h⟩)))
  | cons a R =>
   refine ae (Ht (G:=G) (a:=a) (R:=R)) fun m hm hk'=>?_
   have z:ent ps t (i+1) k=true↔m≤k:=by
    rw [es,yS,hk' k]
    exact ⟨fun ⟨j,hj,h⟩=>⟨j,(hR j).mpr ⟨Nat.le_trans hj hkt,h⟩,hj⟩,fun ⟨j,hj,h⟩=>⟨j,h,((hR j).mp hj).2⟩⟩
   by_cases h:m≤k
   ·exact KN sw hm (leV h) (q true (z.mpr h))
   ·exact KN sw hm (leN (Nat.lt_of_not_le h)) (q false (bF fun k=>h (z.mp k)))
 ·have sw:¬ p.k.w=[42]:=fun e=>s (by rw [aT,lk,e]; rfl)
  cases k with
  | zero=>exact Qx sw (q0 (r5 ep s))
  | succ k =>
   have es:=uv ep s (t:=t) (k:=k)
   have hkl:k<t.length:=hkt
   have ec:=List.getElem?_eq_getElem hkl
   have hc:=ht _ (List.getElem_mem hkl)
   generalize t[k]=c at ec hc
   have et:tk (lk nc p) t k=(p.k.w==[63]||(if nc then p.m.contains (lo c) else p.s.contains c)):=Mq ec
   cases h:R.contains k with
   | false =>
    refine OA sw ((oy (G:=G) (R:=R) (k:=k)).trans (congrArg some h)) (q0 ?_)
    rw [es,bF fun h'=>ff (h.symm.trans (List.contains_iff_mem.mpr ((hR k).mpr ⟨Nat.le_of_lt hkl,h'⟩)))]; rfl
   | true =>
    have hin:=(oy (G:=G) (R:=R) (k:=k)).trans (congrArg some h)
    rw [((hR k).mp (List.contains_iff_mem.mp h)).2,et,Bool.true_and] at es
    by_cases q2:p.k.w=[63]
    ·exact Mv sw hin q2 (q true (by rw [es,q2]; rfl))
    ·rw [beq_eq_false_iff_ne.mpr q2,Bool.false_or] at es
     have m:∀ (c:Nat) (l:List Nat),l.contains c=decide (c∈l):=fun c l=>Bool.eq_iff_iff.mpr (List.contains_iff_mem.trans decide_eq_true_iff.symm)
     cases nc with
     | false=>exact OB sw hin q2 (li G ec) KM (q _ (es.trans (m c p.s)))
     | true=>exact OC sw hin q2 (li G ec) (rX hc) KM (q _ (es.trans (m (lo c) p.m)))
inductive LfE (PV:Option V) (t:List Nat) (nc:Bool) (R:List Nat) (p:Pc) (r:Nat) (G':AH):Fl × LV × AH→Prop
 | mk (y8 y9:Option V):LfE PV t nc R p r G' (.next,lfM PV t nc R p (some (.ref r)) y8 y9,G')
theorem Hu {p:Pc}(hp:p∈pcs) (ep:ps[i]? = some (lk nc p)) (ht:∀ c∈t,c∈chs) (hl:t.length<big) {PV:Option V}{r:Nat}(n:Nat):∀ (k:Nat) (A:List Nat) (G:AH) (x8 x9:Option V),k+n=t.length+1→A.length≤k→G[r]? = some (.list (A.map fun k=>.int (k:Nat))) →
  ∃ j:{z // LfE PV t nc (gt ps t i) p r (G.set r (.list ((A++(List.range' k n).filter (ent ps t (i+1))).map fun k=>.int (k:Nat)))) z},lfI ((List.range' k n).map fun i=>.int (i:Nat)) (lfM PV t nc (gt ps t i) p (some (.ref r)) x8 x9) G j.1.1 j.1.2.1 j.1.2.2:=by
 induction n with
 | zero =>
  intro k A G x8 x9 hk hA e
  refine ⟨⟨(.next,_,_),.mk x8 x9⟩,?_⟩
  rw [List.range'_zero,List.filter_nil,List.append_nil,fY e]
  exact fN
 | succ n ih =>
  intro k A G x8 x9 hk hA e
  have hkt:k≤t.length:=Nat.succ.inj hk ▸ Nat.le_add_right k n
  rw [List.range'_succ,List.filter_cons]
  refine Oa (m1:=lfM PV t nc (gt ps t i) p (some (.ref r)) (some (.int k)) x9) (t:=lfB 0 (lfM PV t nc (gt ps t i) p (some (.ref r)) (some (.int k)) x9) G) (by kernel_rfl) (by kernel_rfl) ?_
  have hk:k+1+n=t.length+1:=by rw [Nat.add_right_comm]; exact hk
  refine Mw hp ep ht hkt (fun b h=>?_) fun h=>?_
  ·rw [h]
   cases b with
   | true =>
    rw [if_pos rfl]
    refine Qv e (bf (v:=.int (k:Nat)) e (by rw [List.length_map]; exact Nat.le_trans (Nat.succ_le_succ hA) (Nat.lt_of_le_of_lt hkt hl))) ?_
    have w:=ih (k+1) (A++[k]) (G.set r (.list (A.map (fun k=>.int (k:Nat))++[.int (k:Nat)]))) (some (.int k)) (some (.bool true)) hk (by rw [List.length_append]; exact Nat.succ_le_succ hA) (by rw [List.getElem?_set_self (bc e),List.map_append]; rfl)
    rw [List.set_set,List.append_assoc] at w
    exact w
   | false =>
    rw [if_neg (by decide)]
    exact Qw (ih (k+1) A G (some (.int k)) (some (.bool false)) hk (Nat.le_succ_of_le hA) e)
  ·rw [if_neg fun q=>ff (h.symm.trans q)]
   exact ih (k+1) A G (some (.int k)) (some (.bool false)) hk (Nat.le_succ_of_le hA) e
inductive LoE (PV:Option V) (t:List Nat) (nc:Bool) (R:List Nat):Fl × LV × AH→Prop
 | mk (y4 y5 y6 y7 y8 y9:Option V) (G:AH):LoE PV t nc R (.next,[PV,some (S t),some (.bool nc),some (be R),y4,y5,y6,y7,y8,y9],G)
theorem LoE.el {PV:Option V}{R:List Nat}{N:Fl→LV→AH→Prop}{X:Prop}(h:∃ j:{z // LoE PV t nc R z},N j.1.1 j.1.2.1 j.1.2.2) (k:∀ y4 y5 y6 y7 y8 y9 G,N .next [PV,some (S t),some (.bool nc),some (be R),y4,y5,y6,y7,y8,y9] G→X):X:=by
 obtain ⟨⟨_,y4,y5,y6,y7,y8,y9,G⟩,n⟩:=h
 exact k _ _ _ _ _ _ _ n
theorem LfE.el {PV:Option V}{R:List Nat}{p:Pc}{r:Nat}{G':AH}{N:Fl→LV→AH→Prop}{X:Prop}(h:∃ j:{z // LfE PV t nc R p r G' z},N j.1.1 j.1.2.1 j.1.2.2) (k:∀ y8 y9,N .next (lfM PV t nc R p (some (.ref r)) y8 y9) G'→X):X:=by
 obtain ⟨⟨_,y8,y9⟩,n⟩:=h
 exact k y8 y9 n
theorem Hv {l:List V}{r:Nat}{A:AO}(e:G[r]? = some A):look (G.set r (.list l)) r=some (.lst l):=by
 have e:(G.set r (.list l))[r]? = some (.list l):=List.getElem?_set_self (bc e)
 have q:CR _ r=_:=cC e
 exact congrArg Cv.v q
theorem Hw (hp:∀ p∈pl,p∈pcs) (ht:∀ c∈t,c∈chs) (hl:t.length<big) {PV:Option V}(rest:List Pc):∀ (i:Nat) (x4 x5 x6 x7 x8 x9:Option V) (G:AH),pl.drop i=rest →
  ∃ j:{z // LoE PV t nc (gt (pl.map (lk nc)) t (i+rest.length)) z},lfO (rest.map Pc.v) [PV,some (S t),some (.bool nc),some (be (gt (pl.map (lk nc)) t i)),x4,x5,x6,x7,x8,x9] G j.1.1 j.1.2.1 j.1.2.2:=by
 induction rest with
 | nil=>exact fun i x4 x5 x6 x7 x8 x9 G hd=>⟨⟨_,.mk x4 x5 x6 x7 x8 x9 G⟩,fN⟩
 | cons p rest ih =>
  intro i x4 x5 x6 x7 x8 x9 G hd
  have ei:pl[i]? = some p:=by have:=congrArg List.head? hd; rw [List.head?_drop] at this; exact this
  have ep:(pl.map (lk nc))[i]? = some (lk nc p):=by rw [List.getElem?_map,ei]; rfl
  have nl:(G++[AO.list []])[G.length]? = some (.list (([]:List Nat).map fun k=>.int (k:Nat))):=by rw [List.getElem?_append_right (Nat.le_refl _),Nat.sub_self]; rfl
  have w:=Hu (hp p (List.mem_of_getElem? ei)) ep ht hl (PV:=PV) (r:=G.length) (t.length+1) 0 [] (G++[.list []]) x8 x9 (Nat.zero_add _) (Nat.le_refl _) nl
  rw [List.nil_append] at w
  refine LfE.el w fun y8 y9 w=>?_
  have lg:=Hv (l:=(gt (pl.map (lk nc)) t (i+1)).map fun k=>.int (k:Nat)) nl
  have hd':pl.drop (i+1)=rest:=by rw [← List.drop_drop,hd]; rfl
  have it:=bR (a:=0) (b:=t.length+1) hl (Nat.zero_le _)
  have e:i+(p::rest).length=i+1+rest.length:=by rw [List.length_cons,← Nat.add_assoc,Nat.add_right_comm]
  rw [e]
  exact (ih (i+1) (some (S p.k.w)) (some (S p.s)) (some (S p.m)) (some (.ref G.length)) y8 y9 (((G++[AO.list []]).set G.length (.list ((gt (pl.map (lk nc)) t (i+1)).map fun k=>.int (k:Nat)))).set G.length .dead) hd').imp fun j ih=>fI ih [xL 4 it,xS 0 w,xV 1 lg]
theorem vm (hp:∀ p∈pl,p∈pcs) (ht:∀ c∈t,c∈chs) (hl:t.length<big):im [.lst (pl.map Pc.v),S t,.bool nc] (.ok (.bool (Cl nc pl t))):=by
 refine LoE.el (Hw (nc:=nc) hp ht hl (PV:=some (.lst (pl.map Pc.v))) pl 0 none none none none none none [] rfl) fun y4 y5 y6 y7 y8 y9 G' w=>?_
 have e0:gt (pl.map (lk nc)) t 0=[0]:=by
  unfold gt
  rw [List.range'_succ,List.filter_cons,if_pos (show ent (pl.map (lk nc)) t 0 0=true from rfl)]
  refine congrArg (0::·) (List.filter_eq_nil_iff.mpr fun k hk=>?_)
  have:=(List.mem_range'_1.mp hk).1
  exact fun q=>absurd (eq_of_beq (show (k==0)=true from q)) (Nat.ne_of_gt this)
 have eB:(gt (pl.map (lk nc)) t (0+pl.length)).contains t.length=Cl nc pl t:=by
  rw [Bool.eq_iff_iff,List.contains_iff_mem,wL,Nat.zero_add]
  exact ⟨fun h=>h.2,fun h=>⟨Nat.le_refl _,h⟩⟩
 have hin:=oy (G:=G') (R:=gt (pl.map (lk nc)) t (0+pl.length)) (k:=t.length)
 rw [eB] at hin
 rw [e0] at w
 have pv:=a8 (f:=Pc.v) (fun _=>rfl) pl
 exact goP [xS 2 w,xB 3 hin] (by rw [V.puL,V.pu,pv]; rfl) rfl
end
end
section
noncomputable def lZ:List Str:=[⟨⟨[109,111,100,101]⟩⟩,⟨⟨[104,111,119]⟩⟩,⟨⟨[105,115,95,100,101,99,114,101,97,115,105,110,103]⟩⟩,⟨⟨[99,111,109,109,97,110,100]⟩⟩,⟨⟨[112,97,116,104]⟩⟩,⟨⟨[115,116,114,105,100,101]⟩⟩,⟨⟨[115,116,97,114,116]⟩⟩,⟨⟨[102,108,97,103,115]⟩⟩]
structure To where
 mode:Nat
 how:Nat
 dec:Bool
 sh:Nat
 start:V
 fl:List Str
 fv:List V
noncomputable def fZ (how:Nat):List Nat:=if how=0 then [103,108,111,98] else if how=1 then [101,120,97,99,116] else [115,111,114,116,101,100]
noncomputable def To.v (o:To):V:=.inst ak lZ [S (fw o.mode),S (fZ o.how),.bool o.dec,S [],iq o.sh,.int 1,o.start,.dS o.fl o.fv]
noncomputable abbrev EM:Str:=⟨⟨[45,97,108,108]⟩⟩
noncomputable abbrev Cm:Str:=⟨⟨[45,110,111,116]⟩⟩
noncomputable abbrev OD:Str:=⟨⟨[45,105,110,108,105,110,101]⟩⟩
noncomputable abbrev OE:Str:=⟨⟨[45,110,111,99,97,115,101]⟩⟩
noncomputable abbrev Hx:Str:=⟨⟨[45,98,105,115,101,99,116]⟩⟩
structure Flg (o:To) (how:Nat) (f:Int):Prop where
 pu:o.start.pu=true∧V.puL o.fv=true
 all:o.fl.contains EM=bit f 1
 no:o.fl.contains Cm=bit f 2
 inl:o.fl.contains OD=bit f 4
 noc:o.fl.contains OE=bit f 8
 bis:o.fl.contains Hx=(how==3)
 dec:o.dec=bit f 16
 how:o.how=how
noncomputable def gT (how mode:Nat) (nc:Bool) (pl:List Pc) (wt:Wo) (w:Wo):Option Bool :=
 if how=0 then some (Cl nc pl w.t) else if mode=2∧w.n=none then none else some (cL (cK mode nc w) (cK mode nc wt)==0)
noncomputable def dz (how mode:Nat) (pl:List Pc) (wt:Wo):V:=if how=0 then S (mO pl) else fy mode wt
theorem Do {how mode:Nat}{pl:List Pc}{wt:Wo}:(dz how mode pl wt).pu=true:=by unfold dz; split; rfl; exact ot ..
structure Ask (o:To) (how mode sh:Nat) (f:Int) (pl:List Pc) (wt:Wo):Prop where
 fl:Flg o how f
 mo:o.mode=mode
 sh':o.sh=sh
 m:mode<3
 s:sh<3
 h:how<4
 pc:∀ p∈pl,p∈pcs
 pn:pl.length≤3
 wt:how≠0→cw mode wt
theorem Ask.pu {o:To}{how mode sh:Nat}{f:Int}{pl:List Pc}{wt:Wo}(a:Ask o how mode sh f pl wt):o.v.pu=true:=by
 rw [To.v,V.pu,V.puL,V.puL,V.puL,V.puL,V.puL,oq,V.puL,V.puL,a.fl.pu.1,V.puL,V.pu,a.fl.pu.2]; rfl
theorem JW:G3.all (fun w=>w.all fun c=>!Mt c)=true:=by kernel_rfl
theorem Dp {mode:Nat}{w:Wo}(h:w∈dom mode):∀ c∈w.t,Txc c:=fun c hc=>⟨(rZ h).1 c hc,bN (List.all_eq_true.mp (List.all_eq_true.mp JW _ (lI h)) c hc)⟩
theorem oz {mode sh:Nat}{g:List Wo}(h:Grp mode sh g):aN sh g∈dom mode :=
 h.el (fun a q ha e=>by subst q e; exact ha) fun a b q ha hb e=>by
  subst e
  unfold aN
  split
  ·exact hb
  ·exact ha
theorem Mx:bT.all (fun w=>w.n.isSome||w.t==[49,120])=true:=by kernel_rfl
theorem yT {w:Wo}(h:w∈dom 2) (hn:w.n=none):w.t=[49,120]:=eq_of_beq (rg (List.all_eq_true.mp Mx w h) (by rw [hn]; rfl))
theorem OF {a b:Bool}:aF [] .NotEq (.bool a) (.bool b)=some (a != b):=by cases a <;> cases b <;> rfl
theorem yU {G:AH}{k:Str}{ks:List Str}{vs:List V}{b:Bool}(h:ks.contains k=b):aF G .In (.str k) (.dS ks vs)=some b:=congrArg some h
theorem JX {G:AH}{k:Str}{ks:List Str}{vs:List V}{b:Bool}(h:ks.contains k=b):aF G .NotIn (.str k) (.dS ks vs)=some (!b):=congrArg (fun b=>some (!b)) h
section
variable {o:To}{how mode sh:Nat}{f:Int}{pl:List Pc}{wt:Wo}{g:List Wo}{b:Bool}
theorem Hy (a:Ask o how mode sh f pl wt):(V.puL [o.v,dz how mode pl wt,S (bl g)]&&bo n8 [o.v,dz how mode pl wt,S (bl g)])=true:=by rw [V.puL,V.puL,a.pu,Do]; rfl
theorem Co (h0:how≠0):¬ fZ how=[103,108,111,98]:=by
 unfold fZ
 rw [if_neg h0]
 split <;> decide
theorem Hz (a:Ask o how mode sh f pl wt) (hg:Grp mode sh g) (hv:gT how mode (bit f 8) pl wt (aN sh g)=some b):kY [o.v,dz how mode pl wt,S (bl g)] (.ok (.bool (b != bit f 2))):=by
 have hd:=oz hg
 have hp:=jh hg a.s
 have pp:=Hy (g:=g) a
 have f8:=yU (G:=[]) (vs:=o.fv) a.fl.noc
 have f2:=yU (G:=[]) (vs:=o.fv) a.fl.no
 obtain ⟨fl,rfl,rfl,m,s,h,pc,pn,wt'⟩:=a
 obtain rfl:=fl.how
 unfold gT at hv
 by_cases h0:o.how=0
 ·rw [if_pos h0] at hv
  have hf:=EL (nc:=bit f 8) pc (Nat.le_trans pn (by decide)) (Dp hd) (Nat.le_trans (dx hd).2 (by decide))
  rw [sj hv] at hf
  have ew:dz o.how o.mode pl wt=S (mO pl):=if_pos h0
  rw [ew] at pp ⊢
  have e:fZ o.how=[103,108,111,98]:=if_pos h0
  exact goP [xP 3 hp,xB 2 f8,xC 4 (seT e),xP 3 hf,xB 3 f2,xB 0 (OF (a:=b) (b:=bit f 2))] pp rfl
 ·rw [if_neg h0] at hv
  have ew:dz o.how o.mode pl wt=fy o.mode wt:=if_neg h0
  rw [ew] at pp ⊢
  by_cases hn:o.mode=2∧(aN o.sh g).n=none
  ·rw [if_pos hn] at hv; exact nS hv
  ·rw [if_neg hn] at hv
   have hkd:cw o.mode (aN o.sh g):=⟨hd,fun e=>Option.isSome_iff_ne_none.mpr fun q=>hn ⟨e,q⟩⟩
   have kb:=lq hkd m
   have cb:=oo (nc:=bit f 8) hkd (wt' h0) m
   have hv:=sj hv
   generalize cL (cK o.mode (bit f 8) (aN o.sh g)) (cK o.mode (bit f 8) wt)=z at *
   subst hv
   exact goP [xP 3 hp,xB 2 f8,xC 4 (seF (Co h0)),xP 6 kb,xP 1 cb,xB 4 f2,xB 0 (OF (a:=z==0) (b:=bit f 2))] pp rfl
theorem HA (a:Ask o how mode sh f pl wt) (hg:Grp mode sh g) (hv:gT how mode (bit f 8) pl wt (aN sh g)=none):kY [o.v,dz how mode pl wt,S (bl g)] (.ex Az (AA (cf [49,120]) bu)):=by
 have hp:=jh hg a.s
 have pp:=Hy (g:=g) a
 have hd:=oz hg
 have f8:=yU (G:=[]) (vs:=o.fv) a.fl.noc
 obtain ⟨fl,rfl,rfl,m,s,h,pc,pn,wt'⟩:=a
 obtain rfl:=fl.how
 unfold gT at hv
 by_cases h0:o.how=0
 ·rw [if_pos h0] at hv; exact sN hv
 ·rw [if_neg h0] at hv
  have ew:dz o.how o.mode pl wt=fy o.mode wt:=if_neg h0
  rw [ew] at pp ⊢
  by_cases hn:o.mode=2∧(aN o.sh g).n=none
  ·obtain ⟨e,q⟩:=hn
   rw [yT (e ▸ hd) q] at hp
   have kb:=Dc
   have em:fw o.mode=fw 2:=congrArg fw e
   rw [← em] at kb
   exact goP [xP 3 hp,xB 2 f8,xC 4 (seF (Co h0)),xP 6 kb] pp rfl
  ·rw [if_neg hn] at hv; exact sN hv
noncomputable def iV (all no:Bool):List (Option Bool)→Nat→List Nat→Option (List Nat)
 | [],_,A=>some A
 | none::_,_,_=>none
 | some b::r,k,A=>if (b != no)=true then (if all=true then iV all no r (k+1) (A++[k]) else some (A++[k])) else iV all no r (k+1) A
theorem jm {gs:List (List Wo)}{p:Nat}(G:AH) (e:gs[p]? = some g):aG G (aq gs) (.int p)=some (S (bl g)):=bS G (by rw [List.getElem?_map,e]; rfl)
theorem uD (gs:List (List Wo)):(aq gs).pu=true:=a8 (f:=itS) (fun _=>rfl) gs
noncomputable abbrev slF:=fR gD 7 (at_ cI.body 1)
noncomputable abbrev slM (o:To) (gs:List (List Wo)) (wv:V) (start:Nat) (x:Option V):LV:=[some o.v,some (aq gs),some wv,some (.int start),some (.ref 0),x]
theorem yV (a:Ask o how mode sh f pl wt) {gs:List (List Wo)}(hg:∀ g∈gs,Grp mode sh g) (hn:gs.length≤big) (start:Nat):∀ (rest:List (List Wo)) (k:Nat) (A:List Nat) (x:Option V),gs.drop k=rest→A.length≤k →
  ∃ x' m' G',(∀ P,iV (bit f 1) (bit f 2) (rest.map fun g=>gT how mode (bit f 8) pl wt (aN sh g)) k A=some P→slF ((List.range' k rest.length).map fun i=>.int (i:Nat)) (slM o gs (dz how mode pl wt) start x) [.list (A.map fun k=>.int (k:Nat))] .next (slM o gs (dz how mode pl wt) start x') [.list (P.map fun k=>.int (k:Nat))]) ∧
   (iV (bit f 1) (bit f 2) (rest.map fun g=>gT how mode (bit f 8) pl wt (aN sh g)) k A=none→slF ((List.range' k rest.length).map fun i=>.int (i:Nat)) (slM o gs (dz how mode pl wt) start x) [.list (A.map fun k=>.int (k:Nat))] (.ex Az (AA (cf [49,120]) bu)) m' G')
 | [],k,A,x,hd,hA=>⟨x,[],[],fun P e=>sj e ▸ fN,fun e=>sN e⟩
 | g::rest,k,A,x,hd,hA=>by
  have eg:gs[k]? = some g:=by have:=congrArg List.head? hd; rw [List.head?_drop] at this; exact this
  have hgg:=hg g (List.mem_of_getElem? eg)
  have hd':gs.drop (k+1)=rest:=by rw [← List.drop_drop,hd]; rfl
  have it:=jm [.list (A.map fun k=>.int (k:Nat))] eg
  have pa:=bf (G:=[.list (A.map fun k=>.int (k:Nat))]) (i:=0) (v:=.int (k:Nat)) rfl (by rw [List.length_map]; exact Nat.le_trans (Nat.succ_le_succ hA) (Nat.le_trans (bc eg) hn))
  have al:=JX (G:=[.list (A.map (fun k=>V.int (k:Nat))++[.int (k:Nat)])]) (vs:=o.fv) a.fl.all
  rw [List.map_cons,List.length_cons,List.range'_succ,List.map_cons]
  cases hv:gT how mode (bit f 8) pl wt (aN sh g) with
  | none =>
   have hh:=HA a hgg hv
   refine ⟨x,[],[.list (A.map fun k=>.int (k:Nat))],fun P e=>nS e,fun _=>?_⟩
   exact fE [xV 4 it,xP 0 hh]
  | some b =>
   have hh:=Hz a hgg hv
   rw [iV]
   cases q:(b != bit f 2) with
   | true =>
    rw [q] at hh
    rw [if_pos rfl]
    cases qa:bit f 1 with
    | false =>
     rw [qa] at al
     refine ⟨some (.int k),[],[],fun P e=>?_,fun e=>sN e⟩
     rw [← sj (show some (A++[k])=some P from e),List.map_append]
     exact fE [xV 4 it,xP 0 hh,xH 4 pa,xB 3 al]
    | true =>
     rw [qa] at al
     obtain ⟨x',m',G',h1,h2⟩:=yV a hg hn start rest (k+1) (A++[k]) (some (.int k)) hd' (by rw [List.length_append]; exact Nat.succ_le_succ hA)
     rw [qa,List.map_append] at h1 h2
     refine ⟨x',m',G',fun P e=>?_,fun e=>?_⟩
     ·have ih:=h1 P e
      exact fI ih [xV 4 it,xP 0 hh,xH 4 pa,xB 3 al]
     ·have ih:=h2 e
      exact fI ih [xV 4 it,xP 0 hh,xH 4 pa,xB 3 al]
   | false =>
    rw [q] at hh
    rw [if_neg (by decide)]
    obtain ⟨x',m',G',h1,h2⟩:=yV a hg hn start rest (k+1) A (some (.int k)) hd' (Nat.le_succ_of_le hA)
    refine ⟨x',m',G',fun P e=>?_,fun e=>?_⟩
    ·have ih:=h1 P e
     exact fI ih [xV 4 it,xP 0 hh]
    ·have ih:=h2 e
     exact fI ih [xV 4 it,xP 0 hh]
theorem mP (a:Ask o how mode sh f pl wt) {gs:List (List Wo)}(hg:∀ g∈gs,Grp mode sh g) (hn:gs.length≤big) {start:Nat}(hs:start≤big) :
  (∀ P,iV (bit f 1) (bit f 2) ((gs.drop start).map fun g=>gT how mode (bit f 8) pl wt (aN sh g)) start []=some P→bz [o.v,aq gs,dz how mode pl wt,.int start] (.ok (be P))) ∧
  (iV (bit f 1) (bit f 2) ((gs.drop start).map fun g=>gT how mode (bit f 8) pl wt (aN sh g)) start []=none→bz [o.v,aq gs,dz how mode pl wt,.int start] (.ex Az (AA (cf [49,120]) bu))):=by
 obtain ⟨x',m',G',h1,h2⟩:=yV a hg hn start (gs.drop start) start [] none rfl (Nat.zero_le _)
 have e:(gs.map itS).length=gs.length:=List.length_map ..
 have it:=bR (a:=start) (b:=(gs.map itS).length) (by rw [e]; exact hn) hs
 have el:(gs.map itS).length - start=(gs.drop start).length:=by rw [List.length_drop,e]
 rw [el] at it
 have pp:(V.puL [o.v,aq gs,dz how mode pl wt,.int start]&&bo cI [o.v,aq gs,dz how mode pl wt,.int start])=true:=by rw [V.puL,V.puL,V.puL,V.puL,a.pu,Do,uD]; rfl
 refine ⟨fun P e=>?_,fun e=>?_⟩
 ·have w:=h1 P e
  have pr:(be P).pu=true:=a8 (fun _=>rfl) P
  exact goP [xL 4 it,xS 0 w] pp pr
 ·have w:=h2 e
  exact goP [xL 4 it,xS 0 w] pp rfl
end
end
section
noncomputable def ct (why:List Nat) (code:V):V:=.tup [S [114,97,105,115,101,100],.int 1,S why,code]
theorem lu:bA [.tup [S [49,120],.none]] (.ok (ct (cf [49,120]) bu)):=gR
theorem JY {pl:List Pc}:V.puL (pl.map Pc.v)=true:=a8 (fun _=>rfl) pl
section
variable {how mode:Nat}{f:Int}{pl:List Pc}{wt:Wo}{hs:List Wo}{start:Nat}
noncomputable abbrev llF:=fR gS 7 (at_ dv.body 1)
noncomputable abbrev llM (how mode:Nat) (f:Int) (hs:List Wo) (start:Nat) (wt:Wo) (pl:List Pc) (x y:Option V):LV :=
 [some (.int how),some (.int mode),some (.int f),some (.lst (hs.map Wo.v)),some (.int start),some wt.v,some (.lst (pl.map Pc.v)),some (.bool (bit f 8)),some (.bool (bit f 2)),some (.ref 0),x,y]
structure LQ (how mode:Nat) (f:Int) (pl:List Pc) (wt:Wo) (hs:List Wo):Prop where
 m:mode<3
 w:how≠0→cw mode wt
 d:∀ w∈hs,w∈dom mode
 p:∀ p∈pl,p∈pcs
 n:hs.length≤big
 f:(f.fmod 2==0)=!bit f 1
noncomputable def LE (how mode:Nat) (f:Int) (pl:List Pc) (wt:Wo) (hs:List Wo) (start:Nat) (r:Option (List Nat)) (g:Fl) (m:LV) (G:AH):Prop:=match r with
 | some P=>G=[.list (P.map fun k=>.int (k:Nat))]∧((g=.next∧∃ x y,m=llM how mode f hs start wt pl x y)∨(g=.ret (.tup [.ref 0,.tup []])∧m=[]))
 | none=>g=.ret (.tup [.lst [],ct (cf [49,120]) bu])∧m=[]
theorem HB {n:Option Int}(h:n=none):bg (mH n)=true:=by rw [h]; rfl
theorem HD {n:Option Int}(h:n.isSome=true):bg (mH n)=false:=by cases n with | none=>exact ff h | some=>rfl
theorem Qy {n:Option Int}{b:Bool}(h:bg (mH n)=b):aF [] .Is (mH n) .none=some b:=congrArg some h
theorem isG {G:AH}{n:Option Int}{b:Bool}(h:bg (mH n)=b):aF G .Is (mH n) .none=some b:=congrArg some h
theorem Re {G:AH}{a b:Bool}:aF G .NotEq (.bool a) (.bool b)=some (a != b):=by cases a <;> cases b <;> rfl
theorem JZ {a b:List Int}:decide (a=b)=(cL a b==0):=by
 rw [Bool.eq_iff_iff,decide_eq_true_eq,beq_iff_eq]
 exact ⟨fun h=>by rw [h]; exact p9 _,Dd⟩
noncomputable abbrev llB (i:Nat) (m:LV) (G:AH):Tr Rd:=evB (evS 7 gS) ((blk (at_ dv.body 1)).drop i) m G fun f m G=>.ok (f,m,G)
noncomputable abbrev lm (how mode:Nat) (f:Int) (H sv wv pv:V) (nc nt:Bool) (k:Nat) (y:Option V):LV:=[some (.int how),some (.int mode),some (.int f),some H,some sv,some wv,some pv,some (.bool nc),some (.bool nt),some (.ref 0),some (.int k),y]
section
variable {L:Rd→Prop}{k:Nat}{H sv wv pv tv nv K1 K2 N:V}{nc nt b:Bool}{G G':AH}{y:Option V}{l:List V}
theorem Qz (it:aG G H (.int k)=some (.tup [tv,nv])) (hf:im [pv,tv,.bool nc] (.ok (.bool b))) (q:(llB 1 (lm 0 mode f H sv wv pv nc nt k (some (.bool b))) G).tt L):(llB 0 (lm 0 mode f H sv wv pv nc nt k y) G).tt L:=by
 exact goK q 0 [xV 7 it,xP 2 hf]
theorem QA (h0:how≠0) (it:aG G H (.int k)=some (.tup [tv,nv])) (hn:bg nv=true) (nn:bA [.tup [tv,nv]] (.ok N)) (q:L (.ret (.tup [.lst [],N]),lm how 2 f H sv wv pv nc nt k y,G)):(llB 0 (lm how 2 f H sv wv pv nc nt k y) G).tt L:=by
 exact goT q [xC 3 (nF h0),xV 6 it,xC 3 hn,xV 2 it,xP 0 nn]
theorem QC (h0:how≠0) (it:aG G H (.int k)=some (.tup [tv,nv])) (hn:bg nv=false) (k1:cj [.int 2,.bool nc,.tup [tv,nv]] (.ok K1)) (k2:cj [.int 2,.bool nc,wv] (.ok K2)) (he:aF G .Eq K1 K2=some b) (q:(llB 1 (lm how 2 f H sv wv pv nc nt k (some (.bool b))) G).tt L):(llB 0 (lm how 2 f H sv wv pv nc nt k y) G).tt L:=by
 exact goK q 0 [xC 3 (nF h0),xV 6 it,xC 3 hn,xV 4 it,xP 0 k1,xP 3 k2,xB 0 he]
theorem QD (h0:how≠0) (hm:mode≠2) (it:aG G H (.int k)=some (.tup [tv,nv])) (k1:cj [.int mode,.bool nc,.tup [tv,nv]] (.ok K1)) (k2:cj [.int mode,.bool nc,wv] (.ok K2)) (he:aF G .Eq K1 K2=some b) (q:(llB 1 (lm how mode f H sv wv pv nc nt k (some (.bool b))) G).tt L):(llB 0 (lm how mode f H sv wv pv nc nt k y) G).tt L:=by
 exact goK q 0 [xC 3 (nF h0),xC 3 (nF hm),xC 1 (nF hm),xV 4 it,xP 0 k1,xP 3 k2,xB 0 he]
theorem QG (hb:(b != nt)=false) (q:L (.next,lm how mode f H sv wv pv nc nt k (some (.bool b)),G)):(llB 1 (lm how mode f H sv wv pv nc nt k (some (.bool b))) G).tt L:=by
 exact goT q [xC 4 hb]
theorem QH (hb:(b != nt)=true) (pa:nE [.list l] (.ref 0) (o0 .append) [.int k]=some G') (c:Bool) (qf:(f.fmod 2==0)=c) (q:L (if c=true then (.ret (.tup [.ref 0,.tup []]),lm how mode f H sv wv pv nc nt k (some (.bool b)),G') else (.next,lm how mode f H sv wv pv nc nt k (some (.bool b)),G'))):(llB 1 (lm how mode f H sv wv pv nc nt k (some (.bool b))) [.list l]).tt L:=by
 cases c with
 | true=>exact goT q [xC 4 hb,xH 2 pa,xC 5 qf]
 | false=>exact goT q [xC 4 hb,xH 2 pa,xC 5 qf]
end
noncomputable def LLP (how mode:Nat) (f:Int) (pl:List Pc) (wt:Wo) (hs:List Wo) (start:Nat) (r:Option (List Nat)) (N:Fl→LV→AH→Prop):Prop:=∃ j:{z:Fl × LV × AH // LE how mode f pl wt hs start r z.1 z.2.1 z.2.2},N j.1.1 j.1.2.1 j.1.2.2
noncomputable abbrev llA (A:List Nat):AH:=[.list (A.map fun k=>.int (k:Nat))]
section
variable {k:Nat}{A:List Nat}{w:Wo}{b:Bool}{hr:List (Option Bool)}{xs:List V}
theorem My (q:LQ how mode f pl wt hs) (hA:A.length+1≤big) (iN:LLP how mode f pl wt hs start (iV (bit f 1) (bit f 2) hr (k+1) A) (llF xs (llM how mode f hs start wt pl (some (.int k)) (some (.bool b))) (llA A)))
  (iA:LLP how mode f pl wt hs start (iV (bit f 1) (bit f 2) hr (k+1) (A++[k])) (llF xs (llM how mode f hs start wt pl (some (.int k)) (some (.bool b))) (llA (A++[k])))) :
  (llB 1 (llM how mode f hs start wt pl (some (.int k)) (some (.bool b))) (llA A)).tt fun p=>LLP how mode f pl wt hs start (iV (bit f 1) (bit f 2) (some b::hr) k A) (aft (llF xs) p):=by
 rw [iV]
 cases qb:(b != bit f 2) with
 | false =>
  rw [if_neg (by decide)]
  exact QG qb iN
 | true =>
  rw [if_pos rfl]
  refine QH qb (bf (i:=0) (v:=.int (k:Nat)) rfl (by rw [List.length_map]; exact hA)) _ q.f ?_
  rw [llA,List.map_append] at iA
  cases qa:bit f 1 with
  | false=>exact ⟨⟨(.ret (.tup [.ref 0,.tup []]),[],_),by rw [if_neg (by decide)]; exact ⟨by rw [List.map_append]; rfl,.inr ⟨rfl,rfl⟩⟩⟩,rfl,rfl,rfl⟩
  | true =>
   rw [qa] at iA
   rw [if_pos rfl]
   exact iA
theorem Mz (q:LQ how mode f pl wt hs) (hw:w∈hs) (e:hs[k]? = some w) {y:Option V}(h2:∀ b,gT how mode (bit f 8) pl wt w=some b→(llB 1 (llM how mode f hs start wt pl (some (.int k)) (some (.bool b))) (llA A)).tt fun p=>LLP how mode f pl wt hs start (iV (bit f 1) (bit f 2) (gT how mode (bit f 8) pl wt w::hr) k A) (aft (llF xs) p)) :
  (llB 0 (llM how mode f hs start wt pl (some (.int k)) y) (llA A)).tt fun p=>LLP how mode f pl wt hs start (iV (bit f 1) (bit f 2) (gT how mode (bit f 8) pl wt w::hr) k A) (aft (llF xs) p):=by
 have hw:=q.d w hw
 have it:=bS (llA A) (vs:=hs.map Wo.v) (k:=k) (v:=w.v) (by rw [List.getElem?_map,e]; rfl)
 by_cases h0:how=0
 ·subst h0
  exact Qz it (vm (nc:=bit f 8) (t:=w.t) q.p (fun c hc=>(Dp hw c hc).1) (Nat.lt_of_le_of_lt (dx hw).2 (by decide))) (h2 _ (by rw [gT,if_pos rfl]))
 ·by_cases hn:mode=2∧w.n=none
  ·have hv:gT how mode (bit f 8) pl wt w=none:=by rw [gT,if_neg h0,if_pos hn]
   rw [hv]
   obtain ⟨rfl,hn⟩:=hn
   have ew:w.v=.tup [S [49,120],.none]:=by rw [Wo.v,yT hw hn,hn]; rfl
   have nn:=lu
   rw [← ew] at nn
   exact QA h0 it (HB hn) nn ⟨⟨(.ret _,[],llA A),rfl,rfl⟩,rfl,rfl,rfl⟩
  ·have hkd:cw mode w:=⟨hw,fun e=>Option.isSome_iff_ne_none.mpr fun q=>hn ⟨e,q⟩⟩
   have k1:=jj (nc:=bit f 8) hkd q.m
   have k2:=jj (nc:=bit f 8) (q.w h0) q.m
   have he:=yK (G:=llA A) (Hg (cK mode (bit f 8) w) (cK mode (bit f 8) wt))
   rw [JZ] at he
   have h2:=h2 _ (by rw [gT,if_neg h0,if_neg hn])
   by_cases hm:mode=2
   ·subst hm
    exact QC h0 it (HD (hkd.k rfl)) k1 k2 he h2
   ·exact QD h0 hm it k1 k2 he h2
end
theorem yW (q:LQ how mode f pl wt hs):∀ (rest:List Wo) (k:Nat) (A:List Nat) (x y:Option V),hs.drop k=rest→A.length≤k →
  LLP how mode f pl wt hs start (iV (bit f 1) (bit f 2) (rest.map (gT how mode (bit f 8) pl wt)) k A) (llF ((List.range' k rest.length).map fun i=>.int (i:Nat)) (llM how mode f hs start wt pl x y) (llA A))
 | [],k,A,x,y,hd,hA=>⟨⟨(.next,_,_),rfl,.inl ⟨rfl,x,y,rfl⟩⟩,fN⟩
 | w::rest,k,A,x,y,hd,hA=>by
  have eg:hs[k]? = some w:=by have:=congrArg List.head? hd; rw [List.head?_drop] at this; exact this
  have hd':hs.drop (k+1)=rest:=by rw [← List.drop_drop,hd]; rfl
  rw [List.map_cons,List.length_cons,List.range'_succ,List.map_cons]
  refine Oa (m1:=llM how mode f hs start wt pl (some (.int k)) y) (t:=llB 0 (llM how mode f hs start wt pl (some (.int k)) y) (llA A)) (by kernel_rfl) (by kernel_rfl) (Mz q (List.mem_of_getElem? eg) eg fun b hv=>?_)
  rw [hv]
  exact My q (Nat.le_trans (Nat.succ_le_succ hA) (Nat.le_trans (bc eg) q.n)) (yW q rest (k+1) A _ _ hd' (Nat.le_succ_of_le hA)) (yW q rest (k+1) (A++[k]) _ _ hd' (by rw [List.length_append]; exact Nat.succ_le_succ hA))
theorem rP (q:LQ how mode f pl wt hs) (hs':start≤big) :
  (∀ P,iV (bit f 1) (bit f 2) ((hs.drop start).map (gT how mode (bit f 8) pl wt)) start []=some P→dw [.int how,.int mode,.int f,.lst (hs.map Wo.v),.int start,wt.v,.lst (pl.map Pc.v)] (.ok (.tup [be P,.tup []]))) ∧
  (iV (bit f 1) (bit f 2) ((hs.drop start).map (gT how mode (bit f 8) pl wt)) start []=none→dw [.int how,.int mode,.int f,.lst (hs.map Wo.v),.int start,wt.v,.lst (pl.map Pc.v)] (.ok (.tup [.lst [],ct (cf [49,120]) bu]))):=by
 obtain ⟨⟨⟨g,m',G'⟩,hE⟩,w⟩:=yW q (start:=start) (hs.drop start) start [] none none rfl (Nat.zero_le _)
 have e:(hs.map Wo.v).length=hs.length:=List.length_map ..
 have it:=bR (a:=start) (b:=(hs.map Wo.v).length) (by rw [e]; exact q.n) hs'
 have el:(hs.map Wo.v).length - start=(hs.drop start).length:=by rw [List.length_drop,e]
 rw [el] at it
 have pv:=a8 oi hs
 have pp:(V.puL [.int how,.int mode,.int f,.lst (hs.map Wo.v),.int start,wt.v,.lst (pl.map Pc.v)]&&bo dv [.int how,.int mode,.int f,.lst (hs.map Wo.v),.int start,wt.v,.lst (pl.map Pc.v)])=true:=by
  rw [V.puL,V.puL,V.puL,V.puL,V.pu,pv,V.puL,V.puL,oi,V.puL,V.pu,JY]; rfl
 refine ⟨fun P e=>?_,fun e=>?_⟩
 ·rw [e] at hE
  have pr:(Res.ok (.tup [be P,.tup []])).pu=true:=by rw [Res.pu,V.pu,V.puL,be,V.pu,a8 (fun _=>rfl) P]; rfl
  obtain ⟨rfl,⟨rfl,x,y,rfl⟩ | ⟨rfl,rfl⟩⟩:=hE
  ·exact goP [xL 12 it,xS 0 w] pp pr
  ·exact goP [xL 12 it,xS 0 w] pp pr
 ·rw [e] at hE
  obtain ⟨rfl,rfl⟩:=hE
  exact goP [xL 12 it,xS 0 w] pp rfl
end
end
section
noncomputable def Ahd (bis:Bool) (x:Int):Prop:=if bis=true then 0≤x else 0<x
structure EN (n:Nat) (F:Nat→Int):Prop where
 p:∀ i j:Nat,i≤j→j<n→0<F j→0<F i
 z:∀ i j:Nat,i≤j→j<n→0≤F j→0≤F i
theorem EN.a {n:Nat}{F:Nat→Int}(h:EN n F) {bis:Bool}{i j:Nat}(hi:i≤j) (hj:j<n) (x:Ahd bis (F j)):Ahd bis (F i):=by
 unfold Ahd at *
 cases bis with
 | true=>exact h.z i j hi hj x
 | false=>exact h.p i j hi hj x
structure uE (bis:Bool) (s n:Nat) (F:Nat→Int) (a b:Nat) (fo:Int):Prop where
 sa:s≤a
 ab:a≤b
 bn:b≤n
 l:∀ k,s≤k→k<a→Ahd bis (F k)
 u:∀ k,b≤k→k<n→¬ Ahd bis (F k)
 f1:bis=true→fo=-1∨∃ c,fo=(c:Nat)∧c+1=a∧F c=0
 f2:bis=false→(fo=-1∧∀ k,b≤k→k<n→F k≠0)∨(fo=(b:Nat)∧b<n∧F b=0)
theorem J0 {bis:Bool}{s n:Nat}{F:Nat→Int}{a b k:Nat}{fo:Int}(h:uE bis s n F a b fo) (m:EN n F) (h1:a≤k) (h2:k<b) (v:Ahd bis (F k)):uE bis s n F (k+1) b (if F k=0 then (k:Int) else fo):=by
 have hk:=Nat.lt_of_lt_of_le h2 h.bn
 refine ⟨Nat.le_trans h.sa (Nat.le_succ_of_le h1),h2,h.bn,fun j _ hj=>m.a (Nat.le_of_lt_succ hj) hk v,h.u,fun hb=>?_,fun hb=>?_⟩
 ·split <;> rename_i z
  ·exact .inr ⟨k,rfl,rfl,z⟩
  ·subst hb
   refine .inl ((h.f1 rfl).elim id fun ⟨c,_,e,zc⟩=>?_)
   have:=m.p c k (Nat.le_trans (Nat.le_of_succ_le (Nat.le_of_eq e)) h1) hk (Int.lt_iff_le_and_ne.mpr ⟨v,Ne.symm z⟩)
   rw [zc] at this
   exact absurd this (by decide)
 ·subst hb
  rw [if_neg (Int.ne_of_gt v)]
  exact h.f2 rfl
theorem J1 {bis:Bool}{s n:Nat}{F:Nat→Int}{a b k:Nat}{fo:Int}(h:uE bis s n F a b fo) (m:EN n F) (h1:a≤k) (h2:k<b) (v:¬ Ahd bis (F k)):uE bis s n F a k (if F k=0 then (k:Int) else fo):=by
 have hk:=Nat.lt_of_lt_of_le h2 h.bn
 refine ⟨h.sa,h1,Nat.le_of_lt hk,h.l,fun j hj hn q=>v (m.a hj hn q),fun hb=>?_,fun hb=>?_⟩
 ·subst hb
  rw [if_neg fun z=>v (Int.le_of_eq z.symm)]
  exact h.f1 rfl
 ·subst hb
  split <;> rename_i z
  ·exact .inr ⟨rfl,hk,z⟩
  ·have no:∀ j,k≤j→j<n→F j≠0:=fun j hj hn q=>v (Int.lt_iff_le_and_ne.mpr ⟨m.z k j hj hn (Int.le_of_eq q.symm),Ne.symm z⟩)
   exact (h.f2 rfl).elim (fun q=>.inl ⟨q.1,no⟩) fun q=>absurd q.2.2 (no b (Nat.le_of_lt h2) q.2.1)
section
variable {o:To}{how mode sh:Nat}{f:Int}{pl:List Pc}{wt:Wo}{gs:List (List Wo)}
noncomputable abbrev ssW:=wR gB 7 (at_ cG.body 2)
noncomputable abbrev ssM (o:To) (gs:List (List Wo)) (wv:V) (start:Nat) (bis:Bool) (lo up fo:Int) (x8 x9 x10:Option V):LV:=[some o.v,some (aq gs),some wv,some (.int start),some (.int lo),some (.int up),some (.int fo),some (.bool bis),x8,x9,x10]
noncomputable abbrev ssF (f:Int) (mode sh:Nat) (wt:Wo) (gs:List (List Wo)) (k:Nat):Int:=gp mode (bit f 8) (bit f 16) wt (hd sh gs k)
theorem J2 {a b:Nat}(h:a<b):a≤(a+b - 1) / 2∧(a+b - 1) / 2<b:=by
 cases b with
 | zero=>exact absurd h (Nat.not_lt_zero _)
 | succ b =>
  have h:=Nat.le_of_lt_succ h
  refine ⟨(Nat.le_div_iff_mul_le (by decide)).mpr ?_,(Nat.div_lt_iff_lt_mul (by decide)).mpr ?_⟩
  ·rw [Nat.mul_two]; exact Nat.add_le_add_left h a
  ·rw [Nat.succ_mul,Nat.mul_two]
   exact Nat.lt_of_le_of_lt (Nat.add_le_add_right h b) (Nat.lt_add_of_pos_right (by decide))
section
variable {wv pv hv kv:V}{start:Nat}{bis nc:Bool}{lo up fo k c e:Int}{x8 x9 x10:Option V}{m':LV}
 (c0:(!lo+1==up)=!false) (fd:cA .FloorDiv (.int (lo+up)) (.int 2)=some (.int k)) (it:aG [] (aq gs) (.int k)=some pv) (hp:eq [pv,iq o.sh] (.ok hv)) (kb:cE [S (fw o.mode),hv] (.ok kv))
 (e8:aF [] .In (.str OE) (.dS o.fl o.fv)=some nc) (cb:bP [S (fw o.mode),.bool nc,wv,kv] (.ok (.int c))) (ec:o.dec=false∧c=e∨o.dec=true∧c=-e)
include c0 fd it hp kb e8 cb ec
theorem OG (v:e=1∨e=0∧bis=true) (w:Wh ssW (ssM o gs wv start bis k up (if e=0 then k else fo) (some (.int k)) (some kv) (some (.int e))) [] .next m' []):Wh ssW (ssM o gs wv start bis lo up fo x8 x9 x10) [] .next m' []:=by
 rcases ec with ⟨ed,rfl⟩ | ⟨ed,rfl⟩
 ·rcases v with rfl | ⟨rfl,rfl⟩
  ·exact wI w [xC 5 c0,xV 3 fd,xV 4 it,xP 2 hp,xP 0 kb,xB 4 e8,xP 2 cb,xC 3 ed]
  ·exact wI w [xC 5 c0,xV 3 fd,xV 4 it,xP 2 hp,xP 0 kb,xB 4 e8,xP 2 cb,xC 3 ed]
 ·rcases v with rfl | ⟨rfl,rfl⟩
  ·exact wI w [xC 5 c0,xV 3 fd,xV 4 it,xP 2 hp,xP 0 kb,xB 4 e8,xP 2 cb,xC 3 ed]
  ·exact wI w [xC 5 c0,xV 3 fd,xV 4 it,xP 2 hp,xP 0 kb,xB 4 e8,xP 2 cb,xC 3 ed]
theorem OH (v:e=-1∨e=0∧bis=false) (w:Wh ssW (ssM o gs wv start bis lo k (if e=0 then k else fo) (some (.int k)) (some kv) (some (.int e))) [] .next m' []):Wh ssW (ssM o gs wv start bis lo up fo x8 x9 x10) [] .next m' []:=by
 rcases ec with ⟨ed,rfl⟩ | ⟨ed,rfl⟩
 ·rcases v with rfl | ⟨rfl,rfl⟩
  ·exact wI w [xC 5 c0,xV 3 fd,xV 4 it,xP 2 hp,xP 0 kb,xB 4 e8,xP 2 cb,xC 3 ed]
  ·exact wI w [xC 5 c0,xV 3 fd,xV 4 it,xP 2 hp,xP 0 kb,xB 4 e8,xP 2 cb,xC 3 ed]
 ·rcases v with rfl | ⟨rfl,rfl⟩
  ·exact wI w [xC 5 c0,xV 3 fd,xV 4 it,xP 2 hp,xP 0 kb,xB 4 e8,xP 2 cb,xC 3 ed]
  ·exact wI w [xC 5 c0,xV 3 fd,xV 4 it,xP 2 hp,xP 0 kb,xB 4 e8,xP 2 cb,xC 3 ed]
end
theorem OI {a b:Nat}{lo:Int}(hl:lo+1=(a:Nat)) (hab:a<b):cA .FloorDiv (.int (lo+b)) (.int 2)=some (.int ((a+b - 1) / 2:Nat)):=by
 have e:lo+(b:Int)=((a+b - 1:Nat):Int):=by
  rw [Int.natCast_sub (Nat.le_trans (Nat.succ_le_of_lt (Nat.lt_of_le_of_lt (Nat.zero_le a) hab)) (Nat.le_add_left ..)),Int.natCast_add,← hl,Int.natCast_one,Int.add_right_comm,Int.add_sub_cancel]
 have z:cA .FloorDiv (.int ((a+b - 1:Nat):Int)) (.int 2)=some (.int (((a+b - 1:Nat):Int).fdiv 2)):=by kernel_rfl
 rw [e,z,Int.fdiv_eq_ediv_of_nonneg _ (by decide)]; rfl
theorem MA {k:Nat}{x:Int}(hx:x=ssF f mode sh wt gs k) {bis:Bool}:(Ahd bis x→x=1∨x=0∧bis=true)∧(¬ Ahd bis x→x=-1∨x=0∧bis=false):=by
 have h:x=-1∨x=0∨x=1:=by
  rw [hx,ssF,gp]
  rcases mL (cK mode (bit f 8) wt) (cK mode (bit f 8) (hd sh gs k)) with e | e | e <;> rw [e] <;> cases bit f 16 <;> decide
 clear hx
 unfold Ahd
 cases bis <;> rcases h with rfl | rfl | rfl <;> decide
theorem J3 (q:Ask o how mode sh f pl wt) (hk:cw mode wt) (hg:∀ g∈gs,Grp mode sh g) (hh:ke mode sh gs) {start:Nat}{bis:Bool}{a b k:Nat}{lo fo x:Int}{x8 x9 x10:Option V}{m':LV}{Q:Prop}(hl:lo+1=(a:Nat)) (hab:a<b) (ek:(a+b - 1) / 2=k) (hkn:k<gs.length) (hx:x=ssF f mode sh wt gs k)
  (st:Wh ssW (ssM o gs (fy mode wt) start bis lo b fo x8 x9 x10) [] .next m' []→Q) :
  (Ahd bis x→Wh ssW (ssM o gs (fy mode wt) start bis k b (if x=0 then k else fo) (some (.int k)) (some (fy mode (hd sh gs k))) (some (.int x))) [] .next m' []→Q) ∧
  (¬ Ahd bis x→Wh ssW (ssM o gs (fy mode wt) start bis lo k (if x=0 then k else fo) (some (.int k)) (some (fy mode (hd sh gs k))) (some (.int x))) [] .next m' []→Q):=by
 have eg:gs[k]? = some gs[k]:=List.getElem?_eq_getElem hkn
 have ehd:hd sh gs k=aN sh gs[k]:=by unfold hd; rw [eg]; rfl
 have c0:=nB (qF fun e:lo+1=(b:Int)=>Nat.ne_of_lt hab (Int.ofNat_inj.mp (hl.symm.trans e)))
 have hgm:gs[k]∈gs:=List.getElem_mem hkn
 rw [ehd]
 have ec:o.dec=false∧cL (cK o.mode (bit f 8) wt) (cK o.mode (bit f 8) (aN o.sh gs[k]))=x∨o.dec=true∧cL (cK o.mode (bit f 8) wt) (cK o.mode (bit f 8) (aN o.sh gs[k]))=-x:=by
  rw [hx,ssF,gp,ehd,q.mo,q.sh',q.fl.dec]
  cases bit f 16 with
  | false=>exact .inl ⟨rfl,rfl⟩
  | true=>exact .inr ⟨rfl,(Int.neg_neg _).symm⟩
 have fd:=OI hl hab
 rw [ek] at fd
 have z:=MA hx (bis:=bis)
 obtain ⟨rfl,rfl⟩:o.mode=mode∧o.sh=sh:=⟨q.mo,q.sh'⟩
 exact ⟨fun v w=>st (OG c0 fd (jm [] eg) (jh (hg _ hgm) q.s) (lq (hh _ hgm) q.m) (yU q.fl.noc) (oo hk (hh _ hgm) q.m) ec (z.1 v) w),fun v w=>st (OH c0 fd (jm [] eg) (jh (hg _ hgm) q.s) (lq (hh _ hgm) q.m) (yU q.fl.noc) (oo hk (hh _ hgm) q.m) ec (z.2 v) w)⟩
noncomputable def SsG (o:To) (mode sh:Nat) (f:Int) (wt:Wo) (gs:List (List Wo)) (start:Nat) (bis:Bool) (m':LV):Prop :=
 ∃ (a':Nat) (lo' fo':Int) (y8 y9 y10:Option V),lo'+1=(a':Nat)∧uE bis start gs.length (ssF f mode sh wt gs) a' a' fo'∧m'=ssM o gs (fy mode wt) start bis lo' a' fo' y8 y9 y10
theorem J4 (q:Ask o how mode sh f pl wt) (hk:cw mode wt) (hg:∀ g∈gs,Grp mode sh g) (hh:ke mode sh gs) (start:Nat) {bis:Bool}(hm:EN gs.length (ssF f mode sh wt gs)) :
  ∀ (d a b:Nat) (lo fo:Int) (x8 x9 x10:Option V),b≤a+d→lo+1=(a:Nat)→uE bis start gs.length (ssF f mode sh wt gs) a b fo →
  ∃ m',SsG o mode sh f wt gs start bis m'∧Wh ssW (ssM o gs (fy mode wt) start bis lo b fo x8 x9 x10) [] .next m' []:=fun d=>by
 have fin:∀ (a b:Nat) (lo fo:Int) (x8 x9 x10:Option V),a=b→lo+1=(a:Nat)→uE bis start gs.length (ssF f mode sh wt gs) a b fo→∃ m',SsG o mode sh f wt gs start bis m'∧Wh ssW (ssM o gs (fy mode wt) start bis lo b fo x8 x9 x10) [] .next m' []:=fun a b lo fo x8 x9 x10 e hl h=>e ▸ ⟨_,⟨a,lo,fo,x8,x9,x10,hl,e ▸ h,rfl⟩,wE [xC 5 (nB (qT hl))] (by kernel_rfl)⟩
 induction d with
 | zero=>exact fun a b lo fo x8 x9 x10 hd' hl h=>fin a b lo fo x8 x9 x10 (Nat.le_antisymm h.ab hd') hl h
 | succ d ih =>
  intro a b lo fo x8 x9 x10 hd' hl h
  refine (Nat.lt_or_eq_of_le h.ab).elim (fun hab=>ar (J2 hab) fun h1 h2=>?_) fun e=>fin a b lo fo x8 x9 x10 e hl h
  have hkn:=Nat.lt_of_lt_of_le h2 h.bn
  have st:=fun m' Q=>J3 (m':=m') (Q:=Q) q hk hg hh (start:=start) (bis:=bis) (fo:=fo) (x8:=x8) (x9:=x9) (x10:=x10) hl hab rfl hkn rfl
  by_cases v:Ahd bis (ssF f mode sh wt gs ((a+b - 1) / 2))
  ·exact (ih _ b _ _ _ _ _ (Nat.le_trans hd' (by rw [← Nat.add_assoc,Nat.add_right_comm]; exact Nat.add_le_add_right (Nat.succ_le_succ h1) d)) rfl (J0 h hm h1 h2 v)).imp fun m' w=>(st m' _ fun z=>⟨w.1,z⟩).1 v w.2
  ·exact (ih a _ lo _ _ _ _ (Nat.le_of_lt_succ (Nat.lt_of_lt_of_le h2 hd')) hl (J1 h hm h1 h2 v)).imp fun m' w=>(st m' _ fun z=>⟨w.1,z⟩).2 v w.2
noncomputable def oA (mode sh:Nat) (nc dec:Bool) (gs:List (List Wo)):Prop:=gs.Pairwise fun g g'=>gp mode nc dec (aN sh g) (aN sh g')≤0
theorem AS {mode:Nat}{nc dec:Bool}(v w:Wo):gp mode nc dec w v=- gp mode nc dec v w:=by
 unfold gp
 rw [jk (cK mode nc v)]
 cases dec with
 | false=>rfl
 | true=>rw [if_pos rfl,if_pos rfl]
theorem wM {nc dec:Bool}(h:oA mode sh nc dec gs) {i j:Nat}(hij:i≤j) (hj:j<gs.length):gp mode nc dec (hd sh gs i) (hd sh gs j)≤0:=by
 have hi:=Nat.lt_of_le_of_lt hij hj
 have e1:hd sh gs i=aN sh gs[i]:=by unfold hd; rw [List.getElem?_eq_getElem hi]; rfl
 have e2:hd sh gs j=aN sh gs[j]:=by unfold hd; rw [List.getElem?_eq_getElem hj]; rfl
 rw [e1,e2]
 rcases Nat.lt_or_eq_of_le hij with q | q
 ·exact List.pairwise_iff_getElem.mp h i j hi hj q
 ·subst q
  unfold gp
  rw [p9]
  split <;> decide
theorem mono {nc dec:Bool}(h:oA mode sh nc dec gs) (wt:Wo):EN gs.length fun k=>gp mode nc dec wt (hd sh gs k):=by
 refine ⟨fun i j hij hj hp=>?_,fun i j hij hj hp=>?_⟩
 ·exact Int.not_le.mp fun hc=>Int.not_le.mpr hp (yJ hc (wM h hij hj))
 ·have n1:=AS (mode:=mode) (nc:=nc) (dec:=dec) wt (hd sh gs j)
  have n2:=AS (mode:=mode) (nc:=nc) (dec:=dec) (hd sh gs i) wt
  have:=yJ (wM h hij hj) (show gp mode nc dec (hd sh gs j) wt≤0 by rw [n1]; exact Int.neg_nonpos_of_nonneg hp)
  show 0≤gp mode nc dec wt (hd sh gs i)
  rw [n2]
  exact Int.neg_nonneg_of_nonpos this
theorem mQ (q:Ask o how mode sh f pl wt) (hk:cw mode wt) (hg:∀ g∈gs,Grp mode sh g) (hh:ke mode sh gs) (hsort:oA mode sh (bit f 8) (bit f 16) gs) {start:Nat}(hs:start≤gs.length) :
  ∃ (a:Nat) (lo fo:Int),lo+1=(a:Nat)∧uE (how==3) start gs.length (ssF f mode sh wt gs) a a fo∧cH [o.v,aq gs,fy mode wt,.int start] (.ok (.int (if (how==3)=true then lo else fo))):=by
 have e:(gs.map itS).length=gs.length:=List.length_map ..
 obtain ⟨m',⟨a,lo,fo,y8,y9,y10,g1,g2,rfl⟩,w⟩:=J4 q hk hg hh start (bis:=how==3) (mono hsort wt) gs.length start gs.length ((start:Int) - 1) (-1) none none none (Nat.le_add_left ..) (Int.sub_add_cancel ..) ⟨Nat.le_refl _,hs,Nat.le_refl _,fun k h1 h2=>absurd h1 (Nat.not_le.mpr h2),fun k h1 h2=>absurd h1 (Nat.not_le.mpr h2),fun _=>.inl rfl,fun _=>.inl ⟨rfl,fun k h1 h2=>absurd h1 (Nat.not_le.mpr h2)⟩⟩
 refine ⟨a,lo,fo,g1,g2,?_⟩
 have hb:=yU (G:=[]) (vs:=o.fv) q.fl.bis
 have pp:(V.puL [o.v,aq gs,fy mode wt,.int start]&&bo cG [o.v,aq gs,fy mode wt,.int start])=true:=by rw [V.puL,V.puL,V.puL,q.pu,uD,ot]; rfl
 rw [← e] at w
 cases h3:(how==3) with
 | false =>
  rw [h3] at w hb
  rw [if_neg (by decide)]
  exact goP [xB 7 hb,xS 0 w] pp rfl
 | true =>
  rw [h3] at w hb
  rw [if_pos rfl]
  rcases g2.f1 h3 with rfl | ⟨c,rfl,hc,_⟩
  ·exact goP [xB 7 hb,xS 0 w] pp rfl
  ·obtain rfl:lo=(c:Int):=by
    rw [← hc,Int.natCast_add] at g1
    exact (Int.add_sub_cancel lo 1).symm.trans ((congrArg (· - 1) g1).trans (Int.add_sub_cancel ..))
   exact goP [xB 7 hb,xS 0 w] pp rfl
end
end
section
noncomputable def a9 (sh:Nat) (gs:List (List Wo)):List Wo:=gs.map (aN sh)
theorem OJ {sh:Nat}{gs:List (List Wo)}{k:Nat}{g:List Wo}(h:gs[k]? = some g):hd sh gs k=aN sh g:=by unfold hd; rw [h]; rfl
noncomputable abbrev lsF:=fR jN 7 (at_ fj.body 2)
noncomputable abbrev lsM (how mode:Nat) (f:Int) (hv:V) (start:Nat) (wv:V) (dec nc:Bool) (key:List V) (ah:Int) (x y:Option V):LV :=
 [some (.int how),some (.int mode),some (.int f),some hv,some (.int start),some wv,some (.int (if dec=true then -1 else 1)),some (.bool nc),some (.lst key),some (.ref 0),some (.int ah),x,y]
section
variable {how mode start k:Nat}{f:Int}{hv wv wk T:V}{dec nc:Bool}{key K1 A xs:List V}{ah z:Int}{x y:Option V}{g:Fl}{m':LV}{G':AH}
theorem HE (hz:z=-1∨z=0∨z=1) (it:aG [.list A] hv (.int k)=some T) (k1:cj [.int mode,.bool nc,T] (.ok (.lst K1))) (o1:eu [.lst K1,.lst key] (.ok (.int z))) (pa:nE [.list A] (.ref 0) (o0 .append) [.int k]=some [.list (A++[.int k])])
  (w:lsF xs (lsM how mode f hv start wv dec nc key (if (if dec=true then -z else z)≤0 then (k:Int) else ah) (some (.int k)) (some (.int (if dec=true then -z else z)))) [.list (if (if dec=true then -z else z)=0 then A++[.int k] else A)] g m' G'):lsF (.int k::xs) (lsM how mode f hv start wv dec nc key ah x y) [.list A] g m' G':=by
 rcases hz with rfl | rfl | rfl
 ·cases dec with
  | true=>exact fI w [xV 5 it,xP 0 k1,xP 1 o1]
  | false=>exact fI w [xV 5 it,xP 0 k1,xP 1 o1]
 ·cases dec with
  | true=>exact fI w [xV 5 it,xP 0 k1,xP 1 o1,xH 7 pa]
  | false=>exact fI w [xV 5 it,xP 0 k1,xP 1 o1,xH 7 pa]
 ·cases dec with
  | true=>exact fI w [xV 5 it,xP 0 k1,xP 1 o1]
  | false=>exact fI w [xV 5 it,xP 0 k1,xP 1 o1]
end
noncomputable def jn (F:Nat→Int) (k n:Nat):List Nat:=(List.range' k n).filter fun k=>F k==0
noncomputable def db (F:Nat→Int) (k n:Nat) (a:Int):Int:=(List.range' k n).foldl (fun a j=>if 0≤F j then (j:Int) else a) a
section
variable {how mode sh start:Nat}{f:Int}{wt:Wo}{gs:List (List Wo)}
theorem OK {w:Wo}:(if bit f 16=true then - cL (cK mode (bit f 8) w) (cK mode (bit f 8) wt) else cL (cK mode (bit f 8) w) (cK mode (bit f 8) wt))=- gp mode (bit f 8) (bit f 16) wt w:=by
 unfold gp
 rw [jk (cK mode (bit f 8) w) (cK mode (bit f 8) wt)]
 split
 ·rw [Int.neg_neg]
 ·rw [Int.neg_neg]
theorem Dq (hm:mode<3) (hk:cw mode wt) (hh:ke mode sh gs) (hn:gs.length≤big):∀ (n k:Nat) (A:List Nat) (ah:Int) (x y:Option V),k+n=gs.length→A.length≤k →
  ∃ x' y',lsF ((List.range' k n).map fun i=>.int (i:Nat)) (lsM how mode f (.lst ((a9 sh gs).map Wo.v)) start wt.v (bit f 16) (bit f 8) ((cK mode (bit f 8) wt).map .int) ah x y) [.list (A.map fun k=>.int (k:Nat))] .next
   (lsM how mode f (.lst ((a9 sh gs).map Wo.v)) start wt.v (bit f 16) (bit f 8) ((cK mode (bit f 8) wt).map .int) (db (ssF f mode sh wt gs) k n ah) x' y') [.list ((A++jn (ssF f mode sh wt gs) k n).map fun k=>.int (k:Nat))]
 | 0,k,A,ah,x,y,hkn,hA=>⟨x,y,by rw [jn,List.range'_zero,List.filter_nil,List.append_nil]; exact fN⟩
 | n+1,k,A,ah,x,y,hkn,hA=>by
  have hkl:k<gs.length:=by rw [← hkn]; exact Nat.lt_add_of_pos_right (Nat.succ_pos n)
  have eg:=List.getElem?_eq_getElem hkl
  have hK:=hh _ (List.getElem_mem hkl)
  have ehd:=OJ (sh:=sh) eg
  generalize gs[k]=g at eg hK ehd
  have it:=bS [.list (A.map fun k=>.int (k:Nat))] (vs:=(a9 sh gs).map Wo.v) (k:=k) (v:=(aN sh g).v) (by rw [a9,List.getElem?_map,List.getElem?_map,eg]; rfl)
  have k1:=jj (nc:=bit f 8) hK hm
  have o1:=q9 (yO (nc:=bit f 8) hK.d) (yO (nc:=bit f 8) hk.d)
  have pa:=bf (G:=[.list (A.map fun k=>.int (k:Nat))]) (i:=0) (v:=.int (k:Nat)) rfl (by rw [List.length_map]; exact Nat.le_trans (Nat.succ_le_succ hA) (Nat.le_trans hkl hn))
  have eF:ssF f mode sh wt gs k=gp mode (bit f 8) (bit f 16) wt (aN sh g):=by rw [ssF,ehd]
  rw [List.range'_succ,List.map_cons]
  have e2:db (ssF f mode sh wt gs) k (n+1) ah=db (ssF f mode sh wt gs) (k+1) n (if 0≤ssF f mode sh wt gs k then (k:Int) else ah):=by rw [db,List.range'_succ,List.foldl_cons]; rfl
  refine sq (Dq hm hk hh hn n (k+1) (if ssF f mode sh wt gs k=0 then A++[k] else A) (if 0≤ssF f mode sh wt gs k then (k:Int) else ah) (some (.int k)) (some (.int (- ssF f mode sh wt gs k))) (by rw [← hkn,Nat.add_right_comm]; rfl) (by split; rw [List.length_append]; exact Nat.succ_le_succ hA; exact Nat.le_succ_of_le hA)) fun x' y' w=>⟨x',y',HE (mL _ _) it k1 o1 pa ?_⟩
  rw [e2,OK,← eF]
  have e3:(if (- ssF f mode sh wt gs k)≤0 then (k:Int) else ah)=if 0≤ssF f mode sh wt gs k then (k:Int) else ah:=by
   simp only [Int.neg_nonpos_iff]
  have e4:(if (- ssF f mode sh wt gs k)=0 then A.map (fun k=>V.int (k:Nat))++[.int (k:Nat)] else A.map fun k=>.int (k:Nat))=(if ssF f mode sh wt gs k=0 then A++[k] else A).map fun k=>.int (k:Nat):=by
   simp only [Int.neg_eq_zero]
   split
   ·rw [List.map_append]; rfl
   ·rfl
  have e5:A++jn (ssF f mode sh wt gs) k (n+1)=(if ssF f mode sh wt gs k=0 then A++[k] else A)++jn (ssF f mode sh wt gs) (k+1) n:=by
   unfold jn
   rw [List.range'_succ,List.filter_cons]
   by_cases q:ssF f mode sh wt gs k=0
   ·rw [if_pos q,if_pos (beq_iff_eq.mpr q),List.append_assoc]; rfl
   ·rw [if_neg q,if_neg (mt beq_iff_eq.mp q)]
  rw [e3,e4,e5]
  exact w
noncomputable def gh (how start n:Nat) (F:Nat→Int):List Nat :=
 if how=2 then (jn F start (n - start)).take 1 else if 0≤db F start (n - start) ((start:Int) - 1) then [(db F start (n - start) ((start:Int) - 1)).toNat] else []
theorem rQ (hm:mode<3) (hk:cw mode wt) (hh:ke mode sh gs) (hn:gs.length≤big) (hs:start≤gs.length) :
  fk [.int how,.int mode,.int f,.lst ((a9 sh gs).map Wo.v),.int start,wt.v] (.ok (be (gh how start gs.length (ssF f mode sh wt gs)))):=by
 refine sq (Dq (how:=how) (f:=f) (start:=start) hm hk hh hn (gs.length - start) start [] ((start:Int) - 1) none none (Nat.add_sub_of_le hs) (Nat.zero_le _)) fun x' y' w=>?_
 have e:((a9 sh gs).map Wo.v).length=gs.length:=by rw [List.length_map,a9,List.length_map]
 have it:=bR (a:=start) (b:=((a9 sh gs).map Wo.v).length) (by rw [e]; exact hn) (Nat.le_trans hs hn)
 have k1:=jj (nc:=bit f 8) hk hm
 have sl:=G7 (vs:=(jn (ssF f mode sh wt gs) start (gs.length - start)).map fun k=>V.int (k:Nat)) (i:=1) (Nat.le_trans (Nat.le_of_eq List.length_take) (Nat.le_trans (Nat.min_le_left ..) (by decide)))
 have pv:=a8 oi (a9 sh gs)
 have pp:(V.puL [.int how,.int mode,.int f,.lst ((a9 sh gs).map Wo.v),.int start,wt.v]&&bo fj [.int how,.int mode,.int f,.lst ((a9 sh gs).map Wo.v),.int start,wt.v])=true:=by
  rw [V.puL,V.puL,V.puL,V.puL,V.pu,pv,V.puL,V.puL,oi]; rfl
 have pr:(be (gh how start gs.length (ssF f mode sh wt gs))).pu=true:=a8 (fun _=>rfl) _
 unfold gh at pr ⊢
 rw [← e] at w sl
 rw [List.nil_append] at w
 generalize ssF f mode sh wt gs=F at *
 generalize (a9 sh gs).map Wo.v=hv at *
 rw [← e] at pr ⊢
 clear hh hn hs e pv
 generalize jn F start (hv.length - start)=sm at *
 generalize db F start (hv.length - start) ((start:Int) - 1)=ah at *
 by_cases q:how=2
 ·rw [if_pos q] at pr ⊢
  subst q
  rw [be,List.map_take] at pr ⊢
  cases hb:bit f 16 with
  | true=>rw [hb] at w; exact goP [xC 5 hb,xP 8 k1,xL 6 it,xS 0 w,xV 6 sl] pp pr
  | false=>rw [hb] at w; exact goP [xC 5 hb,xP 7 k1,xL 6 it,xS 0 w,xV 6 sl] pp pr
 ·rw [if_neg q] at pr ⊢
  by_cases q2:0≤ah
  ·obtain ⟨c,rfl⟩:=Int.eq_ofNat_of_zero_le q2
   rw [if_pos q2] at pr ⊢
   cases hb:bit f 16 with
   | true=>rw [hb] at w; exact goP [xC 5 hb,xP 8 k1,xL 6 it,xS 0 w,xC 3 (nF q)] pp rfl
   | false=>rw [hb] at w; exact goP [xC 5 hb,xP 7 k1,xL 6 it,xS 0 w,xC 3 (nF q)] pp rfl
  ·rw [if_neg q2] at pr ⊢
   cases hb:bit f 16 with
   | true=>rw [hb] at w; exact goP [xC 5 hb,xP 8 k1,xL 6 it,xS 0 w,xC 3 (nF q),xC 3 (dF q2)] pp rfl
   | false=>rw [hb] at w; exact goP [xC 5 hb,xP 7 k1,xL 6 it,xS 0 w,xC 3 (nF q),xC 3 (dF q2)] pp rfl
end
section
variable {F:Nat→Int}{s n a:Nat}{fo lo:Int}
theorem uF:∀ (n k:Nat),(∀ j,k≤j→j<k+n→F j≠0)→jn F k n=[]
 | 0,k,h=>rfl
 | n+1,k,h=>by
  rw [jn,List.range'_succ,List.filter_cons,if_neg (mt beq_iff_eq.mp (h k (Nat.le_refl _) (Nat.lt_add_of_pos_right (Nat.succ_pos n))))]
  exact uF n (k+1) fun j h1 h2=>h j (Nat.le_of_lt h1) (by rw [Nat.add_right_comm] at h2; exact h2)
theorem wO:∀ (n k:Nat) (a:Int),(∀ j,k≤j→j<k+n→¬ 0≤F j)→db F k n a=a
 | 0,k,a,h=>rfl
 | n+1,k,a,h=>by
  rw [db,List.range'_succ,List.foldl_cons,if_neg (h k (Nat.le_refl _) (Nat.lt_add_of_pos_right (Nat.succ_pos n)))]
  exact wO n (k+1) a fun j h1 h2=>h j (Nat.le_of_lt h1) (by rw [Nat.add_right_comm] at h2; exact h2)
theorem wP:∀ (n k:Nat),(∀ j,k≤j→j<k+n→0≤F j)→db F k n ((k:Int) - 1)=((k+n:Nat):Int) - 1
 | 0,k,h=>rfl
 | n+1,k,h=>by
  rw [db,List.range'_succ,List.foldl_cons,if_pos (h k (Nat.le_refl _) (Nat.lt_add_of_pos_right (Nat.succ_pos n)))]
  have:=wP n (k+1) fun j h1 h2=>h j (Nat.le_of_lt h1) (by rw [Nat.add_right_comm] at h2; exact h2)
  rw [Int.natCast_add,Int.natCast_one,Int.add_sub_cancel,Nat.add_right_comm] at this
  exact this
theorem rh {k u n:Nat}(h1:k≤u) (h2:u≤n):List.range' k (n - k)=List.range' k (u - k)++List.range' u (n - u):=by
 have:=List.range'_append (s:=k) (m:=u - k) (n:=n - u) (step:=1)
 rw [Nat.one_mul,Nat.add_sub_of_le h1,Nat.add_comm (u - k),Nat.sub_add_sub_cancel h2 h1] at this
 exact this.symm
theorem Cp (h:uE false s n F a a fo):(if 0≤fo then [fo.toNat] else [])=(jn F s (n - s)).take 1:=by
 have e1:jn F s (a - s)=[]:=uF _ _ fun j h1 h2=>Int.ne_of_gt (h.l j h1 (by rw [Nat.add_sub_of_le h.sa] at h2; exact h2))
 rw [jn,rh h.sa h.bn,List.filter_append,show (List.range' s (a - s)).filter (fun k=>F k==0)=[] from e1,List.nil_append]
 rcases h.f2 rfl with ⟨rfl,g⟩ | ⟨rfl,g1,g2⟩
 ·rw [show (List.range' a (n - a)).filter (fun k=>F k==0)=[] from uF _ _ fun j h1 h2=>g j h1 (by rw [Nat.add_sub_of_le h.bn] at h2; exact h2)]; rfl
 ·cases e:n - a with
  | zero=>exact absurd (Nat.le_of_sub_eq_zero e) (Nat.not_le.mpr g1)
  | succ d =>
   rw [List.range'_succ,List.filter_cons,if_pos (beq_iff_eq.mpr g2),if_pos (Int.natCast_nonneg a)]
   rfl
theorem AT (h:uE true s n F a a fo) (hl:lo+1=(a:Nat)):db F s (n - s) ((s:Int) - 1)=lo:=by
 have e1:=wP (F:=F) (a - s) s fun j h1 h2=>h.l j h1 (by rw [Nat.add_sub_of_le h.sa] at h2; exact h2)
 have e2:=wO (F:=F) (n - a) a lo fun j h1 h2=>h.u j h1 (by rw [Nat.add_sub_of_le h.bn] at h2; exact h2)
 rw [Nat.add_sub_of_le h.sa,← hl,Int.add_sub_cancel] at e1
 rw [db,rh h.sa h.bn,List.foldl_append]
 exact (congrArg (fun x=>db F a (n - a) x) e1).trans e2
end
end
section
noncomputable def oN:List (List Nat):=[[45,97,108,108],[45,97,115,99,105,105],[45,98,105,115,101,99,116],[45,100,101,99,114,101,97,115,105,110,103],[45,100,105,99,116,105,111,110,97,114,121],[45,101,120,97,99,116],[45,103,108,111,98],[45,105,110,99,114,101,97,115,105,110,103],[45,105,110,100,101,120],[45,105,110,108,105,110,101],[45,105,110,116,101,103,101,114],[45,110,111,99,97,115,101],[45,110,111,116],[45,115,111,114,116,101,100],[45,115,116,97,114,116]]
noncomputable def nm (i:Nat):List Nat:=oN.getD i []
noncomputable def HF:List (List Nat):=[nm 6,nm 5,nm 13,nm 2,nm 1,nm 4,nm 10,nm 0,nm 9,nm 11,nm 3,nm 7,nm 8,nm 14]
noncomputable def Cq:List (List Nat):=[[45,103],[45,101],[45,115,111],[45,98],[45,97,115],[45,100,105],[45,105,110,116],[45,97,108],[45,105,110,108],[45,110,111,99],[45,100,101],[45,105,110,99],[45,105,110,100],[45,115,116]]
set_option genCtorIdx false in
inductive Og where
 | one (i:Nat) | two (i j:Nat) | idx (s:Nat) | st
noncomputable def shW (s:Nat):List Nat:=if s=1 then [48] else [101,110,100]
noncomputable def Og.ws (w:List Nat):Og→List (List Nat)
 | .one i=>[nm i]
 | .two i j=>[nm i,nm j]
 | .idx s=>[nm 8,shW s]
 | .st=>[nm 14,w]
noncomputable def HG (how:Nat):Nat:=if how=0 then 6 else if how=1 then 5 else if how=2 then 13 else 2
noncomputable def HH (mode:Nat):Nat:=if mode=0 then 1 else if mode=1 then 4 else 10
noncomputable def flI (k:Nat):Nat:=if k=0 then 0 else if k=1 then 12 else if k=2 then 9 else 11
noncomputable abbrev gv (b:Bool) (l:List Og):List Og:=if b=true then l else []
noncomputable def o1 (how:Nat) (b32:Bool):List Og:=if how=0∧b32=false then [] else [.one (HG how)]
noncomputable def o2 (mode:Nat) (b32:Bool):List Og:=if 0<mode∨b32=true then [.one (HH mode)] else []
noncomputable def o4 (b16 b32:Bool):List Og:=if b16=true then (if b32=true then [.two 7 3] else [.one 3]) else (if b32=true then [.two 3 7] else [])
noncomputable def o5 (sh:Nat):List Og:=if 0<sh then [.idx sh] else []
noncomputable def o6 (st:List Nat):List Og:=if st=[] then [] else [.st]
noncomputable def o3 (f:Int):List Og:=gv (bit f 1) [.one 0]++(gv (bit f 2) [.one 12]++(gv (bit f 4) [.one 9]++gv (bit f 8) [.one 11]))
noncomputable def eC (how mode sh:Nat) (f:Int) (st:List Nat):List Og:=((((o1 how (bit f 32)++o2 mode (bit f 32))++o3 f)++o4 (bit f 16) (bit f 32))++o5 sh)++o6 st
noncomputable def gu (short:Bool) (w:List Nat):List Nat:=if short=true then ((HF.zip Cq).lookup w).getD w else w
noncomputable def oG (st:List Nat) (g:Og):V:=.lst ((g.ws st).map S)
noncomputable def oV (st:List Nat) (L:List Og):List V:=L.map (oG st)
noncomputable def mk (w:List Nat):Str:=⟨⟨w⟩⟩
noncomputable def OL:V:=.dS (HF.map mk) (Cq.map S)
section
variable {α:Type}{L:α→Prop}{how mode sh:Nat}{f:Int}{st:List Nat}{G:AH}{r i:Nat}{X:List Og}{x7 x8 x9 x10:Option V}{k:Fl→LV→AH→Tr α}
noncomputable abbrev oM (how mode sh:Nat) (f:Int) (st:List Nat) (r:V) (x7:Option V):LV:=[some (.int how),some (.int mode),some (.int sh),some (.int f),some (S st),some r,some (.bool (bit f 32)),x7,none,none,none]
noncomputable abbrev oB (i:Nat) (m:LV) (G:AH) (k:Fl→LV→AH→Tr α):Tr α:=evB (evS 8 ca) (b9.body.drop i) m G k
theorem uG (e:G[r]? = some (.list (oV st X))) (h:X.length≤20) (g:Og):nE G (.ref r) (o0 .append) [oG st g]=some (G.set r (.list (oV st (X++[g])))):=by
 have q:(X++[g]).map (oG st)=X.map (oG st)++[oG st g]:=List.map_append
 show _=some (G.set r (.list ((X++[g]).map (oG st))))
 rw [q]
 exact bf e (by show (X.map (oG st)).length+1≤big; rw [List.length_map]; exact Nat.le_trans (Nat.succ_le_succ h) (by decide))
theorem ob3 (hm:mode<3) (e:G[r]? = some (.list (oV st X))) (h:X.length≤20) (q:(oB 4 (oM how mode sh f st (.ref r) none) (G.set r (.list (oV st (X++o2 mode (bit f 32))))) k).tt L):(oB 3 (oM how mode sh f st (.ref r) none) G k).tt L:=by
 have pa:=uG e h (.one (HH mode))
 have ho:aG G (.lst [S [45,97,115,99,105,105],S [45,100,105,99,116,105,111,110,97,114,121],S [45,105,110,116,101,103,101,114]]) (.int mode)=some (S (nm (HH mode))):=bS G (tri hm (fun e=>by subst e; rfl) (fun e=>by subst e; rfl) fun e=>by subst e; rfl)
 by_cases z:0<mode
 ·rw [o2,if_pos (.inl z)] at q
  exact goK q 1 [xC 3 (ltT z),xC 1 (ltT z),xM 1 (jS e),xV 1 ho,xH 0 pa]
 ·cases b:bit f 32 with
  | true =>
   rw [b] at q
   rw [o2,if_pos (.inr rfl)] at q
   exact goK q 1 [xC 3 (ltF (Nat.not_lt.mp z)),xC 2 b,xM 1 (jS e),xV 1 ho,xH 0 pa]
  | false =>
   rw [b] at q
   rw [o2,if_neg fun h=>h.elim z (by decide),List.append_nil,fY e] at q
   exact goK q 0 [xC 3 (ltF (Nat.not_lt.mp z)),xC 2 b]
noncomputable abbrev ofF:=fR ca 7 (at_ b9.body 4)
theorem oC {kk:Nat}{j:Int}{xs:List V}{m':LV}{G':AH}(hp:cA .Pow (.int 2) (.int kk)=some (.int j)) (fd:cA .FloorDiv (.int f) (.int j)=some (.int (f.fdiv j))) (it:∀ G,aG G (.lst [S (nm 0),S (nm 12),S (nm 9),S (nm 11)]) (.int kk)=some (S (nm (flI kk)))) (e:G[r]? = some (.list (oV st X))) (h:X.length≤20)
  (w:ofF xs (oM how mode sh f st (.ref r) (some (.int kk))) (G.set r (.list (oV st (X++gv (bit f j) [.one (flI kk)])))) .next m' G'):ofF (.int kk::xs) (oM how mode sh f st (.ref r) x7) G .next m' G':=by
 have pa:=uG e h (.one (flI kk))
 have it:=it G
 cases b:bit f j with
 | true =>
  rw [b] at w
  exact fI w [xV 2 hp,xV 0 fd,xC 3 b,xM 1 (jS e),xV 1 it,xH 0 pa]
 | false =>
  rw [b] at w
  have w:ofF xs (oM how mode sh f st (.ref r) (some (.int kk))) (G.set r (.list (oV st (X++[])))) .next m' G':=w
  rw [List.append_nil,fY e] at w
  exact fI w [xV 2 hp,xV 0 fd,xC 3 b]
theorem jT {o:AO}(e:G[r]? = some o) (o':AO):(G.set r o')[r]? = some o':=List.getElem?_set_self (bc e)
theorem mR {b:Bool}{g:Og}:(gv b [g]).length≤1:=by cases b; exact Nat.zero_le _; exact Nat.le_refl _
theorem dQ {Y:List Og}{a b:Nat}(h:X.length≤a) (h':Y.length≤b):(X++Y).length≤a+b:=by rw [List.length_append]; exact Nat.add_le_add h h'
theorem ob4 (e:G[r]? = some (.list (oV st X))) (h:X.length≤2) (q:(oB 5 (oM how mode sh f st (.ref r) (some (.int 3))) (G.set r (.list (oV st (X++o3 f)))) k).tt L):(oB 4 (oM how mode sh f st (.ref r) none) G k).tt L:=by
 have h1:=dQ h (mR (b:=bit f 1) (g:=.one (flI 0)))
 have h2:=dQ h1 (mR (b:=bit f 2) (g:=.one (flI 1)))
 have h3:=dQ h2 (mR (b:=bit f 4) (g:=.one (flI 2)))
 have w:ofF [.int (0:Nat),.int (1:Nat),.int (2:Nat),.int (3:Nat)] (oM how mode sh f st (.ref r) none) G .next (oM how mode sh f st (.ref r) (some (.int (3:Nat)))) (G.set r (.list (oV st (X++o3 f)))):=by
  refine oC (j:=1) rfl rfl (fun _=>rfl) e (Nat.le_trans h (by decide)) ?_
  refine oC (j:=2) rfl rfl (fun _=>rfl) (jT e _) (Nat.le_trans h1 (by decide)) ?_
  rw [List.set_set]
  refine oC (j:=4) rfl rfl (fun _=>rfl) (jT e _) (Nat.le_trans h2 (by decide)) ?_
  rw [List.set_set]
  refine oC (j:=8) rfl rfl (fun _=>rfl) (jT e _) (Nat.le_trans h3 (by decide)) ?_
  rw [List.set_set,List.append_assoc,List.append_assoc,List.append_assoc]
  exact fN
 exact goK q 0 [xS 2 w]
theorem ob5 (e:G[r]? = some (.list (oV st X))) (h:X.length≤20) (q:(oB 6 (oM how mode sh f st (.ref r) x7) (G.set r (.list (oV st (X++o4 (bit f 16) (bit f 32))))) k).tt L):(oB 5 (oM how mode sh f st (.ref r) x7) G k).tt L:=by
 have ma:=jS e
 cases b16:bit f 16 with
 | true=>cases b32:bit f 32 with
  | true =>
   rw [b16,b32] at q
   have pa:=uG e h (.two 7 3)
   exact goK q 1 [xC 5 b16,xM 1 ma,xC 2 b32,xH 0 pa]
  | false =>
   rw [b16,b32] at q
   have pa:=uG e h (.one 3)
   exact goK q 1 [xC 5 b16,xM 1 ma,xC 2 b32,xH 0 pa]
 | false=>cases b32:bit f 32 with
  | true =>
   rw [b16,b32] at q
   have pa:=uG e h (.two 3 7)
   exact goK q 1 [xC 5 b16,xC 2 b32,xM 1 ma,xH 0 pa]
  | false =>
   rw [b16,b32] at q
   have q:(oB 6 (oM how mode sh f st (.ref r) x7) (G.set r (.list (oV st (X++[])))) k).tt L:=q
   rw [List.append_nil,fY e] at q
   exact goK q 0 [xC 5 b16,xC 2 b32]
theorem ob6 (hs:sh<3) (e:G[r]? = some (.list (oV st X))) (h:X.length≤20) (q:(oB 7 (oM how mode sh f st (.ref r) x7) (G.set r (.list (oV st (X++o5 sh)))) k).tt L):(oB 6 (oM how mode sh f st (.ref r) x7) G k).tt L:=by
 have ma:=jS e
 cases sh with
 | zero =>
  rw [o5,if_neg (by decide),List.append_nil,fY e] at q
  exact goK q 4 []
 | succ s =>
  have pa:=uG e h (.idx (s+1))
  have it:aG G (.lst [S [48],S [101,110,100]]) (.int (s:Nat))=some (S (shW (s+1))):=bS G (tri hs (fun e=>nomatch e) (fun e=>by obtain rfl:=Nat.succ.inj e; rfl) fun e=>by obtain rfl:=Nat.succ.inj e; rfl)
  rw [o5,if_pos (Nat.succ_pos s)] at q
  exact goK q 1 [xC 3 (ltT (Nat.succ_pos s)),xM 1 ma,xV 1 (c7 (d:=s)),xV 0 it,xH 0 pa]
theorem ob7 (e:G[r]? = some (.list (oV st X))) (h:X.length≤20) (q:(oB 8 (oM how mode sh f st (.ref r) x7) (G.set r (.list (oV st (X++o6 st)))) k).tt L):(oB 7 (oM how mode sh f st (.ref r) x7) G k).tt L:=by
 by_cases z:st=[]
 ·rw [o6,if_pos z,List.append_nil,fY e] at q
  exact goK q 0 [xC 3 (nB (seT z))]
 ·rw [o6,if_neg z] at q
  have pa:=uG e h .st
  exact goK q 1 [xC 3 (nB (seF z)),xM 1 (jS e),xH 1 pa]
theorem AU {l:List V}(e:G[r]? = some (.list l)):nE G (.ref r) (o0 .reverse) []=some (G.set r (.list l.reverse)):=by
 have k:o0 .reverse l []=some l.reverse:=rfl
 unfold nE
 dsimp only
 rw [e]
 dsimp only
 rw [k]
theorem J5 {l:List V}(e:G[r]? = some (.list l)):Iz G (.ref r) ⟨⟨[114,101,118,101,114,115,101]⟩⟩=some .reverse:=by
 have q:Ls G (.ref r) ⟨⟨[114,101,118,101,114,115,101]⟩⟩=_:=cC e
 exact congrArg Cv.v q
theorem ob8 (e:G[r]? = some (.list (oV st X))) (q:(oB 9 (oM how mode sh f st (.ref r) x7) (G.set r (.list (oV st (if bit f 64=true then X.reverse else X)))) k).tt L):(oB 8 (oM how mode sh f st (.ref r) x7) G k).tt L:=by
 cases b:bit f 64 with
 | true =>
  have pr:=AU e
  rw [b,if_pos rfl,oV,List.map_reverse] at q
  exact goK q 1 [xC 5 b,xM 1 (J5 e),xH 0 pr]
 | false =>
  rw [b,if_neg (by decide),fY e] at q
  exact goK q 0 [xC 5 b]
end
end
section
theorem HI (a b:List Nat):(mk a==mk b)=(a==b):=by
 rw [Bool.eq_iff_iff,beq_iff_eq,beq_iff_eq]
 exact ⟨fun h=>congrArg (fun s:Str=>s.cps.toList) h,fun h=>congrArg mk h⟩
theorem wQ (w:List Nat):∀ ks vs:List (List Nat),((ks.map mk).zip (vs.map S)).lookup (mk w)=((ks.zip vs).lookup w).map S
 | [],_=>rfl
 | _::_,[]=>rfl
 | k::ks,v::vs=>by
  rw [List.map_cons,List.map_cons,List.zip_cons_cons,List.zip_cons_cons,List.lookup_cons,List.lookup_cons,HI]
  cases w==k with
  | true=>rfl
  | false=>exact wQ w ks vs
theorem HJ (w:List Nat):∀ ks vs:List (List Nat),ks.length=vs.length→(ks.map mk).contains (mk w)=((ks.zip vs).lookup w).isSome
 | [],_,_=>rfl
 | _::_,[],h=>nomatch h
 | k::ks,v::vs,h=>by
  rw [List.map_cons,List.zip_cons_cons,List.lookup_cons,List.contains_cons,HI]
  cases w==k with
  | true=>rfl
  | false=>exact HJ w ks vs (Nat.succ.inj h)
section
variable {how mode sh:Nat}{f:Int}{st:List Nat}{G:AH}{r i:Nat}{X:List Og}{x7 x8 x9 x10:Option V}
noncomputable abbrev cuE:=aE (sE (at_ (blk (at_ b9.body 11)) 0)) 1
noncomputable abbrev loM (how mode sh:Nat) (f:Int) (st:List Nat) (r:V) (x7:Option V) (ws:List (List Nat)) (x10:Option V):LV:=[some (.int how),some (.int mode),some (.int sh),some (.int f),some (S st),some r,some (.bool (bit f 32)),x7,some OL,some (.lst (ws.map S)),x10]
theorem OM {rv:V}{ws:List (List Nat)}(w:List Nat):(cR ca 22 cuE (loM how mode sh f st rv x7 ws x10) (S w) G).tt fun x=>x=(some (S (gu (bit f 32) w)),G):=by
 unfold gu
 cases b:bit f 32 with
 | false=>exact goC [xC 2 b,xC 1 b]
 | true =>
  rw [if_pos rfl]
  have h1:=HJ w HF Cq rfl
  have h2:=wQ w HF Cq
  cases e:(HF.zip Cq).lookup w with
  | none =>
   rw [e] at h1
   exact goC [xC 2 b,xB 2 (yU (G:=G) (vs:=Cq.map S) h1)]
  | some v =>
   rw [e] at h1 h2
   rw [Option.getD_some]
   have it:aG G OL (S w)=some (S v):=congrArg Cv.v (cC h2)
   exact goC [xC 2 b,xB 2 (yU (G:=G) (vs:=Cq.map S) h1),xV 4 it]
noncomputable abbrev lpF:=fR ca 7 (at_ b9.body 11)
theorem Ds {rv:V}:∀ (L:List Og) (ws:List (List Nat)) (x10:Option V),ws.length+2*L.length≤100 →
  ∃ y10,lpF (oV st L) (loM how mode sh f st rv x7 ws x10) G .next (loM how mode sh f st rv x7 (ws++(L.map (Og.ws st)).flatten.map (gu (bit f 32))) y10) G
 | [],ws,x10,h=>⟨x10,by rw [List.map_nil,List.flatten_nil,List.map_nil,List.append_nil]; exact fN⟩
 | g::L,ws,x10,h=>by
  have hg:(g.ws st).length≤2:=by cases g <;> first | exact Nat.le_refl 2 | exact Nat.le_succ 1
  have hl:(ws++(g.ws st).map (gu (bit f 32))).length+2*L.length≤100:=by
   rw [List.length_append,List.length_map]
   rw [List.length_cons,Nat.mul_succ,Nat.add_comm (2*L.length),← Nat.add_assoc] at h
   exact Nat.le_trans (Nat.add_le_add_right (Nat.add_le_add_left hg _) _) h
  refine uZ (Ds (rv:=rv) L (ws++(g.ws st).map (gu (bit f 32))) (some (oG st g)) hl) fun y10 w=>?_
  have c:cQ (cR ca 22 cuE (loM how mode sh f st rv x7 ws (some (oG st g)))) ((g.ws st).map S) G ((g.ws st).map fun w=>S (gu (bit f 32) w)) G:=dj (g.ws st) fun w _=>OM w
  have al:=yz (vs:=ws.map S) (us:=(g.ws st).map fun w=>S (gu (bit f 32) w)) (by
   rw [List.length_map,List.length_map,← List.length_map (as:=g.ws st) (gu (bit f 32)),← List.length_append]
   exact Nat.le_trans (Nat.le_add_right ..) (Nat.le_trans hl (by decide)))
  have em:(ws++(g.ws st).map (gu (bit f 32))).map S=ws.map S++(g.ws st).map fun w=>S (gu (bit f 32) w):=by rw [List.map_append,List.map_map]; rfl
  rw [List.map_cons,List.flatten_cons,List.map_append,← List.append_assoc]
  rw [loM,em] at w
  exact fI w [xQ 3 c,xV 0 al]
noncomputable def dW (how mode sh:Nat) (f:Int) (st:List Nat):List (List Nat) :=
 (((if bit f 64=true then (eC how mode sh f st).reverse else eC how mode sh f st).map (Og.ws st)).flatten).map (gu (bit f 32))
theorem EO {l:List V}(e:G[r]? = some (.list l)):look G r=some (.lst l):=by
 have q:CR G r=_:=cC e
 exact congrArg Cv.v q
theorem AV:(eC how mode sh f st).length≤9:=by
 have l1:∀ b,(o1 how b).length≤1:=fun b=>by unfold o1; split; exact Nat.zero_le _; exact Nat.le_refl _
 have l2:∀ b,(o2 mode b).length≤1:=fun b=>by unfold o2; split; exact Nat.le_refl _; exact Nat.zero_le _
 have l3:(o3 f).length≤4:=dQ (X:=gv _ _) (Y:=_++_) mR (dQ mR (dQ mR mR))
 have l4:∀ a b,(o4 a b).length≤1:=fun a b=>by cases a <;> cases b <;> first | exact Nat.le_refl _ | exact Nat.zero_le _
 have l5:(o5 sh).length≤1:=by unfold o5; split; exact Nat.le_refl _; exact Nat.zero_le _
 have l6:(o6 st).length≤1:=by unfold o6; split; exact Nat.zero_le _; exact Nat.le_refl _
 exact dQ (dQ (dQ (dQ (dQ (l1 _) (l2 _)) l3) (l4 _ _)) l5) l6
theorem qe (hh:how<4) (hm:mode<3) (hs:sh<3):dG [.int how,.int mode,.int sh,.int f,S st] (.ok (.lst ((dW how mode sh f st).map S))):=by
 refine ⟨a8 (f:=S) (fun _=>rfl) _,rfl,?_⟩
 have l0:=AV (how:=how) (mode:=mode) (sh:=sh) (f:=f) (st:=st)
 have main:∀ (r:Nat) (G:AH),G[r]? = some (.list (oV st (o1 how (bit f 32))))→(oB 3 (oM how mode sh f st (.ref r) none) G fun f _ G=>.ok (f,G)).tt (fH false (.ok (.lst ((dW how mode sh f st).map S)))):=fun r G e=>by
  have k1:(o1 how (bit f 32)).length≤1:=by unfold o1; split; exact Nat.zero_le _; exact Nat.le_refl _
  have k0:(o2 mode (bit f 32)).length≤1:=by unfold o2; split; exact Nat.le_refl _; exact Nat.zero_le _
  have k2:(o1 how (bit f 32)++o2 mode (bit f 32)).length≤2:=dQ k1 k0
  unfold eC at l0
  have k6:=Nat.le_trans (Nat.le_trans (Nat.le_add_right _ (o6 st).length) (Nat.le_of_eq List.length_append.symm)) l0
  have k5:=Nat.le_trans (Nat.le_trans (Nat.le_add_right _ (o5 sh).length) (Nat.le_of_eq List.length_append.symm)) k6
  have k4:=Nat.le_trans (Nat.le_trans (Nat.le_add_right _ (o4 (bit f 16) (bit f 32)).length) (Nat.le_of_eq List.length_append.symm)) k5
  refine ob3 hm e (Nat.le_trans k1 (by decide)) (ob4 (jT e _) k2 ?_)
  rw [List.set_set]
  refine ob5 (jT e _) (Nat.le_trans k4 (by decide)) ?_
  rw [List.set_set]
  refine ob6 hs (jT e _) (Nat.le_trans k5 (by decide)) ?_
  rw [List.set_set]
  refine ob7 (jT e _) (Nat.le_trans k6 (by decide)) ?_
  rw [List.set_set]
  refine ob8 (jT e _) ?_
  rw [List.set_set]
  show (oB 9 (oM how mode sh f st (.ref r) (some (.int 3))) (G.set r (.list (oV st (if bit f 64=true then (eC how mode sh f st).reverse else eC how mode sh f st)))) _).tt _
  have e':=jT e (.list (oV st (if bit f 64=true then (eC how mode sh f st).reverse else eC how mode sh f st)))
  refine aj (Ds (how:=how) (mode:=mode) (sh:=sh) (f:=f) (st:=st) (G:=(G.set r (.list (oV st (if bit f 64=true then (eC how mode sh f st).reverse else eC how mode sh f st)))).set r .dead) (rv:=.ref r) (x7:=some (.int 3)) (if bit f 64=true then (eC how mode sh f st).reverse else eC how mode sh f st) [] none (by
   have:(if bit f 64=true then (eC how mode sh f st).reverse else eC how mode sh f st).length≤9:=by
    split
    ·rw [List.length_reverse]; exact AV
    ·exact AV
   rw [List.length_nil,Nat.zero_add]
   exact Nat.le_trans (Nat.mul_le_mul_left 2 this) (by decide))) fun y10 w=>?_
  rw [List.nil_append] at w
  have lo:=EO e'
  have e9:dW how mode sh f st=(((if bit f 64=true then (eC how mode sh f st).reverse else eC how mode sh f st).map (Og.ws st)).flatten).map (gu (bit f 32)):=rfl
  rw [e9]
  clear e9 k4 k5 k6 l0 e'
  generalize (if bit f 64=true then (eC how mode sh f st).reverse else eC how mode sh f st)=O at *
  exact goT (rfl:Res.ok (.lst ((((O.map (Og.ws st)).flatten).map (gu (bit f 32))).map S))=Res.ok (.lst ((((O.map (Og.ws st)).flatten).map (gu (bit f 32))).map S))) [xV 1 lo,xS 1 w]
 have ho:∀ G,aG G (.lst [S [45,103,108,111,98],S [45,101,120,97,99,116],S [45,115,111,114,116,101,100],S [45,98,105,115,101,99,116]]) (.int how)=some (S (nm (HG how))):=fun G=>bS G (by
  match how,hh with
  | 0,_=>rfl
  | 1,_=>rfl
  | 2,_=>rfl
  | 3,_=>rfl)
 have ho:=ho []
 show (oB 0 [some (.int how),some (.int mode),some (.int sh),some (.int f),some (S st),none,none,none,none,none,none] [] fun f _ G=>.ok (f,G)).tt (fH false (.ok (.lst ((dW how mode sh f st).map S))))
 by_cases h0:how=0
 ·subst h0
  cases b:bit f 32 with
  | false =>
   have q:=main 1 [.list [.lst [S (nm (HG 0))]],.list []] (by rw [b]; rfl)
   exact goK q 0 [xC 13 (nB b)]
  | true =>
   have q:=main 0 [.list [.lst [S (nm (HG 0))]]] (by rw [b]; rfl)
   exact goK q 0 [xC 13 (nB b)]
 ·have q:=main 0 [.list [.lst [S (nm (HG how))]]] (by rw [o1,if_neg fun h=>h0 h.1]; rfl)
  exact goK q 0 [xV 1 ho,xC 7 (nF h0),xC 1 (nF h0)]
end
end
section
structure Rq where
 mode:Nat
 how:Nat
 dec:Bool
 sh:Nat
 st:Bool
 fl:List Nat
noncomputable def nmk (i:Nat):Str:=mk (nm i)
noncomputable def flV (l:List Nat):List V:=l.map fun _=>.bool true
noncomputable def stV (w:List Nat) (b:Bool):V:=if b=true then S w else .none
noncomputable def rqH (w:List Nat) (t:Rq):AH:=[.inst ak lZ [S (fw t.mode),S (fZ t.how),.bool t.dec,S [],iq t.sh,.int 1,stV w t.st,.ref 1],.dS (t.fl.map nmk) (flV t.fl)]
noncomputable def oD (i:Nat) (t:Rq):Rq where
 mode:=if i=1 then 0 else if i=4 then 1 else if i=10 then 2 else t.mode
 how:=if i=6 then 0 else if i=5 then 1 else if i=13 then 2 else if i=2 then 2 else t.how
 dec:=if i=3 then true else if i=7 then false else t.dec
 sh:=t.sh
 st:=t.st
 fl:=if t.fl.contains i=true then t.fl else t.fl++[i]
structure Rok (t:Rq):Prop where
 n:t.fl.length≤100
 l:∀ j∈t.fl,j<15
theorem MB:((List.range 15).all fun i=>(List.range 15).all fun j=>nm i != nm j||i==j)=true:=by kernel_rfl
theorem J6 {i j:Nat}(hi:i<15) (hj:j<15) (e:nmk i=nmk j):i=j:=by
 have e:nm i=nm j:=congrArg (fun s:Str=>s.cps.toList) e
 exact eq_of_beq (rg (List.all_eq_true.mp (List.all_eq_true.mp MB i (List.mem_range.mpr hi)) j (List.mem_range.mpr hj)) (by rw [e]; exact bne_self_eq_false _))
theorem qg {l:List Nat}{i:Nat}(h:∀ j∈l,j<15) (hi:i<15):(l.map nmk).contains (nmk i)=l.contains i:=by
 rw [Bool.eq_iff_iff,List.contains_iff_mem,List.contains_iff_mem,List.mem_map]
 exact ⟨fun ⟨j,hj,e⟩=>J6 (h j hj) hi e ▸ hj,fun h=>⟨i,h,rfl⟩⟩
theorem rj {k:Str}:∀ {l:List Nat},kD k (.bool true) (l.map nmk) (flV l)=flV l
 | []=>rfl
 | i::l=>by
  have ih:=rj (k:=k) (l:=l)
  rw [kD] at ih ⊢
  rw [flV,List.map_cons,List.map_cons,List.zip_cons_cons,List.map_cons]
  rw [flV] at ih
  rw [ih,ite_self]
theorem f0 {t:Rq}{i:Nat}(h:Rok t) (hi:i<15) (A:AO):j5 [A,.dS (t.fl.map nmk) (flV t.fl)] (.ref 1) (.str (nmk i)) (.bool true)=some [A,.dS ((oD i t).fl.map nmk) (flV (oD i t).fl)]:=by
 refine (congrArg Cv.v (fx (eH (by rw [List.length_map]; exact Nat.le_trans h.n (by decide))))).trans ?_
 show some [A,AO.dS (bh (nmk i) (.bool true) (t.fl.map nmk) (flV t.fl)).1 (bh (nmk i) (.bool true) (t.fl.map nmk) (flV t.fl)).2]=some [A,.dS ((if t.fl.contains i=true then t.fl else t.fl++[i]).map nmk) (flV (if t.fl.contains i=true then t.fl else t.fl++[i]))]
 unfold bh
 rw [qg h.l hi]
 split
 ·rw [rj]
 ·rw [List.map_append,flV,flV,List.map_append]; rfl
section
variable {m h p s:V}{d:Bool}{i:Nat}{m':List Nat}{F F':AO}
noncomputable abbrev rH (m h p s:V) (d:V) (F:AO):AH:=[.inst ak lZ [m,h,d,S [],p,.int 1,s,.ref 1],F]
noncomputable abbrev inT (m h p s d:V) (F:AO) (i:Nat) (l:List Nat) (b:Bool):Prop:=aF (rH m h p s d F) .In (S (nm i)) (.tup (l.map fun i=>S (nm i)))=some b
theorem sf {d:V}(h1:inT m h p s d F i [1,4,10] false) (h2:inT m h p s d F i [2,5,6,13] false) (h3:inT m h p s d F i [3,7] false) (st:∀ A,j5 [A,F] (.ref 1) (.str (nmk i)) (.bool true)=some [A,F']):cB [.ref 0,S (nm i)] (rH m h p s d F) (.ok .none) (rH m h p s d F'):=by
 have st:=st (.inst ak lZ [m,h,d,S [],p,.int 1,s,.ref 1])
 exact goH [xB 1 h1,xB 3 h2,xB 3 h3,xH 5 st] rfl
theorem yX {d:V}(h1:inT m h p s d F i [1,4,10] true) (sl:bG (S (nm i)) (some (.int 1)) none none=some (S m')) (st:∀ A,j5 [A,F] (.ref 1) (.str (nmk i)) (.bool true)=some [A,F']):cB [.ref 0,S (nm i)] (rH m h p s d F) (.ok .none) (rH (S m') h p s d F'):=by
 have st:=st (.inst ak lZ [S m',h,d,S [],p,.int 1,s,.ref 1])
 exact goH [xB 1 h1,xV 3 sl,xH 5 st] rfl
theorem yY {d:V}{b:Bool}(h1:inT m h p s d F i [1,4,10] false) (h2:inT m h p s d F i [2,5,6,13] true) (eb:aF (rH m h p s d F) .Eq (S (nm i)) (S (nm 2))=some b) (sl:bG (S (nm i)) (some (.int 1)) none none=some (S m')) (st:∀ A,j5 [A,F] (.ref 1) (.str (nmk i)) (.bool true)=some [A,F']):cB [.ref 0,S (nm i)] (rH m h p s d F) (.ok .none) (rH m (S (if b=true then [115,111,114,116,101,100] else m')) p s d F'):=by
 cases b with
 | true =>
  have st:=st (.inst ak lZ [m,S [115,111,114,116,101,100],d,S [],p,.int 1,s,.ref 1])
  exact goH [xB 1 h1,xB 3 h2,xB 3 eb,xH 7 st] rfl
 | false =>
  have st:=st (.inst ak lZ [m,S m',d,S [],p,.int 1,s,.ref 1])
  exact goH [xB 1 h1,xB 3 h2,xB 3 eb,xV 3 sl,xH 5 st] rfl
theorem HK {d:V}{b:Bool}(h1:inT m h p s d F i [1,4,10] false) (h2:inT m h p s d F i [2,5,6,13] false) (h3:inT m h p s d F i [3,7] true) (eb:aF (rH m h p s d F) .Eq (S (nm i)) (S (nm 3))=some b) (st:∀ A,j5 [A,F] (.ref 1) (.str (nmk i)) (.bool true)=some [A,F']):cB [.ref 0,S (nm i)] (rH m h p s d F) (.ok .none) (rH m h p s (.bool b) F'):=by
 have st:=st (.inst ak lZ [m,h,.bool b,S [],p,.int 1,s,.ref 1])
 exact goH [xB 1 h1,xB 3 h2,xB 3 h3,xB 3 eb,xH 5 st] rfl
end
noncomputable def lx (i:Nat):Bool:=Nat.blt i 15&&(i != 8&&i != 14)
theorem vn {t:Rq}{i:Nat}{w:List Nat}(h:Rok t) (hi:lx i=true):cB [.ref 0,S (nm i)] (rqH w t) (.ok .none) (rqH w (oD i t)):=by
 exact wX (P:=fun i=>i<15→lx i=true→cB [.ref 0,S (nm i)] (rqH w t) (.ok .none) (rqH w (oD i t))) (a:=0) (k:=15)
  ⟨fun hl _=>sf rfl rfl rfl (f0 h hl),
   fun hl _=>yX rfl rfl (f0 h hl),
   fun hl _=>yY rfl rfl (b:=true) rfl rfl (f0 h hl),
   fun hl _=>HK rfl rfl rfl rfl (f0 h hl),
   fun hl _=>yX rfl rfl (f0 h hl),
   fun hl _=>yY rfl rfl (b:=false) rfl rfl (f0 h hl),
   fun hl _=>yY rfl rfl (b:=false) rfl rfl (f0 h hl),
   fun hl _=>HK rfl rfl rfl rfl (f0 h hl),
   fun _ hi=>ff hi,
   fun hl _=>sf rfl rfl rfl (f0 h hl),
   fun hl _=>yX rfl rfl (f0 h hl),
   fun hl _=>sf rfl rfl rfl (f0 h hl),
   fun hl _=>sf rfl rfl rfl (f0 h hl),
   fun hl _=>yY rfl rfl (b:=false) rfl rfl (f0 h hl),
   fun _ hi=>ff hi,trivial⟩ (Nat.zero_le _) (aX (an hi).1) (aX (an hi).1) hi
theorem yZ {t:Rq}{w:List Nat}{s:Nat}(hs:s=1∨s=2):ez [.ref 0,S (nm 8),S (shW s)] (rqH w t) (.ok .none) (rqH w { t with sh:=s }):=by
 rcases hs with rfl | rfl
 ·exact goH [] rfl
 ·exact goH [] rfl
theorem uH {t:Rq}{w:List Nat}:ez [.ref 0,S (nm 14),S w] (rqH w t) (.ok .none) (rqH w { t with st:=true }):=by exact goH [] rfl
noncomputable def iW:V:=.tup (oN.map S)
noncomputable def J7 (w:List Nat):Option Res→Bool
 | some (.ok (.str ⟨⟨v⟩⟩))=>v==w
 | _=>false
theorem Dt {w:List Nat}{r:Option Res}(h:J7 w r=true):r=some (.ok (S w)):=by
 unfold J7 at h
 split at h
 ·rw [eq_of_beq h]
 ·exact ff h
theorem ON:((List.range 15).all fun i=>J7 (nm i) (xD false yf tP [S [111,112,116,105,111,110],S (gu false (nm i)),iW])&&J7 (nm i) (xD false yf tP [S [111,112,116,105,111,110],S (gu true (nm i)),iW]))=true:=by kernel_rfl
theorem qh (b:Bool) {i:Nat}(hi:i<15):yg [S [111,112,116,105,111,110],S (gu b (nm i)),iW] (.ok (S (nm i))):=by
 have k:=an (List.all_eq_true.mp ON i (List.mem_range.mpr hi))
 cases b with
 | false=>exact gR (Dt k.1)
 | true=>exact gR (Dt k.2)
end
section
noncomputable def jU:V:=.dS [nmk 8,nmk 14] [S [34,45,105,110,100,101,120,34,32,111,112,116,105,111,110,32,109,117,115,116,32,98,101,32,102,111,108,108,111,119,101,100,32,98,121,32,108,105,115,116,32,105,110,100,101,120],S [109,105,115,115,105,110,103,32,115,116,97,114,116,105,110,103,32,105,110,100,101,120]]
theorem MC:((List.range 15).all fun i=>!lx i||!([nmk 8,nmk 14].contains (nmk i)))=true:=by kernel_rfl
noncomputable def qi (t:Rq):Og→Rq
 | .one i=>oD i t
 | .two i j=>oD j (oD i t)
 | .idx s=>{ t with sh:=s }
 | .st=>{ t with st:=true }
noncomputable def Og.ok (b:Bool) (w:List Nat):Og→Prop
 | .one i=>lx i=true
 | .two i j=>lx i=true∧lx j=true
 | .idx s=>(s=1∨s=2)∧gu b (shW s)=shW s
 | .st=>gu b w=w
section
variable {t t':Rq}{w x:List Nat}{ws:List (List Nat)}{stop k i:Nat}{b:Bool}{z:Option V}{m':LV}{G':AH}
noncomputable abbrev roW:=wR ij 7 (at_ cZ.body 2)
noncomputable abbrev roM (ws:List (List Nat)) (stop k:Nat) (z:Option V):LV:=[some (.lst (ws.map S)),some (.int stop),some iW,some jU,some (.ref 0),some (.int k),z]
theorem HL (G:AH) (h:ws[k]? = some x):aG G (.lst (ws.map S)) (.int k)=some (S x):=bS G (by rw [List.getElem?_map,h]; rfl)
theorem dY {α:Type}{t r:List α}{k:Nat}{c:α}(h:t.drop k=c::r):t[k]? = some c∧k<t.length∧t.drop (k+1)=r:=by
 have e:t[k]? = some c:=by have:=congrArg List.head? h; rw [List.head?_drop] at this; exact this
 exact ⟨e,bc e,by rw [← List.drop_drop,h]; rfl⟩
theorem za (hi:lx i=true) (hw:ws[k]? = some (gu b (nm i))) (hk:k<stop) (ht:Rok t) (ih:Wh roW (roM ws stop (k+1) (some (S (nm i)))) (rqH w (oD i t)) .next m' G'):Wh roW (roM ws stop k z) (rqH w t) .next m' G':=by
 have hl:i<15:=aX (an hi).1
 have it:=HL (rqH w t) hw
 have hp:=qh b hl
 have vf:=yU (G:=rqH w t) (k:=nmk i) (vs:=[S [34,45,105,110,100,101,120,34,32,111,112,116,105,111,110,32,109,117,115,116,32,98,101,32,102,111,108,108,111,119,101,100,32,98,121,32,108,105,115,116,32,105,110,100,101,120],S [109,105,115,115,105,110,103,32,115,116,97,114,116,105,110,103,32,105,110,100,101,120]]) (bN (rg (List.all_eq_true.mp MC i (List.mem_range.mpr hl)) (by rw [hi]; rfl)))
 have pf:=vn (w:=w) ht hi
 exact wI ih [xC 4 (ltT hk),xV 2 it,xP 1 hp,xB 2 vf,xR 4 pf]
theorem HM (hi:i=8∨i=14) (hw:ws[k]? = some (gu b (nm i))) (hx:ws[k+1]? = some x) (hk:k+1<stop) (hp:ez [.ref 0,S (nm i),S x] (rqH w t) (.ok .none) (rqH w t')) (ih:Wh roW (roM ws stop (k+2) (some (S (nm i)))) (rqH w t') .next m' G'):Wh roW (roM ws stop k z) (rqH w t) .next m' G':=by
 have it:=HL (rqH w t) hw
 have it2:=HL (rqH w t) hx
 rcases hi with rfl | rfl
 ·have pk:=qh b (i:=8) (by decide)
  exact wI ih [xC 4 (ltT (Nat.lt_of_succ_lt hk)),xV 2 it,xP 1 pk,xC 10 (leF hk),xV 5 it2,xR 0 hp]
 ·have pk:=qh b (i:=14) (by decide)
  exact wI ih [xC 4 (ltT (Nat.lt_of_succ_lt hk)),xV 2 it,xP 1 pk,xC 10 (leF hk),xV 5 it2,xR 0 hp]
theorem zb (h:Rok t) (hl:t.fl.length+1≤100) (hi:lx i=true):Rok (oD i t)∧(oD i t).fl.length≤t.fl.length+1:=by
 have e:(oD i t).fl=if t.fl.contains i=true then t.fl else t.fl++[i]:=rfl
 refine ⟨⟨?_,?_⟩,?_⟩
 ·rw [e]; split
  ·exact h.n
  ·rw [List.length_append]; exact hl
 ·rw [e]; split
  ·exact h.l
  ·exact fun j hj=>(List.mem_append.mp hj).elim (h.l j) fun e=>List.mem_singleton.mp e ▸ aX (an hi).1
 ·rw [e]; split
  ·exact Nat.le_succ _
  ·rw [List.length_append]; exact Nat.le_refl _
theorem oE:∀ (L:List Og) (tl:List (List Nat)) (k:Nat) (t:Rq) (z:Option V),(∀ g∈L,g.ok b w)→ws.drop k=((L.map (Og.ws w)).flatten).map (gu b)++tl→stop=k+(L.map (Og.ws w)).flatten.length→t.fl.length+2*L.length≤100→Rok t →
  ∃ y,Wh roW (roM ws stop k z) (rqH w t) .next (roM ws stop stop y) (rqH w (L.foldl qi t))
 | [],tl,k,t,z,hg,hd,hs,hl,ht=>by
  obtain rfl:stop=k:=hs
  refine ⟨z,?_⟩
  exact wE [xC 4 (ltF (Nat.le_refl stop))]
 | g::L,tl,k,t,z,hg,hd,hs,hl,ht=>by
  have hgs:=fun g hg'=>hg g (List.mem_cons_of_mem _ hg')
  have ok:=hg g (.head _)
  rw [List.length_cons,Nat.mul_succ,Nat.add_comm (2*L.length),← Nat.add_assoc] at hl
  rw [List.map_cons,List.flatten_cons,List.map_append,List.append_assoc] at hd
  rw [List.map_cons,List.flatten_cons,List.length_append,← Nat.add_assoc] at hs
  have kn:∀ n,stop=k+(n+1)+((L.map (Og.ws w)).flatten).length→k<stop:=fun n e=>by rw [e]; exact Nat.lt_of_lt_of_le (Nat.lt_add_of_pos_right (Nat.succ_pos n)) (Nat.le_add_right ..)
  have kn2:stop=k+2+((L.map (Og.ws w)).flatten).length→k+1<stop:=fun e=>by rw [e]; exact Nat.lt_of_lt_of_le (Nat.lt_succ_self _) (Nat.le_add_right ..)
  cases g with
  | one i =>
   refine bW (dY hd) fun h1 h2 h3=>?_
   have p1:=zb ht (Nat.le_trans (Nat.le_succ _) (Nat.le_trans (Nat.le_add_right ..) hl)) ok
   refine aj (oE L tl (k+1) (oD i t) (some (S (nm i))) hgs h3 hs (Nat.le_trans (Nat.add_le_add_right (Nat.le_trans p1.2 (Nat.le_succ _)) _) hl) p1.1) fun y ih=>⟨y,za ok h1 (kn 0 hs) ht ih⟩
  | two i j =>
   refine bW (dY hd) fun h1 h2 h3=>bW (dY h3) fun g1 g2 g3=>?_
   have q1:=zb ht (Nat.le_trans (Nat.le_succ _) (Nat.le_trans (Nat.le_add_right ..) hl)) ok.1
   have q2:=zb q1.1 (Nat.le_trans (Nat.add_le_add_right q1.2 1) (Nat.le_trans (Nat.le_add_right ..) hl)) ok.2
   refine aj (oE L tl (k+2) (oD j (oD i t)) (some (S (nm j))) hgs g3 hs (Nat.le_trans (Nat.add_le_add_right (Nat.le_trans q2.2 (Nat.add_le_add_right q1.2 1)) _) hl) q2.1) fun y ih=>⟨y,za ok.1 h1 (kn 1 hs) ht (za ok.2 g1 (kn2 hs) q1.1 ih)⟩
  | idx s =>
   refine bW (dY hd) fun h1 h2 h3=>bW (dY h3) fun g1 g2 g3=>?_
   rw [ok.2] at g1
   refine aj (oE L tl (k+2) { t with sh:=s } (some (S (nm 8))) hgs g3 hs (Nat.le_trans (Nat.add_le_add_right (Nat.le_add_right _ 2) _) hl) ⟨ht.n,ht.l⟩) fun y ih=>⟨y,HM (.inl rfl) h1 g1 (kn2 hs) (yZ ok.1) ih⟩
  | st =>
   refine bW (dY hd) fun h1 h2 h3=>bW (dY h3) fun g1 g2 g3=>?_
   rw [show gu b w=w from ok] at g1
   refine aj (oE L tl (k+2) { t with st:=true } (some (S (nm 14))) hgs g3 hs (Nat.le_trans (Nat.add_le_add_right (Nat.le_add_right _ 2) _) hl) ⟨ht.n,ht.l⟩) fun y ih=>⟨y,HM (.inr rfl) h1 g1 (kn2 hs) uH ih⟩
noncomputable def rq0:Rq:=⟨0,0,false,0,false,[]⟩
noncomputable def rqO (w:List Nat) (t:Rq):To:=⟨t.mode,t.how,t.dec,t.sh,stV w t.st,t.fl.map nmk,flV t.fl⟩
theorem OO {t:Rq}:(rqO w t).v.pu=true:=by
 have e:(stV w t.st).pu=true:=by unfold stV; split <;> rfl
 have e2:V.puL (flV t.fl)=true:=a8 (fun _=>rfl) t.fl
 rw [To.v,V.pu,V.puL,V.puL,V.puL,V.puL,V.puL,oq,V.puL,V.puL,rqO,e,V.puL,V.pu,e2]; rfl
theorem oF {L:List Og}{w0 a p:List Nat}(hg:∀ g∈L,g.ok b w) (hL:L.length≤20) (ew:ws=w0::(((L.map (Og.ws w)).flatten).map (gu b)++[a,p])) :
  bQ [.lst (ws.map S),.int (1+(L.map (Og.ws w)).flatten.length:Nat),iW,jU] (.ok (rqO w (L.foldl qi rq0)).v):=by
 refine aj (oE (ws:=ws) (stop:=1+(L.map (Og.ws w)).flatten.length) L [a,p] 1 rq0 none hg (by rw [ew]; rfl) rfl (Nat.le_trans (Nat.add_le_add_left (Nat.mul_le_mul_left 2 hL) _) (by decide)) ⟨by decide,nofun⟩) fun y ih=>?_
 have pv:=a8 (f:=S) (fun _=>rfl) ws
 have pp:(V.puL [.lst (ws.map S),.int (1+(L.map (Og.ws w)).flatten.length:Nat),iW,jU]&&bo cZ [.lst (ws.map S),.int (1+(L.map (Og.ws w)).flatten.length:Nat),iW,jU])=true:=by rw [V.puL,V.pu,pv]; rfl
 have pr:=OO (w:=w) (t:=L.foldl qi rq0)
 generalize L.foldl qi rq0=T at *
 generalize 1+(L.map (Og.ws w)).flatten.length=stop at *
 obtain ⟨m,h,d,s,st,fl⟩:=T
 cases st with
 | true=>exact goP [xS 2 ih] pp pr
 | false=>exact goP [xS 2 ih] pp pr
end
end
section
noncomputable def dZ:List (List Nat):=[[48],[49],[50],[101,110,100],[101,110,100,45,49],[45,50],[55],[101,110,100,45,57],[49,121]]
noncomputable def AW (how mode sh:Nat) (f:Int) (st:List Nat):List Og:=if bit f 64=true then (eC how mode sh f st).reverse else eC how mode sh f st
noncomputable def OP (how mode sh:Nat) (a b c d e g h s:Bool):List Og :=
 let O:=((((o1 how g++o2 mode g)++(gv a [.one 0]++(gv b [.one 12]++(gv c [.one 9]++gv d [.one 11]))))++o4 e g)++o5 sh)++gv s [.st]
 if h=true then O.reverse else O
theorem MD {how mode sh:Nat}{f:Int}{st:List Nat}:AW how mode sh f st=OP how mode sh (bit f 1) (bit f 2) (bit f 4) (bit f 8) (bit f 16) (bit f 32) (bit f 64) (!st.isEmpty):=by cases st <;> rfl
noncomputable def jV (p:Bool→Bool):Bool:=p true&&p false
theorem eE {p:Bool→Bool}(h:jV p=true):∀ b,p b=true
 | true=>(an h).1
 | false=>(an h).2
noncomputable def QI (how mode sh:Nat) (a b c d e s:Bool) (T:Rq):Bool :=
 Nat.beq T.mode mode&&(Nat.beq T.how (bif Nat.beq how 3 then 2 else how)&&(T.dec==e&&(Nat.beq T.sh sh&&(T.st==s&&(T.fl.all (fun j=>Nat.blt j 15)&&(T.fl.contains 0==a&&(T.fl.contains 12==b&&(T.fl.contains 9==c&&(T.fl.contains 11==d&&T.fl.contains 2==(how==3))))))))))
noncomputable def OQ:Og→Bool
 | .one i=>lx i
 | .two i j=>lx i&&lx j
 | .idx s=>Nat.beq s 1||Nat.beq s 2
 | .st=>true
noncomputable def KO (O:List Og) (how mode sh:Nat) (a b c d e s:Bool):Bool:=O.all OQ&&QI how mode sh a b c d e s (O.foldl qi rq0)
theorem HN:((List.range 4).all fun how=>(List.range 3).all fun mode=>(List.range 3).all fun sh=>jV fun a=>jV fun b=>jV fun c=>jV fun d=>jV fun e=>jV fun g=>jV fun h=>jV fun s=>KO (OP how mode sh a b c d e g h s) how mode sh a b c d e s)=true:=by kernel_rfl
theorem EQ {a b:Nat}(h:Nat.beq a b=true):a=b:=Nat.eq_of_beq_eq_true h
theorem eqB {a b:Bool}(h:(a==b)=true):a=b:=eq_of_beq h
section
variable {how mode sh:Nat}{f:Int}{st:List Nat}{o:To}{ws:List (List Nat)}{stop:Nat}
noncomputable def toR (how mode sh:Nat) (f:Int) (st:List Nat) (fl:List Nat):To:=⟨mode,how,bit f 16,sh,stV st (!st.isEmpty),fl.map nmk,flV fl⟩
noncomputable def OR (how mode sh:Nat) (f:Int) (st:List Nat):Rq:=(AW how mode sh f st).foldl qi rq0
noncomputable def ER (how mode sh:Nat) (f:Int) (st:List Nat):To:=toR how mode sh f st (OR how mode sh f st).fl
theorem HO (hh:how<4) (hm:mode<3) (hs:sh<3):KO (AW how mode sh f st) how mode sh (bit f 1) (bit f 2) (bit f 4) (bit f 8) (bit f 16) (!st.isEmpty)=true:=by
 have k:=List.all_eq_true.mp (List.all_eq_true.mp (List.all_eq_true.mp HN how (List.mem_range.mpr hh)) mode (List.mem_range.mpr hm)) sh (List.mem_range.mpr hs)
 rw [MD]
 exact eE (eE (eE (eE (eE (eE (eE (eE k _) _) _) _) _) _) _) _
theorem ME (how:Nat):fZ (bif Nat.beq how 3 then 2 else how)=fZ how:=by
 cases e:Nat.beq how 3 with
 | false=>rfl
 | true=>rw [EQ e]; rfl
theorem MF {b:Bool}:(stV st b).pu=true:=by cases b <;> rfl
theorem an2 {a b:Bool}{P:Prop}(q:(a&&b)=true) (p:a=true→b=true→P):P:=p (an q).1 (an q).2
theorem OS {a b c d e f g h i j k:Bool}{P:Prop}(q:(a&&(b&&(c&&(d&&(e&&(f&&(g&&(h&&(i&&(j&&k))))))))))=true) (p:a=true→b=true→c=true→d=true→e=true→f=true→g=true→h=true→i=true→j=true→k=true→P):P :=
 an2 q fun a q=>an2 q fun b q=>an2 q fun c q=>an2 q fun d q=>an2 q fun e q=>an2 q fun f q=>an2 q fun g q=>an2 q fun h q=>an2 q fun i q=>an2 q fun j k=>p a b c d e f g h i j k
theorem MG {T:Rq}(e1:T.mode=mode) (e2:T.how=bif Nat.beq how 3 then 2 else how) (e3:T.dec=bit f 16) (e4:T.sh=sh) (e5:T.st=!st.isEmpty):(rqO st T).v=(toR how mode sh f st T.fl).v:=by
 show V.inst ak lZ [S (fw T.mode),S (fZ T.how),.bool T.dec,S [],iq T.sh,.int 1,stV st T.st,_]=V.inst ak lZ [S (fw mode),S (fZ how),.bool (bit f 16),S [],iq sh,.int 1,stV st (!st.isEmpty),_]
 rw [e1,e2,e3,e4,e5,ME]; rfl
theorem MI {fl:List Nat}(hl:∀ j∈fl,j<15) (k7:(fl.contains 0==bit f 1)=true) (k8:(fl.contains 12==bit f 2)=true) (k9:(fl.contains 9==bit f 4)=true) (ka:(fl.contains 11==bit f 8)=true) (kb:(fl.contains 2==(how==3))=true):Flg (toR how mode sh f st fl) how f :=
 ⟨⟨MF,a8 (fun _=>rfl) fl⟩,(qg (i:=0) hl (by decide)).trans (eqB k7),(qg (i:=12) hl (by decide)).trans (eqB k8),(qg (i:=9) hl (by decide)).trans (eqB k9),(qg (i:=11) hl (by decide)).trans (eqB ka),(qg (i:=2) hl (by decide)).trans (eqB kb),rfl,rfl⟩
theorem Du (hh:how<4) (hm:mode<3) (hs:sh<3):(rqO st (OR how mode sh f st)).v=(ER how mode sh f st).v∧Flg (ER how mode sh f st) how f :=
 OS (an (HO (f:=f) (st:=st) hh hm hs)).2 fun k1 k2 k3 k4 k5 k6 k7 k8 k9 ka kb=>⟨MG (EQ k1) (EQ k2) (eqB k3) (EQ k4) (eqB k5),MI (fun j hj=>aX (List.all_eq_true.mp k6 j hj)) k7 k8 k9 ka kb⟩
theorem HP:(dZ++[[48],[101,110,100],[]]).all (fun w=>gu true w==w)=true:=by kernel_rfl
theorem AX {b:Bool}{w:List Nat}(h:w∈dZ++[[48],[101,110,100],[]]):gu b w=w:=by
 cases b with
 | false=>rfl
 | true=>exact eq_of_beq (List.all_eq_true.mp HP w h)
theorem OT {b:Bool}{g:Og}(h:OQ g=true) (hw:st∈dZ++[[48],[101,110,100],[]]):g.ok b st:=by
 cases g with
 | one i=>exact h
 | two i j=>exact an h
 | idx s =>
  have e:s=1∨s=2:=(Bool.or_eq_true _ _ ▸ h:_∨_).imp EQ EQ
  refine ⟨e,AX ?_⟩
  rcases e with rfl | rfl
  ·exact List.mem_append_right _ (.head _)
  ·exact List.mem_append_right _ (.tail _ (.head _))
 | st=>exact AX hw
theorem AY:(AW how mode sh f st).length≤20:=by
 unfold AW
 cases bit f 64 with
 | true=>exact Nat.le_trans (Nat.le_of_eq List.length_reverse) (Nat.le_trans AV (by decide))
 | false=>exact Nat.le_trans AV (by decide)
theorem ES (hh:how<4) (hm:mode<3) (hs:sh<3) (hw:st∈dZ++[[48],[101,110,100],[]]) {w0 a p:List Nat} :
  bQ [.lst ((w0::(dW how mode sh f st++[a,p])).map S),.int (1+(dW how mode sh f st).length:Nat),iW,jU] (.ok (ER how mode sh f st).v):=by
 have g:∀ g∈AW how mode sh f st,g.ok (bit f 32) st:=fun g hg=>OT (List.all_eq_true.mp (an (HO hh hm hs)).1 g hg) hw
 have r:=oF (w0:=w0) (a:=a) (p:=p) g AY rfl
 have e:(dW how mode sh f st).length=((AW how mode sh f st).map (Og.ws st)).flatten.length:=List.length_map ..
 rw [e]
 exact (Du (f:=f) (st:=st) hh hm hs).1 ▸ r
theorem J8 (hl:ws.length=stop+2) (pv:o.v.pu=true) (hr:bQ [.lst (ws.map S),.int stop,iW,jU] (.ok o.v)) (hb:(o.fl.contains Hx&&(o.fl.contains EM||o.fl.contains Cm))=false):bq [.lst (ws.map S)] (.ok o.v):=by
 have pp:=a8 (f:=S) (fun _=>rfl) ws
 have pp:(V.puL [.lst (ws.map S)]&&bo cq [.lst (ws.map S)])=true:=by rw [V.puL,V.pu,pp]; rfl
 have sb:cA .Sub (.int ((ws.map S).length:Nat)) (.int 2)=some (.int stop):=by
  rw [List.length_map,hl]
  exact congrArg (fun i=>some (V.int i)) (by rw [Int.natCast_add]; exact Int.add_sub_cancel ..)
 cases q1:o.fl.contains Hx with
 | false =>
  exact goP [xV 3 sb,xP 2 hr,xC 4 q1,xC 1 q1] pp pv
 | true =>
  rw [q1] at hb
  refine ar (Bool.or_eq_false_iff.mp hb) fun q2 q3=>?_
  exact goP [xV 3 sb,xP 2 hr,xC 4 q1,xC 4 q2,xC 4 q3] pp pv
noncomputable def uI:List Nat:=[45,98,105,115,101,99,116,32,105,115,32,110,111,116,32,99,111,109,112,97,116,105,98,108,101,32,119,105,116,104,32,45,97,108,108,32,111,114,32,45,110,111,116]
noncomputable def oH:V:=.tup ([[84,67,76],[79,80,69,82,65,84,73,79,78],[76,83,69,65,82,67,72],[66,65,68,95,79,80,84,73,79,78,95,77,73,88]].map S)
theorem MJ (hl:ws.length=stop+2) (hr:bQ [.lst (ws.map S),.int stop,iW,jU] (.ok o.v)) (hb:(o.fl.contains Hx&&(o.fl.contains EM||o.fl.contains Cm))=true):bq [.lst (ws.map S)] (.ex Az (AA uI oH)):=by
 have pp:=a8 (f:=S) (fun _=>rfl) ws
 have pp:(V.puL [.lst (ws.map S)]&&bo cq [.lst (ws.map S)])=true:=by rw [V.puL,V.pu,pp]; rfl
 have sb:cA .Sub (.int ((ws.map S).length:Nat)) (.int 2)=some (.int stop):=by
  rw [List.length_map,hl]
  exact congrArg (fun i=>some (V.int i)) (by rw [Int.natCast_add]; exact Int.add_sub_cancel ..)
 refine ar (an hb) fun q1 hb=>?_
 cases q2:o.fl.contains EM with
 | true =>
  exact goP [xV 3 sb,xP 2 hr,xC 4 q1,xC 4 q2,xC 1 q2] pp rfl
 | false =>
  rw [q2] at hb
  exact goP [xV 3 sb,xP 2 hr,xC 4 q1,xC 4 q2,xC 4 hb] pp rfl
end
end
section
noncomputable def uJ:List (List Nat):=[[],[],[]]++dZ
noncomputable def bI (which:Nat):List Nat:=uJ.getD which []
noncomputable def qj (last:Int):List (Option Int):=[some 0,some 0,some 0,some 0,some 1,some 2,some last,some (last - 1),some (-2),some 7,some (last - 9),none]
noncomputable def ly (which:Nat) (last:Int):Option Int:=(qj last).getD which none
section
variable {which:Nat}{last:Int}{w:List Nat}
theorem Dv {α:Type}{l:List α}{k:Nat}{d:α}(g:α→V) (h:k<l.length):(l.map g)[k]? = some (g (l.getD k d)):=by
 rw [List.getElem?_map,List.getD_eq_getElem?_getD,List.getElem?_eq_getElem h]; rfl
theorem lz (h:which<12):cv [.int which,.int last] (.ok (.tup [S (bI which),mH (ly which last)])):=by
 have i1:=bS [] (Dv (d:=[]) S (show which<uJ.length from h))
 have i2:=bS [] (Dv (d:=none) mH (show which<(qj last).length from h))
 have pu:=G0 (ly which last)
 show cv _ (.ok (.tup [S (uJ.getD which []),mH ((qj last).getD which none)]))
 have pu:(V.tup [S (uJ.getD which []),mH ((qj last).getD which none)]).pu=true:=by rw [V.pu,V.puL,V.puL,show ((qj last).getD which none)=ly which last from rfl,pu]; rfl
 generalize uJ.getD which []=a at *
 generalize (qj last).getD which none=b at *
 exact goP [xV 2 i1,xV 7 i2] rfl pu
theorem uK (h3:3≤which) (h:which<11):∃ i,ly which last=some i∧bO [S (bI which),.int last] (.ok (.int i)) :=
 wX (P:=fun which=>∃ i,ly which last=some i∧bO [S (bI which),.int last] (.ok (.int i))) (a:=3) (k:=8)
  ⟨⟨_,rfl,gR (by kernel_rfl)⟩,⟨_,rfl,gR (by kernel_rfl)⟩,⟨_,rfl,gR (by kernel_rfl)⟩,⟨_,rfl,gR (by kernel_rfl)⟩,⟨_,rfl,gR (by kernel_rfl)⟩,⟨_,rfl,gR (by kernel_rfl)⟩,⟨_,rfl,gR (by kernel_rfl)⟩,⟨_,rfl,gR (by kernel_rfl)⟩,trivial⟩ h3 h
noncomputable def mS:List Nat:=[98,97,100,32,105,110,100,101,120,32,34]++[49,121]++[34,58,32,109,117,115,116,32,98,101,32,105,110,116,101,103,101,114,63,91,43,45,93,105,110,116,101,103,101,114,63,32,111,114,32,101,110,100,63,91,43,45,93,105,110,116,101,103,101,114,63]
noncomputable def jW:V:=.tup ([[84,67,76],[86,65,76,85,69],[73,78,68,69,88]].map S)
theorem EU:bO [S [49,121],.int last] (.ex Az (AA mS jW)):=gR
theorem wS (h:which<3):bI which=[]:=by
 match which,h with
 | 0,_=>rfl
 | 1,_=>rfl
 | 2,_=>rfl
theorem HQ (h:which<12):bI which∈dZ++[[48],[101,110,100],[]]:=by
 have k:(List.range 12).all (fun w=>(dZ++[[48],[101,110,100],[]]).contains (bI w))=true:=by kernel_rfl
 exact List.contains_iff_mem.mp (List.all_eq_true.mp k which (List.mem_range.mpr h))
theorem uL (h3:3≤which) (h:which<12):(bI which).isEmpty=false:=by
 have k:(List.range 12).all (fun w=>!Nat.ble 3 w||!(bI w).isEmpty)=true:=by kernel_rfl
 exact bN (rg (List.all_eq_true.mp k which (List.mem_range.mpr h)) (by rw [eH h3]; rfl))
noncomputable def dig (k:Nat):List Nat:=(Str.ofString (toString (k:Int))).cps.toList
theorem OU:((List.range 20).all fun k=>(Nat.ble ((k:Int).natAbs.log2+1) 1920&&Nat.ble (Str.ofString (toString (k:Int))).length big)&&(yE (dig k)&&Nat.ble (dig k).length 2))=true:=by kernel_rfl
theorem AZ {G:AH}{k:Nat}(h:k<20):nA G ⟨⟨[115,116,114]⟩⟩ [.int k]=some (S (dig k)):=by
 have q:Nw G [.int k]=_:=fx (an (List.all_eq_true.mp OU k (List.mem_range.mpr h))).1
 exact congrArg (fun c=>Cv.v (blI G ⟨⟨[115,116,114]⟩⟩ [.int k] ⟨⟨[115,116,114]⟩⟩ c (by decide +kernel) none)) q
theorem MK {k:Nat}(h:k<20):fX (dig k)∧(dig k).length≤100:=ar (an (an (List.all_eq_true.mp OU k (List.mem_range.mpr h))).2) fun a b=>⟨wx a,Nat.le_trans (aX b) (by decide)⟩
theorem EV {vs:List V}{a p:V}:aG [] (.lst (vs++[a,p])) (.int (-2))=some a:=congrArg Cv.v (cC (o:=cS (vs++[a,p]) (-2)) (by
 have e:(vs++[a,p]).length=vs.length+2:=List.length_append
 refine (fx (eH (by rw [e]; exact Nat.le_add_left 2 _))).trans ?_
 rw [e]
 exact List.getElem?_concat_length (l:=vs) (a:=a) ▸ by rw [show vs++[a,p]=(vs++[a])++[p] by rw [List.append_assoc]; rfl]; exact List.getElem?_append_left (by rw [List.length_append]; exact Nat.lt_succ_self _)))
theorem EX {vs:List V}{a p:V}:aG [] (.lst (vs++[a,p])) (.int (-1))=some p:=Et (by rw [show vs++[a,p]=(vs++[a])++[p] by rw [List.append_assoc]; rfl]; exact List.getLast?_concat)
noncomputable def oI (inl:Bool) (gs:List (List Wo)) (P:List Nat):List (List Nat):=P.map fun k=>if inl=true then bl (gs.getD k []) else dig k
noncomputable def EY (all inl:Bool) (gs:List (List Wo)) (P:List Nat):List Nat :=
 if all=true then cg [32] ((oI inl gs P).map enc) else (oI inl gs P).headD (if inl=true then [] else [45,49])
theorem Dw {mode sh:Nat}{inl:Bool}{gs:List (List Wo)}{P:List Nat}(hg:∀ g∈gs,Grp mode sh g) (hn:gs.length≤20) (hP:∀ k∈P,k<gs.length):∀ w∈oI inl gs P,fX w∧w.length≤100:=by
 intro w hw
 refine ae (List.mem_map.mp hw) fun k hk e=>?_
 subst e
 have hk:=hP k hk
 cases inl with
 | false=>exact MK (Nat.lt_of_lt_of_le hk hn)
 | true =>
  show fX (bl (gs.getD k []))∧_
  rw [List.getD_eq_getElem?_getD,List.getElem?_eq_getElem hk]
  exact (hg _ (List.getElem_mem hk)).plain
end
end
section
section
variable {α:Type}{L:α→Prop}{mode sh:Nat}{gs:List (List Wo)}{all inl:Bool}{WS ov sv:V}{w x8 x9 x10 X9:Option V}{k:Nat}{o:List (List Nat)}{m':LV}{G':AH}{xs:List V}{P:List Nat}{c:Fl→LV→AH→Tr α}
noncomputable abbrev lM (WS ov:V) (all inl:Bool) (gs:List (List Wo)) (sv:V) (w x8 x9 x10:Option V):LV:=[some .none,some WS,some ov,some (.bool all),some (.bool inl),some (aq gs),some sv,w,x8,x9,x10]
noncomputable abbrev lB (i:Nat) (m:LV) (G:AH) (c:Fl→LV→AH→Tr α):Tr α:=evB (evS 8 du) (bL.body.drop i) m G c
noncomputable abbrev laF:=fR du 7 (at_ bL.body 9)
theorem HR (hk:k<gs.length) (hn:gs.length≤20) (ho:o.length≤1000) (ih:laF xs (lM WS ov all inl gs sv w (some (.int k)) X9 (some (.ref 0))) [.list ((o++[if inl=true then bl (gs.getD k []) else dig k]).map S)] .next m' G') :
  laF (.int k::xs) (lM WS ov all inl gs sv w x8 X9 (some (.ref 0))) [.list (o.map S)] .next m' G':=by
 have ln:(o.map S).length+1≤big:=by rw [List.length_map]; exact Nat.le_trans (Nat.succ_le_succ ho) (by decide)
 rw [List.map_append] at ih
 cases inl with
 | true =>
  have it:aG [.list (o.map S)] (aq gs) (.int k)=some (S (bl (gs.getD k []))):=jm _ (by rw [List.getD_eq_getElem?_getD,List.getElem?_eq_getElem hk]; rfl)
  have pa:=bf (G:=[.list (o.map S)]) (i:=0) (v:=S (bl (gs.getD k []))) rfl ln
  exact fI ih [xV 6 it,xH 0 pa]
 | false =>
  have st:nA [.list (o.map S)] ⟨⟨[115,116,114]⟩⟩ [.int k]=some (S (dig k)):=AZ (Nat.lt_of_lt_of_le hk hn)
  have pa:=bf (G:=[.list (o.map S)]) (i:=0) (v:=S (dig k)) rfl ln
  exact fI ih [xV 5 st,xH 0 pa]
theorem Dx (hn:gs.length≤20):∀ (P:List Nat) (o:List (List Nat)) (x8:Option V),(∀ k∈P,k<gs.length)→o.length+P.length≤1000 →
  ∃ y8,laF (P.map fun k=>.int (k:Nat)) (lM WS ov all inl gs sv w x8 X9 (some (.ref 0))) [.list (o.map S)] .next (lM WS ov all inl gs sv w y8 X9 (some (.ref 0))) [.list ((o++oI inl gs P).map S)]
 | [],o,x8,h,hO=>⟨x8,by rw [show oI inl gs []=[] from rfl,List.append_nil]; exact fN⟩
 | k::P,o,x8,h,hO=>by
  have hO:o.length+(P.length+1)≤1000:=hO
  refine uZ (Dx hn P (o++[if inl=true then bl (gs.getD k []) else dig k]) (some (.int k)) (fun k hk=>h k (.tail _ hk)) (by rw [List.length_append,Nat.add_assoc]; show o.length+(1+P.length)≤1000; rw [Nat.add_comm 1]; exact hO)) fun y8 ih=>?_
  rw [List.append_assoc] at ih
  exact HR (h k (.head _)) hn (Nat.le_trans (Nat.le_add_right ..) hO) ih
theorem Dy (hg:∀ g∈gs,Grp mode sh g) (hn:gs.length≤20) (hP:∀ k∈P,k<gs.length) (hl:P.length≤20) :
  (lB 8 (lM WS ov all inl gs sv w x8 (some (be P)) none) [] fun f _ G=>.ok (f,G)).tt (fH false (.ok (S (EY all inl gs P)))):=by
 have hok:=Dw (inl:=inl) hg hn hP
 have hol:(oI inl gs P).length=P.length:=List.length_map ..
 have hj:=ui (ws:=oI inl gs P) (fun w hw=>⟨(hok w hw).1,Nat.le_trans (hok w hw).2 (by decide)⟩) (by rw [hol]; exact Nat.le_trans hl (by decide)) (Nat.le_trans (pY fun w hw=>(hok w hw).2) (by rw [hol]; exact Nat.le_trans (Nat.mul_le_mul_right _ hl) (by decide)))
 have hN:(P.map fun k=>V.int (k:Nat)).length≤big:=by rw [List.length_map]; exact Nat.le_trans hl (by decide)
 refine aj (Dx (all:=all) (inl:=inl) (WS:=WS) (ov:=ov) (sv:=sv) (w:=w) (X9:=some (be P)) hn P [] x8 hP (by rw [List.length_nil,Nat.zero_add]; exact Nat.le_trans hl (by decide))) fun y8 h=>?_
 rw [List.nil_append] at h
 clear hok hol
 unfold EY
 generalize oI inl gs P=O at *
 cases all with
 | true=>exact goT (rfl:Res.ok (S (cg [32] (O.map enc)))=.ok (S (cg [32] (O.map enc)))) [xS 2 h,xP 5 hj]
 | false =>
  cases O with
  | nil=>cases inl with
   | true=>exact goT (rfl:Res.ok (S [])=.ok (S [])) [xS 2 h]
   | false=>exact goT (rfl:Res.ok (S [45,49])=.ok (S [45,49])) [xS 2 h]
  | cons a O =>
   have lt:decide ((0:Int)<(((a::O).map S).length:Nat))=true:=decide_eq_true (Int.natCast_pos.mpr (Nat.succ_pos _))
   show (lB 8 _ [] _).tt (fH false (.ok (S a)))
   exact goT (rfl:Res.ok (S a)=.ok (S a)) [xS 2 h,xC 7 lt]
end
end
section
section
variable {α:Type}{L:α→Prop}{gs:List (List Wo)}{b1 b2 b4:Bool}{WS sv wv:V}{o:To}{i pl:Int}{start:Nat}{w:List Nat}{Q:V}{ks:List Str}{us:List V}{k:Fl→LV→AH→Tr α}
theorem ML (hn:o.fl.contains Cm=b2) (hc:¬ (fZ o.how=[115,111,114,116,101,100]∧b1=false∧b2=false)) (hr:bz [o.v,aq gs,wv,sv] (.ok Q))
  (q:(lB 8 (lM WS o.v b1 b4 gs sv (some wv) none (some Q) none) [] k).tt L):(lB 7 (lM WS o.v b1 b4 gs sv (some wv) none none none) [] k).tt L:=by
 by_cases h:fZ o.how=[115,111,114,116,101,100]
 ·cases b1 with
  | true=>exact goK q 0 [xC 4 (seT h),xP 10 hr]
  | false=>cases b2 with
   | true=>exact goK q 0 [xC 4 (seT h),xC 8 (nB hn),xP 4 hr]
   | false=>exact absurd ⟨h,rfl,rfl⟩ hc
 ·exact goK q 0 [xC 4 (seF h),xC 1 (seF h),xP 4 hr]
theorem OV (hn:o.fl.contains Cm=b2) (hc:¬ (fZ o.how=[115,111,114,116,101,100]∧b1=false∧b2=false)) (hr:bz [o.v,aq gs,wv,sv] (.ex ks us)):(lB 7 (lM WS o.v b1 b4 gs sv (some wv) none none none) [] fun f _ G=>.ok (f,G)).tt (fH false (.ex ks us)):=by
 by_cases h:fZ o.how=[115,111,114,116,101,100]
 ·cases b1 with
  | true=>exact goT (rfl:Res.ex ks us=.ex ks us) [xC 4 (seT h),xP 10 hr]
  | false=>cases b2 with
   | true=>exact goT (rfl:Res.ex ks us=.ex ks us) [xC 4 (seT h),xC 8 (nB hn),xP 4 hr]
   | false=>exact absurd ⟨h,rfl,rfl⟩ hc
 ·exact goT (rfl:Res.ex ks us=.ex ks us) [xC 4 (seF h),xC 1 (seF h),xP 4 hr]
theorem MM (h:fZ o.how=[115,111,114,116,101,100]) (hn:o.fl.contains Cm=false) (hr:cH [o.v,aq gs,wv,sv] (.ok (.int pl)))
  (q:(lB 8 (lM WS o.v false b4 gs sv (some wv) (some (.int pl)) (some (.lst (if 0≤pl then [.int pl] else []))) none) [] k).tt L):(lB 7 (lM WS o.v false b4 gs sv (some wv) none none none) [] k).tt L:=by
 by_cases z:0≤pl
 ·rw [if_pos z] at q
  exact goK q 1 [xC 4 (seT h),xC 8 (nB hn),xP 4 hr,xC 3 (dT z)]
 ·rw [if_neg z] at q
  exact goK q 0 [xC 4 (seT h),xC 8 (nB hn),xP 4 hr,xC 3 (dF z)]
theorem J9 (h:fZ o.how=[103,108,111,98]) (hw:aG [] WS (.int (-1))=some wv) (q:(lB 7 (lM WS o.v b1 b4 gs sv (some wv) none none none) [] k).tt L):(lB 6 (lM WS o.v b1 b4 gs sv none none none none) [] k).tt L:=by
 exact goK q 0 [xC 4 (seT h),xV 2 hw]
theorem MN (h:¬ fZ o.how=[103,108,111,98]) (hw:aG [] WS (.int (-1))=some Q) (hk:cE [S (fw o.mode),Q] (.ok wv)) (q:(lB 7 (lM WS o.v b1 b4 gs sv (some wv) none none none) [] k).tt L):(lB 6 (lM WS o.v b1 b4 gs sv none none none none) [] k).tt L:=by
 exact goK q 0 [xC 4 (seF h),xV 4 hw,xP 0 hk]
theorem OX (h:¬ fZ o.how=[103,108,111,98]) (hw:aG [] WS (.int (-1))=some Q) (hk:cE [S (fw o.mode),Q] (.ex ks us)):(lB 6 (lM WS o.v b1 b4 gs sv none none none none) [] fun f _ G=>.ok (f,G)).tt (fH false (.ex ks us)):=by
 exact goT (rfl:Res.ex ks us=.ex ks us) [xC 4 (seF h),xV 4 hw,xP 0 hk]
theorem OY (h:o.start=.none) (q:(lB 6 (lM WS o.v b1 b4 gs (.int (0:Nat)) none none none none) [] k).tt L):(lB 5 (lM WS o.v b1 b4 gs (.int 0) none none none none) [] k).tt L:=by
 obtain ⟨m,h1,d,s,st,fl,fv⟩:=o
 have h:st=.none:=h
 subst h
 exact goK q 5 []
theorem OZ (i:Int):(if (0:Int)<i then i else 0)=(i.toNat:Nat):=by
 by_cases h:0<i
 ·rw [if_pos h]; exact (Int.toNat_of_nonneg (Int.le_of_lt h)).symm
 ·rw [if_neg h,Int.toNat_of_nonpos (Int.not_lt.mp h)]; rfl
theorem KP (i:Int):nA [] ⟨⟨[109,97,120]⟩⟩ [.int 0,.int i]=some (.int (i.toNat:Nat)):=congrArg (fun i=>some (V.int i)) (OZ i)
theorem O0 (h:o.start=S w) (hi:bO [S w,.int ((gs.length:Int) - 1)] (.ok (.int i))) (hl:i.toNat<gs.length) (q:(lB 6 (lM WS o.v b1 b4 gs (.int i.toNat) none none none none) [] k).tt L):(lB 5 (lM WS o.v b1 b4 gs (.int 0) none none none none) [] k).tt L:=by
 have e:(gs.map itS).length=gs.length:=List.length_map ..
 have mx:=KP i
 obtain ⟨m,h1,d,s,st,fl,fv⟩:=o
 have h:st=S w:=h
 subst h
 rw [← e] at hi hl
 exact goK q 0 [xP 10 hi,xV 0 mx,xC 5 (leF hl)]
theorem MP (h:o.start=S w) (hi:bO [S w,.int ((gs.length:Int) - 1)] (.ex ks us)):(lB 5 (lM WS o.v b1 b4 gs (.int 0) none none none none) [] fun f _ G=>.ok (f,G)).tt (fH false (.ex ks us)):=by
 have e:(gs.map itS).length=gs.length:=List.length_map ..
 obtain ⟨m,h1,d,s,st,fl,fv⟩:=o
 have h:st=S w:=h
 subst h
 rw [← e] at hi
 exact goT (rfl:Res.ex ks us=.ex ks us) [xP 10 hi]
theorem MQ (h:o.start=S w) (hi:bO [S w,.int ((gs.length:Int) - 1)] (.ok (.int i))) (hl:gs.length≤i.toNat):(lB 5 (lM WS o.v b1 b4 gs (.int 0) none none none none) [] fun f _ G=>.ok (f,G)).tt (fH false (.ok (S (if (b1||b4)=true then [] else [45,49])))):=by
 have e:(gs.map itS).length=gs.length:=List.length_map ..
 have mx:=KP i
 obtain ⟨m,h1,d,s,st,fl,fv⟩:=o
 have h:st=S w:=h
 subst h
 rw [← e] at hi hl
 cases b1 with
 | true=>exact goT (rfl:Res.ok (S [])=.ok (S [])) [xP 10 hi,xV 0 mx,xC 5 (leT hl)]
 | false=>cases b4 with
  | true=>exact goT (rfl:Res.ok (S [])=.ok (S [])) [xP 10 hi,xV 0 mx,xC 5 (leT hl)]
  | false=>exact goT (rfl:Res.ok (S [45,49])=.ok (S [45,49])) [xP 10 hi,xV 0 mx,xC 5 (leT hl)]
theorem l0 {ws:List (List Nat)}(hl:3≤ws.length) (hs:bq [.lst (ws.map S)] (.ok o.v)) (h1:o.fl.contains EM=b1) (h4:o.fl.contains OD=b4) (hw:aG [] (.lst (ws.map S)) (.int (-2))=some Q) (hp:bY [Q] (.ok (aq gs)))
  (q:(lB 5 (lM (.lst (ws.map S)) o.v b1 b4 gs (.int 0) none none none none) [] k).tt L):(lB 0 [some .none,some (.lst (ws.map S)),none,none,none,none,none,none,none,none,none] [] k).tt L:=by
 have e:(ws.map S).length=ws.length:=List.length_map ..
 rw [← e] at hl
 subst h1 h4
 exact goK q 0 [xC 4 (ltF hl),xP 1 hs,xV 8 hw,xP 0 hp]
theorem MR {ws:List (List Nat)}(hl:3≤ws.length) (hs:bq [.lst (ws.map S)] (.ex ks us)):(lB 0 [some .none,some (.lst (ws.map S)),none,none,none,none,none,none,none,none,none] [] fun f _ G=>.ok (f,G)).tt (fH false (.ex ks us)):=by
 have e:(ws.map S).length=ws.length:=List.length_map ..
 rw [← e] at hl
 exact goT (rfl:Res.ex ks us=.ex ks us) [xC 4 (ltF hl),xP 1 hs]
end
end
section
structure Row (how mode sh:Nat) (f:Int) (which:Nat) (gs:List (List Wo)) (ps:List Pc) (wt:Wo):Prop where
 hh:how<4
 hm:mode<3
 hs:sh<3
 hw:which<12
 g:∀ g∈gs,Grp mode sh g
 n:gs.length≤6
 pc:∀ p∈ps,p∈pcs
 pn:ps.length≤3
 wd:wt∈dom mode
 srt:1<how→ke mode sh gs∧oA mode sh (bit f 8) (bit f 16) gs
set_option genCtorIdx false in
inductive Out
 | gave (t:List Nat)
 | raised (why:List Nat) (code:V)
noncomputable def Out.res:Out→Res
 | .gave t=>.ok (S t)
 | .raised why code=>.ex Az (AA why code)
noncomputable def d0 (which n:Nat):Nat:=((ly which ((n:Int) - 1)).getD 0).toNat
noncomputable def dR (how mode sh:Nat) (f:Int) (gs:List (List Wo)) (ps:List Pc) (wt:Wo) (start:Nat):Option (List Nat) :=
 if 1<how∧bit f 1=false∧bit f 2=false then some (gh how start gs.length (ssF f mode sh wt gs))
 else iV (bit f 1) (bit f 2) ((gs.drop start).map fun g=>gT how mode (bit f 8) ps wt (aN sh g)) start []
noncomputable def rm (f:Int):List Nat:=if (bit f 1||bit f 4)=true then [] else [45,49]
noncomputable def vo (f:Int) (gs:List (List Wo)):Option (List Nat)→Out
 | some P=>.gave (EY (bit f 1) (bit f 4) gs P)
 | none=>.raised (cf [49,120]) bu
noncomputable def zd (how mode sh:Nat) (f:Int) (which:Nat) (gs:List (List Wo)) (ps:List Pc) (wt:Wo):Out :=
 if ((how==3)&&(bit f 1||bit f 2))=true then .raised uI oH
 else if which=11 then .raised mS jW
 else if 3≤which∧gs.length≤d0 which gs.length then .gave (rm f)
 else if 0<how∧mode=2∧wt.n=none then .raised (cf [49,120]) bu
 else vo f gs (dR how mode sh f gs ps wt (d0 which gs.length))
noncomputable def gi (gs:List (List Wo)):List Nat:=cg [32] ((gs.map bl).map enc)
noncomputable def bD (how:Nat) (ps:List Pc) (wt:Wo):List Nat:=if how=0 then mO ps else wt.t
noncomputable def wsN (how mode sh:Nat) (f:Int) (which:Nat) (gs:List (List Wo)) (ps:List Pc) (wt:Wo):List (List Nat) :=
 [108,115,101,97,114,99,104]::(dW how mode sh f (bI which)++[gi gs,bD how ps wt])
section
variable {how mode sh start:Nat}{f:Int}{which:Nat}{gs:List (List Wo)}{ps:List Pc}{wt:Wo}{o:To}{WS:V}
theorem Dz (r:∀ g∈gs,Grp mode sh g) (n:gs.length≤6):((gs.map bl).map (·.length)).sum≤600:=by
 have h:=pY (f:=fun w:List Nat=>w.length) (B:=100) (l:=gs.map bl) fun w hw=>by
  obtain ⟨g,hg,rfl⟩:=List.mem_map.mp hw
  exact (r g hg).plain.2
 rw [List.length_map] at h
 exact Nat.le_trans h (Nat.mul_le_mul_right 100 n)
theorem EZ (r:Row how mode sh f which gs ps wt):bY [S (gi gs)] (.ok (aq gs)):=by
 have h1:=Dz r.g r.n
 have h2:=yD (ws:=gs.map bl)
 have h3:=pV [32] ((gs.map bl).map enc)
 rw [List.length_map (f:=enc),List.length_map,List.length_singleton,Nat.mul_one] at h3
 rw [List.length_map] at h2
 have n:=r.n
 have k:=uh (gs.map bl) (t:=gi gs) (Nat.le_trans h3 (Nat.le_trans (Nat.add_le_add (Nat.le_trans h2 (Nat.add_le_add h1 (Nat.mul_le_mul_left 2 n))) n) (by decide))) rfl fun w hw=>by
  obtain ⟨g,hg,rfl⟩:=List.mem_map.mp hw
  exact (r.g g hg).plain.1.1
 rw [List.map_map] at k
 exact k
theorem A0 (h:how<4):fZ how=[115,111,114,116,101,100]↔1<how:=by
 match how,h with
 | 0,_=>decide
 | 1,_=>decide
 | 2,_=>decide
 | 3,_=>decide
theorem Pl {α:Type}{x:α}{l:List α}{n:Nat}(h:x∈l.take n):x∈l:=List.mem_of_mem_take h
theorem qk {n:Nat}{F:Nat→Int}(hs:start≤n):(∀ k∈gh how start n F,k<n)∧(gh how start n F).length≤1:=by
 unfold gh
 split
 ·refine ⟨fun k hk=>?_,by rw [List.length_take]; exact Nat.min_le_left ..⟩
  have:=(List.mem_filter.mp (List.mem_of_mem_take hk)).1
  rw [List.mem_range'_1,Nat.add_sub_of_le hs] at this
  exact this.2
 ·split
  ·refine ⟨fun k hk=>?_,Nat.le_refl _⟩
   rename_i z
   have key:∀ (m j:Nat) (a:Int),a<(j+m:Nat)→db F j m a<(j+m:Nat):=by
    intro m
    induction m with
    | zero=>intro j a h; exact h
    | succ m ih =>
     intro j a h
     unfold db
     rw [List.range'_succ,List.foldl_cons]
     have e:j+1+m=j+(m+1):=Nat.add_right_comm ..
     have:=ih (j+1) (if 0≤F j then (j:Int) else a) (by rw [e]; split; exact Int.ofNat_lt.mpr (Nat.lt_add_of_pos_right (Nat.succ_pos m)); exact h)
     rw [e] at this
     exact this
   have:=key (n - start) start ((start:Int) - 1)
   rw [Nat.add_sub_of_le hs] at this
   rw [List.mem_singleton.mp hk]
   exact (Int.toNat_lt z).mpr (this (Int.lt_of_lt_of_le (Int.sub_lt_self _ (by decide)) (Int.ofNat_le.mpr hs)))
  ·exact ⟨nofun,Nat.zero_le _⟩
theorem oJ {all no:Bool}:∀ (l:List (Option Bool)) (k:Nat) (A P:List Nat),iV all no l k A=some P→(∀ j∈A,j<k)→A.length≤k→(∀ j∈P,j<k+l.length)∧P.length≤k+l.length
 | [],k,A,P,h,hA,hl=>by
  obtain rfl:A=P:=sj h
  exact ⟨hA,hl⟩
 | none::r,k,A,P,h,hA,hl=>nS h
 | some b::r,k,A,P,h,hA,hl=>by
  rw [iV] at h
  rw [List.length_cons,Nat.add_comm r.length,← Nat.add_assoc]
  have ap1:∀ j∈A++[k],j<k+1:=fun j hj=>(List.mem_append.mp hj).elim (fun h=>Nat.lt_succ_of_lt (hA j h)) fun h=>List.mem_singleton.mp h ▸ Nat.lt_succ_self k
  have ap2:(A++[k]).length≤k+1:=by rw [List.length_append]; exact Nat.succ_le_succ hl
  split at h
  ·split at h
   ·exact oJ r (k+1) (A++[k]) P h ap1 ap2
   ·obtain rfl:A++[k]=P:=sj h
    exact ⟨fun j hj=>Nat.lt_of_lt_of_le (ap1 j hj) (Nat.le_add_right ..),Nat.le_trans ap2 (Nat.le_add_right ..)⟩
  ·exact oJ r (k+1) A P h (fun j hj=>Nat.lt_succ_of_lt (hA j hj)) (Nat.le_succ_of_le hl)
theorem Cr {pl lo fo:Int}{a:Nat}{F:Nat→Int}{n:Nat}(hh:how<4) (h1:1<how) (hl:lo+1=(a:Nat)) (hf:uE (how==3) start n F a a fo) (e:pl=if (how==3)=true then lo else fo):be (gh how start n F)=.lst (if 0≤pl then [.int pl] else []):=by
 rcases (Nat.lt_or_eq_of_le (Nat.le_of_lt_succ hh)).imp_left (fun q=>Nat.le_antisymm (Nat.le_of_lt_succ q) h1) with rfl | rfl
 ·have e:pl=fo:=e
  subst e
  have q:=Cp hf
  show be (List.take 1 _)=_
  rw [← q]
  split
  ·rename_i z; show V.lst [.int (pl.toNat:Nat)]=_; rw [Int.toNat_of_nonneg z]
  ·rfl
 ·have e:pl=lo:=e
  subst e
  have q:=AT hf hl
  show be (if 0≤db F start (n - start) ((start:Int) - 1) then _ else _)=_
  rw [q]
  split
  ·rename_i z; show V.lst [.int (pl.toNat:Nat)]=_; rw [Int.toNat_of_nonneg z]
  ·rfl
noncomputable abbrev iw:Fl→LV→AH→Tr (Fl × AH):=fun f _ G=>.ok (f,G)
theorem KR (r:Row how mode sh f which gs ps wt) (a:Ask o how mode sh f ps wt) (hst:start≤gs.length) :
  (lB 7 (lM WS o.v (bit f 1) (bit f 4) gs (.int start) (some (dz how mode ps wt)) none none none) [] iw).tt (fH false (vo f gs (dR how mode sh f gs ps wt start)).res):=by
 have hn:gs.length≤big:=Nat.le_trans r.n (by decide)
 have hn2:gs.length≤20:=Nat.le_trans r.n (by decide)
 have hq:=A0 r.hh
 have eh:fZ o.how=fZ how:=congrArg fZ a.fl.how
 have fn:=a.fl.no
 unfold dR
 by_cases c:1<how∧bit f 1=false∧bit f 2=false
 ·rw [if_pos c]
  refine bW c fun c1 c2 c3=>?_
  have hk:=a.wt (Nat.ne_of_gt (Nat.lt_of_succ_lt c1))
  refine ar (r.srt c1) fun hd' hsort=>?_
  obtain ⟨a1,lo,fo,hl,hf,hs⟩:=mQ a hk r.g hd' hsort hst
  have ew:dz how mode ps wt=fy mode wt:=if_neg (Nat.ne_of_gt (Nat.lt_of_succ_lt c1))
  have e:=Cr r.hh c1 hl hf rfl
  refine ar (qk (how:=how) (F:=ssF f mode sh wt gs) hst) fun p1 p2=>?_
  have t:(lB 8 (lM WS o.v (bit f 1) (bit f 4) gs (.int start) (some (dz how mode ps wt)) (some (.int (if (how==3)=true then lo else fo))) (some (be (gh how start gs.length (ssF f mode sh wt gs)))) none) [] iw).tt (fH false (vo f gs (some (gh how start gs.length (ssF f mode sh wt gs)))).res):=Dy (all:=bit f 1) (inl:=bit f 4) (WS:=WS) (ov:=o.v) (sv:=.int start) (w:=some (dz how mode ps wt)) (x8:=some (.int (if (how==3)=true then lo else fo))) r.g hn2 p1 (Nat.le_trans p2 (by decide))
  rw [e] at t
  rw [c3] at fn
  rw [c2] at t ⊢
  rw [ew] at t ⊢
  exact MM (eh.trans (hq.mpr c1)) fn hs t
 ·rw [if_neg c]
  have hl:=mP a r.g hn (Nat.le_trans hst hn)
  have hc:¬ (fZ o.how=[115,111,114,116,101,100]∧bit f 1=false∧bit f 2=false):=fun h=>c ⟨hq.mp (eh.symm.trans h.1),h.2⟩
  cases hv:iV (bit f 1) (bit f 2) ((gs.drop start).map fun g=>gT how mode (bit f 8) ps wt (aN sh g)) start [] with
  | some P =>
   refine ar (oJ _ _ _ _ hv nofun (Nat.zero_le _)) fun p1 p2=>?_
   rw [List.length_map,List.length_drop,Nat.add_sub_of_le hst] at p1 p2
   exact ML fn hc (hl.1 P hv) (Dy r.g hn2 p1 (Nat.le_trans p2 hn2))
  | none=>exact OV fn hc (hl.2 hv)
theorem KS (r:Row how mode sh f which gs ps wt) (fl:Flg o how f) (mo:o.mode=mode) (sh':o.sh=sh) (hw:aG [] WS (.int (-1))=some (S (bD how ps wt))) (hst:start≤gs.length) :
  (lB 6 (lM WS o.v (bit f 1) (bit f 4) gs (.int start) none none none none) [] iw).tt (fH false (if 0<how∧mode=2∧wt.n=none then Out.raised (cf [49,120]) bu else vo f gs (dR how mode sh f gs ps wt start)).res):=by
 have eh:fZ o.how=fZ how:=congrArg fZ fl.how
 by_cases h0:how=0
 ·rw [if_neg fun h=>absurd h.1 (by rw [h0]; decide)]
  have t:=KR (WS:=WS) r ⟨fl,mo,sh',r.hm,r.hs,r.hh,r.pc,r.pn,fun h=>absurd h0 h⟩ hst
  rw [bD,if_pos h0] at hw
  rw [dz,if_pos h0] at t
  exact J9 (eh.trans (congrArg fZ h0)) hw t
 ·have hq:¬ fZ o.how=[103,108,111,98]:=fun h=>Co h0 (eh.symm.trans h)
  rw [bD,if_neg h0] at hw
  by_cases hn:mode=2∧wt.n=none
  ·rw [if_pos ⟨Nat.pos_of_ne_zero h0,hn⟩]
   have wd:=r.wd
   obtain ⟨rfl,hn⟩:=hn
   rw [yT wd hn] at hw
   exact OX hq hw (by rw [mo]; exact Dc)
  ·rw [if_neg fun h=>hn h.2]
   have hk:cw mode wt:=⟨r.wd,fun e=>Option.isSome_iff_ne_none.mpr fun q=>hn ⟨e,q⟩⟩
   have t:=KR (WS:=WS) r ⟨fl,mo,sh',r.hm,r.hs,r.hh,r.pc,r.pn,fun _=>hk⟩ hst
   rw [dz,if_neg h0] at t
   exact MN hq hw (by rw [mo]; exact lq hk r.hm) t
theorem O3 (r:Row how mode sh f which gs ps wt) (fl:Flg o how f) (mo:o.mode=mode) (sh':o.sh=sh) (st:o.start=stV (bI which) (!(bI which).isEmpty)) (hw:aG [] WS (.int (-1))=some (S (bD how ps wt))) :
  (lB 5 (lM WS o.v (bit f 1) (bit f 4) gs (.int 0) none none none none) [] iw).tt (fH false (if which=11 then Out.raised mS jW else if 3≤which∧gs.length≤d0 which gs.length then Out.gave (rm f) else if 0<how∧mode=2∧wt.n=none then Out.raised (cf [49,120]) bu else vo f gs (dR how mode sh f gs ps wt (d0 which gs.length))).res):=by
 rcases Nat.lt_or_ge which 3 with q | q
 ·rw [if_neg (Nat.ne_of_lt (Nat.lt_trans q (by decide))),if_neg fun h=>absurd h.1 (Nat.not_le.mpr q)]
  rw [wS q] at st
  have e0:d0 which gs.length=0:=by
   match which,q with
   | 0,_=>rfl
   | 1,_=>rfl
   | 2,_=>rfl
  rw [e0]
  exact OY st (KS r fl mo sh' hw (Nat.zero_le _))
 ·rw [uL q r.hw] at st
  by_cases q2:which=11
  ·rw [if_pos q2]
   subst q2
   exact MP st EU
  ·rw [if_neg q2]
   obtain ⟨i,hi,hx⟩:=uK (which:=which) (last:=(gs.length:Int) - 1) q (Nat.lt_of_le_of_ne (Nat.le_of_lt_succ r.hw) q2)
   have e:d0 which gs.length=i.toNat:=by rw [d0,hi]; rfl
   rw [e]
   by_cases q3:gs.length≤i.toNat
   ·rw [if_pos ⟨q,q3⟩]
    exact MQ st hx q3
   ·rw [if_neg fun h=>q3 h.2]
    exact O0 st hx (Nat.not_le.mp q3) (KS r fl mo sh' hw (Nat.le_of_lt (Nat.not_le.mp q3)))
theorem uM:(wsN how mode sh f which gs ps wt).map S=S [108,115,101,97,114,99,104]::(dW how mode sh f (bI which)).map S++[S (gi gs),S (bD how ps wt)]:=by
 show S _::(dW how mode sh f (bI which)++[gi gs,bD how ps wt]).map S=_
 rw [List.map_append]; rfl
theorem Ct:(wsN how mode sh f which gs ps wt).length=1+(dW how mode sh f (bI which)).length+2:=by
 show (dW how mode sh f (bI which)++[gi gs,bD how ps wt]).length+1=_
 rw [List.length_append,Nat.add_comm 1 (List.length _),Nat.add_right_comm]; rfl
theorem sg {c:Prop} [Decidable c] {a b:Out}(ha:a.res.pu=true) (hb:b.res.pu=true):(if c then a else b).res.pu=true:=by
 split
 ·exact ha
 ·exact hb
theorem Ka {P:Option (List Nat)}:(vo f gs P).res.pu=true:=by cases P <;> rfl
theorem O4 (h:o.start.pu=true∧V.puL o.fv=true):o.v.pu=true:=by
 rw [To.v,V.pu,V.puL,V.puL,V.puL,V.puL,V.puL,oq,V.puL,V.puL,h.1,V.puL,V.pu,h.2]; rfl
theorem ze (r:Row how mode sh f which gs ps wt):bM [.none,.lst ((wsN how mode sh f which gs ps wt).map S)] (zd how mode sh f which gs ps wt).res:=by
 have hr:=ES (f:=f) (st:=bI which) (w0:=[108,115,101,97,114,99,104]) (a:=gi gs) (p:=bD how ps wt) r.hh r.hm r.hs (HQ r.hw)
 have fl:=(Du (f:=f) (st:=bI which) r.hh r.hm r.hs).2
 have pt:=O4 fl.pu
 have pv:=a8 (f:=S) (fun _=>rfl) (wsN how mode sh f which gs ps wt)
 have pp:(V.puL [.none,.lst ((wsN how mode sh f which gs ps wt).map S)]&&bo bL [.none,.lst ((wsN how mode sh f which gs ps wt).map S)])=true:=by rw [V.puL,V.puL,V.pu,pv]; rfl
 have l3:3≤(wsN how mode sh f which gs ps wt).length:=by rw [Ct,Nat.add_comm 1,Nat.add_assoc]; exact Nat.le_add_left ..
 refine ⟨?_,pp,?_⟩
 ·exact sg rfl (sg rfl (sg rfl (sg rfl Ka)))
 show (lB 0 [some .none,some (.lst ((wsN how mode sh f which gs ps wt).map S)),none,none,none,none,none,none,none,none,none] [] iw).tt (fH false _)
 have eb:(((ER how mode sh f (bI which)).fl.contains Hx)&&((ER how mode sh f (bI which)).fl.contains EM||(ER how mode sh f (bI which)).fl.contains Cm))=((how==3)&&(bit f 1||bit f 2)):=by rw [fl.bis,fl.all,fl.no]
 unfold zd
 cases hb:(how==3)&&(bit f 1||bit f 2) with
 | true =>
  rw [if_pos rfl]
  exact MR l3 (MJ Ct hr (eb.trans hb))
 | false =>
  rw [if_neg (by decide)]
  have i2:aG [] (.lst ((wsN how mode sh f which gs ps wt).map S)) (.int (-2))=some (S (gi gs)):=by rw [uM]; exact EV
  have i1:aG [] (.lst ((wsN how mode sh f which gs ps wt).map S)) (.int (-1))=some (S (bD how ps wt)):=by rw [uM]; exact EX
  exact l0 l3 (J8 Ct pt hr (eb.trans hb)) fl.all fl.inl i2 (EZ r) (O3 r fl rfl rfl rfl i1)
end
end
section
structure Fq (f:Int):Prop where
 b1:(f.fmod 2==1)=bit f 1
 b0:(f.fmod 2==0)=!bit f 1
 m4:decide (0<f.fmod 4)=(bit f 1||bit f 2)
 z4:(f.fmod 4==0)=!(bit f 1||bit f 2)
theorem MS:((List.range 128).all fun k=>let f:Int:=(k:Nat); ((f.fmod 2==1)==bit f 1&&(f.fmod 2==0)==!bit f 1)&&(decide (0<f.fmod 4)==(bit f 1||bit f 2)&&(f.fmod 4==0)==!(bit f 1||bit f 2)))=true:=by kernel_rfl
theorem fq {k:Nat}(h:k<128):Fq (k:Nat):=ar (an (List.all_eq_true.mp MS k (List.mem_range.mpr h))) fun p q=>⟨eqB (an p).1,eqB (an p).2,eqB (an q).1,eqB (an q).2⟩
noncomputable def Out.v:Out→V
 | .gave t=>.tup [S [103,97,118,101],S t]
 | .raised why code=>ct why code
theorem Cu {ws:List V}{t:List Nat}(hp:V.puL ws=true) (h:bM [.none,.lst ws] (.ok (S t))):bZ [.lst ws] (.ok (Out.gave t).v):=by
 have pp:(V.puL [.lst ws]&&bo gm [.lst ws])=true:=by rw [V.puL,V.pu,hp]; rfl
 exact goP [xP 1 h] pp rfl
theorem zf {ws:List V}{why:List Nat}{code:V}(hp:V.puL ws=true) (hc:code.pu=true) (h:bM [.none,.lst ws] (.ex Az (AA why code))):bZ [.lst ws] (.ok (Out.raised why code).v):=by
 have pp:(V.puL [.lst ws]&&bo gm [.lst ws])=true:=by rw [V.puL,V.pu,hp]; rfl
 have pc:(Out.raised why code).v.pu=true:=by rw [Out.v,ct,V.pu,V.puL,V.puL,V.puL,V.puL,hc]; rfl
 exact goP [xP 1 h] pp pc
section
variable {α:Type}{L:α→Prop}{how mode which n:Nat}{f i:Int}{iv hv wv pv wh nv Q1 Q2:V}{x8 x9 x10 x11 x12 x13 x14:Option V}{w:List Nat}{k:Fl→LV→AH→Tr α}{xs:List V}{b:Bool}{o:Option Int}
noncomputable abbrev dM (how mode:Nat) (f:Int) (iv hv wv pv wh:V) (x8 x9 x10 x11 x12 x13 x14:Option V):LV:=[some (.int how),some (.int mode),some (.int f),some iv,some hv,some wv,some pv,some wh,x8,x9,x10,x11,x12,x13,x14]
noncomputable abbrev dB (i:Nat) (m:LV) (k:Fl→LV→AH→Tr α):Tr α:=evB (evS 8 jd) (g0.body.drop i) m [] k
theorem MT (h:how=3) (m4:decide (0<f.fmod 4)=true):(dB 0 (dM how mode f iv hv wv pv wh none none none none none none none) iw).tt (fH false (.ok (ct uI oH))):=by
 exact goT (rfl:Res.ok (ct uI oH)=.ok (ct uI oH)) [xC 3 (nT h),xC 4 m4]
theorem O5 (h:how=3→decide (0<f.fmod 4)=false) (hs:cv [wh,.int ((xs.length:Int) - 1)] (.ok (.tup [S w,nv]))) (q:(dB 2 (dM how mode f (.lst xs) hv wv pv wh (some (S w)) (some nv) none none none none none) k).tt L):(dB 0 (dM how mode f (.lst xs) hv wv pv wh none none none none none none none) k).tt L:=by
 by_cases z:how=3
 ·exact goK q 1 [xC 3 (nT z),xC 4 (h z),xP 4 hs]
 ·exact goK q 1 [xC 3 (nF z),xC 1 (nF z),xP 4 hs]
theorem MU:(dB 2 (dM how mode f iv hv wv pv wh (some (S [49,121])) (some .none) none none none none none) iw).tt (fH false (.ok (ct mS jW))):=by
 exact goT (rfl:Res.ok (ct mS jW)=.ok (ct mS jW)) []
theorem O6 (i:Int):nA [] ⟨⟨[109,97,120]⟩⟩ [.int i,.int 0]=some (.int (i.toNat:Nat)):=congrArg (fun i=>some (V.int i)) (by
 show (if i<(0:Int) then 0 else i)=_
 by_cases h:i<0
 ·rw [if_pos h,Int.toNat_of_nonpos (Int.le_of_lt h)]; rfl
 ·rw [if_neg h]; exact (Int.toNat_of_nonneg (Int.not_lt.mp h)).symm)
noncomputable abbrev noV (f:Int):V:=.tup [S [103,97,118,101],S (rm f)]
theorem O7 (b1:(f.fmod 2==1)=bit f 1) (q:(dB 5 (dM how mode f iv hv wv pv wh x8 (some (.int i.toNat)) none (some (noV f)) none none none) k).tt L):(dB 2 (dM how mode f iv hv wv pv wh x8 (some (.int i)) none none none none none) k).tt L:=by
 have mx:=O6 i
 unfold noV rm at q
 cases c1:bit f 1 with
 | true=>rw [c1] at b1 q; exact goK q 0 [xC 8 b1,xC 1 b1,xV 1 mx]
 | false=>cases c4:bit f 4 with
  | true=>rw [c1] at b1 q; rw [c4] at q; exact goK q 0 [xC 8 b1,xC 5 ((show ((f.fdiv 4).fmod 2==1)=true from c4)),xV 1 mx]
  | false=>rw [c1] at b1 q; rw [c4] at q; exact goK q 0 [xC 8 b1,xC 5 ((show ((f.fdiv 4).fmod 2==1)=false from c4)),xV 1 mx]
theorem MV (hw:w.isEmpty=false) (hl:xs.length≤n):(dB 5 (dM how mode f (.lst xs) hv wv pv wh (some (S w)) (some (.int n)) none (some (noV f)) none none none) iw).tt (fH false (.ok (noV f))):=by
 have h:¬ w=[]:=fun e=>by rw [e] at hw; exact ff hw.symm
 exact goT (rfl:Res.ok (noV f)=.ok (noV f)) [xC 3 (nB (seF h)),xC 5 (leT hl)]
theorem O8 (hl:w.isEmpty=false→n<xs.length) (q:(dB 6 (dM how mode f (.lst xs) hv wv pv wh (some (S w)) (some (.int n)) none (some nv) none none none) k).tt L):(dB 5 (dM how mode f (.lst xs) hv wv pv wh (some (S w)) (some (.int n)) none (some nv) none none none) k).tt L:=by
 cases w with
 | nil=>exact goK q 6 []
 | cons a w=>exact goK q 0 [xC 9 (leF (hl rfl))]
theorem MW (h:0<how) (hn:bA [.tup [S w,.none]] (.ok (ct (cf [49,120]) bu))):(dB 6 (dM how 2 f iv hv (.tup [S w,.none]) pv wh x8 x9 none x11 none none none) iw).tt (fH false (.ok (ct (cf [49,120]) bu))):=by
 exact goT (rfl:Res.ok (ct (cf [49,120]) bu)=.ok (ct (cf [49,120]) bu)) [xC 3 (ltT h),xP 10 hn]
theorem O9 (h:¬ (0<how∧mode=2∧o=none)) (q:(dB 7 (dM how mode f iv hv (.tup [S w,mH o]) pv wh x8 x9 none x11 none none none) k).tt L):(dB 6 (dM how mode f iv hv (.tup [S w,mH o]) pv wh x8 x9 none x11 none none none) k).tt L:=by
 by_cases z:0<how
 ·by_cases y:mode=2
  ·cases o with
   | none=>exact absurd ⟨z,y,rfl⟩ h
   | some j=>exact goK q 5 [xC 3 (ltT z),xC 3 (nT y)]
  ·exact goK q 0 [xC 3 (ltT z),xC 3 (nF y),xC 1 (nF y)]
 ·exact goK q 0 [xC 3 (ltF (Nat.not_lt.mp z)),xC 1 (ltF (Nat.not_lt.mp z))]
theorem MX (h:1<how) (z4:(f.fmod 4==0)=true) (hs:fk [.int how,.int mode,.int f,hv,.int n,wv] (.ok Q1)) (q:(dB 8 (dM how mode f iv hv wv pv wh x8 (some (.int n)) none x11 (some Q1) (some (.tup [])) none) k).tt L):(dB 7 (dM how mode f iv hv wv pv wh x8 (some (.int n)) none x11 none none none) k).tt L:=by
 exact goK q 0 [xC 3 (ltT h),xC 4 z4,xP 6 hs]
theorem HS (z4:1<how→(f.fmod 4==0)=false) (hs:dw [.int how,.int mode,.int f,hv,.int n,wv,pv] (.ok (.tup [Q1,Q2]))) (q:(dB 8 (dM how mode f iv hv wv pv wh x8 (some (.int n)) none x11 (some Q1) (some Q2) none) k).tt L):(dB 7 (dM how mode f iv hv wv pv wh x8 (some (.int n)) none x11 none none none) k).tt L:=by
 by_cases z:1<how
 ·exact goK q 1 [xC 3 (ltT z),xC 4 (z4 z),xP 7 hs]
 ·exact goK q 1 [xC 3 (ltF (Nat.not_lt.mp z)),xC 1 (ltF (Nat.not_lt.mp z)),xP 7 hs]
theorem Pa:(dB 8 (dM how mode f iv hv wv pv wh x8 x9 none x11 x12 (some (ct (cf [49,120]) bu)) none) iw).tt (fH false (.ok (ct (cf [49,120]) bu))):=by
 exact goT (rfl:Res.ok (ct (cf [49,120]) bu)=.ok (ct (cf [49,120]) bu)) []
end
end
section
theorem MY {ws:List (List Nat)}(h:∀ w∈ws,okT w=true):aF [] .Eq (.lst (ws.map S)) (.lst [])=some ws.isEmpty:=by
 have k:=rY (g:=fun w=>PyData.str ⟨⟨w⟩⟩) (n:=1) fun w hw=>⟨h w hw,Nat.zero_le 1⟩
 exact yK ((Hd (ut (g:=fun w=>PyData.str ⟨⟨w⟩⟩) (fun _=>rfl) ws) (show V.data (.lst [])=some (.list []) from rfl) (Bool.and_eq_true_iff.mpr ⟨Bool.and_eq_true_iff.mpr ⟨k.1,rfl⟩,eH (Nat.le_trans (Nat.succ_le_succ k.2) (by decide))⟩)).trans (by cases ws <;> rfl))
theorem Kb:((List.range 20).all fun k=>okT (dig k))=true:=by kernel_rfl
section
variable {how mode sh n start:Nat}{f i:Int}{which:Nat}{gs:List (List Wo)}{ps:List Pc}{wt:Wo}{hv wv pv wh:V}{x8 x9:Option V}{P:List Nat}
theorem A2 {inl:Bool}(hg:∀ g∈gs,Grp mode sh g) (hn:gs.length≤20) (hP:∀ k∈P,k<gs.length):∀ w∈oI inl gs P,okT w=true:=by
 intro w hw
 obtain ⟨k,hk,rfl⟩:=List.mem_map.mp hw
 have hk:=hP k hk
 cases inl with
 | false=>exact List.all_eq_true.mp Kb k (List.mem_range.mpr (Nat.lt_of_lt_of_le hk hn))
 | true =>
  show okT (bl (gs.getD k []))=true
  rw [List.getD_eq_getElem?_getD,List.getElem?_eq_getElem hk]
  exact Hi (Hk (hg _ (List.getElem_mem hk)))
noncomputable abbrev duE:=sE (at_ g0.body 9)
theorem MZ {x12 x13:Option V}{k:Nat}(hk:k<gs.length) (hn:gs.length≤20):(cR jd 23 duE (dM how mode f (aq gs) hv wv pv wh x8 x9 none (some (noV f)) x12 x13 none) (.int k) []).tt fun x=>x=(some (S (if bit f 4=true then bl (gs.getD k []) else dig k)),[]):=by
 cases c:bit f 4 with
 | true =>
  have it:aG [] (aq gs) (.int k)=some (S (bl (gs.getD k []))):=jm _ (by rw [List.getD_eq_getElem?_getD,List.getElem?_eq_getElem hk]; rfl)
  have c:((f.fdiv 4).fmod 2==1)=true:=c
  exact goC [xC 5 c,xV 2 it]
 | false =>
  have st:=AZ (G:=[]) (Nat.lt_of_lt_of_le hk hn)
  have c:((f.fdiv 4).fmod 2==1)=false:=c
  exact goC [xC 5 c,xV 1 st]
theorem M0 {O:List (List Nat)}(b1:(f.fmod 2==1)=bit f 1) (hc:cQ (cR jd 23 duE (dM how mode f (aq gs) hv wv pv wh x8 x9 none (some (noV f)) (some (be P)) (some (.tup [])) none)) (P.map fun k=>.int (k:Nat)) [] (O.map S) [])
  (hk:∀ w∈O,okT w=true) (hj:bH [.lst (O.map S)] (.ok (S (cg [32] (O.map enc))))) :
  (dB 8 (dM how mode f (aq gs) hv wv pv wh x8 x9 none (some (noV f)) (some (be P)) (some (.tup [])) none) iw).tt (fH false (.ok (Out.gave (if bit f 1=true then cg [32] (O.map enc) else O.headD (if bit f 4=true then [] else [45,49]))).v)):=by
 have hnil:=MY hk
 cases O with
 | nil =>
  have e:(if bit f 1=true then cg [32] (([]:List (List Nat)).map enc) else ([]:List (List Nat)).headD (if bit f 4=true then [] else [45,49]))=rm f:=by unfold rm; cases bit f 1 <;> cases bit f 4 <;> rfl
  rw [e]
  exact goT (rfl:Res.ok (noV f)=.ok (noV f)) [xQ 6 hc]
 | cons a O =>
  cases c:bit f 1 with
  | true =>
   rw [c] at b1
   exact goT (rfl:Res.ok (Out.gave (cg [32] ((a::O).map enc))).v=.ok (Out.gave (cg [32] ((a::O).map enc))).v) [xQ 6 hc,xB 1 hnil,xC 6 b1,xP 1 hj]
  | false =>
   rw [c] at b1
   exact goT (rfl:Res.ok (Out.gave a).v=.ok (Out.gave a).v) [xQ 6 hc,xB 1 hnil,xC 6 b1]
theorem HT (q:Fq f) (hg:∀ g∈gs,Grp mode sh g) (hn:gs.length≤20) (hP:∀ k∈P,k<gs.length) (hl:P.length≤20) :
  (dB 8 (dM how mode f (aq gs) hv wv pv wh x8 x9 none (some (noV f)) (some (be P)) (some (.tup [])) none) iw).tt (fH false (.ok (Out.gave (EY (bit f 1) (bit f 4) gs P)).v)):=by
 have hok:=Dw (inl:=bit f 4) hg hn hP
 have hol:(oI (bit f 4) gs P).length=P.length:=List.length_map ..
 have hj:=ll (ws:=oI (bit f 4) gs P) (fun w hw=>Nat.le_trans (hok w hw).2 (by decide)) (by rw [hol]; exact Nat.le_trans hl (by decide)) (Nat.le_trans (pY fun w hw=>(hok w hw).2) (by rw [hol]; exact Nat.le_trans (Nat.mul_le_mul_right _ hl) (by decide)))
 refine M0 q.b1 ?_ (A2 hg hn hP) hj
 rw [oI,List.map_map]
 exact dj P fun k hk=>MZ (hP k hk) hn
theorem QJ (q:Fq f) (r:Row how mode sh f which gs ps wt) (hw:how≠0→cw mode wt) (hst:start≤gs.length) :
  (dB 7 (dM how mode f (aq gs) (.lst ((a9 sh gs).map Wo.v)) wt.v (.lst (ps.map Pc.v)) wh x8 (some (.int start)) none (some (noV f)) none none none) iw).tt (fH false (.ok (vo f gs (dR how mode sh f gs ps wt start)).v)):=by
 have hn:gs.length≤big:=Nat.le_trans r.n (by decide)
 have hn2:gs.length≤20:=Nat.le_trans r.n (by decide)
 have z4:=q.z4
 unfold dR
 by_cases c:1<how∧bit f 1=false∧bit f 2=false
 ·rw [if_pos c]
  refine bW c fun c1 c2 c3=>?_
  rw [c2,c3] at z4
  refine ar (qk (how:=how) (F:=ssF f mode sh wt gs) hst) fun p1 p2=>?_
  exact MX c1 z4 (rQ r.hm (hw (Nat.ne_of_gt (Nat.lt_of_succ_lt c1))) (r.srt c1).1 hn hst) (HT q r.g hn2 p1 (Nat.le_trans p2 (by decide)))
 ·rw [if_neg c]
  have hl:=rP (how:=how) (mode:=mode) (f:=f) (pl:=ps) (wt:=wt) (hs:=a9 sh gs) (start:=start) ⟨r.hm,hw,fun w hw'=>by
   obtain ⟨g,hg,rfl⟩:=List.mem_map.mp hw'
   exact oz (r.g g hg),r.pc,by rw [a9,List.length_map]; exact hn,q.b0⟩ (Nat.le_trans hst hn)
  have eh:((a9 sh gs).drop start).map (gT how mode (bit f 8) ps wt)=(gs.drop start).map fun g=>gT how mode (bit f 8) ps wt (aN sh g):=by
   unfold a9
   rw [← List.map_drop,List.map_map]
   rfl
  rw [eh] at hl
  have z:1<how→(f.fmod 4==0)=false:=fun h=>by
   rw [z4]
   cases e:bit f 1||bit f 2 with
   | true=>rfl
   | false=>exact absurd ⟨h,Bool.or_eq_false_iff.mp e⟩ c
  cases hv:iV (bit f 1) (bit f 2) ((gs.drop start).map fun g=>gT how mode (bit f 8) ps wt (aN sh g)) start [] with
  | some P =>
   refine ar (oJ _ _ _ _ hv nofun (Nat.zero_le _)) fun p1 p2=>?_
   rw [List.length_map,List.length_drop,Nat.add_sub_of_le hst] at p1 p2
   exact HS z (hl.1 P hv) (HT q r.g hn2 p1 (Nat.le_trans p2 hn2))
  | none=>exact HS z (hl.2 hv) Pa
end
end
section
theorem rp {c:Prop} [Decidable c] {a b:Out}(ha:a.v.pu=true) (hb:b.v.pu=true):(if c then a else b).v.pu=true:=by
 split
 ·exact ha
 ·exact hb
section
variable {how mode sh n start:Nat}{f i:Int}{which:Nat}{gs:List (List Wo)}{ps:List Pc}{wt:Wo}{hv wv pv wh:V}{x8 x9:Option V}{P:List Nat}
theorem HU {P:Option (List Nat)}:(vo f gs P).v.pu=true:=by cases P <;> rfl
theorem QK (q:Fq f) (r:Row how mode sh f which gs ps wt) (hst:start≤gs.length) :
  (dB 6 (dM how mode f (aq gs) (.lst ((a9 sh gs).map Wo.v)) wt.v (.lst (ps.map Pc.v)) wh x8 (some (.int start)) none (some (noV f)) none none none) iw).tt (fH false (.ok (if 0<how∧mode=2∧wt.n=none then Out.raised (cf [49,120]) bu else vo f gs (dR how mode sh f gs ps wt start)).v)):=by
 by_cases c:0<how∧mode=2∧wt.n=none
 ·rw [if_pos c]
  have wd:=r.wd
  obtain ⟨c1,rfl,c3⟩:=c
  have ht:=yT wd c3
  have ew:wt.v=.tup [S [49,120],.none]:=by rw [Wo.v,ht,c3]; rfl
  rw [ew]
  exact MW c1 lu
 ·rw [if_neg c]
  exact O9 c (QJ q r (fun h0=>⟨r.wd,fun e=>Option.isSome_iff_ne_none.mpr fun z=>c ⟨Nat.pos_of_ne_zero h0,e,z⟩⟩) hst)
theorem QM (q:Fq f) (r:Row how mode sh f which gs ps wt) :
  (dB 2 (dM how mode f (aq gs) (.lst ((a9 sh gs).map Wo.v)) wt.v (.lst (ps.map Pc.v)) wh (some (S (bI which))) (some (mH (ly which ((gs.length:Int) - 1)))) none none none none none) iw).tt (fH false (.ok (if which=11 then Out.raised mS jW else if 3≤which∧gs.length≤d0 which gs.length then Out.gave (rm f) else if 0<how∧mode=2∧wt.n=none then Out.raised (cf [49,120]) bu else vo f gs (dR how mode sh f gs ps wt (d0 which gs.length))).v)):=by
 have el:(gs.map itS).length=gs.length:=List.length_map ..
 by_cases q11:which=11
 ·rw [if_pos q11]
  subst q11
  exact MU
 ·rw [if_neg q11]
  have hx:∃ i,ly which ((gs.length:Int) - 1)=some i:=by
   rcases Nat.lt_or_ge which 3 with z | z
   ·match which,z with
    | 0,_=>exact ⟨_,rfl⟩
    | 1,_=>exact ⟨_,rfl⟩
    | 2,_=>exact ⟨_,rfl⟩
   ·exact ae (uK (last:=(gs.length:Int) - 1) z (Nat.lt_of_le_of_ne (Nat.le_of_lt_succ r.hw) q11)) fun i e _=>⟨i,e⟩
  obtain ⟨i,hi⟩:=hx
  have e:d0 which gs.length=i.toNat:=by rw [d0,hi]; rfl
  rw [hi,e]
  refine O7 q.b1 ?_
  by_cases c:3≤which∧gs.length≤i.toNat
  ·rw [if_pos c]
   exact MV (uL c.1 r.hw) (by rw [el]; exact c.2)
  ·rw [if_neg c]
   have hl:i.toNat≤gs.length:=by
    rcases Nat.lt_or_ge which 3 with z | z
    ·have e0:d0 which gs.length=0:=by
      match which,z with
      | 0,_=>rfl
      | 1,_=>rfl
      | 2,_=>rfl
     rw [← e,e0]; exact Nat.zero_le _
    ·exact Nat.le_of_not_le fun h=>c ⟨z,h⟩
   refine O8 (fun h=>?_) (QK q r hl)
   rw [el]
   rcases Nat.lt_or_ge which 3 with z | z
   ·rw [wS z] at h; exact ff h.symm
   ·exact Nat.not_le.mp fun h=>c ⟨z,h⟩
theorem HV (q:Fq f) (r:Row how mode sh f which gs ps wt):jf [.int how,.int mode,.int f,aq gs,.lst ((a9 sh gs).map Wo.v),wt.v,.lst (ps.map Pc.v),.int which] (.ok (zd how mode sh f which gs ps wt).v):=by
 have p1:=a8 oi (a9 sh gs)
 have p2:=a8 (f:=Pc.v) (fun _=>rfl) ps
 have pp:(V.puL [.int how,.int mode,.int f,aq gs,.lst ((a9 sh gs).map Wo.v),wt.v,.lst (ps.map Pc.v),.int which]&&bo g0 [.int how,.int mode,.int f,aq gs,.lst ((a9 sh gs).map Wo.v),wt.v,.lst (ps.map Pc.v),.int which])=true:=by
  rw [V.puL,V.puL,V.puL,V.puL,V.puL,V.puL,V.puL,uD,V.pu,p1,oi,V.pu,p2]; rfl
 have el:(gs.map itS).length=gs.length:=List.length_map ..
 have ls:=lz (which:=which) (last:=(gs.length:Int) - 1) r.hw
 refine ⟨rp rfl (rp rfl (rp rfl (rp rfl HU))),pp,?_⟩
 show (dB 0 (dM how mode f (aq gs) (.lst ((a9 sh gs).map Wo.v)) wt.v (.lst (ps.map Pc.v)) (.int which) none none none none none none none) iw).tt (fH false _)
 unfold zd
 have m4:=q.m4
 cases hb:(how==3)&&(bit f 1||bit f 2) with
 | true =>
  rw [if_pos rfl]
  exact MT (eq_of_beq (an hb).1) (m4.trans (an hb).2)
 | false =>
  rw [if_neg (by decide)]
  refine O5 (fun h=>?_) (by rw [el]; exact ls) (QM q r)
  rw [h] at hb
  exact m4.trans hb
theorem Cw (r:Row how mode sh f which gs ps wt):bZ [.lst ((wsN how mode sh f which gs ps wt).map S)] (.ok (zd how mode sh f which gs ps wt).v):=by
 have h:=ze r
 have hp:=a8 (f:=S) (fun _=>rfl) (wsN how mode sh f which gs ps wt)
 have hc:∀ w c,zd how mode sh f which gs ps wt=.raised w c→c.pu=true:=by
  intro w c e
  have k:(zd how mode sh f which gs ps wt).v.pu=true:=rp rfl (rp rfl (rp rfl (rp rfl HU)))
  rw [e,Out.v,ct,V.pu,V.puL,V.puL,V.puL,V.puL,V.puL] at k
  exact (an (an (an (an k).2).2).2).1
 generalize zd how mode sh f which gs ps wt=R at *
 cases R with
 | gave t=>exact Cu hp h
 | raised w c=>exact zf hp (hc w c rfl) h
end
end
section
section
variable {H:AH}{i n:Nat}{N:Int}{xs:List V}
noncomputable abbrev pn (H:AH) (i:Nat) (N:Int):AH:=H.set i (.list [.int N])
theorem M1 (e:H[i]? = some (.list xs)) {v:V}{k:Nat}(h:xs[k]? = some v):aG H (.ref i) (.int (k:Nat))=some v:=by
 have q:Kx H (.ref i) (k:Nat)=_:=cC e
 exact (congrArg Cv.v q).trans (congrArg Cv.v (cC (o:=cS xs (k:Nat)) h))
theorem Pb (e:H[i]? = some (.list xs)) {v:V}{k:Nat}(h:k<xs.length):j5 H (.ref i) (.int (k:Nat)) v=some (H.set i (.list (xs.set k v))):=by
 have q:FW H (.ref i) (.int (k:Nat)) v=_:=cC e
 exact (congrArg Cv.v q).trans (congrArg Cv.v (fx (eH h)))
theorem eG (hi:i<H.length) (c:(Nat.blt 0 n&&Nat.ble n 999999)=true):fK [.ref i,.int n] (pn H i N) (.ok (.int (N.fmod n))) (pn H i (N.fdiv n)):=by
 have e:(pn H i N)[i]? = some (.list [.int N]):=List.getElem?_set_self hi
 have i0:=M1 e (k:=0) rfl
 have f1:cA .Mod (.int N) (.int n)=some (.int (N.fmod n)):=congrArg Cv.v (fx c)
 have f2:cA .FloorDiv (.int N) (.int n)=some (.int (N.fdiv n)):=congrArg Cv.v (fx c)
 have s0:=Pb e (v:=.int (N.fdiv n)) (k:=0) (Nat.zero_lt_one)
 rw [List.set_set] at s0
 exact goH [xV 1 i0,xV 1 f1,xV 1 i0,xV 1 f2,xH 1 s0] rfl
theorem Rn (hi:i<H.length):(pn H i N).length=H.length:=List.length_set
theorem fm {a:Int}{m:Nat}(h:0<m):∃ j:Nat,a.fmod m=j∧j<m:=by
 have e:=Int.fmod_eq_emod_of_nonneg a (Int.natCast_nonneg m)
 have h1:=Int.emod_nonneg a (Int.natCast_ne_zero.mpr (Nat.ne_of_gt h))
 have h2:=Int.emod_lt_of_pos a (Int.natCast_pos.mpr h)
 rw [← e] at h1 h2
 obtain ⟨j,hj⟩:=Int.eq_ofNat_of_zero_le h1
 rw [hj] at h2 ⊢
 exact ⟨j,rfl,Int.ofNat_lt.mp h2⟩
noncomputable def qm (v:V):Prop:=(∃ t:List Nat,v=S t∧(∀ c∈t,c∈bv)∧t.length≤2)∨(∃ i:Nat,v=.int i)
theorem lA:dL [] (.ok (.lst (bT.map Wo.v))):=gR
theorem A3:(bv.map fun c=>eQ .sindex (S bv) [S [c]])=bv.map fun c=>some (.int (bv.idxOf c:Nat)):=by kernel_rfl
theorem Kc {c:Nat}(h:c∈bv):eQ .sindex (S bv) [S [c]]=some (.int (bv.idxOf c:Nat)):=List.map_inj_left.mp A3 c h
variable {md tv rv sz:V}{x4 x9:Option V}{t made:List Nat}{k:Nat}{m':LV}{G':AH}
noncomputable abbrev lwM (md tv rv:V) (i:Nat) (x4:Option V) (t made:List Nat) (sz:V) (x9:Option V):LV:=[some md,some tv,some rv,some (.ref i),x4,some (S t),some (S bv),some (S made),some sz,x9]
noncomputable abbrev lwF:=fR my 7 (at_ jw.body 4)
theorem HW (hi:i<H.length) (ht:∀ c∈t,c∈bv) (hm:made.length≤10):∃ c∈bv,∃ y9,∀ m' G',lwF xs (lwM md tv rv i (some (.int k)) t (made++[c]) sz y9) (pn H i (N.fdiv 10)) .next m' G'→lwF (.int k::xs) (lwM md tv rv i x4 t made sz x9) (pn H i N) .next m' G':=by
 have hd:=eG (N:=N) (n:=10) hi rfl
 have key:∀ old:Nat,∃ c∈bv,cA .Mod (.int ((old:Int)+N.fmod 10)) (.int 10)=some (.int (bv.idxOf c:Nat))∧aG (pn H i (N.fdiv 10)) (S bv) (.int (bv.idxOf c:Nat))=some (S [c]):=fun old=>by
  obtain ⟨j,e,hj⟩:=fm (a:=(old:Int)+N.fmod 10) (m:=10) (by decide)
  have k1:((List.range 10).all fun j=>bv.contains (bv.getD j 0)&&bv.idxOf (bv.getD j 0)==j)=true:=by kernel_rfl
  refine an2 (List.all_eq_true.mp k1 j (List.mem_range.mpr hj)) fun p q=>⟨bv.getD j 0,List.contains_iff_mem.mp p,?_,?_⟩
  ·rw [eq_of_beq q,← e]; rfl
  ·exact li _ (by rw [eq_of_beq q,List.getD_eq_getElem?_getD,List.getElem?_eq_getElem (show j<bv.length from hj)]; rfl)
 have ad:∀ c,cA .Add (S made) (S [c])=some (S (made++[c])):=fun c=>ub (Nat.le_trans (Nat.add_le_add_right hm 1) (by decide))
 by_cases q:k<t.length
 ·have it:=li (pn H i N) (List.getElem?_eq_getElem q)
  have ix:=Kc (ht _ (List.getElem_mem q))
  obtain ⟨c,hc,f,jt⟩:=key (bv.idxOf t[k])
  have ad:=ad c
  refine ⟨c,hc,some (.int (bv.idxOf t[k]:Nat)),fun m' G' ih=>?_⟩
  clear key
  generalize bv.idxOf t[k]=old at *
  generalize bv.idxOf c=nw at *
  exact fI ih [xC 5 (ltT q),xV 3 it,xV 0 ix,xR 4 hd,xV 1 f,xV 0 jt,xV 0 ad]
 ·obtain ⟨c,hc,f,jt⟩:=key 0
  have ad:=ad c
  refine ⟨c,hc,some (.int 0),fun m' G' ih=>?_⟩
  clear key
  generalize bv.idxOf c=nw at *
  exact fI ih [xC 5 (ltF (Nat.not_lt.mp q)),xR 4 hd,xV 1 f,xV 0 jt,xV 0 ad]
theorem DA (hi:i<H.length) (ht:∀ c∈t,c∈bv):∀ (n k:Nat) (made:List Nat) (N:Int) (x4 x9:Option V),made.length+n≤10→(∀ c∈made,c∈bv) →
  ∃ (made':List Nat) (N':Int) (y4 y9:Option V),made'.length=made.length+n∧(∀ c∈made',c∈bv)∧lwF ((List.range' k n).map fun i=>.int (i:Nat)) (lwM md tv rv i x4 t made sz x9) (pn H i N) .next (lwM md tv rv i y4 t made' sz y9) (pn H i N')
 | 0,k,made,N,x4,x9,hl,hc=>⟨made,N,x4,x9,rfl,hc,fN⟩
 | n+1,k,made,N,x4,x9,hl,hc=>by
  obtain ⟨c,hcs,y9,w⟩:=HW (md:=md) (tv:=tv) (rv:=rv) (x4:=x4) (sz:=sz) (x9:=x9) (k:=k) (N:=N) (xs:=(List.range' (k+1) n).map fun i=>.int (i:Nat)) hi ht (Nat.le_trans (Nat.le_add_right ..) hl)
  have e:(made++[c]).length=made.length+1:=List.length_append
  obtain ⟨made',N',y4,y9',l1,l2,ih⟩:=DA hi ht n (k+1) (made++[c]) (N.fdiv 10) (some (.int k)) y9 (by rw [e,Nat.add_assoc,Nat.add_comm 1]; exact hl) fun d hd=>(List.mem_append.mp hd).elim (hc d) fun h=>List.mem_singleton.mp h ▸ hcs
  exact ⟨made',N',y4,y9',by rw [l1,e,Nat.add_assoc,Nat.add_comm 1],l2,w _ _ ih⟩
theorem E0:∀ made:List Nat,made.length≤2→(∀ c∈made,c∈bv)→made∈bV
 | [],_,_=>.head _
 | [a],_,h=>List.mem_append_left _ (List.mem_cons_of_mem _ (List.mem_map_of_mem (h a (.head _))))
 | [a,b],_,h=>List.mem_append_right _ (List.mem_flatMap.mpr ⟨a,h a (.head _),List.mem_map_of_mem (h b (.tail _ (.head _)))⟩)
 | _::_::_::l,hl,_=>absurd (show l.length+3≤2 from hl) (Nat.not_le.mpr (Nat.le_add_left 3 _))
end
end
section
section
variable {H:AH}{i mode:Nat}{N:Int}{tv:V}{right:Bool}{t:List Nat}{z p:Nat}
theorem A4:((List.range 12).all fun j=>(bT.getD j ⟨[],none⟩).n.isSome&&Nat.blt j bT.length)=true:=by kernel_rfl
theorem Pd {p m:Nat}(h:0<m):(p:Int).fmod m=(p % m:Nat):=by rw [Int.fmod_eq_emod_of_nonneg _ (Int.natCast_nonneg m)]; rfl
theorem A5 {q:Nat}{w:Wo}(G:AH) (h:bT[q]? = some w):aG G (.lst (bT.map Wo.v)) (.int q)=some w.v:=bS G (by rw [List.getElem?_map,h]; rfl)
theorem Pe (hi:i<H.length) (hp:cA .Mod (.int ((z:Int)+N.fmod 48)) (.int 48)=some (.int (12:Nat))):bp [.int 2,.int z,.bool false,.ref i] (pn H i N) (.ok (⟨[49,120],none⟩:Wo).v) (pn H i (N.fdiv 48)):=by
 have hd:=eG (N:=N) (n:=48) hi rfl
 exact goH [xR 10 hd,xV 1 hp] rfl
theorem QN {q:Nat}{w:Wo}(hi:i<H.length) (hp:cA .Mod (.int ((z:Int)+N.fmod 48)) (.int 48)=some (.int p)) (hr:p=12→right=true) (e:(p:Int).fmod 12=(q:Nat)) (hq:bT[q]? = some w):bp [.int 2,.int z,.bool right,.ref i] (pn H i N) (.ok w.v) (pn H i (N.fdiv 48)):=by
 have hd:=eG (N:=N) (n:=48) hi rfl
 have sp:=lA
 have it:=A5 (pn H i (N.fdiv 48)) hq
 have fm:cA .Mod (.int p) (.int 12)=some (.int q):=by rw [← e]; rfl
 generalize bT.map Wo.v=sv at *
 by_cases c:p=12
 ·have hr:=hr c
  subst hr
  exact goH [xR 10 hd,xV 1 hp,xP 0 sp,xC 3 (nT c),xV 5 fm,xV 0 it] rfl
 ·exact goH [xR 10 hd,xV 1 hp,xP 0 sp,xC 3 (nF c),xC 1 (nF c),xV 1 fm,xV 0 it] rfl
theorem M2 (hi:i<H.length) (hp:cA .Mod (.int ((0:Nat)+N.fmod 48)) (.int 48)=some (.int (12:Nat))):bp [.int 2,S t,.bool false,.ref i] (pn H i N) (.ok (⟨[49,120],none⟩:Wo).v) (pn H i (N.fdiv 48)):=by
 have hd:=eG (N:=N) (n:=48) hi rfl
 exact goH [xR 9 hd,xV 1 hp] rfl
theorem Pf {q:Nat}{w:Wo}(hi:i<H.length) (hp:cA .Mod (.int ((0:Nat)+N.fmod 48)) (.int 48)=some (.int p)) (hr:p=12→right=true) (e:(p:Int).fmod 12=(q:Nat)) (hq:bT[q]? = some w):bp [.int 2,S t,.bool right,.ref i] (pn H i N) (.ok w.v) (pn H i (N.fdiv 48)):=by
 have hd:=eG (N:=N) (n:=48) hi rfl
 have sp:=lA
 have it:=A5 (pn H i (N.fdiv 48)) hq
 have fm:cA .Mod (.int p) (.int 12)=some (.int q):=by rw [← e]; rfl
 generalize bT.map Wo.v=sv at *
 by_cases c:p=12
 ·have hr:=hr c
  subst hr
  exact goH [xR 9 hd,xV 1 hp,xP 0 sp,xC 3 (nT c),xV 5 fm,xV 0 it] rfl
 ·exact goH [xR 9 hd,xV 1 hp,xP 0 sp,xC 3 (nF c),xC 1 (nF c),xV 1 fm,xV 0 it] rfl
theorem M3 {sz:Nat}{made:List Nat}{N':Int}{y4 y9:Option V}(hi:i<H.length) (hm:¬ mode=2) (hz:cA .Mod (.int ((t.length:Int)+N.fmod 3)) (.int 3)=some (.int sz)) (hs:sz≤3)
  (hl:lwF ((List.range' 0 sz).map fun i=>.int (i:Nat)) (lwM (.int mode) (S t) (.bool right) i none t [] (.int sz) none) (pn H i (N.fdiv 3)) .next (lwM (.int mode) (S t) (.bool right) i y4 t made (.int sz) y9) (pn H i N')) :
  bp [.int mode,S t,.bool right,.ref i] (pn H i N) (.ok (⟨made,none⟩:Wo).v) (pn H i N'):=by
 have hd:=eG (N:=N) (n:=3) hi rfl
 have ir:=bR (a:=0) (b:=sz) (Nat.le_trans hs (by decide)) (Nat.zero_le _)
 rw [Nat.sub_zero] at ir
 generalize (List.range' 0 sz).map (fun i=>V.int (i:Nat))=R at *
 exact goH [xC 3 (nF hm),xR 8 hd,xV 1 hz,xL 2 ir,xS 0 hl] rfl
theorem M4 {sz:Nat}{made:List Nat}{N':Int}{y4 y9:Option V}(hi:i<H.length) (hm:¬ mode=2) (hz:cA .Mod (.int ((0:Nat)+N.fmod 3)) (.int 3)=some (.int sz)) (hs:sz≤3)
  (hl:lwF ((List.range' 0 sz).map fun i=>.int (i:Nat)) (lwM (.int mode) (.int z) (.bool right) i none [] [] (.int sz) none) (pn H i (N.fdiv 3)) .next (lwM (.int mode) (.int z) (.bool right) i y4 [] made (.int sz) y9) (pn H i N')) :
  bp [.int mode,.int z,.bool right,.ref i] (pn H i N) (.ok (⟨made,none⟩:Wo).v) (pn H i N'):=by
 have hd:=eG (N:=N) (n:=3) hi rfl
 have ir:=bR (a:=0) (b:=sz) (Nat.le_trans hs (by decide)) (Nat.zero_le _)
 rw [Nat.sub_zero] at ir
 generalize (List.range' 0 sz).map (fun i=>V.int (i:Nat))=R at *
 exact goH [xC 3 (nF hm),xR 7 hd,xV 1 hz,xL 2 ir,xS 0 hl] rfl
theorem HX (hi:i<H.length) (tv:V) (ht:(∃ t,tv=S t)∨∃ z:Nat,tv=.int z):∃ (w:Wo) (N':Int),w∈dom 2∧(right=true→cw 2 w)∧bp [.int (2:Nat),tv,.bool right,.ref i] (pn H i N) (.ok w.v) (pn H i N'):=by
 have key:∀ z:Nat,∃ p:Nat,cA .Mod (.int ((z:Int)+N.fmod 48)) (.int 48)=some (.int p):=fun z=>ae (fm (a:=(z:Int)+N.fmod 48) (m:=48) (by decide)) fun p e _=>⟨p,congrArg (fun i=>some (V.int i)) e⟩
 have sel:∀ p:Nat,(p=12→right=true)→∃ (q:Nat) (w:Wo),(p:Int).fmod 12=(q:Nat)∧bT[q]? = some w∧w∈bT∧w.n.isSome=true:=fun p _=>by
  have k:=an (List.all_eq_true.mp A4 (p % 12) (List.mem_range.mpr (Nat.mod_lt _ (by decide))))
  have hl:p % 12<bT.length:=aX k.2
  have k1:=k.1
  rw [List.getD_eq_getElem?_getD,List.getElem?_eq_getElem hl] at k1
  exact ⟨p % 12,bT[p % 12],Pd (by decide),List.getElem?_eq_getElem hl,List.getElem_mem hl,k1⟩
 have last:(⟨[49,120],none⟩:Wo)∈bT:=List.mem_of_getElem? (i:=12) rfl
 rcases ht with ⟨t,rfl⟩ | ⟨z,rfl⟩
 ·obtain ⟨p,hp⟩:=key 0
  by_cases c:p=12∧right=false
  ·obtain ⟨rfl,rfl⟩:=c
   exact ⟨_,_,last,nofun,M2 hi hp⟩
  ·have hr:p=12→right=true:=fun h=>Bool.not_eq_false _ ▸ fun h2=>c ⟨h,h2⟩
   obtain ⟨q,w,e,hq,hw,hn⟩:=sel p hr
   exact ⟨w,_,hw,fun _=>⟨hw,fun _=>hn⟩,Pf hi hp hr e hq⟩
 ·obtain ⟨p,hp⟩:=key z
  by_cases c:p=12∧right=false
  ·obtain ⟨rfl,rfl⟩:=c
   exact ⟨_,_,last,nofun,Pe hi hp⟩
  ·have hr:p=12→right=true:=fun h=>Bool.not_eq_false _ ▸ fun h2=>c ⟨h,h2⟩
   obtain ⟨q,w,e,hq,hw,hn⟩:=sel p hr
   exact ⟨w,_,hw,fun _=>⟨hw,fun _=>hn⟩,QN hi hp hr e hq⟩
theorem A6 {l:Nat}(hm:¬ mode=2) (ht:∀ c∈t,c∈bv) (hi:i<H.length) (right:Bool) (md tv rv:V):∃ (sz:Nat) (made:List Nat) (N':Int) (y4 y9:Option V),sz≤3∧((⟨made,none⟩:Wo)∈dom mode∧(right=true→cw mode ⟨made,none⟩))∧cA .Mod (.int ((l:Int)+N.fmod 3)) (.int 3)=some (.int sz) ∧
  lwF ((List.range' 0 sz).map fun i=>.int (i:Nat)) (lwM md tv rv i none t [] (.int sz) none) (pn H i (N.fdiv 3)) .next (lwM md tv rv i y4 t made (.int sz) y9) (pn H i N'):=by
 obtain ⟨sz,e,hs⟩:=fm (a:=(l:Int)+N.fmod 3) (m:=3) (by decide)
 obtain ⟨made,N',y4,y9,l1,l2,w⟩:=DA (md:=md) (tv:=tv) (rv:=rv) (sz:=.int sz) hi ht sz 0 [] (N.fdiv 3) none none (by rw [List.length_nil,Nat.zero_add]; exact Nat.le_trans (Nat.le_of_lt hs) (by decide)) nofun
 rw [List.length_nil,Nat.zero_add] at l1
 have hd:(⟨made,none⟩:Wo)∈dom mode:=by
  rw [dom,if_neg hm]
  exact List.mem_map_of_mem (E0 made (by rw [l1]; exact Nat.le_of_lt_succ hs) l2)
 exact ⟨sz,made,N',y4,y9,Nat.le_of_lt hs,⟨hd,fun _=>⟨hd,fun h=>absurd h hm⟩⟩,congrArg (fun i=>some (V.int i)) e,w⟩
theorem wT (hi:i<H.length) (ht:qm tv):∃ (w:Wo) (N':Int),w∈dom mode∧(right=true→cw mode w)∧bp [.int mode,tv,.bool right,.ref i] (pn H i N) (.ok w.v) (pn H i N'):=by
 by_cases hm:mode=2
 ·subst hm
  exact HX hi tv (ht.imp (fun ⟨t,e,_⟩=>⟨t,e⟩) id)
 ·rcases ht with ⟨t,rfl,h1,h2⟩ | ⟨z,rfl⟩
  ·obtain ⟨sz,made,N',y4,y9,hs,hd,hz,w⟩:=A6 (l:=t.length) (N:=N) (H:=H) hm h1 hi right (.int mode) (S t) (.bool right)
   exact ⟨_,N',hd.1,hd.2,M3 hi hm hz hs w⟩
  ·obtain ⟨sz,made,N',y4,y9,hs,hd,hz,w⟩:=A6 (t:=[]) (l:=0) (N:=N) (H:=H) hm nofun hi right (.int mode) (.int z) (.bool right)
   exact ⟨_,N',hd.1,hd.2,M4 hi hm hz hs w⟩
end
end
section
structure kh where
 a0:Nat
 a1:Nat
 a2:Nat
 a3:Nat
 a4:Nat
 ws:List V
 pi:List Nat
 a7:Nat
 wv:V
noncomputable def kh.v (r:kh):V:=.tup [.int r.a0,.int r.a1,.int r.a2,.int r.a3,.int r.a4,.lst r.ws,be r.pi,.int r.a7,r.wv]
structure A7 (r:kh):Prop where
 w:∀ v∈r.ws,qm v
 n:r.ws.length≤6
 p:r.pi.length≤10
 v:qm r.wv
noncomputable def wN (sh:Nat):Nat:=if sh=0 then 1 else 2
noncomputable def mN (sh:Nat):Nat:=if sh=0 then 7 else 4
noncomputable def zg:List V:=[S [],S [],S [],S [],S [],S []]
theorem zh {E:V→AH→Tr (Option V × AH)}{x v:V}{xs vs:List V}{G G1 G':AH}(h:(E x G).tt fun p=>p=(some v,G1)) (q:cQ E xs G1 vs G'):cQ E (x::xs) G (v::vs) G':=Tr.tt_mono (fun p e=>by subst e; exact ⟨_,rfl,q⟩) _ h
theorem HY {E:V→AH→Tr (Option V × AH)}{x:V}{xs vs:List V}{G G1 G':AH}(h:(E x G).tt fun p=>p=(none,G1)) (q:cQ E xs G1 vs G'):cQ E (x::xs) G vs G':=Tr.tt_mono (fun p e=>by subst e; exact q) _ h
section
variable {α:Type}{L:α→Prop}{r:kh}{H:AH}{i how mode sh fl which size n k:Nat}{N N1 N2 N3 N4 N5 z1 z2 z3 z4 z5:Int}{xs:List V}{c:Fl→LV→AH→Tr α}{x12:V}{ws:List Wo}
noncomputable abbrev Dr (H:AH) (i m:Nat) (N z N':Int):Prop:=fK [.ref i,.int m] (pn H i N) (.ok (.int z)) (pn H i N')
noncomputable abbrev Mo (a z:Int) (m k:Nat):Prop:=cA .Mod (.int (a+z)) (.int m)=some (.int k)
theorem dr (hi:i<H.length) (m:Nat) (hm:(Nat.blt 0 m&&Nat.ble m 999999)=true) (a N:Int):∃ (z N':Int) (k:Nat),Dr H i m N z N'∧Mo a z m k∧k<m:=by
 obtain ⟨k,e,hk⟩:=fm (a:=a+N.fmod m) (m:=m) (aX (an hm).1)
 exact ⟨_,_,k,eG hi hm,(congrArg Cv.v (fx hm)).trans (congrArg (fun i=>some (V.int i)) e),hk⟩
noncomputable abbrev rM (r:kh) (i how mode sh fl which:Nat) (xs:LV):LV:=some r.v::some (.ref i)::some (.int how)::some (.int mode)::some (.int sh)::some (.int fl)::some (.int which)::some (.int (wN sh))::xs
noncomputable abbrev rB (i:Nat) (m:LV) (G:AH) (k:Fl→LV→AH→Tr α):Tr α:=evB (evS 8 bU) (bB.body.drop i) m G k
theorem r0 (d1:Dr H i 4 N z1 N1) (d2:Dr H i 3 N1 z2 N2) (d3:Dr H i 3 N2 z3 N3) (d4:Dr H i 128 N3 z4 N4) (d5:Dr H i 12 N4 z5 N5) (e1:Mo r.a0 z1 4 how) (e2:Mo r.a1 z2 3 mode) (e3:Mo r.a2 z3 3 sh) (e4:Mo r.a3 z4 128 fl) (e5:Mo r.a4 z5 12 which)
  (q:(rB 3 (rM r i how mode sh fl which [none,none,none,none,none,none,none,none,none,none,none,none,none,none]) (pn H i N5) c).tt L):(rB 0 [some r.v,some (.ref i),none,none,none,none,none,none,none,none,none,none,none,none,none,none,none,none,none,none,none,none] (pn H i N) c).tt L:=by
 by_cases s:sh=0
 ·have ew:wN sh=1:=if_pos s
  rw [rM,ew] at q
  exact goK q 0 [xR 3 d1,xV 1 e1,xR 3 d2,xV 1 e2,xR 3 d3,xV 1 e3,xR 3 d4,xV 1 e4,xR 3 d5,xV 1 e5,xC 3 (nT s)]
 ·have ew:wN sh=2:=if_neg s
  rw [rM,ew] at q
  exact goK q 0 [xR 3 d1,xV 1 e1,xR 3 d2,xV 1 e2,xR 3 d3,xV 1 e3,xR 3 d4,xV 1 e4,xR 3 d5,xV 1 e5,xC 3 (nF s)]
theorem r3 (hl:r.ws.length≤6) (d1:Dr H i (mN sh) N z1 N1) (e1:Mo ((r.ws.length:Int).fdiv (wN sh)) z1 (mN sh) size)
  (q:(rB 6 (rM r i how mode sh fl which [some (.int (mN sh)),some (.int size),some (.lst (r.ws++zg)),none,none,none,none,none,none,none,none,none,none,none]) (pn H i N1) c).tt L):(rB 3 (rM r i how mode sh fl which [none,none,none,none,none,none,none,none,none,none,none,none,none,none]) (pn H i N) c).tt L:=by
 have al:=yz (vs:=r.ws) (us:=zg) (Nat.le_trans (Nat.add_le_add_right hl 6) (by decide))
 by_cases s:sh=0
 ·have ew:wN sh=1:=if_pos s
  have em:mN sh=7:=if_pos s
  rw [rM,ew,em] at q
  rw [rM,ew]
  rw [em] at d1
  rw [em,ew] at e1
  exact goK q 0 [xC 3 (nT s),xR 7 d1,xV 2 e1,xV 3 al]
 ·have ew:wN sh=2:=if_neg s
  have em:mN sh=4:=if_neg s
  rw [rM,ew,em] at q
  rw [rM,ew]
  rw [em] at d1
  rw [em,ew] at e1
  exact goK q 0 [xC 3 (nF s),xR 7 d1,xV 2 e1,xV 3 al]
end
end
section
theorem Ke:((List.range 101).all fun a=>(List.range 101).all fun b=>xd (a:Nat) (b:Nat))=true:=by kernel_rfl
theorem zi {a b:Nat}(ha:a≤100) (hb:b≤100):cA .Mult (.int a) (.int b)=some (.int (a*b:Nat)):=by
 have k:=List.all_eq_true.mp (List.all_eq_true.mp Ke a (List.mem_range.mpr (Nat.lt_succ_of_le ha))) b (List.mem_range.mpr (Nat.lt_succ_of_le hb))
 exact congrArg Cv.v (fx k)
section
variable {α:Type}{L:α→Prop}{r:kh}{H G:AH}{i how mode sh fl which size n k:Nat}{N N1 N2 N3 N4 N5 z1 z2 z3 z4 z5:Int}{xs told:List V}{c:Fl→LV→AH→Tr α}{x8 x9 x10 x11 x12:Option V}{ws:List Wo}{w:Wo}{P:List Nat}
noncomputable abbrev rE (j:Nat):Expr:=sE (at_ bB.body j)
noncomputable abbrev rC (j:Nat) (r:kh) (i how mode sh fl which:Nat) (xs:LV):V→AH→Tr (Option V × AH):=cR bU 23 (rE j) (rM r i how mode sh fl which xs)
theorem e6 {v:V}{x11 x12 x13 x14 x15 x16 x17 x18 x19 x20 x21:Option V}(hk:told[k]? = some v) (hs:bp [.int mode,v,.bool (decide ((1:Int)<(how:Nat))),.ref i] (pn H i N) (.ok w.v) (pn H i N1)):(rC 6 r i how mode sh fl which [x8,x9,some (.lst told),x11,x12,x13,x14,x15,x16,x17,x18,x19,x20,x21] (.int k) (pn H i N)).tt fun p=>p=(some w.v,pn H i N1):=by
 have it:=bS (pn H i N) hk
 exact goC [xV 3 it,xR 3 hs]
theorem uN (hi:i<H.length) (ht:∀ v∈told,qm v):∀ (n k:Nat) (N:Int),k+n≤told.length →
  ∃ (ws:List Wo) (N':Int),ws.length=n∧(∀ w∈ws,w∈dom mode∧(1<how→cw mode w))∧cQ (rC 6 r i how mode sh fl which [x8,x9,some (.lst told),none,none,none,none,none,none,none,none,none,none,none]) ((List.range' k n).map fun i=>.int (i:Nat)) (pn H i N) (ws.map Wo.v) (pn H i N')
 | 0,k,N,h=>⟨[],N,rfl,nofun,rfl,rfl⟩
 | n+1,k,N,h=>by
  have hk:k<told.length:=Nat.lt_of_lt_of_le (Nat.lt_add_of_pos_right (Nat.succ_pos n)) h
  obtain ⟨w,N1,hw,hr,hs⟩:=wT (N:=N) (mode:=mode) (right:=decide ((1:Int)<(how:Nat))) hi (ht _ (List.getElem_mem hk))
  obtain ⟨ws,N',l1,l2,ih⟩:=uN hi ht n (k+1) N1 (by rw [Nat.add_assoc,Nat.add_comm 1]; exact h)
  refine ⟨w::ws,N',congrArg (·+1) l1,fun x hx=>?_,?_⟩
  ·rcases List.mem_cons.mp hx with rfl | hx
   ·exact ⟨hw,fun h=>hr (ltT h)⟩
   ·exact l2 x hx
  ·exact zh (e6 (List.getElem?_eq_getElem hk) hs) ih
theorem r6 (m1:cA .Mult (.int size) (.int (wN sh))=some (.int n)) (hn:n≤100) (hc:cQ (rC 6 r i how mode sh fl which [x8,some (.int size),x10,none,none,none,none,none,none,none,none,none,none,none]) ((List.range' 0 n).map fun i=>.int (i:Nat)) G xs H)
  (q:(rB 7 (rM r i how mode sh fl which [x8,some (.int size),x10,some (.lst xs),none,none,none,none,none,none,none,none,none,none]) H c).tt L):(rB 6 (rM r i how mode sh fl which [x8,some (.int size),x10,none,none,none,none,none,none,none,none,none,none,none]) G c).tt L:=by
 have ir:=bR (a:=0) (b:=n) (Nat.le_trans hn (by decide)) (Nat.zero_le _)
 rw [Nat.sub_zero] at ir
 generalize (List.range' 0 n).map (fun i=>V.int (i:Nat))=R at *
 exact goK q 0 [xV 2 m1,xL 1 ir,xQ 0 hc]
theorem e7 {b:Bool}(hk:ws[k]? = some w) (hb:decide ((9:Int)<(w.t.length:Nat))=b):(rC 7 r i how mode sh fl which [x8,x9,x10,some (.lst (ws.map Wo.v)),none,none,none,none,none,none,none,none,none,none] (.int k) G).tt fun p=>p=(if b=true then some (.int k) else none,G):=by
 have it:aG G (.lst (ws.map Wo.v)) (.int k)=some w.v:=bS G (by rw [List.getElem?_map,hk]; rfl)
 generalize ws.map Wo.v=wv at *
 cases b with
 | true=>exact goC [xV 2 it,xC 4 hb]
 | false=>exact goC [xV 2 it,xC 4 hb]
theorem uO:∀ (n k:Nat),k+n≤ws.length→∃ P:List Nat,P.length≤n∧(∀ j∈P,∃ w,ws[j]? = some w∧9<w.t.length)∧cQ (rC 7 r i how mode sh fl which [x8,x9,x10,some (.lst (ws.map Wo.v)),none,none,none,none,none,none,none,none,none,none]) ((List.range' k n).map fun i=>.int (i:Nat)) G (P.map fun i=>.int (i:Nat)) G
 | 0,k,h=>⟨[],Nat.le_refl _,nofun,rfl,rfl⟩
 | n+1,k,h=>by
  have hk:k<ws.length:=Nat.lt_of_lt_of_le (Nat.lt_add_of_pos_right (Nat.succ_pos n)) h
  have e:=List.getElem?_eq_getElem hk
  obtain ⟨P,h1,h2,ih⟩:=uO n (k+1) (by rw [Nat.add_assoc,Nat.add_comm 1]; exact h)
  by_cases z:9<ws[k].t.length
  ·refine ⟨k::P,Nat.succ_le_succ h1,fun j hj=>?_,zh (e7 e (ltT z)) ih⟩
   rcases List.mem_cons.mp hj with rfl | hj
   ·exact ⟨_,e,z⟩
   ·exact h2 j hj
  ·exact ⟨P,Nat.le_succ_of_le h1,h2,HY (e7 e (ltF (Nat.not_lt.mp z))) ih⟩
theorem r7 (hn:ws.length≤100) (hc:cQ (rC 7 r i how mode sh fl which [x8,x9,x10,some (.lst (ws.map Wo.v)),none,none,none,none,none,none,none,none,none,none]) ((List.range' 0 ws.length).map fun i=>.int (i:Nat)) G xs G)
  (q:(rB 8 (rM r i how mode sh fl which [x8,x9,x10,some (.lst (ws.map Wo.v)),some (.lst xs),none,none,none,none,none,none,none,none,none]) G c).tt L):(rB 7 (rM r i how mode sh fl which [x8,x9,x10,some (.lst (ws.map Wo.v)),none,none,none,none,none,none,none,none,none,none]) G c).tt L:=by
 have e:(ws.map Wo.v).length=ws.length:=List.length_map ..
 have ir:=bR (a:=0) (b:=(ws.map Wo.v).length) (by rw [e]; exact Nat.le_trans hn (by decide)) (Nat.zero_le _)
 rw [Nat.sub_zero] at ir
 rw [← e] at hc
 generalize ws.map Wo.v=wv at *
 generalize (List.range' 0 wv.length).map (fun i=>V.int (i:Nat))=R at *
 exact goK q 0 [xL 3 ir,xQ 0 hc]
noncomputable def ten:Wo:=⟨[49,48],some 10⟩
theorem e8 {d:Nat}{b:Bool}(hd:d=if how=0 then 0 else 1) (hP:P.length≤100) (hk:ws[k]? = some w) (hb:aF G .In (.int k) (be (P.drop d))=some b):(rC 8 r i how mode sh fl which [x8,x9,x10,some (.lst (ws.map Wo.v)),some (be P),none,none,none,none,none,none,none,none,none] (.int k) G).tt fun p=>p=(some (if b=true then ten else w).v,G):=by
 have it:aG G (.lst (ws.map Wo.v)) (.int k)=some w.v:=bS G (by rw [List.getElem?_map,hk]; rfl)
 have sl:=um (vs:=P.map fun i=>V.int (i:Nat)) (i:=d) (Nat.le_trans (Nat.le_of_eq List.length_drop) (Nat.le_trans (Nat.sub_le ..) (by rw [List.length_map]; exact Nat.le_trans hP (by decide))))
 have sl:bG (be P) (some (.int d)) none none=some (be (P.drop d)):=by rw [be,be,List.map_drop]; exact sl
 generalize be (P.drop d)=nd at *
 generalize be P=np at *
 generalize ws.map Wo.v=wv at *
 by_cases h0:how=0
 ·rw [if_pos h0] at hd
  subst hd
  cases b with
  | true=>exact goC [xC 5 (nT h0),xV 0 sl,xB 0 hb]
  | false=>exact goC [xC 5 (nT h0),xV 0 sl,xB 0 hb,xV 4 it]
 ·rw [if_neg h0] at hd
  subst hd
  cases b with
  | true=>exact goC [xC 5 (nF h0),xV 0 sl,xB 0 hb]
  | false=>exact goC [xC 5 (nF h0),xV 0 sl,xB 0 hb,xV 4 it]
theorem r8 (hn:ws.length≤100) (hc:cQ (rC 8 r i how mode sh fl which [x8,x9,x10,some (.lst (ws.map Wo.v)),x12,none,none,none,none,none,none,none,none,none]) ((List.range' 0 ws.length).map fun i=>.int (i:Nat)) G xs G)
  (q:(rB 9 (rM r i how mode sh fl which [x8,x9,x10,some (.lst xs),x12,none,none,none,none,none,none,none,none,none]) G c).tt L):(rB 8 (rM r i how mode sh fl which [x8,x9,x10,some (.lst (ws.map Wo.v)),x12,none,none,none,none,none,none,none,none,none]) G c).tt L:=by
 have e:(ws.map Wo.v).length=ws.length:=List.length_map ..
 have ir:=bR (a:=0) (b:=(ws.map Wo.v).length) (by rw [e]; exact Nat.le_trans hn (by decide)) (Nat.zero_le _)
 rw [Nat.sub_zero] at ir
 rw [← e] at hc
 generalize ws.map Wo.v=wv at *
 generalize (List.range' 0 wv.length).map (fun i=>V.int (i:Nat))=R at *
 exact goK q 0 [xL 3 ir,xQ 0 hc]
end
end
section
section
variable {α:Type}{L:α→Prop}{r:kh}{H G:AH}{i how mode sh fl which size n k many pick:Nat}{N N1 N2 N3 z1 z2:Int}{xs told:List V}{c:Fl→LV→AH→Tr α}{x8 x9 x10 x11 x12 x13 x14 x15 x16 x17:Option V}{ws:List Wo}{w:Wo}{P:List Nat}{gs gs':List (List Wo)}{p:Pc}{hv wv pv:V}
noncomputable def qo (sh:Nat) (ws:List Wo) (k:Nat):List Wo:=(ws.drop (k*wN sh)).take (wN sh)
theorem HZ:wN sh≤100:=by unfold wN; split <;> decide
theorem e9 (hk:k≤99) (hn:ws.length≤100):(rC 9 r i how mode sh fl which [x8,x9,x10,some (.lst (ws.map Wo.v)),x12,none,none,none,none,none,none,none,none,none] (.int k) G).tt fun p=>p=(some (iu (qo sh ws k)),G):=by
 have m1:=zi (a:=k) (b:=wN sh) (Nat.le_trans hk (by decide)) HZ
 have m2:cA .Mult (.int ((k:Int)+1)) (.int (wN sh))=some (.int ((k+1)*wN sh:Nat)):=zi (a:=k+1) (b:=wN sh) (Nat.succ_le_succ hk) HZ
 have e1:(k+1)*wN sh - k*wN sh=wN sh:=by rw [Nat.add_mul,Nat.one_mul,Nat.add_sub_cancel_left]
 have sl:=G8 (vs:=ws.map Wo.v) (i:=k*wN sh) (j:=(k+1)*wN sh) (Nat.le_trans (Nat.le_of_eq List.length_take) (Nat.le_trans (Nat.min_le_right ..) (Nat.le_trans (Nat.le_of_eq List.length_drop) (Nat.le_trans (Nat.sub_le ..) (by rw [List.length_map]; exact Nat.le_trans hn (by decide))))))
 rw [e1,← List.map_drop,← List.map_take] at sl
 have sl:bG (.lst (ws.map Wo.v)) (some (.int (k*wN sh:Nat))) (some (.int ((k+1)*wN sh:Nat))) none=some (iu (qo sh ws k)):=sl
 generalize iu (qo sh ws k)=gv at *
 generalize ws.map Wo.v=wv at *
 generalize ((k+1)*wN sh:Nat)=y2 at *
 generalize (k*wN sh:Nat)=y1 at *
 exact goC [xV 3 m1,xV 3 m2,xV 0 sl]
theorem r9 (hn:size≤99) (hw:ws.length≤100) (q:(rB 10 (rM r i how mode sh fl which [x8,some (.int size),x10,some (.lst (ws.map Wo.v)),x12,some (aA ((List.range' 0 size).map (qo sh ws))),none,none,none,none,none,none,none,none]) G c).tt L) :
  (rB 9 (rM r i how mode sh fl which [x8,some (.int size),x10,some (.lst (ws.map Wo.v)),x12,none,none,none,none,none,none,none,none,none]) G c).tt L:=by
 have ir:=bR (a:=0) (b:=size) (Nat.le_trans hn (by decide)) (Nat.zero_le _)
 rw [Nat.sub_zero] at ir
 have hc:cQ (rC 9 r i how mode sh fl which [x8,some (.int size),x10,some (.lst (ws.map Wo.v)),x12,none,none,none,none,none,none,none,none,none]) ((List.range' 0 size).map fun i=>.int (i:Nat)) G ((List.range' 0 size).map fun k=>iu (qo sh ws k)) G:=dj (List.range' 0 size) fun k hk=>e9 (by rw [List.mem_range'_1,Nat.zero_add] at hk; exact Nat.le_trans (Nat.le_of_lt hk.2) hn) hw
 rw [aA,List.map_map] at q
 have q:(rB 10 (rM r i how mode sh fl which [x8,some (.int size),x10,some (.lst (ws.map Wo.v)),x12,some (.lst ((List.range' 0 size).map fun k=>iu (qo sh ws k))),none,none,none,none,none,none,none,none]) G c).tt L:=q
 generalize ((List.range' 0 size).map fun k=>iu (qo sh ws k))=gv at *
 generalize (List.range' 0 size).map (fun i=>V.int (i:Nat))=R at *
 generalize ws.map Wo.v=wv at *
 exact goK q 0 [xL 2 ir,xQ 0 hc]
theorem r10 (h:1<how→cY [.int mode,.int sh,.int fl,aA gs] (.ok (aA gs'))) (h':¬ 1<how→gs'=gs) (q:(rB 11 (rM r i how mode sh fl which [x8,x9,x10,x11,x12,some (aA gs'),none,none,none,none,none,none,none,none]) G c).tt L) :
  (rB 10 (rM r i how mode sh fl which [x8,x9,x10,x11,x12,some (aA gs),none,none,none,none,none,none,none,none]) G c).tt L:=by
 by_cases z:1<how
 ·have hi:=h z
  unfold aA at *
  generalize gs.map iu=g1 at *
  generalize gs'.map iu=g2 at *
  exact goK q 3 [xC 3 (ltT z),xP 4 hi]
 ·obtain rfl:=h' z
  generalize aA gs'=g1 at *
  exact goK q 0 [xC 3 (ltF (Nat.not_lt.mp z))]
theorem e11 {g:List Wo}(hg:Grp mode sh g):(rC 11 r i how mode sh fl which [x8,x9,x10,x11,x12,x13,none,none,none,none,none,none,none,none] (iu g) G).tt fun p=>p=(some (aN sh g).v,G):=by
 refine hg.el (fun a s _ e=>?_) fun a b s _ _ e=>?_
 ·subst e
  have s2:¬ sh=2:=fun h=>by rw [h] at s; exact absurd s (by decide)
  rw [show aN sh [a]=a from if_neg s2]
  exact goC [xC 4 (nF s2)]
 ·subst e
  by_cases s2:sh=2
  ·rw [show aN sh [a,b]=b from if_pos s2]
   exact goC [xC 4 (nT s2)]
  ·rw [show aN sh [a,b]=a from if_neg s2]
   exact goC [xC 4 (nF s2)]
theorem r11 (hg:∀ g∈gs,Grp mode sh g) (q:(rB 12 (rM r i how mode sh fl which [x8,x9,x10,x11,x12,some (aA gs),some (.lst ((a9 sh gs).map Wo.v)),none,none,none,none,none,none,none]) G c).tt L) :
  (rB 11 (rM r i how mode sh fl which [x8,x9,x10,x11,x12,some (aA gs),none,none,none,none,none,none,none,none]) G c).tt L:=by
 have hc:cQ (rC 11 r i how mode sh fl which [x8,x9,x10,x11,x12,some (aA gs),none,none,none,none,none,none,none,none]) (gs.map iu) G (gs.map fun g=>(aN sh g).v) G:=dj gs fun g h=>e11 (hg g h)
 have e:(a9 sh gs).map Wo.v=gs.map fun g=>(aN sh g).v:=by rw [a9,List.map_map]; rfl
 rw [e] at q
 generalize (gs.map fun g=>(aN sh g).v)=hv at *
 unfold aA at *
 generalize gs.map iu=g1 at *
 exact goK q 0 [xQ 2 hc]
theorem r12 (d:Dr H i 4 N z1 N1) (e:Mo ((r.pi.map fun k=>V.int (k:Nat)).length:Nat) z1 4 many) (q:(rB 13 (rM r i how mode sh fl which [x8,x9,x10,x11,x12,x13,x14,some (.int many),none,none,none,none,none,none]) (pn H i N1) c).tt L) :
  (rB 12 (rM r i how mode sh fl which [x8,x9,x10,x11,x12,x13,x14,none,none,none,none,none,none,none]) (pn H i N) c).tt L:=by
 exact goK q 0 [xR 4 d,xV 1 e]
theorem e13 {a:Nat}(ha:a=if k<r.pi.length then r.pi.getD k 0 else 0) (d:Dr H i 12 N z1 N1) (e:Mo a z1 12 n) (hp:pcs[n]? = some p):(rC 13 r i how mode sh fl which [x8,x9,x10,x11,x12,x13,x14,x15,none,none,none,none,none,none] (.int k) (pn H i N)).tt fun q=>q=(some p.v,pn H i N1):=by
 have ps:=AR
 have it:aG (pn H i N1) (.lst (pcs.map Pc.v)) (.int n)=some p.v:=bS _ (by rw [List.getElem?_map,hp]; rfl)
 have el:(r.pi.map fun k=>V.int (k:Nat)).length=r.pi.length:=List.length_map ..
 generalize pcs.map Pc.v=pv at *
 generalize p.v=p1 at *
 by_cases z:k<r.pi.length
 ·rw [if_pos z] at ha
  have ik:aG (pn H i N) (be r.pi) (.int k)=some (.int a):=bS _ (by rw [List.getElem?_map,ha,List.getD_eq_getElem?_getD,List.getElem?_eq_getElem z]; rfl)
  rw [← el] at z
  exact goC [xP 0 ps,xC 6 (ltT z),xV 3 ik,xR 1 d,xV 1 e,xV 0 it]
 ·rw [if_neg z] at ha
  subst ha
  rw [← el] at z
  exact goC [xP 0 ps,xC 6 (ltF (Nat.not_lt.mp z)),xR 1 d,xV 1 e,xV 0 it]
theorem r13 {ps:List Pc}(hn:many≤100) (hc:cQ (rC 13 r i how mode sh fl which [x8,x9,x10,x11,x12,x13,x14,some (.int many),none,none,none,none,none,none]) ((List.range' 0 many).map fun i=>.int (i:Nat)) H (ps.map Pc.v) G) (q:(rB 14 (rM r i how mode sh fl which [x8,x9,x10,x11,x12,x13,x14,some (.int many),some (.lst (ps.map Pc.v)),none,none,none,none,none]) G c).tt L) :
  (rB 13 (rM r i how mode sh fl which [x8,x9,x10,x11,x12,x13,x14,some (.int many),none,none,none,none,none,none]) H c).tt L:=by
 have ir:=bR (a:=0) (b:=many) (Nat.le_trans hn (by decide)) (Nat.zero_le _)
 rw [Nat.sub_zero] at ir
 generalize ps.map Pc.v=pv at *
 generalize (List.range' 0 many).map (fun i=>V.int (i:Nat))=R at *
 exact goK q 0 [xL 2 ir,xQ 0 hc]
theorem r14 (d:Dr H i 8 N z1 N1) (e:Mo r.a7 z1 8 pick) (q:(rB 15 (rM r i how mode sh fl which [x8,x9,x10,x11,x12,x13,x14,x15,x16,some (.int pick),none,none,none,none]) (pn H i N1) c).tt L) :
  (rB 14 (rM r i how mode sh fl which [x8,x9,x10,x11,x12,x13,x14,x15,x16,none,none,none,none,none]) (pn H i N) c).tt L:=by
 exact goK q 0 [xR 3 d,xV 1 e]
theorem QO {ws:List Wo}(h:ws[pick]? = some w) (q:(rB 16 (rM r i how mode sh fl which [x8,x9,x10,x11,x12,x13,some (.lst (ws.map Wo.v)),x15,x16,some (.int pick),some w.v,none,none,none]) G c).tt L) :
  (rB 15 (rM r i how mode sh fl which [x8,x9,x10,x11,x12,x13,some (.lst (ws.map Wo.v)),x15,x16,some (.int pick),none,none,none,none]) G c).tt L:=by
 have lt:pick<(ws.map Wo.v).length:=by rw [List.length_map]; exact bc h
 have it:aG G (.lst (ws.map Wo.v)) (.int pick)=some w.v:=bS G (by rw [List.getElem?_map,h]; rfl)
 generalize ws.map Wo.v=wv at *
 generalize w.v=w1 at *
 exact goK q 0 [xC 5 (ltT lt),xV 2 it]
theorem QP {ws:List Wo}(h:ws.length≤pick) (hs:bp [.int mode,r.wv,.bool false,.ref i] H (.ok wv) G) (q:(rB 16 (rM r i how mode sh fl which [x8,x9,x10,x11,x12,x13,some (.lst (ws.map Wo.v)),x15,x16,some (.int pick),some wv,none,none,none]) G c).tt L) :
  (rB 15 (rM r i how mode sh fl which [x8,x9,x10,x11,x12,x13,some (.lst (ws.map Wo.v)),x15,x16,some (.int pick),none,none,none,none]) H c).tt L:=by
 have lt:(ws.map Wo.v).length≤pick:=by rw [List.length_map]; exact h
 generalize ws.map Wo.v=hv at *
 exact goK q 0 [xC 5 (ltF lt),xR 4 hs]
end
end
section
theorem wU:∀ l:List (List Nat),cg [] l=l.flatten
 | []=>rfl
 | [x]=>(List.append_nil x).symm
 | x::y::r=>by
  show x++[]++cg [] (y::r)=_
  rw [wU (y::r),List.append_nil]; rfl
theorem Kf:(pcs.all fun p=>Nat.ble p.k.w.length 5)=true:=by kernel_rfl
theorem sk {a b:List Nat}(ha:okT a=true) (hb:okT b=true):okT (a++b)=true:=by
 unfold okT PyData.strOk at *
 rw [← Array.all_toList] at *
 show (a++b).all _=true
 rw [List.all_append]
 exact Bool.and_eq_true_iff.mpr ⟨ha,hb⟩
theorem Kg {a:List Nat}(h:okT a=true):okT (enc a)=true:=by
 unfold enc
 split
 ·exact sk (a:=[123]) (by kernel_rfl) (sk h (b:=[125]) (by kernel_rfl))
 ·exact h
theorem A8:∀ {l:List (List Nat)},(∀ w∈l,okT w=true)→okT (cg [32] l)=true
 | [],_=>by kernel_rfl
 | [a],h=>h a (.head _)
 | a::b::r,h=>sk (sk (h a (.head _)) (b:=[32]) (by kernel_rfl)) (A8 fun w hw=>h w (.tail _ hw))
theorem wV {t:List Nat}(h:okT t=true):kg (Out.gave t).v=true:=by
 have h1:okT [103,97,118,101]=true:=by kernel_rfl
 show (((true&&okT [103,97,118,101])&&(okT t&&true))&&_)=true
 rw [h,h1]; rfl
section
variable {how mode sh:Nat}{f:Int}{which start:Nat}{gs:List (List Wo)}{ps:List Pc}{wt:Wo}{P:List Nat}{all inl:Bool}
theorem H5 (hg:∀ g∈gs,Grp mode sh g) (hn:gs.length≤20) (hP:∀ k∈P,k<gs.length):okT (EY all inl gs P)=true:=by
 have h:=A2 (inl:=inl) hg hn hP
 unfold EY
 cases all with
 | true =>
  refine A8 fun w hw=>?_
  obtain ⟨v,hv,rfl⟩:=List.mem_map.mp hw
  exact Kg (h v hv)
 | false =>
  show okT ((oI inl gs P).headD _)=true
  cases e:oI inl gs P with
  | nil=>cases inl <;> kernel_rfl
  | cons a r=>exact h a (e ▸ .head _)
theorem E1 (r:Row how mode sh f which gs ps wt) (hst:start≤gs.length) (e:dR how mode sh f gs ps wt start=some P):∀ k∈P,k<gs.length:=by
 unfold dR at e
 by_cases c:1<how∧bit f 1=false∧bit f 2=false
 ·rw [if_pos c] at e
  obtain rfl:=sj e
  exact (qk (how:=how) (F:=ssF f mode sh wt gs) hst).1
 ·rw [if_neg c] at e
  have p1:=(oJ _ _ _ _ e nofun (Nat.zero_le _)).1
  rw [List.length_map,List.length_drop,Nat.add_sub_of_le hst] at p1
  exact p1
theorem DB {c:Prop} [Decidable c] {a b:Out}(ha:kg a.v=true) (hb:¬ c→kg b.v=true):kg (if c then a else b).v=true:=by
 by_cases h:c
 ·rw [if_pos h]; exact ha
 ·rw [if_neg h]; exact hb h
theorem H7 (r:Row how mode sh f which gs ps wt):kg (zd how mode sh f which gs ps wt).v=true:=by
 refine DB (by kernel_rfl) fun _=>DB (by kernel_rfl) fun _=>DB ?_ fun c5=>DB (by kernel_rfl) fun _=>?_
 ·refine wV ?_
  unfold rm
  cases (bit f 1||bit f 4) <;> kernel_rfl
 ·have hl:d0 which gs.length≤gs.length:=by
   rcases Nat.lt_or_ge which 3 with z | z
   ·have e0:d0 which gs.length=0:=by
     match which,z with
     | 0,_=>rfl
     | 1,_=>rfl
     | 2,_=>rfl
    rw [e0]; exact Nat.zero_le _
   ·exact Nat.le_of_not_le fun h=>c5 ⟨z,h⟩
  cases e:dR how mode sh f gs ps wt (d0 which gs.length) with
  | none=>kernel_rfl
  | some P=>exact wV (H5 r.g (Nat.le_trans r.n (by decide)) (E1 r hl e))
end
section
variable {α:Type}{L:α→Prop}{r:kh}{H G:AH}{i how mode sh fl which n k:Nat}{c:Fl→LV→AH→Tr α}{x8 x9 x10 x11 x12 x13 x14 x15 x16 x17:Option V}{wt:Wo}{gs:List (List Wo)}{ps:List Pc}{hv pv:V}
theorem e16 {p:Pc}{m:LV}:(cR bU 21 (aE (aE (sE (at_ bB.body 16)) 1) 0) m p.v G).tt fun q=>q=(some (S p.k.w),G):=by
 exact goC []
theorem r16 (hp:∀ p∈ps,p∈pcs) (hn:ps.length≤10) (q:(rB 17 (rM r i how mode sh fl which [x8,x9,x10,x11,x12,x13,x14,x15,some (.lst (ps.map Pc.v)),x17,some wt.v,some (S (bD how ps wt)),none,none]) G c).tt L) :
  (rB 16 (rM r i how mode sh fl which [x8,x9,x10,x11,x12,x13,x14,x15,some (.lst (ps.map Pc.v)),x17,some wt.v,none,none,none]) G c).tt L:=by
 by_cases h0:how=0
 ·have hj:eQ .join (S []) [.lst ((ps.map fun p=>p.k.w).map S)]=some (S (mO ps)):=by
   have h:=pY (f:=fun p:Pc=>p.k.w.length) (B:=5) (l:=ps) fun p h=>aX (List.all_eq_true.mp Kf p (hp p h))
   have k:=pW (sep:=[]) (us:=ps.map fun p=>p.k.w) (by rw [List.map_map]; exact Nat.le_trans (Nat.le_trans h (Nat.mul_le_mul_right 5 hn)) (by decide))
   rw [wU] at k
   exact k
  rw [List.map_map] at hj
  have hc:∀ m,cQ (cR bU 21 (aE (aE (sE (at_ bB.body 16)) 1) 0) m) (ps.map Pc.v) G (ps.map fun p=>S p.k.w) G:=fun m=>dj ps fun p _=>e16
  have hc:=hc (rM r i how mode sh fl which [x8,x9,x10,x11,x12,x13,x14,x15,some (.lst (ps.map Pc.v)),x17,some wt.v,none,none,none])
  rw [bD,if_pos h0] at q
  have hj:eQ .join (S []) [.lst (ps.map fun p=>S p.k.w)]=some (S (mO ps)):=hj
  generalize (ps.map fun p=>S p.k.w)=gv at *
  generalize ps.map Pc.v=pv at *
  exact goK q 0 [xC 3 (nT h0),xQ 2 hc,xV 0 hj]
 ·rw [bD,if_neg h0] at q
  generalize ps.map Pc.v=pv at *
  exact goK q 2 [xC 3 (nF h0)]
end
end
section
section
variable {α:Type}{L:α→Prop}{r:kh}{H G:AH}{i how mode sh fl which n k:Nat}{N:Int}{c:Fl→LV→AH→Tr α}{x8 x9 x10 x11 x12 x13 x14 x15 x16 x17:Option V}{wt:Wo}{gs:List (List Wo)}{ps:List Pc}{hv pv:V}
theorem r17 (hg:∀ g∈gs,Grp mode sh g) (q:(rB 18 (rM r i how mode sh fl which [x8,x9,x10,x11,x12,some (aA gs),x14,x15,x16,x17,some wt.v,some pv,some (aq gs),none]) G c).tt L) :
  (rB 17 (rM r i how mode sh fl which [x8,x9,x10,x11,x12,some (aA gs),x14,x15,x16,x17,some wt.v,some pv,none,none]) G c).tt L:=by
 have hc:cQ (rC 17 r i how mode sh fl which [x8,x9,x10,x11,x12,some (aA gs),x14,x15,x16,x17,some wt.v,some pv,none,none]) (gs.map iu) G (gs.map itS) G:=dj gs fun g h=>by
  have hi:fL [iu g] (.ok (S (bl g))):=ww (fun w hw=>Nat.le_trans (dx ((hg g h).w w hw)).2 (by decide)) (by rw [(hg g h).n]; split <;> decide)
  generalize iu g=g1 at *
  exact goC [xP 1 hi]
 unfold aA aq at *
 generalize gs.map iu=g1 at *
 generalize gs.map itS=g2 at *
 exact goK q 0 [xQ 2 hc]
theorem r18 {ws:List V}{t:List Nat}(hs:cv [.int which,.int 0] (.ok (.tup [S t,hv]))) (ho:dG [.int how,.int mode,.int sh,.int fl,S t] (.ok (.lst ws))) (hl:bH [aq gs] (.ok pv)) (hn:ws.length≤100000) {p1:V}
  (q:(rB 19 (rM r i how mode sh fl which [x8,x9,x10,x11,x12,x13,x14,x15,x16,x17,some wt.v,some p1,some (aq gs),some (.lst (ws++[pv,p1]))]) G c).tt L) :
  (rB 18 (rM r i how mode sh fl which [x8,x9,x10,x11,x12,x13,x14,x15,x16,x17,some wt.v,some p1,some (aq gs),none]) G c).tt L:=by
 have al:=yz (vs:=ws) (us:=[pv,p1]) (Nat.le_trans (Nat.add_le_add_right hn 2) (by decide))
 generalize aq gs=iv at *
 exact goK q 0 [xP 5 hs,xP 1 ho,xP 1 hl,xV 1 al]
theorem r19 {ws:List V}{rv iv:V}(hn:ws.length≤100000) (hh:bZ [.lst (S [108,115,101,97,114,99,104]::ws)] (.ok rv)) (hd:jf [.int how,.int mode,.int fl,iv,hv,wt.v,pv,.int which] (.ok rv)) (he:aF G .Eq rv rv=some true) :
  (rB 19 (rM r i how mode sh fl which [x8,x9,x10,x11,x12,x13,some hv,x15,some pv,x17,some wt.v,x14,some iv,some (.lst ws)]) G iw).tt fun p=>F6 p (.ok (.bool true)) G:=by
 have al:=yz (vs:=[S [108,115,101,97,114,99,104]]) (us:=ws) (Nat.le_trans (Nat.add_le_add_left hn 1) (by decide))
 have al:cA .Add (.lst [S [108,115,101,97,114,99,104]]) (.lst ws)=some (.lst (S [108,115,101,97,114,99,104]::ws)):=al
 generalize wt.v=w1 at *
 exact goT (⟨rfl,rfl⟩:Res.ok (.bool true)=.ok (.bool true)∧G=G) [xV 1 al,xP 0 hh,xP 8 hd,xB 0 he]
end
end
section
section
variable {r:kh}{H G:AH}{i how mode sh fl which n k:Nat}{N:Int}{x8 x9 x10 x11 x12 x13 x14 x15 x16 x17:Option V}{gs:List (List Wo)}{ws:List Wo}
noncomputable abbrev To_ (m:LV) (G:AH) (a:Nat) (m':LV) (G':AH) (b:Nat):Prop:=∀ L:Fl × AH→Prop,(rB b m' G' iw).tt L→(rB a m G iw).tt L
noncomputable abbrev m0 (r:kh) (i:Nat):LV:=[some r.v,some (.ref i),none,none,none,none,none,none,none,none,none,none,none,none,none,none,none,none,none,none,none,none]
theorem stA (hi:i<H.length) (N:Int):∃ (how mode sh fl which:Nat) (N':Int),(how<4∧mode<3∧sh<3∧fl<128∧which<12)∧To_ (m0 r i) (pn H i N) 0 (rM r i how mode sh fl which [none,none,none,none,none,none,none,none,none,none,none,none,none,none]) (pn H i N') 3 :=
 l7 (dr hi 4 rfl r.a0 N) fun z1 N1 how d1 e1 h1=>l7 (dr hi 3 rfl r.a1 N1) fun z2 N2 mode d2 e2 h2=>l7 (dr hi 3 rfl r.a2 N2) fun z3 N3 sh d3 e3 h3=>l7 (dr hi 128 rfl r.a3 N3) fun z4 N4 fl d4 e4 h4=>l7 (dr hi 12 rfl r.a4 N4) fun z5 N5 which d5 e5 h5 =>
  ⟨how,mode,sh,fl,which,N5,⟨h1,h2,h3,h4,h5⟩,fun L q=>r0 d1 d2 d3 d4 d5 e1 e2 e3 e4 e5 q⟩
theorem QQ:(Nat.blt 0 (mN sh)&&Nat.ble (mN sh) 999999)=true:=by unfold mN; split <;> rfl
theorem DC {size:Nat}(h:size<mN sh):size*wN sh≤6:=by
 unfold mN at h
 unfold wN
 by_cases s:sh=0
 ·rw [if_pos s] at h ⊢; rw [Nat.mul_one]; exact Nat.le_of_lt_succ h
 ·rw [if_neg s] at h ⊢; exact Nat.mul_le_mul_right 2 (Nat.le_of_lt_succ h)
theorem A9 {size:Nat}(h:size<mN sh):size≤6:=by
 unfold mN at h
 by_cases s:sh=0
 ·rw [if_pos s] at h; exact Nat.le_of_lt_succ h
 ·rw [if_neg s] at h; exact Nat.le_trans (Nat.le_of_lt h) (by decide)
theorem H8 (ok:A7 r):∀ v∈r.ws++zg,qm v:=fun v hv=>(List.mem_append.mp hv).elim (ok.w v) fun h=>by
 have e:v=S []:=by
  have k:zg=List.replicate 6 (S []):=rfl
  rw [k] at h
  exact List.eq_of_mem_replicate h
 exact .inl ⟨[],e,nofun,Nat.zero_le _⟩
noncomputable abbrev Wok (how mode:Nat) (ws:List Wo):Prop:=∀ w∈ws,w∈dom mode∧(1<how→cw mode w)
theorem stB (ok:A7 r) (hi:i<H.length) (N:Int):∃ (size:Nat) (ws:List Wo) (N':Int),size<mN sh∧ws.length=size*wN sh∧Wok how mode ws ∧
  To_ (rM r i how mode sh fl which [none,none,none,none,none,none,none,none,none,none,none,none,none,none]) (pn H i N) 3 (rM r i how mode sh fl which [some (.int (mN sh)),some (.int size),some (.lst (r.ws++zg)),some (.lst (ws.map Wo.v)),none,none,none,none,none,none,none,none,none,none]) (pn H i N') 7 :=
 l7 (dr hi (mN sh) QQ ((r.ws.length:Int).fdiv (wN sh)) N) fun z1 N1 size d1 e1 h1=>by
  have h6:=DC h1
  obtain ⟨ws,N',l1,l2,hc⟩:=uN (r:=r) (how:=how) (mode:=mode) (sh:=sh) (fl:=fl) (which:=which) (x8:=some (.int (mN sh))) (x9:=some (.int size)) (told:=r.ws++zg) hi (H8 ok) (size*wN sh) 0 N1 (by rw [Nat.zero_add,List.length_append]; exact Nat.le_trans h6 (Nat.le_add_left ..))
  exact ⟨size,ws,N',h1,l1,l2,fun L q=>r3 ok.n d1 e1 (r6 (zi (Nat.le_trans (A9 h1) (by decide)) HZ) (Nat.le_trans h6 (by decide)) hc q)⟩
theorem H9:(bV.all fun t=>Nat.ble t.length 9)=true:=by kernel_rfl
theorem Ia:ten∈bT:=List.mem_of_getElem? (i:=4) rfl
theorem M5 {w:Wo}(h:w∈dom mode) (hl:9<w.t.length):ten∈dom mode∧(1<how→cw mode ten):=by
 have hm:mode=2:=Classical.byContradiction fun hm=>absurd (aX (List.all_eq_true.mp H9 _ (dy h hm).1)) (Nat.not_le.mpr hl)
 subst hm
 exact ⟨Ia,fun _=>⟨Ia,fun _=>rfl⟩⟩
theorem stC (hw:Wok how mode ws) (hl:ws.length≤6):∃ (ws':List Wo) (x:V),ws'.length=ws.length∧Wok how mode ws' ∧
  To_ (rM r i how mode sh fl which [x8,x9,x10,some (.lst (ws.map Wo.v)),none,none,none,none,none,none,none,none,none,none]) G 7 (rM r i how mode sh fl which [x8,x9,x10,some (.lst (ws'.map Wo.v)),some x,none,none,none,none,none,none,none,none,none]) G 9:=by
 have hl2:ws.length≤100:=Nat.le_trans hl (by decide)
 obtain ⟨P,h1,h2,hc⟩:=uO (r:=r) (i:=i) (how:=how) (mode:=mode) (sh:=sh) (fl:=fl) (which:=which) (x8:=x8) (x9:=x9) (x10:=x10) (G:=G) (ws:=ws) ws.length 0 (Nat.le_of_eq (Nat.zero_add _))
 have hP:P.length≤100:=Nat.le_trans h1 hl2
 have e:∀ k,k<ws.length→ws[k]? = some (ws.getD k ten):=fun k hk=>by rw [List.getD_eq_getElem?_getD,List.getElem?_eq_getElem hk]; rfl
 have hk:∀ k∈List.range' 0 ws.length,k<ws.length:=fun k hk=>by rw [List.mem_range'_1,Nat.zero_add] at hk; exact hk.2
 have c8:cQ (rC 8 r i how mode sh fl which [x8,x9,x10,some (.lst (ws.map Wo.v)),some (be P),none,none,none,none,none,none,none,none,none]) ((List.range' 0 ws.length).map fun i=>.int (i:Nat)) G ((List.range' 0 ws.length).map fun k=>(if (P.drop (if how=0 then 0 else 1)).contains k=true then ten else ws.getD k ten).v) G :=
  dj (List.range' 0 ws.length) fun k h=>e8 rfl hP (e k (hk k h)) oy
 refine ⟨(List.range' 0 ws.length).map fun k=>if (P.drop (if how=0 then 0 else 1)).contains k=true then ten else ws.getD k ten,be P,by rw [List.length_map,List.length_range'],fun w hw'=>?_,fun L q=>r7 hl2 hc (r8 hl2 c8 ?_)⟩
 ·obtain ⟨k,hk',rfl⟩:=List.mem_map.mp hw'
  by_cases z:(P.drop (if how=0 then 0 else 1)).contains k=true
  ·rw [if_pos z]
   obtain ⟨w,hw1,hw2⟩:=h2 k (List.mem_of_mem_drop (List.contains_iff_mem.mp z))
   exact M5 (hw w (List.mem_of_getElem? hw1)).1 hw2
  ·rw [if_neg z]
   exact hw _ (List.mem_of_getElem? (e k (hk k hk')))
 ·rw [List.map_map] at q
  exact q
theorem Kh {size:Nat}(hw:Wok how mode ws) (hl:ws.length=size*wN sh):∀ g∈(List.range' 0 size).map (qo sh ws),Grp mode sh g∧∀ w∈g,1<how→cw mode w:=by
 intro g hg
 obtain ⟨k,hk,rfl⟩:=List.mem_map.mp hg
 rw [List.mem_range'_1,Nat.zero_add] at hk
 have hm:∀ x∈qo sh ws k,x∈ws:=fun x hx=>List.mem_of_mem_drop (List.mem_of_mem_take hx)
 refine ⟨⟨fun x hx=>(hw x (hm x hx)).1,?_⟩,fun x hx=>(hw x (hm x hx)).2⟩
 have h1:(k+1)*wN sh≤size*wN sh:=Nat.mul_le_mul_right _ hk.2
 rw [Nat.add_mul,Nat.one_mul,← hl,Nat.add_comm] at h1
 have:(qo sh ws k).length=wN sh:=by
  rw [qo,List.length_take,List.length_drop]
  exact Nat.min_eq_left (Nat.le_sub_of_add_le h1)
 exact this
theorem Ib {g:List Wo}(h:Grp mode sh g):aN sh g∈g:=h.el (fun a s _ e=>by
  subst e
  have s2:¬ sh=2:=fun h=>by rw [h] at s; exact absurd s (by decide)
  rw [show aN sh [a]=a from if_neg s2]; exact .head _) fun a b s _ _ e=>by
  subst e
  by_cases s2:sh=2
  ·rw [show aN sh [a,b]=b from if_pos s2]; exact .tail _ (.head _)
  ·rw [show aN sh [a,b]=a from if_neg s2]; exact .head _
noncomputable abbrev Gok (how mode sh fl:Nat) (gs:List (List Wo)):Prop:=gs.length≤6∧(∀ g∈gs,Grp mode sh g)∧(1<how→ke mode sh gs∧oA mode sh (bit (fl:Nat) 8) (bit (fl:Nat) 16) gs)
theorem stD {size:Nat}(hm:mode<3) (hs:sh<3) (hsz:size≤6) (hw:Wok how mode ws) (hl:ws.length=size*wN sh) (h6:ws.length≤6):∃ gs,Gok how mode sh fl gs ∧
  To_ (rM r i how mode sh fl which [x8,some (.int size),x10,some (.lst (ws.map Wo.v)),x12,none,none,none,none,none,none,none,none,none]) G 9 (rM r i how mode sh fl which [x8,some (.int size),x10,some (.lst (ws.map Wo.v)),x12,some (aA gs),some (.lst ((a9 sh gs).map Wo.v)),none,none,none,none,none,none,none]) G 12:=by
 have hg:=Kh hw hl
 have hn:((List.range' 0 size).map (qo sh ws)).length≤6:=by rw [List.length_map,List.length_range']; exact hsz
 have h9:=fun (L:Fl × AH→Prop)=>r9 (L:=L) (r:=r) (G:=G) (c:=iw) (i:=i) (how:=how) (mode:=mode) (sh:=sh) (fl:=fl) (which:=which) (size:=size) (x8:=x8) (x10:=x10) (x12:=x12) (ws:=ws) (Nat.le_trans hsz (by decide)) (Nat.le_trans h6 (by decide))
 generalize (List.range' 0 size).map (qo sh ws)=gs at *
 by_cases z:1<how
 ·have hh:ke mode sh gs:=fun g h=>(hg g h).2 _ (Ib (hg g h).1) z
  obtain ⟨gs',p,ps,hi⟩:=vh ⟨hm,hs,fun g h=>(hg g h).1,Nat.le_trans hn (by decide)⟩ hh (fl:Nat)
  have hg':∀ g∈gs',Grp mode sh g:=fun g h=>(hg g (p.mem_iff.mp h)).1
  exact ⟨gs',⟨by rw [p.length_eq]; exact hn,hg',fun _=>⟨fun g h=>hh g (p.mem_iff.mp h),ps⟩⟩,fun L q=>h9 L (r10 (fun _=>hi) (fun h=>absurd z h) (r11 hg' q))⟩
 ·exact ⟨gs,⟨hn,fun g h=>(hg g h).1,fun h=>absurd h z⟩,fun L q=>h9 L (r10 (fun h=>absurd h z) (fun _=>rfl) (r11 (fun g h=>(hg g h).1) q))⟩
end
end
section
section
variable {r:kh}{H G:AH}{i how mode sh fl which n k:Nat}{N:Int}{x8 x9 x10 x11 x12 x13 x14 x15 x16 x17:Option V}{gs:List (List Wo)}{ws:List Wo}
theorem rq (hi:i<H.length):∀ (n k:Nat) (N:Int),∃ (ps:List Pc) (N':Int),ps.length=n∧(∀ p∈ps,p∈pcs) ∧
  cQ (rC 13 r i how mode sh fl which [x8,x9,x10,x11,x12,x13,x14,x15,none,none,none,none,none,none]) ((List.range' k n).map fun i=>.int (i:Nat)) (pn H i N) (ps.map Pc.v) (pn H i N')
 | 0,k,N=>⟨[],N,rfl,nofun,rfl,rfl⟩
 | n+1,k,N=>l7 (dr hi 12 rfl ((if k<r.pi.length then r.pi.getD k 0 else 0:Nat):Int) N) fun z1 N1 j d e h=>by
  have hj:j<pcs.length:=h
  obtain ⟨ps,N',l1,l2,ih⟩:=rq hi n (k+1) N1
  refine ⟨pcs[j]::ps,N',congrArg (·+1) l1,fun x hx=>?_,zh (e13 rfl d e (List.getElem?_eq_getElem hj)) ih⟩
  rcases List.mem_cons.mp hx with rfl | hx
  ·exact List.getElem_mem hj
  ·exact l2 x hx
theorem stE (ok:A7 r) (hi:i<H.length) (hg:∀ g∈gs,Grp mode sh g) (N:Int):∃ (ps:List Pc) (wt:Wo) (x15 x17:V) (N':Int),ps.length≤3∧(∀ p∈ps,p∈pcs)∧wt∈dom mode ∧
  To_ (rM r i how mode sh fl which [x8,x9,x10,x11,x12,some (aA gs),some (.lst ((a9 sh gs).map Wo.v)),none,none,none,none,none,none,none]) (pn H i N) 12 (rM r i how mode sh fl which [x8,x9,x10,x11,x12,some (aA gs),some (.lst ((a9 sh gs).map Wo.v)),some x15,some (.lst (ps.map Pc.v)),some x17,some wt.v,some (S (bD how ps wt)),none,none]) (pn H i N') 17 :=
 l7 (dr hi 4 rfl ((r.pi.map fun k=>V.int (k:Nat)).length:Nat) N) fun z1 N1 many d1 e1 h1=>by
  obtain ⟨ps,N2,p1,p2,hc⟩:=rq (r:=r) (how:=how) (mode:=mode) (sh:=sh) (fl:=fl) (which:=which) (x8:=x8) (x9:=x9) (x10:=x10) (x11:=x11) (x12:=x12) (x13:=some (aA gs)) (x14:=some (.lst ((a9 sh gs).map Wo.v))) (x15:=some (.int many)) hi many 0 N1
  obtain ⟨z2,N3,pick,d2,e2,h2⟩:=dr hi 8 rfl r.a7 N2
  have p3:ps.length≤3:=by rw [p1]; exact Nat.le_of_lt_succ h1
  have main:=fun (L:Fl × AH→Prop) q=>r12 (L:=L) (r:=r) (i:=i) (how:=how) (mode:=mode) (sh:=sh) (fl:=fl) (which:=which) (x8:=x8) (x9:=x9) (x10:=x10) (x11:=x11) (x12:=x12) (x13:=some (aA gs)) (x14:=some (.lst ((a9 sh gs).map Wo.v))) (c:=iw) d1 e1 (r13 (Nat.le_trans (Nat.le_of_lt h1) (by decide)) hc (r14 d2 e2 q))
  by_cases z:pick<(a9 sh gs).length
  ·refine ⟨ps,(a9 sh gs)[pick],.int many,.int pick,N3,p3,p2,?_,fun L q=>main L (QO (List.getElem?_eq_getElem z) (r16 p2 (Nat.le_trans p3 (by decide)) q))⟩
   obtain ⟨g,hg',e⟩:=List.mem_map.mp (List.getElem_mem z)
   rw [← e]
   exact oz (hg g hg')
  ·obtain ⟨wt,N4,w1,_,w3⟩:=wT (N:=N3) (mode:=mode) (right:=false) hi ok.v
   exact ⟨ps,wt,.int many,.int pick,N4,p3,p2,w1,fun L q=>main L (QP (Nat.not_lt.mp z) w3 (r16 p2 (Nat.le_trans p3 (by decide)) q))⟩
theorem E2 {st:List Nat}(hh:how<4) (hm:mode<3) (hs:sh<3) {f:Int}:(dW how mode sh f st).length≤100:=by
 have k:∀ {L:List Og},(L.map (Og.ws st)).flatten.length≤2*L.length:=fun {L}=>by
  induction L with
  | nil=>exact Nat.le_refl _
  | cons g L ih =>
   rw [List.map_cons,List.flatten_cons,List.length_append,List.length_cons,Nat.mul_succ,Nat.add_comm]
   refine Nat.add_le_add ih ?_
   cases g <;> first | exact Nat.le_refl 2 | exact Nat.le_succ 1
 have e:(dW how mode sh f st).length=((AW how mode sh f st).map (Og.ws st)).flatten.length:=List.length_map ..
 rw [e]
 exact Nat.le_trans k (Nat.le_trans (Nat.mul_le_mul_left 2 AY) (by decide))
theorem stF {ps:List Pc}{wt:Wo}{hw:fl<128}(w:Row how mode sh (fl:Nat) which gs ps wt) :
  (rB 17 (rM r i how mode sh fl which [x8,x9,x10,x11,x12,some (aA gs),some (.lst ((a9 sh gs).map Wo.v)),x15,some (.lst (ps.map Pc.v)),x17,some wt.v,some (S (bD how ps wt)),none,none]) G iw).tt fun p=>F6 p (.ok (.bool true)) G:=by
 have hs:=lz (which:=which) (last:=0) w.hw
 have ho:=qe (f:=(fl:Nat)) (st:=bI which) w.hh w.hm w.hs
 have hl:=ll (ws:=gs.map bl) (fun x hx=>by
  obtain ⟨g,hg,rfl⟩:=List.mem_map.mp hx
  exact Nat.le_trans (w.g g hg).plain.2 (by decide)) (by rw [List.length_map]; exact Nat.le_trans w.n (by decide)) (Nat.le_trans (Dz w.g w.n) (by decide))
 rw [List.map_map] at hl
 have hl:bH [aq gs] (.ok (S (gi gs))):=hl
 have wl:=E2 (st:=bI which) w.hh w.hm w.hs (f:=(fl:Nat))
 have hh:=Cw w
 have es:(wsN how mode sh (fl:Nat) which gs ps wt).map S=S [108,115,101,97,114,99,104]::((dW how mode sh (fl:Nat) (bI which)).map S++[S (gi gs),S (bD how ps wt)]):=uM
 rw [es] at hh
 refine r17 w.g (r18 hs ho hl (by rw [List.length_map]; exact Nat.le_trans wl (by decide)) (r19 ?_ hh (HV (fq hw) w) (yK (AG (H7 w)))))
 rw [List.length_append,List.length_map]
 exact Nat.le_trans (Nat.add_le_add_right wl _) (show 100+2≤100000 by decide)
theorem uP (ok:A7 r) (hi:i<H.length) (N:Int):∃ N':Int,cJ [r.v,.ref i] (pn H i N) (.ok (.bool true)) (pn H i N'):=by
 obtain ⟨how,mode,sh,fl,which,N1,hb,tA⟩:=stA (r:=r) hi N
 obtain ⟨size,ws,N2,l1,l2,l3,tB⟩:=stB (how:=how) (mode:=mode) (sh:=sh) (fl:=fl) (which:=which) ok hi N1
 have l4:ws.length≤6:=by rw [l2]; exact DC l1
 obtain ⟨ws',x,c1,c2,tC⟩:=stC (r:=r) (i:=i) (how:=how) (mode:=mode) (sh:=sh) (fl:=fl) (which:=which) (G:=pn H i N2) (x8:=some (.int (mN sh))) (x9:=some (.int size)) (x10:=some (.lst (r.ws++zg))) l3 l4
 obtain ⟨gs,g1,tD⟩:=stD (r:=r) (i:=i) (how:=how) (mode:=mode) (sh:=sh) (fl:=fl) (which:=which) (G:=pn H i N2) (x8:=some (.int (mN sh))) (x10:=some (.lst (r.ws++zg))) (x12:=some x) hb.2.1 hb.2.2.1 (A9 l1) c2 (c1.trans l2) (by rw [c1]; exact l4)
 obtain ⟨ps,wt,x15,x17,N3,p1,p2,p3,tE⟩:=stE (how:=how) (fl:=fl) (which:=which) (x8:=some (.int (mN sh))) (x9:=some (.int size)) (x10:=some (.lst (r.ws++zg))) (x11:=some (.lst (ws'.map Wo.v))) (x12:=some x) ok hi g1.2.1 N2
 refine ⟨N3,rfl,?_⟩
 show (rB 0 (m0 r i) (pn H i N) iw).tt fun p=>F6 p (.ok (.bool true)) (pn H i N3)
 exact tA _ (tB _ (tC _ (tD _ (tE _ (stF (hw:=hb.2.2.2.1) ⟨hb.1,hb.2.1,hb.2.2.1,hb.2.2.2.2,g1.2.1,g1.1,p2,p1,p3,g1.2.2⟩)))))
end
end
section
noncomputable def gw:List kh:=[
 ⟨0,0,0,1,0,[S [97,98],S [98],S [97],S [65,98],S [42,97]],[6,0],0,S []⟩,
 ⟨0,0,0,45,0,[S [65,49],S [95],S [98,57],S [233],S [66,42]],[3,1],0,S []⟩,
 ⟨0,2,1,2,0,[.int 0,.int 7,.int 4,.int 12],[5,0],0,S []⟩,
 ⟨1,0,0,0,4,[S [98],S [97],S [98],S [66],S [98]],[],0,S []⟩,
 ⟨1,0,0,15,8,[S [97],S [66],S [201],S [98],S [233]],[],4,S []⟩,
 ⟨1,2,0,65,0,[.int 0,.int 5,.int 1,.int 2,.int 4],[],2,S []⟩,
 ⟨1,1,2,4,0,[S [97],S [98],S [98],S [66],S [65],S [98]],[],0,S []⟩,
 ⟨2,0,0,0,0,[S [98],S [97],S [98],S [66],S [97,49],S [98]],[],5,S []⟩,
 ⟨3,2,0,32,0,[.int 5,.int 0,.int 4,.int 6],[],1,.int 0⟩,
 ⟨3,1,0,16,0,[S [97,57],S [65,49],S [98],S [97,49]],[],5,S [97]⟩,
 ⟨3,0,0,0,4,[S [98],S [97],S [57]],[],5,S [49]⟩,
 ⟨3,0,0,1,0,[S [97],S [98]],[],0,S []⟩,
 ⟨1,2,0,0,0,[.int 4,.int 12,.int 0],[],2,.int 0⟩,
 ⟨2,2,2,100,0,[.int 0,.int 4,.int 1,.int 8,.int 3,.int 5],[],2,.int 0⟩]
theorem E3:hH [] (.ok (.lst (gw.map kh.v))):=gR
noncomputable def DD:V→Bool
 | .str ⟨⟨t⟩⟩=>t.all (fun c=>bv.contains c)&&Nat.ble t.length 2
 | .int i=>match i with
  | .ofNat _=>true
  | _=>false
 | _=>false
theorem DE {v:V}(h:DD v=true):qm v:=by
 unfold DD at h
 split at h
 ·rename_i t
  exact .inl ⟨t,rfl,fun c hc=>List.contains_iff_mem.mp (List.all_eq_true.mp (an h).1 c hc),aX (an h).2⟩
 ·rename_i i
  cases i with
  | ofNat k=>exact .inr ⟨k,rfl⟩
  | negSucc k=>exact ff h
 ·exact ff h
theorem Ic:(gw.all fun r=>(r.ws.all DD&&Nat.ble r.ws.length 6)&&(Nat.ble r.pi.length 10&&DD r.wv))=true:=by kernel_rfl
theorem Id {r:kh}(h:r∈gw):A7 r :=
 have k:=an (List.all_eq_true.mp Ic r h)
 ⟨fun v hv=>DE (List.all_eq_true.mp (an k.1).1 v hv),aX (an k.1).2,aX (an k.2).1,DE (an k.2).2⟩
theorem uQ {α β:Type}{f:α→β}{l:List α}{lo hi st:Option Int}:a6 (l.map f) lo hi st=(a6 l lo hi st).map f:=by
 unfold a6
 rw [List.length_map,List.map_filterMap]
 congr 1
 funext i
 rw [List.getElem?_map]
theorem Ba {α:Type} (l:List α) (lo:Option Int) {s:Int}(hs:0<s):(a6 l lo none (some s)).length≤l.length∧∀ x∈a6 l lo none (some s),x∈l:=by
 constructor
 ·unfold a6
  refine Nat.le_trans (List.length_filterMap_le _ _) (sliceRange_length_le _ _ _ _ (fun hc=>?_) fun hc=>?_)
  ·simp only [sliceBounds] at hc ⊢
   simp only [hc,if_true]
   constructor
   ·cases lo with
    | none=>simp
    | some i=>simp only; lia
   ·simp
  ·simp only [sliceBounds,Option.getD_some] at hc
   exact absurd hs hc
 ·intro x hx
  unfold a6 at hx
  refine ae (List.mem_filterMap.mp hx) fun i _ hi=>?_
  exact List.mem_of_getElem? hi
theorem Bb:∀ l:List Int,eM (l.map V.int)=some l
 | []=>rfl
 | a::l=>by rw [List.map_cons,eM,Bb l]; rfl
theorem wW {B:Nat}:∀ l:List Int,(∀ x∈l,x.natAbs≤B)→l.sum.natAbs≤l.length*B
 | [],_=>Nat.zero_le _
 | a::l,h=>by
  rw [List.sum_cons,List.length_cons,Nat.add_mul,Nat.one_mul,Nat.add_comm (l.length*B)]
  exact Nat.le_trans (Int.natAbs_add_le a l.sum) (Nat.add_le_add (h a (.head _)) (wW l fun x hx=>h x (.tail _ hx)))
section
variable {l:List Int}{K k:Nat}{G:AH}{lv sv:List V}{Z a:Int}
theorem M6 {n m:Nat}(h:n<2 ^ m) (hm:0<m):n.log2<m:=by
 rcases Nat.eq_zero_or_pos n with z | z
 ·rw [z]; exact hm
 ·exact (Nat.log2_lt (Nat.ne_of_gt z)).mpr h
theorem Ki:((List.range 14).all fun k=>decide (((10:Int) ^ 30+57+(k:Nat)).natAbs.log2<2000))=true:=by kernel_rfl
theorem Kj (hK:K≤1048576) (hk:k<14) (hZ:Z.natAbs≤63*2 ^ K):cA .Mult (.int Z) (.int ((10:Int) ^ 30+57+(k:Nat)))=some (.int (Z*((10:Int) ^ 30+57+(k:Nat)))):=by
 have h3:2 ^ (6+K)=64*2 ^ K:=Nat.pow_add ..
 have hl:Z.natAbs.log2<6+K:=M6 (Nat.lt_of_le_of_lt hZ (by rw [h3]; exact Nat.mul_lt_mul_of_pos_right (by decide) (Nat.two_pow_pos _))) (Nat.lt_add_right _ (by decide))
 have c:xd Z ((10:Int) ^ 30+57+(k:Nat))=true:=Bool.and_eq_true_iff.mpr ⟨decide_eq_true (Nat.lt_of_lt_of_le hl (Nat.le_trans (Nat.add_le_add_left hK 6) (by decide))),List.all_eq_true.mp Ki k (List.mem_range.mpr hk)⟩
 exact congrArg Cv.v (fx c)
theorem E4 (h:(a6 lv (some a) none (some 14)).length≤big):bG (.lst lv) (some (.int a)) none (some (.int 14))=some (.lst (a6 lv (some a) none (some 14))) :=
 have k:=eH h
 have q:∀ P:SlS (.lst lv) (some (.int a)) none (some (.int 14)) (.lst (a6 lv (some a) none (some 14))),Cv.v (P:=SlS (.lst lv) (some (.int a)) none (some (.int 14))) (wh (Nat.ble (a6 lv (some a) none (some 14)).length big) fun hn=>yes (.lst (a6 lv (some a) none (some 14))) P)=some (.lst (a6 lv (some a) none (some 14))):=fun P=>congrArg Cv.v (fx k)
 q (fun {_ _ _ _ _ _ _ _ _ _ _ _ _ _}=>sV (lo:=(some a)) (hi:=none) (k:=some 14) rfl rfl rfl (by decide) k)
theorem Pg {ns:List Int}(h:eM sv=some ns):nA G ⟨⟨[115,117,109]⟩⟩ [.lst sv]=some (.int ns.sum):=by
 have q:Ny G [.lst sv]=_:=cC h
 exact congrArg (fun c=>Cv.v (blI G ⟨⟨[115,117,109]⟩⟩ [.lst sv] ⟨⟨[115,117,109]⟩⟩ c (by decide +kernel) none)) q
theorem Kk (he:aF G .Eq (.lst lv) (.lst [])=some true):fU [.lst lv,.int k,.int 14] G (.ok (.ref G.length)) (G++[.list [.int 0]]):=by
 exact goH [xB 1 he] rfl
theorem Ie {M:Int}(he:aF G .Eq (.lst lv) (.lst [])=some false) (hm:cA .Mod (.int k) (.int (lv.length:Nat))=some (.int a)) (hs:bG (.lst lv) (some (.int a)) none (some (.int 14))=some (.lst sv)) (hu:nA G ⟨⟨[115,117,109]⟩⟩ [.lst sv]=some (.int Z)) (hx:cA .Mult (.int Z) (.int ((10:Int) ^ 30+57+(k:Nat)))=some (.int M)):fU [.lst lv,.int k,.int 14] G (.ok (.ref G.length)) (G++[.list [.int M]]):=by
 exact goH [xB 1 he,xV 6 hm,xV 1 hs,xV 0 hu,xV 4 hx] rfl
theorem Ig (hK:K≤1048576) (hl:l.length≤63) (hb:∀ x∈l,x.natAbs≤2 ^ K) (hk:k<14) (G:AH):∃ N:Int,fU [.lst (l.map .int),.int k,.int 14] G (.ok (.ref G.length)) (G++[.list [.int N]]):=by
 have he:aF G .Eq (.lst (l.map .int)) (.lst [])=some (decide (l=[])):=yK (Hg l [])
 have e:(l.map V.int).length=l.length:=List.length_map ..
 by_cases z:l=[]
 ·rw [decide_eq_true z] at he
  exact ⟨0,Kk he⟩
 ·rw [decide_eq_false z] at he
  have c:(Nat.blt 0 (l.map V.int).length&&Nat.ble (l.map V.int).length 999999)=true:=by
   rw [e]
   exact Bool.and_eq_true_iff.mpr ⟨eH (List.length_pos_iff.mpr z),eH (Nat.le_trans hl (by decide))⟩
  have hm:cA .Mod (.int k) (.int ((l.map V.int).length:Nat))=some (.int ((k:Int).fmod ((l.map V.int).length:Nat))):=congrArg Cv.v (fx c)
  generalize (k:Int).fmod ((l.map V.int).length:Nat)=a at *
  have h14:=Ba l (some a) (s:=14) (by decide)
  have hs:=E4 (lv:=l.map V.int) (a:=a) (by rw [uQ,List.length_map]; exact Nat.le_trans h14.1 (Nat.le_trans hl (by decide)))
  rw [uQ] at hs
  have hu:=Pg (G:=G) (Bb (a6 l (some a) none (some 14)))
  have hZ:=wW (B:=2 ^ K) (a6 l (some a) none (some 14)) fun x hx=>hb x (h14.2 x hx)
  exact ⟨_,Ie he hm hs hu (Kj hK hk (Nat.le_trans hZ (Nat.mul_le_mul_right _ (Nat.le_trans h14.1 hl))))⟩
end
end
section
section
variable {l:List Int}{K k i:Nat}{G H H':AH}{lv tv:List V}{rv:V}{x2:Option V}{xs:List V}{m':LV}{G':AH}
noncomputable abbrev Kl:=fR wg 7 (at_ wf.body 1)
noncomputable abbrev E5 (lv tv:List V) (x2:Option V):LV:=[some (.lst lv),some (.lst tv),x2,none,none,none]
theorem E6 (hk:tv[k]? = some rv) (hp:fU [.lst lv,.int k,.int (tv.length:Nat)] G (.ok (.ref i)) H) (hr:cJ [rv,.ref i] H (.ok (.bool true)) H') (ih:Kl xs (E5 lv tv (some (.int k))) H' .next m' G'):Kl (.int k::xs) (E5 lv tv x2) G .next m' G':=by
 have it:=bS G hk
 exact fI ih [xV 2 it,xR 4 hp,xR 0 hr]
theorem Bc (hK:K≤1048576) (hl:l.length≤63) (hb:∀ x∈l,x.natAbs≤2 ^ K):∀ (n k:Nat) (x2:Option V) (G:AH),k+n=14 →
  ∃ (y2:Option V) (G':AH),Kl ((List.range' k n).map fun i=>.int (i:Nat)) (E5 (l.map .int) (gw.map kh.v) x2) G .next (E5 (l.map .int) (gw.map kh.v) y2) G'
 | 0,k,x2,G,h=>⟨x2,G,fN⟩
 | n+1,k,x2,G,h=>by
  have hk:k<14:=by rw [← h]; exact Nat.lt_add_of_pos_right (Nat.succ_pos n)
  have e:=List.getElem?_eq_getElem (show k<gw.length from hk)
  have hm:gw[k]∈gw:=List.getElem_mem _
  obtain ⟨N,hp⟩:=Ig hK hl hb hk G
  have hi:G.length<(G++[AO.list [.int N]]).length:=by rw [List.length_append]; exact Nat.lt_succ_self _
  obtain ⟨N',hr⟩:=uP (Id hm) hi N
  have es:pn (G++[AO.list [.int N]]) G.length N=G++[.list [.int N]]:=fY List.getElem?_concat_length
  rw [es] at hr
  obtain ⟨y2,G',ih⟩:=Bc hK hl hb n (k+1) (some (.int k)) (pn (G++[AO.list [.int N]]) G.length N') (by rw [Nat.add_assoc,Nat.add_comm 1]; exact h)
  exact ⟨y2,G',E6 (by rw [List.getElem?_map,e]; rfl) hp hr ih⟩
noncomputable abbrev M7:=fR wg 7 (at_ wf.body 2)
noncomputable abbrev lsN:List Nat:=[108,115,101,97,114,99,104]
noncomputable abbrev rsN:List Nat:=[114,97,105,115,101,100]
noncomputable def uR:List V:=match xD false io ft [] with
 | some (.ok (.lst l))=>l
 | _=>[]
noncomputable def lN (i:Nat):List V × V × V:=match uR[i]? with
 | some (.tup [.lst ws,why,code])=>(ws,why,code)
 | _=>([],.none,.none)
noncomputable abbrev zj (p:List V × V × V):V:=.tup [.lst p.1,p.2.1,p.2.2]
theorem E7:fu [] (.ok (.lst uR)):=gR
theorem Km:uR=[zj (lN 0),zj (lN 1),zj (lN 2),zj (lN 3),zj (lN 4),zj (lN 5),zj (lN 6),zj (lN 7)]:=by kernel_rfl
noncomputable def oK (p:List V × V × V):Prop:=bZ [.lst (S lsN::p.1)] (.ok (.tup [S rsN,.int 1,p.2.1,p.2.2]))∧cA .Add (.lst [S lsN]) (.lst p.1)=some (.lst (S lsN::p.1))∧∀ G,aF G .NotEq (.tup [S rsN,.int 1,p.2.1,p.2.2]) (.tup [S rsN,.int 1,p.2.1,p.2.2])=some false
theorem QR:oK (lN 0):=⟨gR (by kernel_rfl),by kernel_rfl,fun G=>by kernel_rfl⟩
theorem QS:oK (lN 1):=⟨gR (by kernel_rfl),by kernel_rfl,fun G=>by kernel_rfl⟩
theorem QT:oK (lN 2):=⟨gR (by kernel_rfl),by kernel_rfl,fun G=>by kernel_rfl⟩
theorem QU:oK (lN 3):=⟨gR (by kernel_rfl),by kernel_rfl,fun G=>by kernel_rfl⟩
theorem QW:oK (lN 4):=⟨gR (by kernel_rfl),by kernel_rfl,fun G=>by kernel_rfl⟩
theorem QY:oK (lN 5):=⟨gR (by kernel_rfl),by kernel_rfl,fun G=>by kernel_rfl⟩
theorem QZ:oK (lN 6):=⟨gR (by kernel_rfl),by kernel_rfl,fun G=>by kernel_rfl⟩
theorem Q0:oK (lN 7):=⟨gR (by kernel_rfl),by kernel_rfl,fun G=>by kernel_rfl⟩
theorem gx {p:List V × V × V}{x0 x3 x4 x5:Option V}(h:oK p) (ih:M7 xs [x0,some (.lst tv),x2,some (.lst p.1),some p.2.1,some p.2.2] G .next m' G'):M7 (zj p::xs) [x0,some (.lst tv),x2,x3,x4,x5] G .next m' G':=by
 obtain ⟨ws,why,code⟩:=p
 have hh:=h.1
 have al:=h.2.1
 have he:=h.2.2 G
 exact fI ih [xV 1 al,xP 0 hh,xB 2 he]
theorem Kn {x0:Option V}:∃ m',M7 uR [x0,some (.lst tv),x2,none,none,none] G .next m' G:=by
 rw [Km]
 exact ⟨_,gx QR (gx QS (gx QT (gx QU (gx QW (gx QY (gx QZ (gx Q0 fN)))))))⟩
theorem Ih (ht:hH [] (.ok (.lst tv))) (he:tv.length=14) (hr:Kl ((List.range' 0 tv.length).map fun i=>.int (i:Nat)) (E5 lv tv none) [] .next (E5 lv tv x2) G):wi [.lst lv] [] (.ok (.bool true)) G:=by
 have ir:=bR (a:=0) (b:=tv.length) (by rw [he]; decide) (Nat.zero_le _)
 rw [Nat.sub_zero] at ir
 have rs:=E7
 refine aj (Kn (x0:=some (.lst lv)) (tv:=tv) (x2:=x2) (G:=G)) fun m2 rl=>?_
 have it:lT (.lst uR)=some uR:=by kernel_rfl
 generalize (List.range' 0 tv.length).map (fun i=>V.int (i:Nat))=R at *
 generalize uR=W at *
 exact goH [xP 0 ht,xL 3 ir,xS 0 hr,xP 0 rs,xL 0 it,xS 0 rl] rfl
theorem Ii (hK:K≤1048576) (hl:l.length≤63) (hb:∀ x∈l,x.natAbs≤2 ^ K):∃ G,wi [.lst (l.map .int)] [] (.ok (.bool true)) G:=by
 obtain ⟨y2,G,h⟩:=Bc hK hl hb 14 0 none [] rfl
 exact ⟨G,Ih E3 (List.length_map ..) h⟩
end
end
end Mine
end
section
open PySem PySem.W PyProof.Rows
namespace Mine.Z
theorem law_all (l:List Int) (hl:l.length≤63) (hb:∀ x∈l,Builtin.Int.intBits x≤1048576):∃ G,wi [.lst (l.map .int)] [] (.ok (.bool true)) G:=by
 obtain ⟨K,hK⟩:∃ K:Nat,K=1048576:=⟨_,rfl⟩
 rw [← hK] at hb
 exact Ii (K:=K) (Nat.le_of_eq hK) hl fun x hx=>Nat.le_of_lt (intBits_le_iff.mp (hb x hx))
end Mine.Z
end
theorem PySem.Challenge.cw_np0151_01_holds : PySem.Challenge.rw_np0151_01.Holds :=
 Mine.Z.holds_of Mine.Z.law_all
