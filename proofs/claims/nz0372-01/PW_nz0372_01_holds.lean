import PyProof.Rows.All
import Wide.All
import OpenK.AllK
import Wide.FinOn
import Lean
import PySem.Challenge.RW_nz0372_01
open PySem PySem.W PyProof.Rows
set_option Elab.async false
set_option linter.all false
set_option genInjectivity false
set_option genSizeOf false
set_option genSizeOfSpec false
set_option maxRecDepth 100000
set_option maxHeartbeats 8000000
section
namespace Mine
noncomputable def qv : Program := { PySem.Challenge.pw_nz0372_01 with main := { PySem.Challenge.pw_nz0372_01.main with body := PySem.Challenge.pw_nz0372_01.main.body.drop 69 } }
noncomputable def lv : List PySem.Str := PySem.Challenge.pw_nz0372_01.main.scope.names.map (·.1)
noncomputable def dL : DefRec × List (PySem.Str × PySem.Expr) := (defOf qv (PySem.Str.ofString "law")).getD ⟨⟨default, default, default, default, default⟩, []⟩
end Mine
end
section
lay_quick PySem.W.topStub PySem.W.boot_o_1 PySem.W.boot_o_3 PySem.W.boot_o_4 PySem.W.boot_o_5 PySem.W.boot_o_6 PySem.W.boot_o_7 PySem.W.boot_o_9 PySem.W.boot_o_10
namespace Mine
@[reducible] noncomputable def pw := PySem.Challenge.pw_nz0372_01
@[reducible] noncomputable def pQ := PySem.Challenge.pw_nz0372_01
@[reducible] noncomputable def tbQ:=PySem.W.Fast.tw14364793385576792824
@[reducible] noncomputable def denQ:=PySem.W.Fast.tw11892475500146522536
@[reducible] noncomputable def stepTQ:=PySem.W.Fast.tw10156331382660048174
@[reducible] noncomputable def stepOkQ:=PySem.W.Fast.tw6613529449190102663
@[reducible] noncomputable def stubQ:=PySem.W.Fast.tw2530740449226627131
@[reducible] noncomputable def openSeenQ:=@PySem.W.Fast.tw4187177175401517315
noncomputable def bl (os:List Obj) (a b:Nat):Nat→BT
  | 0=>.nil
  | d + 1=>match os[b]? with
    | some o=>.node o (bl os (2 * a) (a + b) d) (bl os (2 * a) (2 * a + b) d)
    | none=>.nil
noncomputable def T0 (P:Params):BT:=bl [boot_o_0 P,boot_o_1 P,boot_o_2 P,boot_o_3 P,boot_o_4 P,boot_o_5 P,boot_o_6 P,boot_o_7 P,boot_o_8 P,boot_o_9 P,boot_o_10 P] 1 0 10
noncomputable def T0Q (P:Params):BT:=bl [boot_o_0 P,PySem.W.Fast.tw12831946366807014121 P,boot_o_2 P,PySem.W.Fast.tw1184825839854068080 P,PySem.W.Fast.tw16963627058361203756 P,PySem.W.Fast.tw4063309880790847132 P,PySem.W.Fast.tw16335552587211677449 P,PySem.W.Fast.tw1921148480499289173 P,boot_o_8 P,PySem.W.Fast.tw1564543192828473526 P,PySem.W.Fast.tw9434032782923581289 P] 1 0 10
theorem T0_eq:T0 = T0Q:=by
  funext P
  unfold T0 T0Q
  rw [PySem.W.Fast.te12831946366807014121,PySem.W.Fast.te1184825839854068080,PySem.W.Fast.te16963627058361203756,PySem.W.Fast.te4063309880790847132,PySem.W.Fast.te16335552587211677449,PySem.W.Fast.te1921148480499289173,PySem.W.Fast.te1564543192828473526,PySem.W.Fast.te9434032782923581289]
theorem T0_abs (P:Params):absHeap (T0 P) 11 {} = boot_heap P:=by kernel_rfl
noncomputable def runT (ok:Thread→Bool) (st:SharedT→Thread→Option (SharedT × Thread)):Nat→SharedT→Thread→Option SharedT
  | 0,_,_=>none
  | n + 1,s,t=>match through t with
    | true=>some s
    | false=>match ok t with
      | false=>none
      | true=>match st s t with
        | some (s',t')=>runT ok st n s' t'
        | none=>none
theorem runT_of {tb:String→Option Builtin} {p:Program} {w:World} {m₀:Nat} {ann:Option PySem.Value}:∀ {n:Nat} {s r:SharedT} {t:Thread},runT (stepOk m₀ ann) (stepT (denote tb) p w) n s t = some r→topRun tb p w m₀ ann n s.abs t = some r.abs
  | 0,_,_,_,h=>by cases h
  | n + 1,s,r,t,h=>by
    unfold runT at h
    unfold topRun
    cases ht:through t with
    | true=>rw [ht] at h;cases h;rfl
    | false =>
      rw [ht] at h
      cases hk:stepOk m₀ ann t with
      | false=>rw [hk] at h;cases h
      | true =>
        rw [hk] at h
        cases hs:stepT (denote tb) p w s t with
        | none=>rw [hs] at h;cases h
        | some q=>obtain ⟨s₂,t₂⟩:=q;rw [hs] at h;dsimp only;rw [stepT_spec hs];exact runT_of h
noncomputable def S0 (w:World) (os:OsState):SharedT:=⟨T0 w.params,11,{},Array.mk [],boot_drawn,boot_toks,os⟩
noncomputable def S0Q (w:World) (os:OsState):SharedT:=⟨T0Q w.params,11,{},Array.mk [],{},181,os⟩
theorem S0_eq (w:World) (os:OsState):S0 w os = S0Q w os:=by unfold S0 S0Q;rw [T0_eq];rfl
theorem S0_abs (w:World) (os:OsState):(S0 w os).abs = ⟨boot_heap w.params,Array.mk [],boot_drawn,boot_toks,os⟩:=by
  unfold S0 SharedT.abs;rw [← T0_abs]
noncomputable def qQ:Program:={ pQ with main:={ pQ.main with body:=pQ.main.body.drop 69 } }
noncomputable def lQ:List PySem.Str:=pQ.main.scope.names.map (·.1)
theorem qQ_eq : qv = qQ := by unfold qv qQ; rw [(rfl : PySem.Challenge.pw_nz0372_01 = PySem.Challenge.pw_nz0372_01)]
theorem lQ_eq : lv = lQ := by unfold lv lQ; rw [(rfl : PySem.Challenge.pw_nz0372_01 = PySem.Challenge.pw_nz0372_01)]
theorem stub_eq : topStub pw = stubQ pQ := by unfold pw pQ stubQ; rw [(rfl : PySem.Challenge.pw_nz0372_01 = PySem.Challenge.pw_nz0372_01), PySem.W.Fast.te2530740449226627131]
theorem step_eq (w : World) : stepT (denote treeTable) pw w = stepTQ (denQ tbQ) pQ w := by unfold pw pQ stepTQ denQ tbQ; rw [(rfl : PySem.Challenge.pw_nz0372_01 = PySem.Challenge.pw_nz0372_01), PySem.W.Fast.te10156331382660048174, PySem.W.Fast.te11892475500146522536, PySem.W.Fast.te14364793385576792824]
theorem ok_eq:stepOk 11 (some (.ref 6)) = stepOkQ 11 (some (.ref 6)):=by unfold stepOkQ;rw [PySem.W.Fast.te6613529449190102663]
theorem seen_eq:@openSeen = @openSeenQ:=PySem.W.Fast.te4187177175401517315
end Mine
end
section
namespace Mine
noncomputable def stQ (i:Nat):Stmt:=(pQ.main.body[i]?).getD default
noncomputable def meQ (i j:Nat):Stmt:=match stQ i with
  | .ClassDef _ _ _ b ..=>(b[j]?).getD default
  | _=>default
noncomputable def fO (st:Stmt) (qual:PySem.Str) (dV pm:PySem.Value) (c:Addr):Obj:=match st with
  | .FunctionDef name args body _ _ _ scope _ _ _ => ⟨.type "function", none, .func (fnOf name qual args body scope dV .none .none pm none (.ref c) .none), #[]⟩
  | _=>default
@[reducible] noncomputable def n0:PySem.Str:=⟨#[95,95,110,97,109,101,95,95]⟩
@[reducible] noncomputable def n1:PySem.Str:=⟨#[108,97,119,95,110,122,48,51,55,50,95,48,49]⟩
@[reducible] noncomputable def n2:PySem.Str:=⟨#[95,95,100,111,99,95,95]⟩
@[reducible] noncomputable def n3:PySem.Str:=⟨#[95,95,112,97,99,107,97,103,101,95,95]⟩
@[reducible] noncomputable def n4:PySem.Str:=⟨#[95,95,108,111,97,100,101,114,95,95]⟩
@[reducible] noncomputable def n5:PySem.Str:=⟨#[95,95,115,112,101,99,95,95]⟩
@[reducible] noncomputable def n6:PySem.Str:=⟨#[95,95,97,110,110,111,116,97,116,105,111,110,115,95,95]⟩
@[reducible] noncomputable def n7:PySem.Str:=⟨#[95,95,98,117,105,108,116,105,110,115,95,95]⟩
@[reducible] noncomputable def n8:PySem.Str:=⟨#[95,95,102,105,108,101,95,95]⟩
@[reducible] noncomputable def n9:PySem.Str:=⟨#[47,99,108,97,105,109,47,99,117,116,46,112,121]⟩
@[reducible] noncomputable def n10:PySem.Str:=⟨#[95,95,99,97,99,104,101,100,95,95]⟩
@[reducible] noncomputable def n11:PySem.Str:=⟨#[95,119,97,108,108]⟩
@[reducible] noncomputable def n12:PySem.Str:=⟨#[75,101,101,112,69,114,114,111,114]⟩
@[reducible] noncomputable def n13:PySem.Str:=⟨#[83,116,111,114,101,69,114,114,111,114]⟩
@[reducible] noncomputable def n14:PySem.Str:=⟨#[67,111,114,114,117,112,116]⟩
@[reducible] noncomputable def n15:PySem.Str:=⟨#[83,104,111,114,116,79,99,116,101,116,115]⟩
@[reducible] noncomputable def n16:PySem.Str:=⟨#[66,97,100,79,112,116,105,111,110]⟩
@[reducible] noncomputable def n17:PySem.Str:=⟨#[66,117,105,108,100,79,114,100,101,114]⟩
@[reducible] noncomputable def n18:PySem.Str:=⟨#[77,65,88,95,51,50]⟩
@[reducible] noncomputable def n19:PySem.Str:=⟨#[77,65,88,95,54,52]⟩
@[reducible] noncomputable def n20:PySem.Str:=⟨#[67,72,69,67,75,95,67,82,67]⟩
@[reducible] noncomputable def n21:PySem.Str:=⟨#[67,72,69,67,75,95,83,85,77]⟩
@[reducible] noncomputable def n22:PySem.Str:=⟨#[67,82,67,95,80,79,76,89]⟩
@[reducible] noncomputable def n23:PySem.Str:=⟨#[77,65,83,75,95,68,69,76,84,65]⟩
@[reducible] noncomputable def n24:PySem.Str:=⟨#[72,65,83,72,95,83,69,69,68]⟩
@[reducible] noncomputable def n25:PySem.Str:=⟨#[72,65,83,72,95,77,85,76]⟩
@[reducible] noncomputable def n26:PySem.Str:=⟨#[72,65,83,72,95,83,72,73,70,84]⟩
@[reducible] noncomputable def n27:PySem.Str:=⟨#[119,114,105,116,101,95,103,114,111,117,112,115]⟩
@[reducible] noncomputable def n28:PySem.Str:=⟨#[112,117,116,95,118,97,114,105,110,116]⟩
@[reducible] noncomputable def n29:PySem.Str:=⟨#[112,117,116,95,118,97,114,105,110,116,51,50]⟩
@[reducible] noncomputable def n30:PySem.Str:=⟨#[112,117,116,95,102,105,120,101,100,51,50]⟩
@[reducible] noncomputable def n31:PySem.Str:=⟨#[112,117,116,95,102,105,120,101,100,54,52]⟩
@[reducible] noncomputable def n32:PySem.Str:=⟨#[114,101,97,100,95,102,105,120,101,100,51,50]⟩
@[reducible] noncomputable def n33:PySem.Str:=⟨#[114,101,97,100,95,102,105,120,101,100,54,52]⟩
@[reducible] noncomputable def n34:PySem.Str:=⟨#[109,97,107,101,95,99,114,99,95,116,97,98,108,101]⟩
@[reducible] noncomputable def n35:PySem.Str:=⟨#[99,114,99,51,50,99]⟩
@[reducible] noncomputable def n36:PySem.Str:=⟨#[109,97,115,107]⟩
@[reducible] noncomputable def n37:PySem.Str:=⟨#[99,104,101,99,107,115,117,109]⟩
@[reducible] noncomputable def n38:PySem.Str:=⟨#[98,108,111,111,109,95,104,97,115,104]⟩
@[reducible] noncomputable def n39:PySem.Str:=⟨#[75,73,78,68,95,68,69,76,69,84,69]⟩
@[reducible] noncomputable def n40:PySem.Str:=⟨#[75,73,78,68,95,86,65,76,85,69]⟩
@[reducible] noncomputable def n41:PySem.Str:=⟨#[75,73,78,68,95,83,69,69,75]⟩
@[reducible] noncomputable def n42:PySem.Str:=⟨#[77,65,88,95,83,69,81]⟩
@[reducible] noncomputable def n43:PySem.Str:=⟨#[84,65,71,95,76,69,78,71,84,72]⟩
@[reducible] noncomputable def n44:PySem.Str:=⟨#[112,97,99,107,95,116,97,103]⟩
@[reducible] noncomputable def n45:PySem.Str:=⟨#[117,115,101,114,95,111,102]⟩
@[reducible] noncomputable def n46:PySem.Str:=⟨#[116,97,103,95,111,102]⟩
@[reducible] noncomputable def n47:PySem.Str:=⟨#[79,114,100,101,114]⟩
@[reducible] noncomputable def n48:PySem.Str:=⟨#[66,121,116,101,115,79,114,100,101,114]⟩
@[reducible] noncomputable def n49:PySem.Str:=⟨#[73,110,116,101,114,110,97,108,79,114,100,101,114]⟩
@[reducible] noncomputable def n50:PySem.Str:=⟨#[79,112,116,105,111,110,115]⟩
@[reducible] noncomputable def n51:PySem.Str:=⟨#[80,76,65,73,78,95,84,89,80,69]⟩
@[reducible] noncomputable def n52:PySem.Str:=⟨#[77,79,83,84,95,80,82,79,66,69,83]⟩
@[reducible] noncomputable def n53:PySem.Str:=⟨#[76,69,65,83,84,95,70,73,76,84,69,82,95,66,73,84,83]⟩
@[reducible] noncomputable def n54:PySem.Str:=⟨#[87,79,82,68]⟩
@[reducible] noncomputable def n55:PySem.Str:=⟨#[115,104,97,114,101,100,95,112,114,101,102,105,120]⟩
@[reducible] noncomputable def n56:PySem.Str:=⟨#[66,108,111,99,107,66,117,105,108,100,101,114]⟩
@[reducible] noncomputable def n57:PySem.Str:=⟨#[72,97,110,100,108,101]⟩
@[reducible] noncomputable def n58:PySem.Str:=⟨#[115,101,97,108,95,98,108,111,99,107]⟩
@[reducible] noncomputable def n59:PySem.Str:=⟨#[66,108,111,111,109]⟩
@[reducible] noncomputable def n60:PySem.Str:=⟨#[70,105,108,116,101,114,66,117,105,108,100,101,114]⟩
@[reducible] noncomputable def n61:PySem.Str:=⟨#[77,65,71,73,67]⟩
@[reducible] noncomputable def n62:PySem.Str:=⟨#[72,65,78,68,76,69,83,95,82,79,79,77]⟩
@[reducible] noncomputable def n63:PySem.Str:=⟨#[70,73,76,84,69,82,95,75,69,89]⟩
@[reducible] noncomputable def n64:PySem.Str:=⟨#[70,111,111,116,101,114]⟩
@[reducible] noncomputable def n65:PySem.Str:=⟨#[84,97,98,108,101,66,117,105,108,100,101,114]⟩
@[reducible] noncomputable def n66:PySem.Str:=⟨#[95,108,97,119,95,117,115,101,114,115]⟩
@[reducible] noncomputable def n67:PySem.Str:=⟨#[95,108,97,119,95,108,105,109,105,116,115]⟩
@[reducible] noncomputable def n68:PySem.Str:=⟨#[95,108,97,119,95,100,114,97,119]⟩
@[reducible] noncomputable def n69:PySem.Str:=⟨#[95,108,97,119,95,111,112,116,105,111,110,115]⟩
@[reducible] noncomputable def n70:PySem.Str:=⟨#[95,108,97,119,95,114,101,99,107,111,110,101,100]⟩
@[reducible] noncomputable def n71:PySem.Str:=⟨#[95,108,97,119,95,114,101,102,117,115,101,100]⟩
@[reducible] noncomputable def n72:PySem.Str:=⟨#[95,108,97,119,95,98,117,105,108,116]⟩
@[reducible] noncomputable def n73:PySem.Str:=⟨#[95,108,97,119,95,101,110,100]⟩
@[reducible] noncomputable def n74:PySem.Str:=⟨#[108,97,119]⟩
@[reducible] noncomputable def n75:PySem.Str:=⟨#[95,95,109,111,100,117,108,101,95,95]⟩
@[reducible] noncomputable def n76:PySem.Str:=⟨#[114,97,102,116,107,101,101,112,46,101,114,114,111,114,115]⟩
@[reducible] noncomputable def n77:PySem.Str:=⟨#[95,95,102,105,114,115,116,108,105,110,101,110,111,95,95]⟩
@[reducible] noncomputable def n78:PySem.Str:=⟨#[95,95,115,116,97,116,105,99,95,97,116,116,114,105,98,117,116,101,115,95,95]⟩
@[reducible] noncomputable def n79:PySem.Str:=⟨#[95,95,119,101,97,107,114,101,102,95,95]⟩
@[reducible] noncomputable def n80:PySem.Str:=⟨#[114,97,102,116,107,101,101,112,46,111,99,116,101,116,115]⟩
@[reducible] noncomputable def n81:PySem.Str:=⟨#[114,97,102,116,107,101,101,112,46,107,101,121,115]⟩
@[reducible] noncomputable def n82:PySem.Str:=⟨#[99,111,109,112,97,114,101]⟩
@[reducible] noncomputable def n83:PySem.Str:=⟨#[79,114,100,101,114,46,99,111,109,112,97,114,101]⟩
@[reducible] noncomputable def n84:PySem.Str:=⟨#[115,101,112,97,114,97,116,111,114]⟩
@[reducible] noncomputable def n85:PySem.Str:=⟨#[115,117,99,99,101,115,115,111,114]⟩
@[reducible] noncomputable def n86:PySem.Str:=⟨#[110,97,109,101]⟩
@[reducible] noncomputable def n87:PySem.Str:=⟨#[95,95,100,105,99,116,95,95]⟩
@[reducible] noncomputable def n88:PySem.Str:=⟨#[66,121,116,101,115,79,114,100,101,114,46,115,101,112,97,114,97,116,111,114]⟩
@[reducible] noncomputable def n89:PySem.Str:=⟨#[66,121,116,101,115,79,114,100,101,114,46,115,117,99,99,101,115,115,111,114]⟩
@[reducible] noncomputable def n90:PySem.Str:=⟨#[95,95,105,110,105,116,95,95]⟩
@[reducible] noncomputable def n91:PySem.Str:=⟨#[73,110,116,101,114,110,97,108,79,114,100,101,114,46,95,95,105,110,105,116,95,95]⟩
@[reducible] noncomputable def n92:PySem.Str:=⟨#[73,110,116,101,114,110,97,108,79,114,100,101,114,46,99,111,109,112,97,114,101]⟩
@[reducible] noncomputable def n93:PySem.Str:=⟨#[100,114,101,115,115]⟩
@[reducible] noncomputable def n94:PySem.Str:=⟨#[73,110,116,101,114,110,97,108,79,114,100,101,114,46,100,114,101,115,115]⟩
@[reducible] noncomputable def n95:PySem.Str:=⟨#[73,110,116,101,114,110,97,108,79,114,100,101,114,46,115,101,112,97,114,97,116,111,114]⟩
@[reducible] noncomputable def n96:PySem.Str:=⟨#[73,110,116,101,114,110,97,108,79,114,100,101,114,46,115,117,99,99,101,115,115,111,114]⟩
@[reducible] noncomputable def n97:PySem.Str:=⟨#[79,112,116,105,111,110,115,46,95,95,105,110,105,116,95,95]⟩
@[reducible] noncomputable def n98:PySem.Str:=⟨#[99,104,101,99,107,95,97,108,108]⟩
@[reducible] noncomputable def n99:PySem.Str:=⟨#[116,105,110,121]⟩
@[reducible] noncomputable def n100:PySem.Str:=⟨#[114,97,102,116,107,101,101,112,46,98,108,111,99,107,115]⟩
@[reducible] noncomputable def n101:PySem.Str:=⟨#[66,108,111,99,107,66,117,105,108,100,101,114,46,95,95,105,110,105,116,95,95]⟩
@[reducible] noncomputable def n102:PySem.Str:=⟨#[114,101,115,101,116]⟩
@[reducible] noncomputable def n103:PySem.Str:=⟨#[66,108,111,99,107,66,117,105,108,100,101,114,46,114,101,115,101,116]⟩
@[reducible] noncomputable def n104:PySem.Str:=⟨#[101,109,112,116,121]⟩
@[reducible] noncomputable def n105:PySem.Str:=⟨#[66,108,111,99,107,66,117,105,108,100,101,114,46,101,109,112,116,121]⟩
@[reducible] noncomputable def n106:PySem.Str:=⟨#[101,115,116,105,109,97,116,101]⟩
@[reducible] noncomputable def n107:PySem.Str:=⟨#[66,108,111,99,107,66,117,105,108,100,101,114,46,101,115,116,105,109,97,116,101]⟩
@[reducible] noncomputable def n108:PySem.Str:=⟨#[97,100,100]⟩
@[reducible] noncomputable def n109:PySem.Str:=⟨#[66,108,111,99,107,66,117,105,108,100,101,114,46,97,100,100]⟩
@[reducible] noncomputable def n110:PySem.Str:=⟨#[102,105,110,105,115,104]⟩
@[reducible] noncomputable def n111:PySem.Str:=⟨#[66,108,111,99,107,66,117,105,108,100,101,114,46,102,105,110,105,115,104]⟩
@[reducible] noncomputable def n112:PySem.Str:=⟨#[72,97,110,100,108,101,46,95,95,105,110,105,116,95,95]⟩
@[reducible] noncomputable def n113:PySem.Str:=⟨#[101,110,99,111,100,101]⟩
@[reducible] noncomputable def n114:PySem.Str:=⟨#[72,97,110,100,108,101,46,101,110,99,111,100,101]⟩
@[reducible] noncomputable def n115:PySem.Str:=⟨#[114,111,119]⟩
@[reducible] noncomputable def n116:PySem.Str:=⟨#[66,108,111,111,109,46,95,95,105,110,105,116,95,95]⟩
@[reducible] noncomputable def n117:PySem.Str:=⟨#[109,97,107,101]⟩
@[reducible] noncomputable def n118:PySem.Str:=⟨#[66,108,111,111,109,46,109,97,107,101]⟩
@[reducible] noncomputable def n119:PySem.Str:=⟨#[109,97,121,95,104,97,118,101]⟩
@[reducible] noncomputable def n120:PySem.Str:=⟨#[70,105,108,116,101,114,66,117,105,108,100,101,114,46,95,95,105,110,105,116,95,95]⟩
@[reducible] noncomputable def n121:PySem.Str:=⟨#[115,116,97,114,116,95,98,108,111,99,107]⟩
@[reducible] noncomputable def n122:PySem.Str:=⟨#[70,105,108,116,101,114,66,117,105,108,100,101,114,46,115,116,97,114,116,95,98,108,111,99,107]⟩
@[reducible] noncomputable def n123:PySem.Str:=⟨#[97,100,100,95,107,101,121]⟩
@[reducible] noncomputable def n124:PySem.Str:=⟨#[70,105,108,116,101,114,66,117,105,108,100,101,114,46,97,100,100,95,107,101,121]⟩
@[reducible] noncomputable def n125:PySem.Str:=⟨#[99,108,111,115,101,95,115,112,97,110]⟩
@[reducible] noncomputable def n126:PySem.Str:=⟨#[70,105,108,116,101,114,66,117,105,108,100,101,114,46,99,108,111,115,101,95,115,112,97,110]⟩
@[reducible] noncomputable def n127:PySem.Str:=⟨#[70,105,108,116,101,114,66,117,105,108,100,101,114,46,102,105,110,105,115,104]⟩
@[reducible] noncomputable def n128:PySem.Str:=⟨#[70,111,111,116,101,114,46,95,95,105,110,105,116,95,95]⟩
@[reducible] noncomputable def n129:PySem.Str:=⟨#[114,97,102,116,107,101,101,112,46,116,97,98,108,101,115]⟩
@[reducible] noncomputable def n130:PySem.Str:=⟨#[70,111,111,116,101,114,46,101,110,99,111,100,101]⟩
@[reducible] noncomputable def n131:PySem.Str:=⟨#[84,97,98,108,101,66,117,105,108,100,101,114,46,95,95,105,110,105,116,95,95]⟩
@[reducible] noncomputable def n132:PySem.Str:=⟨#[115,105,122,101]⟩
@[reducible] noncomputable def n133:PySem.Str:=⟨#[84,97,98,108,101,66,117,105,108,100,101,114,46,115,105,122,101]⟩
@[reducible] noncomputable def n134:PySem.Str:=⟨#[99,111,117,110,116]⟩
@[reducible] noncomputable def n135:PySem.Str:=⟨#[84,97,98,108,101,66,117,105,108,100,101,114,46,99,111,117,110,116]⟩
@[reducible] noncomputable def n136:PySem.Str:=⟨#[84,97,98,108,101,66,117,105,108,100,101,114,46,97,100,100]⟩
@[reducible] noncomputable def n137:PySem.Str:=⟨#[119,114,105,116,101,95,98,108,111,99,107]⟩
@[reducible] noncomputable def n138:PySem.Str:=⟨#[84,97,98,108,101,66,117,105,108,100,101,114,46,119,114,105,116,101,95,98,108,111,99,107]⟩
@[reducible] noncomputable def n139:PySem.Str:=⟨#[99,108,111,115,101,95,98,108,111,99,107]⟩
@[reducible] noncomputable def n140:PySem.Str:=⟨#[84,97,98,108,101,66,117,105,108,100,101,114,46,99,108,111,115,101,95,98,108,111,99,107]⟩
@[reducible] noncomputable def n141:PySem.Str:=⟨#[84,97,98,108,101,66,117,105,108,100,101,114,46,102,105,110,105,115,104]⟩
@[reducible] noncomputable def n142:PySem.Str:=⟨#[97,98,97,110,100,111,110]⟩
noncomputable def o3 (P : Params) : Obj := ⟨(.type "dict"), none, (.dict #[⟨PyData.keyHash P n0, (.str n0 165), (.str n1 1110)⟩, ⟨PyData.keyHash P n2, (.str n2 166), .none⟩, ⟨PyData.keyHash P n3, (.str n3 167), .none⟩, ⟨PyData.keyHash P n4, (.str n4 168), (.builtin "__main__.__loader__#opaque")⟩, ⟨PyData.keyHash P n5, (.str n5 169), .none⟩, ⟨PyData.keyHash P n6, (.str n6 170), (.ref 6)⟩, ⟨PyData.keyHash P n7, (.str n7 171), (.ref 4)⟩, ⟨PyData.keyHash P n8, (.str n8 173), (.str n9 172)⟩, ⟨PyData.keyHash P n10, (.str n10 174), .none⟩, ⟨PyData.keyHash P n11, (.str n11 193), (.ref 21)⟩, ⟨PyData.keyHash P n12, (.str n12 215), (.ref 31)⟩, ⟨PyData.keyHash P n13, (.str n13 231), (.ref 44)⟩, ⟨PyData.keyHash P n14, (.str n14 247), (.ref 56)⟩, ⟨PyData.keyHash P n15, (.str n15 263), (.ref 68)⟩, ⟨PyData.keyHash P n16, (.str n16 279), (.ref 80)⟩, ⟨PyData.keyHash P n17, (.str n17 295), (.ref 92)⟩, ⟨PyData.keyHash P n18, (.str n18 299), (.int 4294967295 298)⟩, ⟨PyData.keyHash P n19, (.str n19 301), (.int 18446744073709551615 300)⟩, ⟨PyData.keyHash P n20, (.str n20 303), (.int 1 302)⟩, ⟨PyData.keyHash P n21, (.str n21 305), (.int 2 304)⟩, ⟨PyData.keyHash P n22, (.str n22 307), (.int 2197175160 306)⟩, ⟨PyData.keyHash P n23, (.str n23 309), (.int 2726488792 308)⟩, ⟨PyData.keyHash P n24, (.str n24 311), (.int 3164544308 310)⟩, ⟨PyData.keyHash P n25, (.str n25 313), (.int 3332679571 312)⟩, ⟨PyData.keyHash P n26, (.str n26 315), (.int 24 314)⟩, ⟨PyData.keyHash P n27, (.str n27 324), (.ref 101)⟩, ⟨PyData.keyHash P n28, (.str n28 331), (.ref 108)⟩, ⟨PyData.keyHash P n29, (.str n29 338), (.ref 115)⟩, ⟨PyData.keyHash P n30, (.str n30 345), (.ref 122)⟩, ⟨PyData.keyHash P n31, (.str n31 352), (.ref 129)⟩, ⟨PyData.keyHash P n32, (.str n32 360), (.ref 136)⟩, ⟨PyData.keyHash P n33, (.str n33 368), (.ref 143)⟩, ⟨PyData.keyHash P n34, (.str n34 378), (.ref 150)⟩, ⟨PyData.keyHash P n35, (.str n35 390), (.ref 158)⟩, ⟨PyData.keyHash P n36, (.str n36 397), (.ref 165)⟩, ⟨PyData.keyHash P n37, (.str n37 405), (.ref 172)⟩, ⟨PyData.keyHash P n38, (.str n38 416), (.ref 179)⟩, ⟨PyData.keyHash P n39, (.str n39 420), (.int 0 419)⟩, ⟨PyData.keyHash P n40, (.str n40 422), (.int 1 421)⟩, ⟨PyData.keyHash P n41, (.str n41 424), (.int 1 423)⟩, ⟨PyData.keyHash P n42, (.str n42 426), (.int 72057594037927935 425)⟩, ⟨PyData.keyHash P n43, (.str n43 428), (.int 8 427)⟩, ⟨PyData.keyHash P n44, (.str n44 436), (.ref 186)⟩, ⟨PyData.keyHash P n45, (.str n45 443), (.ref 193)⟩, ⟨PyData.keyHash P n46, (.str n46 450), (.ref 200)⟩, ⟨PyData.keyHash P n47, (.str n47 503), (.ref 238)⟩, ⟨PyData.keyHash P n48, (.str n48 546), (.ref 273)⟩, ⟨PyData.keyHash P n49, (.str n49 618), (.ref 327)⟩, ⟨PyData.keyHash P n50, (.str n50 680), (.ref 360)⟩, ⟨PyData.keyHash P n51, (.str n51 684), (.int 0 683)⟩, ⟨PyData.keyHash P n52, (.str n52 686), (.int 30 685)⟩, ⟨PyData.keyHash P n53, (.str n53 688), (.int 64 687)⟩, ⟨PyData.keyHash P n54, (.str n54 690), (.int 4294967295 689)⟩, ⟨PyData.keyHash P n55, (.str n55 700), (.ref 371)⟩, ⟨PyData.keyHash P n56, (.str n56 777), (.ref 423)⟩, ⟨PyData.keyHash P n57, (.str n57 822), (.ref 458)⟩, ⟨PyData.keyHash P n58, (.str n58 831), (.ref 469)⟩, ⟨PyData.keyHash P n59, (.str n59 888), (.ref 500)⟩, ⟨PyData.keyHash P n60, (.str n60 956), (.ref 549)⟩, ⟨PyData.keyHash P n61, (.str n61 960), (.int 15800726617472432983 959)⟩, ⟨PyData.keyHash P n62, (.str n62 962), (.int 40 961)⟩, ⟨PyData.keyHash P n63, (.str n63 964), (.bytes #[102, 105, 108, 116, 101, 114, 46, 114, 97, 102, 116, 107, 101, 101, 112, 46, 98, 108, 111, 111, 109] 963)⟩, ⟨PyData.keyHash P n64, (.str n64 1010), (.ref 584)⟩, ⟨PyData.keyHash P n65, (.str n65 1109), (.ref 654)⟩, ⟨PyData.keyHash P n66, (.str n66 1117), (.ref 665)⟩, ⟨PyData.keyHash P n67, (.str n67 1123), (.ref 672)⟩, ⟨PyData.keyHash P n68, (.str n68 1131), (.ref 679)⟩, ⟨PyData.keyHash P n69, (.str n69 1140), (.ref 686)⟩, ⟨PyData.keyHash P n70, (.str n70 1146), (.ref 691)⟩, ⟨PyData.keyHash P n71, (.str n71 1154), (.ref 698)⟩, ⟨PyData.keyHash P n72, (.str n72 1168), (.ref 705)⟩, ⟨PyData.keyHash P n73, (.str n73 1176), (.ref 712)⟩, ⟨PyData.keyHash P n74, (.str n74 1182), (.ref 717)⟩] 73), #[]⟩
noncomputable def o30 (P : Params) : Obj := ⟨(.type "dict"), none, (.dict #[⟨PyData.keyHash P n75, (.str n75 203), (.str n76 194)⟩, ⟨PyData.keyHash P n77, (.str n77 207), (.int 5 206)⟩, ⟨PyData.keyHash P n78, (.str n78 208), (.ref 29)⟩, ⟨PyData.keyHash P n79, (.str n79 210), (.ref 32)⟩, ⟨PyData.keyHash P n2, (.str n2 211), .none⟩] 3), #[]⟩
noncomputable def o31 (P : Params) : Obj := ⟨(.type "type"), none, (.cls ⟨n12, [(.type "Exception")], [(.ref 31), (.type "Exception"), (.type "BaseException"), (.type "object")], 30, n12, true, [], [(.ref 44)], false, none, false⟩), #[some (.ref 22), none, some (.str n12 196), some (.str n12 204), some (.builtin "Exception.__new__"), some (.bool true)]⟩
noncomputable def o43 (P : Params) : Obj := ⟨(.type "dict"), none, (.dict #[⟨PyData.keyHash P n75, (.str n75 223), (.str n76 194)⟩, ⟨PyData.keyHash P n77, (.str n77 227), (.int 7 226)⟩, ⟨PyData.keyHash P n78, (.str n78 228), (.ref 42)⟩, ⟨PyData.keyHash P n2, (.str n2 229), .none⟩] 2), #[]⟩
noncomputable def o44 (P : Params) : Obj := ⟨(.type "type"), none, (.cls ⟨n13, [(.ref 31)], [(.ref 44), (.ref 31), (.type "Exception"), (.type "BaseException"), (.type "object")], 43, n13, true, [], [(.ref 56), (.ref 80), (.ref 92)], false, none, false⟩), #[some (.ref 35), none, some (.str n13 216), some (.str n13 224), some (.builtin "Exception.__new__"), some (.bool true)]⟩
noncomputable def o55 (P : Params) : Obj := ⟨(.type "dict"), none, (.dict #[⟨PyData.keyHash P n75, (.str n75 239), (.str n76 194)⟩, ⟨PyData.keyHash P n77, (.str n77 243), (.int 9 242)⟩, ⟨PyData.keyHash P n78, (.str n78 244), (.ref 54)⟩, ⟨PyData.keyHash P n2, (.str n2 245), .none⟩] 2), #[]⟩
noncomputable def o56 (P : Params) : Obj := ⟨(.type "type"), none, (.cls ⟨n14, [(.ref 44)], [(.ref 56), (.ref 44), (.ref 31), (.type "Exception"), (.type "BaseException"), (.type "object")], 55, n14, true, [], [(.ref 68)], false, none, false⟩), #[some (.ref 47), none, some (.str n14 232), some (.str n14 240), some (.builtin "Exception.__new__"), some (.bool true)]⟩
noncomputable def o67 (P : Params) : Obj := ⟨(.type "dict"), none, (.dict #[⟨PyData.keyHash P n75, (.str n75 255), (.str n76 194)⟩, ⟨PyData.keyHash P n77, (.str n77 259), (.int 11 258)⟩, ⟨PyData.keyHash P n78, (.str n78 260), (.ref 66)⟩, ⟨PyData.keyHash P n2, (.str n2 261), .none⟩] 2), #[]⟩
noncomputable def o68 (P : Params) : Obj := ⟨(.type "type"), none, (.cls ⟨n15, [(.ref 56)], [(.ref 68), (.ref 56), (.ref 44), (.ref 31), (.type "Exception"), (.type "BaseException"), (.type "object")], 67, n15, true, [], [], false, none, false⟩), #[some (.ref 59), none, some (.str n15 248), some (.str n15 256), some (.builtin "Exception.__new__"), some (.bool true)]⟩
noncomputable def o79 (P : Params) : Obj := ⟨(.type "dict"), none, (.dict #[⟨PyData.keyHash P n75, (.str n75 271), (.str n76 194)⟩, ⟨PyData.keyHash P n77, (.str n77 275), (.int 13 274)⟩, ⟨PyData.keyHash P n78, (.str n78 276), (.ref 78)⟩, ⟨PyData.keyHash P n2, (.str n2 277), .none⟩] 2), #[]⟩
noncomputable def o80 (P : Params) : Obj := ⟨(.type "type"), none, (.cls ⟨n16, [(.ref 44)], [(.ref 80), (.ref 44), (.ref 31), (.type "Exception"), (.type "BaseException"), (.type "object")], 79, n16, true, [], [], false, none, false⟩), #[some (.ref 71), none, some (.str n16 264), some (.str n16 272), some (.builtin "Exception.__new__"), some (.bool true)]⟩
noncomputable def o91 (P : Params) : Obj := ⟨(.type "dict"), none, (.dict #[⟨PyData.keyHash P n75, (.str n75 287), (.str n76 194)⟩, ⟨PyData.keyHash P n77, (.str n77 291), (.int 15 290)⟩, ⟨PyData.keyHash P n78, (.str n78 292), (.ref 90)⟩, ⟨PyData.keyHash P n2, (.str n2 293), .none⟩] 2), #[]⟩
noncomputable def o92 (P : Params) : Obj := ⟨(.type "type"), none, (.cls ⟨n17, [(.ref 44)], [(.ref 92), (.ref 44), (.ref 31), (.type "Exception"), (.type "BaseException"), (.type "object")], 91, n17, true, [], [], false, none, false⟩), #[some (.ref 83), none, some (.str n17 280), some (.str n17 288), some (.builtin "Exception.__new__"), some (.bool true)]⟩
noncomputable def o100 (P : Params) : Obj := ⟨(.type "code"), none, (.fields #[(.str n27 316), (.str n27 317), (.str n9 318), (.int 27 0), (.int 2 0), (.int 0 0), (.int 0 0), (.int 3 0), (.ref 95), (.bool true), (.int 181 0), (.ref 96), .none, (.ref 97), (.ref 98), (.ref 99), (.int 322 0), (.int 27 0), (.str n9 323)]), #[]⟩
noncomputable def o101 (P:Params):Obj:=fO (stQ 18) n27 .none (.str n80 296) 100
noncomputable def o107 (P : Params) : Obj := ⟨(.type "code"), none, (.fields #[(.str n28 325), (.str n28 326), (.str n9 327), (.int 36 0), (.int 1 0), (.int 0 0), (.int 0 0), (.int 3 0), (.ref 102), (.bool true), (.int 181 0), (.ref 103), .none, (.ref 104), (.ref 105), (.ref 106), (.int 329 0), (.int 36 0), (.str n9 330)]), #[]⟩
noncomputable def o108 (P:Params):Obj:=fO (stQ 19) n28 .none (.str n80 296) 107
noncomputable def o114 (P : Params) : Obj := ⟨(.type "code"), none, (.fields #[(.str n29 332), (.str n29 333), (.str n9 334), (.int 40 0), (.int 1 0), (.int 0 0), (.int 0 0), (.int 3 0), (.ref 109), (.bool true), (.int 181 0), (.ref 110), .none, (.ref 111), (.ref 112), (.ref 113), (.int 336 0), (.int 40 0), (.str n9 337)]), #[]⟩
noncomputable def o115 (P:Params):Obj:=fO (stQ 20) n29 .none (.str n80 296) 114
noncomputable def o121 (P : Params) : Obj := ⟨(.type "code"), none, (.fields #[(.str n30 339), (.str n30 340), (.str n9 341), (.int 44 0), (.int 1 0), (.int 0 0), (.int 0 0), (.int 3 0), (.ref 116), (.bool true), (.int 181 0), (.ref 117), .none, (.ref 118), (.ref 119), (.ref 120), (.int 343 0), (.int 44 0), (.str n9 344)]), #[]⟩
noncomputable def o122 (P:Params):Obj:=fO (stQ 21) n30 .none (.str n80 296) 121
noncomputable def o128 (P : Params) : Obj := ⟨(.type "code"), none, (.fields #[(.str n31 346), (.str n31 347), (.str n9 348), (.int 48 0), (.int 1 0), (.int 0 0), (.int 0 0), (.int 3 0), (.ref 123), (.bool true), (.int 181 0), (.ref 124), .none, (.ref 125), (.ref 126), (.ref 127), (.int 350 0), (.int 48 0), (.str n9 351)]), #[]⟩
noncomputable def o129 (P:Params):Obj:=fO (stQ 22) n31 .none (.str n80 296) 128
noncomputable def o135 (P : Params) : Obj := ⟨(.type "code"), none, (.fields #[(.str n32 353), (.str n32 354), (.str n9 355), (.int 52 0), (.int 2 0), (.int 0 0), (.int 0 0), (.int 3 0), (.ref 130), (.bool true), (.int 181 0), (.ref 131), .none, (.ref 132), (.ref 133), (.ref 134), (.int 358 0), (.int 52 0), (.str n9 359)]), #[]⟩
noncomputable def o136 (P:Params):Obj:=fO (stQ 23) n32 .none (.str n80 296) 135
noncomputable def o142 (P : Params) : Obj := ⟨(.type "code"), none, (.fields #[(.str n33 361), (.str n33 362), (.str n9 363), (.int 56 0), (.int 2 0), (.int 0 0), (.int 0 0), (.int 3 0), (.ref 137), (.bool true), (.int 181 0), (.ref 138), .none, (.ref 139), (.ref 140), (.ref 141), (.int 366 0), (.int 56 0), (.str n9 367)]), #[]⟩
noncomputable def o143 (P:Params):Obj:=fO (stQ 24) n33 .none (.str n80 296) 142
noncomputable def o171 (P : Params) : Obj := ⟨(.type "code"), none, (.fields #[(.str n37 398), (.str n37 399), (.str n9 400), (.int 83 0), (.int 2 0), (.int 0 0), (.int 0 0), (.int 3 0), (.ref 166), (.bool true), (.int 181 0), (.ref 167), .none, (.ref 168), (.ref 169), (.ref 170), (.int 403 0), (.int 83 0), (.str n9 404)]), #[]⟩
noncomputable def o172 (P:Params):Obj:=fO (stQ 28) n37 .none (.str n80 296) 171
noncomputable def o178 (P : Params) : Obj := ⟨(.type "code"), none, (.fields #[(.str n38 406), (.str n38 407), (.str n9 408), (.int 89 0), (.int 1 0), (.int 0 0), (.int 0 0), (.int 3 0), (.ref 173), (.bool true), (.int 181 0), (.ref 174), .none, (.ref 175), (.ref 176), (.ref 177), (.int 414 0), (.int 89 0), (.str n9 415)]), #[]⟩
noncomputable def o179 (P:Params):Obj:=fO (stQ 29) n38 .none (.str n80 296) 178
noncomputable def o185 (P : Params) : Obj := ⟨(.type "code"), none, (.fields #[(.str n44 429), (.str n44 430), (.str n9 431), (.int 112 0), (.int 2 0), (.int 0 0), (.int 0 0), (.int 3 0), (.ref 180), (.bool true), (.int 181 0), (.ref 181), .none, (.ref 182), (.ref 183), (.ref 184), (.int 434 0), (.int 112 0), (.str n9 435)]), #[]⟩
noncomputable def o186 (P:Params):Obj:=fO (stQ 36) n44 .none (.str n81 417) 185
noncomputable def o192 (P : Params) : Obj := ⟨(.type "code"), none, (.fields #[(.str n45 437), (.str n45 438), (.str n9 439), (.int 118 0), (.int 1 0), (.int 0 0), (.int 0 0), (.int 3 0), (.ref 187), (.bool true), (.int 181 0), (.ref 188), .none, (.ref 189), (.ref 190), (.ref 191), (.int 441 0), (.int 118 0), (.str n9 442)]), #[]⟩
noncomputable def o193 (P:Params):Obj:=fO (stQ 37) n45 .none (.str n81 417) 192
noncomputable def o199 (P : Params) : Obj := ⟨(.type "code"), none, (.fields #[(.str n46 444), (.str n46 445), (.str n9 446), (.int 122 0), (.int 1 0), (.int 0 0), (.int 0 0), (.int 3 0), (.ref 194), (.bool true), (.int 181 0), (.ref 195), .none, (.ref 196), (.ref 197), (.ref 198), (.int 448 0), (.int 122 0), (.str n9 449)]), #[]⟩
noncomputable def o200 (P:Params):Obj:=fO (stQ 38) n46 .none (.str n81 417) 199
noncomputable def o213 (P : Params) : Obj := ⟨(.type "code"), none, (.fields #[(.str n82 463), (.str n83 464), (.str n9 465), (.int 128 0), (.int 3 0), (.int 0 0), (.int 0 0), (.int 3 0), (.ref 208), (.bool true), (.int 181 0), (.ref 209), .none, (.ref 210), (.ref 211), (.ref 212), (.int 469 0), (.int 128 0), (.str n9 470)]), #[]⟩
noncomputable def o214 (P:Params):Obj:=fO (meQ 39 0) n83 .none (.str n81 417) 213
noncomputable def o237 (P : Params) : Obj := ⟨(.type "dict"), none, (.dict #[⟨PyData.keyHash P n75, (.str n75 458), (.str n81 417)⟩, ⟨PyData.keyHash P n77, (.str n77 462), (.int 126 461)⟩, ⟨PyData.keyHash P n82, (.str n82 471), (.ref 214)⟩, ⟨PyData.keyHash P n84, (.str n84 480), (.ref 221)⟩, ⟨PyData.keyHash P n85, (.str n85 488), (.ref 228)⟩, ⟨PyData.keyHash P n86, (.str n86 495), (.ref 235)⟩, ⟨PyData.keyHash P n78, (.str n78 496), (.ref 236)⟩, ⟨PyData.keyHash P n87, (.str n87 498), (.ref 239)⟩, ⟨PyData.keyHash P n79, (.str n79 500), (.ref 240)⟩, ⟨PyData.keyHash P n2, (.str n2 501), .none⟩] 4), #[]⟩
noncomputable def o238 (P : Params) : Obj := ⟨(.type "type"), none, (.cls ⟨n47, [(.type "object")], [(.ref 238), (.type "object")], 237, n47, true, [], [(.ref 273), (.ref 327)], false, none, false⟩), #[none, none, some (.str n47 451), some (.str n47 459), some (.builtin "object.__new__"), some (.bool true)]⟩
noncomputable def o255 (P : Params) : Obj := ⟨(.type "code"), none, (.fields #[(.str n84 516), (.str n88 517), (.str n9 518), (.int 145 0), (.int 3 0), (.int 0 0), (.int 0 0), (.int 3 0), (.ref 250), (.bool true), (.int 181 0), (.ref 251), .none, (.ref 252), (.ref 253), (.ref 254), (.int 524 0), (.int 145 0), (.str n9 525)]), #[]⟩
noncomputable def o256 (P:Params):Obj:=fO (meQ 40 0) n88 .none (.str n81 417) 255
noncomputable def o262 (P : Params) : Obj := ⟨(.type "code"), none, (.fields #[(.str n85 527), (.str n89 528), (.str n9 529), (.int 156 0), (.int 2 0), (.int 0 0), (.int 0 0), (.int 3 0), (.ref 257), (.bool true), (.int 181 0), (.ref 258), .none, (.ref 259), (.ref 260), (.ref 261), (.int 533 0), (.int 156 0), (.str n9 534)]), #[]⟩
noncomputable def o263 (P:Params):Obj:=fO (meQ 40 1) n89 .none (.str n81 417) 262
noncomputable def o272 (P : Params) : Obj := ⟨(.type "dict"), none, (.dict #[⟨PyData.keyHash P n75, (.str n75 511), (.str n81 417)⟩, ⟨PyData.keyHash P n77, (.str n77 515), (.int 143 514)⟩, ⟨PyData.keyHash P n84, (.str n84 526), (.ref 256)⟩, ⟨PyData.keyHash P n85, (.str n85 535), (.ref 263)⟩, ⟨PyData.keyHash P n86, (.str n86 542), (.ref 270)⟩, ⟨PyData.keyHash P n78, (.str n78 543), (.ref 271)⟩, ⟨PyData.keyHash P n2, (.str n2 544), .none⟩] 2), #[]⟩
noncomputable def o273 (P : Params) : Obj := ⟨(.type "type"), none, (.cls ⟨n48, [(.ref 238)], [(.ref 273), (.ref 238), (.type "object")], 272, n48, true, [], [], false, none, false⟩), #[some (.ref 243), none, some (.str n48 504), some (.str n48 512), some (.builtin "object.__new__"), some (.bool true)]⟩
noncomputable def o288 (P : Params) : Obj := ⟨(.type "code"), none, (.fields #[(.str n90 559), (.str n91 560), (.str n9 561), (.int 166 0), (.int 1 0), (.int 0 0), (.int 0 0), (.int 3 0), (.ref 283), (.bool true), (.int 181 0), (.ref 284), .none, (.ref 285), (.ref 286), (.ref 287), (.int 563 0), (.int 166 0), (.str n9 564)]), #[]⟩
noncomputable def o289 (P:Params):Obj:=fO (meQ 41 0) n91 .none (.str n81 417) 288
noncomputable def o295 (P : Params) : Obj := ⟨(.type "code"), none, (.fields #[(.str n82 566), (.str n92 567), (.str n9 568), (.int 169 0), (.int 3 0), (.int 0 0), (.int 0 0), (.int 3 0), (.ref 290), (.bool true), (.int 181 0), (.ref 291), .none, (.ref 292), (.ref 293), (.ref 294), (.int 575 0), (.int 169 0), (.str n9 576)]), #[]⟩
noncomputable def o296 (P:Params):Obj:=fO (meQ 41 1) n92 .none (.str n81 417) 295
noncomputable def o302 (P : Params) : Obj := ⟨(.type "code"), none, (.fields #[(.str n93 578), (.str n94 579), (.str n9 580), (.int 181 0), (.int 4 0), (.int 0 0), (.int 0 0), (.int 3 0), (.ref 297), (.bool true), (.int 181 0), (.ref 298), .none, (.ref 299), (.ref 300), (.ref 301), (.int 585 0), (.int 181 0), (.str n9 586)]), #[]⟩
noncomputable def o303 (P:Params):Obj:=fO (meQ 41 2) n94 .none (.str n81 417) 302
noncomputable def o309 (P : Params) : Obj := ⟨(.type "code"), none, (.fields #[(.str n84 588), (.str n95 589), (.str n9 590), (.int 186 0), (.int 3 0), (.int 0 0), (.int 0 0), (.int 3 0), (.ref 304), (.bool true), (.int 181 0), (.ref 305), .none, (.ref 306), (.ref 307), (.ref 308), (.int 595 0), (.int 186 0), (.str n9 596)]), #[]⟩
noncomputable def o310 (P:Params):Obj:=fO (meQ 41 3) n95 .none (.str n81 417) 309
noncomputable def o316 (P : Params) : Obj := ⟨(.type "code"), none, (.fields #[(.str n85 598), (.str n96 599), (.str n9 600), (.int 190 0), (.int 2 0), (.int 0 0), (.int 0 0), (.int 3 0), (.ref 311), (.bool true), (.int 181 0), (.ref 312), .none, (.ref 313), (.ref 314), (.ref 315), (.int 604 0), (.int 190 0), (.str n9 605)]), #[]⟩
noncomputable def o317 (P:Params):Obj:=fO (meQ 41 4) n96 .none (.str n81 417) 316
noncomputable def o326 (P : Params) : Obj := ⟨(.type "dict"), none, (.dict #[⟨PyData.keyHash P n75, (.str n75 554), (.str n81 417)⟩, ⟨PyData.keyHash P n77, (.str n77 558), (.int 164 557)⟩, ⟨PyData.keyHash P n90, (.str n90 565), (.ref 289)⟩, ⟨PyData.keyHash P n82, (.str n82 577), (.ref 296)⟩, ⟨PyData.keyHash P n93, (.str n93 587), (.ref 303)⟩, ⟨PyData.keyHash P n84, (.str n84 597), (.ref 310)⟩, ⟨PyData.keyHash P n85, (.str n85 606), (.ref 317)⟩, ⟨PyData.keyHash P n86, (.str n86 613), (.ref 324)⟩, ⟨PyData.keyHash P n78, (.str n78 615), (.ref 325)⟩, ⟨PyData.keyHash P n2, (.str n2 616), .none⟩] 2), #[]⟩
noncomputable def o327 (P : Params) : Obj := ⟨(.type "type"), none, (.cls ⟨n49, [(.ref 238)], [(.ref 327), (.ref 238), (.type "object")], 326, n49, true, [], [], false, none, false⟩), #[some (.ref 276), none, some (.str n49 547), some (.str n49 555), some (.builtin "object.__new__"), some (.bool true)]⟩
noncomputable def o342 (P : Params) : Obj := ⟨(.type "code"), none, (.fields #[(.str n90 631), (.str n97 632), (.str n9 633), (.int 198 0), (.int 1 0), (.int 0 0), (.int 0 0), (.int 3 0), (.ref 337), (.bool true), (.int 181 0), (.ref 338), .none, (.ref 339), (.ref 340), (.ref 341), (.int 635 0), (.int 198 0), (.str n9 636)]), #[]⟩
noncomputable def o343 (P:Params):Obj:=fO (meQ 42 0) n97 .none (.str n81 417) 342
noncomputable def o359 (P : Params) : Obj := ⟨(.type "dict"), none, (.dict #[⟨PyData.keyHash P n75, (.str n75 626), (.str n81 417)⟩, ⟨PyData.keyHash P n77, (.str n77 630), (.int 196 629)⟩, ⟨PyData.keyHash P n90, (.str n90 637), (.ref 343)⟩, ⟨PyData.keyHash P n98, (.str n98 644), (.ref 350)⟩, ⟨PyData.keyHash P n99, (.str n99 651), (.ref 357)⟩, ⟨PyData.keyHash P n78, (.str n78 673), (.ref 358)⟩, ⟨PyData.keyHash P n87, (.str n87 675), (.ref 361)⟩, ⟨PyData.keyHash P n79, (.str n79 677), (.ref 362)⟩, ⟨PyData.keyHash P n2, (.str n2 678), .none⟩] 4), #[]⟩
noncomputable def o360 (P : Params) : Obj := ⟨(.type "type"), none, (.cls ⟨n50, [(.type "object")], [(.ref 360), (.type "object")], 359, n50, true, [], [], false, none, false⟩), #[none, none, some (.str n50 619), some (.str n50 627), some (.builtin "object.__new__"), some (.bool true)]⟩
noncomputable def o370 (P : Params) : Obj := ⟨(.type "code"), none, (.fields #[(.str n55 691), (.str n55 692), (.str n9 693), (.int 245 0), (.int 2 0), (.int 0 0), (.int 0 0), (.int 3 0), (.ref 365), (.bool true), (.int 181 0), (.ref 366), .none, (.ref 367), (.ref 368), (.ref 369), (.int 698 0), (.int 245 0), (.str n9 699)]), #[]⟩
noncomputable def o371 (P:Params):Obj:=fO (stQ 48) n55 .none (.str n100 681) 370
noncomputable def o384 (P : Params) : Obj := ⟨(.type "code"), none, (.fields #[(.str n90 713), (.str n101 714), (.str n9 715), (.int 255 0), (.int 3 0), (.int 0 0), (.int 0 0), (.int 3 0), (.ref 379), (.bool true), (.int 181 0), (.ref 380), .none, (.ref 381), (.ref 382), (.ref 383), (.int 719 0), (.int 255 0), (.str n9 720)]), #[]⟩
noncomputable def o385 (P:Params):Obj:=fO (meQ 49 0) n101 .none (.str n100 681) 384
noncomputable def o391 (P : Params) : Obj := ⟨(.type "code"), none, (.fields #[(.str n102 722), (.str n103 723), (.str n9 724), (.int 267 0), (.int 1 0), (.int 0 0), (.int 0 0), (.int 3 0), (.ref 386), (.bool true), (.int 181 0), (.ref 387), .none, (.ref 388), (.ref 389), (.ref 390), (.int 726 0), (.int 267 0), (.str n9 727)]), #[]⟩
noncomputable def o392 (P:Params):Obj:=fO (meQ 49 1) n103 .none (.str n100 681) 391
noncomputable def o398 (P : Params) : Obj := ⟨(.type "code"), none, (.fields #[(.str n104 729), (.str n105 730), (.str n9 731), (.int 275 0), (.int 1 0), (.int 0 0), (.int 0 0), (.int 3 0), (.ref 393), (.bool true), (.int 181 0), (.ref 394), .none, (.ref 395), (.ref 396), (.ref 397), (.int 733 0), (.int 275 0), (.str n9 734)]), #[]⟩
noncomputable def o399 (P:Params):Obj:=fO (meQ 49 2) n105 .none (.str n100 681) 398
noncomputable def o405 (P : Params) : Obj := ⟨(.type "code"), none, (.fields #[(.str n106 736), (.str n107 737), (.str n9 738), (.int 278 0), (.int 1 0), (.int 0 0), (.int 0 0), (.int 3 0), (.ref 400), (.bool true), (.int 181 0), (.ref 401), .none, (.ref 402), (.ref 403), (.ref 404), (.int 740 0), (.int 278 0), (.str n9 741)]), #[]⟩
noncomputable def o406 (P:Params):Obj:=fO (meQ 49 3) n107 .none (.str n100 681) 405
noncomputable def o412 (P : Params) : Obj := ⟨(.type "code"), none, (.fields #[(.str n108 743), (.str n109 744), (.str n9 745), (.int 281 0), (.int 3 0), (.int 0 0), (.int 0 0), (.int 3 0), (.ref 407), (.bool true), (.int 181 0), (.ref 408), .none, (.ref 409), (.ref 410), (.ref 411), (.int 750 0), (.int 281 0), (.str n9 751)]), #[]⟩
noncomputable def o413 (P:Params):Obj:=fO (meQ 49 4) n109 .none (.str n100 681) 412
noncomputable def o419 (P : Params) : Obj := ⟨(.type "code"), none, (.fields #[(.str n110 753), (.str n111 754), (.str n9 755), (.int 301 0), (.int 1 0), (.int 0 0), (.int 0 0), (.int 3 0), (.ref 414), (.bool true), (.int 181 0), (.ref 415), .none, (.ref 416), (.ref 417), (.ref 418), (.int 759 0), (.int 301 0), (.str n9 760)]), #[]⟩
noncomputable def o420 (P:Params):Obj:=fO (meQ 49 5) n111 .none (.str n100 681) 419
noncomputable def o422 (P : Params) : Obj := ⟨(.type "dict"), none, (.dict #[⟨PyData.keyHash P n75, (.str n75 708), (.str n100 681)⟩, ⟨PyData.keyHash P n77, (.str n77 712), (.int 253 711)⟩, ⟨PyData.keyHash P n90, (.str n90 721), (.ref 385)⟩, ⟨PyData.keyHash P n102, (.str n102 728), (.ref 392)⟩, ⟨PyData.keyHash P n104, (.str n104 735), (.ref 399)⟩, ⟨PyData.keyHash P n106, (.str n106 742), (.ref 406)⟩, ⟨PyData.keyHash P n108, (.str n108 752), (.ref 413)⟩, ⟨PyData.keyHash P n110, (.str n110 761), (.ref 420)⟩, ⟨PyData.keyHash P n78, (.str n78 770), (.ref 421)⟩, ⟨PyData.keyHash P n87, (.str n87 772), (.ref 424)⟩, ⟨PyData.keyHash P n79, (.str n79 774), (.ref 425)⟩, ⟨PyData.keyHash P n2, (.str n2 775), .none⟩] 4), #[]⟩
noncomputable def o423 (P : Params) : Obj := ⟨(.type "type"), none, (.cls ⟨n56, [(.type "object")], [(.ref 423), (.type "object")], 422, n56, true, [], [], false, none, false⟩), #[none, none, some (.str n56 701), some (.str n56 709), some (.builtin "object.__new__"), some (.bool true)]⟩
noncomputable def o440 (P : Params) : Obj := ⟨(.type "code"), none, (.fields #[(.str n90 790), (.str n112 791), (.str n9 792), (.int 312 0), (.int 3 0), (.int 0 0), (.int 0 0), (.int 3 0), (.ref 435), (.bool true), (.int 181 0), (.ref 436), .none, (.ref 437), (.ref 438), (.ref 439), (.int 796 0), (.int 312 0), (.str n9 797)]), #[]⟩
noncomputable def o441 (P:Params):Obj:=fO (meQ 50 0) n112 .none (.str n100 681) 440
noncomputable def o447 (P : Params) : Obj := ⟨(.type "code"), none, (.fields #[(.str n113 799), (.str n114 800), (.str n9 801), (.int 316 0), (.int 1 0), (.int 0 0), (.int 0 0), (.int 3 0), (.ref 442), (.bool true), (.int 181 0), (.ref 443), .none, (.ref 444), (.ref 445), (.ref 446), (.int 803 0), (.int 316 0), (.str n9 804)]), #[]⟩
noncomputable def o448 (P:Params):Obj:=fO (meQ 50 1) n114 .none (.str n100 681) 447
noncomputable def o457 (P : Params) : Obj := ⟨(.type "dict"), none, (.dict #[⟨PyData.keyHash P n75, (.str n75 785), (.str n100 681)⟩, ⟨PyData.keyHash P n77, (.str n77 789), (.int 310 788)⟩, ⟨PyData.keyHash P n90, (.str n90 798), (.ref 441)⟩, ⟨PyData.keyHash P n113, (.str n113 805), (.ref 448)⟩, ⟨PyData.keyHash P n115, (.str n115 812), (.ref 455)⟩, ⟨PyData.keyHash P n78, (.str n78 815), (.ref 456)⟩, ⟨PyData.keyHash P n87, (.str n87 817), (.ref 459)⟩, ⟨PyData.keyHash P n79, (.str n79 819), (.ref 460)⟩, ⟨PyData.keyHash P n2, (.str n2 820), .none⟩] 4), #[]⟩
noncomputable def o458 (P : Params) : Obj := ⟨(.type "type"), none, (.cls ⟨n57, [(.type "object")], [(.ref 458), (.type "object")], 457, n57, true, [], [], false, none, false⟩), #[none, none, some (.str n57 778), some (.str n57 786), some (.builtin "object.__new__"), some (.bool true)]⟩
noncomputable def o468 (P : Params) : Obj := ⟨(.type "code"), none, (.fields #[(.str n58 823), (.str n58 824), (.str n9 825), (.int 321 0), (.int 2 0), (.int 0 0), (.int 0 0), (.int 3 0), (.ref 463), (.bool true), (.int 181 0), (.ref 464), .none, (.ref 465), (.ref 466), (.ref 467), (.int 829 0), (.int 321 0), (.str n9 830)]), #[]⟩
noncomputable def o469 (P:Params):Obj:=fO (stQ 51) n58 .none (.str n100 681) 468
noncomputable def o482 (P : Params) : Obj := ⟨(.type "code"), none, (.fields #[(.str n90 844), (.str n116 845), (.str n9 846), (.int 326 0), (.int 2 0), (.int 0 0), (.int 0 0), (.int 3 0), (.ref 477), (.bool true), (.int 181 0), (.ref 478), .none, (.ref 479), (.ref 480), (.ref 481), (.int 850 0), (.int 326 0), (.str n9 851)]), #[]⟩
noncomputable def o483 (P:Params):Obj:=fO (meQ 52 0) n116 .none (.str n100 681) 482
noncomputable def o489 (P : Params) : Obj := ⟨(.type "code"), none, (.fields #[(.str n117 853), (.str n118 854), (.str n9 855), (.int 337 0), (.int 2 0), (.int 0 0), (.int 0 0), (.int 3 0), (.ref 484), (.bool true), (.int 181 0), (.ref 485), .none, (.ref 486), (.ref 487), (.ref 488), (.int 867 0), (.int 337 0), (.str n9 868)]), #[]⟩
noncomputable def o490 (P:Params):Obj:=fO (meQ 52 1) n118 .none (.str n100 681) 489
noncomputable def o499 (P : Params) : Obj := ⟨(.type "dict"), none, (.dict #[⟨PyData.keyHash P n75, (.str n75 839), (.str n100 681)⟩, ⟨PyData.keyHash P n77, (.str n77 843), (.int 324 842)⟩, ⟨PyData.keyHash P n90, (.str n90 852), (.ref 483)⟩, ⟨PyData.keyHash P n117, (.str n117 869), (.ref 490)⟩, ⟨PyData.keyHash P n119, (.str n119 878), (.ref 497)⟩, ⟨PyData.keyHash P n78, (.str n78 881), (.ref 498)⟩, ⟨PyData.keyHash P n87, (.str n87 883), (.ref 501)⟩, ⟨PyData.keyHash P n79, (.str n79 885), (.ref 502)⟩, ⟨PyData.keyHash P n2, (.str n2 886), .none⟩] 4), #[]⟩
noncomputable def o500 (P : Params) : Obj := ⟨(.type "type"), none, (.cls ⟨n59, [(.type "object")], [(.ref 500), (.type "object")], 499, n59, true, [], [], false, none, false⟩), #[none, none, some (.str n59 832), some (.str n59 840), some (.builtin "object.__new__"), some (.bool true)]⟩
noncomputable def o517 (P : Params) : Obj := ⟨(.type "code"), none, (.fields #[(.str n90 901), (.str n120 902), (.str n9 903), (.int 358 0), (.int 3 0), (.int 0 0), (.int 0 0), (.int 3 0), (.ref 512), (.bool true), (.int 181 0), (.ref 513), .none, (.ref 514), (.ref 515), (.ref 516), (.int 907 0), (.int 358 0), (.str n9 908)]), #[]⟩
noncomputable def o518 (P:Params):Obj:=fO (meQ 53 0) n120 .none (.str n100 681) 517
noncomputable def o524 (P : Params) : Obj := ⟨(.type "code"), none, (.fields #[(.str n121 910), (.str n122 911), (.str n9 912), (.int 368 0), (.int 2 0), (.int 0 0), (.int 0 0), (.int 3 0), (.ref 519), (.bool true), (.int 181 0), (.ref 520), .none, (.ref 521), (.ref 522), (.ref 523), (.int 916 0), (.int 368 0), (.str n9 917)]), #[]⟩
noncomputable def o525 (P:Params):Obj:=fO (meQ 53 1) n122 .none (.str n100 681) 524
noncomputable def o531 (P : Params) : Obj := ⟨(.type "code"), none, (.fields #[(.str n123 919), (.str n124 920), (.str n9 921), (.int 377 0), (.int 2 0), (.int 0 0), (.int 0 0), (.int 3 0), (.ref 526), (.bool true), (.int 181 0), (.ref 527), .none, (.ref 528), (.ref 529), (.ref 530), (.int 924 0), (.int 377 0), (.str n9 925)]), #[]⟩
noncomputable def o532 (P:Params):Obj:=fO (meQ 53 2) n124 .none (.str n100 681) 531
noncomputable def o538 (P : Params) : Obj := ⟨(.type "code"), none, (.fields #[(.str n125 927), (.str n126 928), (.str n9 929), (.int 382 0), (.int 1 0), (.int 0 0), (.int 0 0), (.int 3 0), (.ref 533), (.bool true), (.int 181 0), (.ref 534), .none, (.ref 535), (.ref 536), (.ref 537), (.int 931 0), (.int 382 0), (.str n9 932)]), #[]⟩
noncomputable def o539 (P:Params):Obj:=fO (meQ 53 3) n126 .none (.str n100 681) 538
noncomputable def o545 (P : Params) : Obj := ⟨(.type "code"), none, (.fields #[(.str n110 934), (.str n127 935), (.str n9 936), (.int 388 0), (.int 1 0), (.int 0 0), (.int 0 0), (.int 3 0), (.ref 540), (.bool true), (.int 181 0), (.ref 541), .none, (.ref 542), (.ref 543), (.ref 544), (.int 940 0), (.int 388 0), (.str n9 941)]), #[]⟩
noncomputable def o546 (P:Params):Obj:=fO (meQ 53 4) n127 .none (.str n100 681) 545
noncomputable def o548 (P : Params) : Obj := ⟨(.type "dict"), none, (.dict #[⟨PyData.keyHash P n75, (.str n75 896), (.str n100 681)⟩, ⟨PyData.keyHash P n77, (.str n77 900), (.int 356 899)⟩, ⟨PyData.keyHash P n90, (.str n90 909), (.ref 518)⟩, ⟨PyData.keyHash P n121, (.str n121 918), (.ref 525)⟩, ⟨PyData.keyHash P n123, (.str n123 926), (.ref 532)⟩, ⟨PyData.keyHash P n125, (.str n125 933), (.ref 539)⟩, ⟨PyData.keyHash P n110, (.str n110 942), (.ref 546)⟩, ⟨PyData.keyHash P n78, (.str n78 949), (.ref 547)⟩, ⟨PyData.keyHash P n87, (.str n87 951), (.ref 550)⟩, ⟨PyData.keyHash P n79, (.str n79 953), (.ref 551)⟩, ⟨PyData.keyHash P n2, (.str n2 954), .none⟩] 4), #[]⟩
noncomputable def o549 (P : Params) : Obj := ⟨(.type "type"), none, (.cls ⟨n60, [(.type "object")], [(.ref 549), (.type "object")], 548, n60, true, [], [], false, none, false⟩), #[none, none, some (.str n60 889), some (.str n60 897), some (.builtin "object.__new__"), some (.bool true)]⟩
noncomputable def o566 (P : Params) : Obj := ⟨(.type "code"), none, (.fields #[(.str n90 977), (.str n128 978), (.str n9 979), (.int 406 0), (.int 3 0), (.int 0 0), (.int 0 0), (.int 3 0), (.ref 561), (.bool true), (.int 181 0), (.ref 562), .none, (.ref 563), (.ref 564), (.ref 565), (.int 983 0), (.int 406 0), (.str n9 984)]), #[]⟩
noncomputable def o567 (P:Params):Obj:=fO (meQ 58 0) n128 .none (.str n129 957) 566
noncomputable def o573 (P : Params) : Obj := ⟨(.type "code"), none, (.fields #[(.str n113 986), (.str n130 987), (.str n9 988), (.int 410 0), (.int 1 0), (.int 0 0), (.int 0 0), (.int 3 0), (.ref 568), (.bool true), (.int 181 0), (.ref 569), .none, (.ref 570), (.ref 571), (.ref 572), (.int 991 0), (.int 410 0), (.str n9 992)]), #[]⟩
noncomputable def o574 (P:Params):Obj:=fO (meQ 58 1) n130 .none (.str n129 957) 573
noncomputable def o583 (P : Params) : Obj := ⟨(.type "dict"), none, (.dict #[⟨PyData.keyHash P n75, (.str n75 972), (.str n129 957)⟩, ⟨PyData.keyHash P n77, (.str n77 976), (.int 404 975)⟩, ⟨PyData.keyHash P n90, (.str n90 985), (.ref 567)⟩, ⟨PyData.keyHash P n113, (.str n113 993), (.ref 574)⟩, ⟨PyData.keyHash P n115, (.str n115 1000), (.ref 581)⟩, ⟨PyData.keyHash P n78, (.str n78 1003), (.ref 582)⟩, ⟨PyData.keyHash P n87, (.str n87 1005), (.ref 585)⟩, ⟨PyData.keyHash P n79, (.str n79 1007), (.ref 586)⟩, ⟨PyData.keyHash P n2, (.str n2 1008), .none⟩] 4), #[]⟩
noncomputable def o584 (P : Params) : Obj := ⟨(.type "type"), none, (.cls ⟨n64, [(.type "object")], [(.ref 584), (.type "object")], 583, n64, true, [], [], false, none, false⟩), #[none, none, some (.str n64 965), some (.str n64 973), some (.builtin "object.__new__"), some (.bool true)]⟩
noncomputable def o601 (P : Params) : Obj := ⟨(.type "code"), none, (.fields #[(.str n90 1023), (.str n131 1024), (.str n9 1025), (.int 418 0), (.int 3 0), (.int 0 0), (.int 0 0), (.int 3 0), (.ref 596), (.bool true), (.int 181 0), (.ref 597), .none, (.ref 598), (.ref 599), (.ref 600), (.int 1030 0), (.int 418 0), (.str n9 1031)]), #[]⟩
noncomputable def o602 (P:Params):Obj:=fO (meQ 59 0) n131 .none (.str n129 957) 601
noncomputable def o608 (P : Params) : Obj := ⟨(.type "code"), none, (.fields #[(.str n132 1033), (.str n133 1034), (.str n9 1035), (.int 434 0), (.int 1 0), (.int 0 0), (.int 0 0), (.int 3 0), (.ref 603), (.bool true), (.int 181 0), (.ref 604), .none, (.ref 605), (.ref 606), (.ref 607), (.int 1037 0), (.int 434 0), (.str n9 1038)]), #[]⟩
noncomputable def o609 (P:Params):Obj:=fO (meQ 59 1) n133 .none (.str n129 957) 608
noncomputable def o615 (P : Params) : Obj := ⟨(.type "code"), none, (.fields #[(.str n134 1040), (.str n135 1041), (.str n9 1042), (.int 437 0), (.int 1 0), (.int 0 0), (.int 0 0), (.int 3 0), (.ref 610), (.bool true), (.int 181 0), (.ref 611), .none, (.ref 612), (.ref 613), (.ref 614), (.int 1044 0), (.int 437 0), (.str n9 1045)]), #[]⟩
noncomputable def o616 (P:Params):Obj:=fO (meQ 59 2) n135 .none (.str n129 957) 615
noncomputable def o622 (P : Params) : Obj := ⟨(.type "code"), none, (.fields #[(.str n108 1047), (.str n136 1048), (.str n9 1049), (.int 440 0), (.int 3 0), (.int 0 0), (.int 0 0), (.int 3 0), (.ref 617), (.bool true), (.int 181 0), (.ref 618), .none, (.ref 619), (.ref 620), (.ref 621), (.int 1055 0), (.int 440 0), (.str n9 1056)]), #[]⟩
noncomputable def o623 (P:Params):Obj:=fO (meQ 59 3) n136 .none (.str n129 957) 622
noncomputable def o629 (P : Params) : Obj := ⟨(.type "code"), none, (.fields #[(.str n137 1058), (.str n138 1059), (.str n9 1060), (.int 458 0), (.int 2 0), (.int 0 0), (.int 0 0), (.int 3 0), (.ref 624), (.bool true), (.int 181 0), (.ref 625), .none, (.ref 626), (.ref 627), (.ref 628), (.int 1064 0), (.int 458 0), (.str n9 1065)]), #[]⟩
noncomputable def o630 (P:Params):Obj:=fO (meQ 59 4) n138 .none (.str n129 957) 629
noncomputable def o636 (P : Params) : Obj := ⟨(.type "code"), none, (.fields #[(.str n139 1067), (.str n140 1068), (.str n9 1069), (.int 463 0), (.int 1 0), (.int 0 0), (.int 0 0), (.int 3 0), (.ref 631), (.bool true), (.int 181 0), (.ref 632), .none, (.ref 633), (.ref 634), (.ref 635), (.int 1071 0), (.int 463 0), (.str n9 1072)]), #[]⟩
noncomputable def o637 (P:Params):Obj:=fO (meQ 59 5) n140 .none (.str n129 957) 636
noncomputable def o643 (P : Params) : Obj := ⟨(.type "code"), none, (.fields #[(.str n110 1074), (.str n141 1075), (.str n9 1076), (.int 471 0), (.int 1 0), (.int 0 0), (.int 0 0), (.int 3 0), (.ref 638), (.bool true), (.int 181 0), (.ref 639), .none, (.ref 640), (.ref 641), (.ref 642), (.int 1082 0), (.int 471 0), (.str n9 1083)]), #[]⟩
noncomputable def o644 (P:Params):Obj:=fO (meQ 59 6) n141 .none (.str n129 957) 643
noncomputable def o653 (P : Params) : Obj := ⟨(.type "dict"), none, (.dict #[⟨PyData.keyHash P n75, (.str n75 1018), (.str n129 957)⟩, ⟨PyData.keyHash P n77, (.str n77 1022), (.int 416 1021)⟩, ⟨PyData.keyHash P n90, (.str n90 1032), (.ref 602)⟩, ⟨PyData.keyHash P n132, (.str n132 1039), (.ref 609)⟩, ⟨PyData.keyHash P n134, (.str n134 1046), (.ref 616)⟩, ⟨PyData.keyHash P n108, (.str n108 1057), (.ref 623)⟩, ⟨PyData.keyHash P n137, (.str n137 1066), (.ref 630)⟩, ⟨PyData.keyHash P n139, (.str n139 1073), (.ref 637)⟩, ⟨PyData.keyHash P n110, (.str n110 1084), (.ref 644)⟩, ⟨PyData.keyHash P n142, (.str n142 1091), (.ref 651)⟩, ⟨PyData.keyHash P n78, (.str n78 1102), (.ref 652)⟩, ⟨PyData.keyHash P n87, (.str n87 1104), (.ref 655)⟩, ⟨PyData.keyHash P n79, (.str n79 1106), (.ref 656)⟩, ⟨PyData.keyHash P n2, (.str n2 1107), .none⟩] 4), #[]⟩
noncomputable def o654 (P : Params) : Obj := ⟨(.type "type"), none, (.cls ⟨n65, [(.type "object")], [(.ref 654), (.type "object")], 653, n65, true, [], [], false, none, false⟩), #[none, none, some (.str n65 1011), some (.str n65 1019), some (.builtin "object.__new__"), some (.bool true)]⟩
noncomputable def o664 (P : Params) : Obj := ⟨(.type "code"), none, (.fields #[(.str n66 1112), (.str n66 1113), (.str n9 1114), (.int 491 0), (.int 0 0), (.int 0 0), (.int 0 0), (.int 3 0), (.ref 659), (.bool true), (.int 181 0), (.ref 660), .none, (.ref 661), (.ref 662), (.ref 663), (.int 1115 0), (.int 491 0), (.str n9 1116)]), #[]⟩
noncomputable def o665 (P:Params):Obj:=fO (stQ 61) n66 .none (.str n1 1110) 664
noncomputable def o671 (P : Params) : Obj := ⟨(.type "code"), none, (.fields #[(.str n67 1118), (.str n67 1119), (.str n9 1120), (.int 493 0), (.int 0 0), (.int 0 0), (.int 0 0), (.int 3 0), (.ref 666), (.bool true), (.int 181 0), (.ref 667), .none, (.ref 668), (.ref 669), (.ref 670), (.int 1121 0), (.int 493 0), (.str n9 1122)]), #[]⟩
noncomputable def o672 (P:Params):Obj:=fO (stQ 62) n67 .none (.str n1 1110) 671
noncomputable def o678 (P : Params) : Obj := ⟨(.type "code"), none, (.fields #[(.str n68 1124), (.str n68 1125), (.str n9 1126), (.int 495 0), (.int 2 0), (.int 0 0), (.int 0 0), (.int 3 0), (.ref 673), (.bool true), (.int 181 0), (.ref 674), .none, (.ref 675), (.ref 676), (.ref 677), (.int 1129 0), (.int 495 0), (.str n9 1130)]), #[]⟩
noncomputable def o679 (P:Params):Obj:=fO (stQ 63) n68 .none (.str n1 1110) 678
noncomputable def o685 (P : Params) : Obj := ⟨(.type "code"), none, (.fields #[(.str n69 1132), (.str n69 1133), (.str n9 1134), (.int 497 0), (.int 2 0), (.int 0 0), (.int 0 0), (.int 3 0), (.ref 680), (.bool true), (.int 181 0), (.ref 681), .none, (.ref 682), (.ref 683), (.ref 684), (.int 1138 0), (.int 497 0), (.str n9 1139)]), #[]⟩
noncomputable def o686 (P:Params):Obj:=fO (stQ 64) n69 .none (.str n1 1110) 685
noncomputable def o690 (P : Params) : Obj := ⟨(.type "code"), none, (.fields #[(.str n70 1141), (.str n70 1142), (.str n9 1143), (.int 505 0), (.int 3 0), (.int 0 0), (.int 0 0), (.int 3 0), (.ref 687), (.bool true), (.int 181 0), (.ref 688), .none, .none, .none, (.ref 689), (.int 1144 0), (.int 505 0), (.str n9 1145)]), #[]⟩
noncomputable def o691 (P:Params):Obj:=fO (stQ 65) n70 .none (.str n1 1110) 690
noncomputable def o697 (P : Params) : Obj := ⟨(.type "code"), none, (.fields #[(.str n71 1147), (.str n71 1148), (.str n9 1149), (.int 528 0), (.int 2 0), (.int 0 0), (.int 0 0), (.int 3 0), (.ref 692), (.bool true), (.int 181 0), (.ref 693), .none, (.ref 694), (.ref 695), (.ref 696), (.int 1152 0), (.int 528 0), (.str n9 1153)]), #[]⟩
noncomputable def o698 (P:Params):Obj:=fO (stQ 66) n71 .none (.str n1 1110) 697
noncomputable def o704 (P : Params) : Obj := ⟨(.type "code"), none, (.fields #[(.str n72 1155), (.str n72 1156), (.str n9 1157), (.int 534 0), (.int 3 0), (.int 0 0), (.int 0 0), (.int 3 0), (.ref 699), (.bool true), (.int 181 0), (.ref 700), .none, (.ref 701), (.ref 702), (.ref 703), (.int 1166 0), (.int 534 0), (.str n9 1167)]), #[]⟩
noncomputable def o705 (P:Params):Obj:=fO (stQ 67) n72 .none (.str n1 1110) 704
noncomputable def o711 (P : Params) : Obj := ⟨(.type "code"), none, (.fields #[(.str n73 1169), (.str n73 1170), (.str n9 1171), (.int 548 0), (.int 1 0), (.int 0 0), (.int 0 0), (.int 3 0), (.ref 706), (.bool true), (.int 181 0), (.ref 707), .none, (.ref 708), (.ref 709), (.ref 710), (.int 1174 0), (.int 548 0), (.str n9 1175)]), #[]⟩
noncomputable def o712 (P:Params):Obj:=fO (stQ 68) n73 .none (.str n1 1110) 711
noncomputable def o716 (P : Params) : Obj := ⟨(.type "code"), none, (.fields #[(.str n74 1177), (.str n74 1178), (.str n9 1179), (.int 553 0), (.int 1 0), (.int 0 0), (.int 0 0), (.int 3 0), (.ref 713), (.bool true), (.int 181 0), (.ref 714), .none, .none, .none, (.ref 715), (.int 1180 0), (.int 553 0), (.str n9 1181)]), #[]⟩
noncomputable def o717 (P:Params):Obj:=fO (stQ 69) n74 .none (.str n1 1110) 716
noncomputable def KF (P:Params):Frag:=[(3,o3 P),(30,o30 P),(31,o31 P),(43,o43 P),(44,o44 P),(55,o55 P),(56,o56 P),(67,o67 P),(68,o68 P),(79,o79 P),(80,o80 P),(91,o91 P),(92,o92 P),(100,o100 P),(101,o101 P),(107,o107 P),(108,o108 P),(114,o114 P),(115,o115 P),(121,o121 P),(122,o122 P),(128,o128 P),(129,o129 P),(135,o135 P),(136,o136 P),(142,o142 P),(143,o143 P),(171,o171 P),(172,o172 P),(178,o178 P),(179,o179 P),(185,o185 P),(186,o186 P),(192,o192 P),(193,o193 P),(199,o199 P),(200,o200 P),(213,o213 P),(214,o214 P),(237,o237 P),(238,o238 P),(255,o255 P),(256,o256 P),(262,o262 P),(263,o263 P),(272,o272 P),(273,o273 P),(288,o288 P),(289,o289 P),(295,o295 P),(296,o296 P),(302,o302 P),(303,o303 P),(309,o309 P),(310,o310 P),(316,o316 P),(317,o317 P),(326,o326 P),(327,o327 P),(342,o342 P),(343,o343 P),(359,o359 P),(360,o360 P),(370,o370 P),(371,o371 P),(384,o384 P),(385,o385 P),(391,o391 P),(392,o392 P),(398,o398 P),(399,o399 P),(405,o405 P),(406,o406 P),(412,o412 P),(413,o413 P),(419,o419 P),(420,o420 P),(422,o422 P),(423,o423 P),(440,o440 P),(441,o441 P),(447,o447 P),(448,o448 P),(457,o457 P),(458,o458 P),(468,o468 P),(469,o469 P),(482,o482 P),(483,o483 P),(489,o489 P),(490,o490 P),(499,o499 P),(500,o500 P),(517,o517 P),(518,o518 P),(524,o524 P),(525,o525 P),(531,o531 P),(532,o532 P),(538,o538 P),(539,o539 P),(545,o545 P),(546,o546 P),(548,o548 P),(549,o549 P),(566,o566 P),(567,o567 P),(573,o573 P),(574,o574 P),(583,o583 P),(584,o584 P),(601,o601 P),(602,o602 P),(608,o608 P),(609,o609 P),(615,o615 P),(616,o616 P),(622,o622 P),(623,o623 P),(629,o629 P),(630,o630 P),(636,o636 P),(637,o637 P),(643,o643 P),(644,o644 P),(653,o653 P),(654,o654 P),(664,o664 P),(665,o665 P),(671,o671 P),(672,o672 P),(678,o678 P),(679,o679 P),(685,o685 P),(686,o686 P),(690,o690 P),(691,o691 P),(697,o697 P),(698,o698 P),(704,o704 P),(705,o705 P),(711,o711 P),(712,o712 P),(716,o716 P),(717,o717 P)]
noncomputable def KAs:List Addr:=[3,30,31,43,44,55,56,67,68,79,80,91,92,100,101,107,108,114,115,121,122,128,129,135,136,142,143,171,172,178,179,185,186,192,193,199,200,213,214,237,238,255,256,262,263,272,273,288,289,295,296,302,303,309,310,316,317,326,327,342,343,359,360,370,371,384,385,391,392,398,399,405,406,412,413,419,420,422,423,440,441,447,448,457,458,468,469,482,483,489,490,499,500,517,518,524,525,531,532,538,539,545,546,548,549,566,567,573,574,583,584,601,602,608,609,615,616,622,623,629,630,636,637,643,644,653,654,664,665,671,672,678,679,685,686,690,691,697,698,704,705,711,712,716,717]
noncomputable def FQ (w:World) (r:SharedT):=((staticsOk (importedModules pQ.main.body) (absHeap (T0Q w.params) 11 {}) r.abs.heap && namesBound pQ r.abs.heap && gensDone r.abs && laidKept (absHeap (T0Q w.params) 11 {}) r.abs.heap),
  openSeenQ qQ lQ (importedModules pQ.main.body) (fun s=>xlAt qQ [] s && recOk [] s) true r.abs,KAs.map r.abs.heap.get?)
theorem run1:∀ (w:World) (os:OsState),((runT (stepOkQ 11 (some (.ref 6))) (stepTQ (denQ tbQ) pQ w) 5900 (S0Q w os) (stubQ pQ)).map fun r=>FQ w r) = some (true,openGood qQ lQ,(KF w.params).map fun p=>some p.2):=fun w os=>by kernel_rfl
end Mine
end
section
namespace Mine
theorem minI (n m:Nat):((min n m:Nat):Int) = min (n:Int) (m:Int):=by
  rcases Nat.le_total n m with h | h
  · rw [Nat.min_eq_left h,Int.min_eq_left (Int.ofNat_le.mpr h)]
  · rw [Nat.min_eq_right h,Int.min_eq_right (Int.ofNat_le.mpr h)]
theorem clipN (n m:Nat):(max 0 (min (n:Int) (m:Int))).toNat = min n m:=by
  rw [← minI,Int.max_eq_right (Int.natCast_nonneg _),Int.toNat_natCast]
theorem neg_no (n:Nat):¬ ((n:Int) < 0):=Int.not_lt.mpr (Int.natCast_nonneg n)
theorem octet_ok (x:Int) (h0:0 ≤ x) (h1:x < 256):((x.toNat % 2 ^ 8:Nat):Int) = x:=by
  rw [Nat.mod_eq_of_lt ((Int.toNat_lt h0).mpr h1),Int.toNat_of_nonneg h0]
theorem pad48 {x:Nat} (h:x ≤ 40):x + (40 - x) + (4 + 4) = 48:=by rw [Nat.add_sub_cancel' h]
theorem pad_le {x:Nat} (h:x ≤ 40):x + (40 - x) = 40:=Nat.add_sub_cancel' h
theorem four_le {a b c d:Nat} (h1:a ≤ 2) (h2:b ≤ 2) (h3:c ≤ 2) (h4:d ≤ 2):a + (b + (c + d)) ≤ 40 :=
  Nat.le_trans (Nat.add_le_add h1 (Nat.add_le_add h2 (Nat.add_le_add h3 h4))) (by decide)
theorem pad4 (a b c d:Nat):(40 - ((a:Int) + (b + (c + d)))).toNat = 40 - (a + (b + (c + d))):=Int.toNat_sub 40 (a + (b + (c + d)))
theorem sub48 {n:Nat} (h:48 ≤ n):n - min (n - 48) n = 48:=by rw [Nat.min_eq_left (Nat.sub_le _ _),Nat.sub_sub_self h]
theorem sub_lt2 {n i k:Nat} (h:i < n) (hk:i < k):n - k < n - i:=Nat.sub_lt_sub_left h hk
theorem sub_shift {i L a:Nat} (h:¬ i < L):L + (a + (i - L) - a) = i:=by
  rw [Nat.add_sub_cancel_left,Nat.add_sub_cancel' (Nat.le_of_not_lt h)]
theorem sub_one {m j:Nat} (h:j < m):m - j = m - (j + 1) + 1:=(Nat.succ_pred_eq_of_pos (Nat.sub_pos_of_lt h)).symm
theorem abs_lt {x:Int} {n:Nat} (h0:0 ≤ x) (h:x < n):x.natAbs < n:=Int.ofNat_lt.mp (by rw [Int.natAbs_of_nonneg h0];exact h)
theorem fdlt {P W b:Int} (h:0 < b) (h2:P < W * b):P.fdiv b < W:=by
  rw [Int.fdiv_eq_ediv_of_nonneg _ (Int.le_of_lt h)];exact Int.ediv_lt_of_lt_mul h h2
theorem fmb {a b:Int} (h:0 < b):0 ≤ a.fmod b∧a.fmod b < b:=⟨Int.fmod_nonneg_of_pos a h,Int.fmod_lt_of_pos a h⟩
theorem padE {a b c d:Nat} (h1:a ≤ 2) (h2:b ≤ 2) (h3:c ≤ 2) (h4:d ≤ 2):a + (b + (c + (d + (40 - (a + (b + (c + d))))))) = 40:=by
  have:=pad_le (four_le h1 h2 h3 h4)
  simpa only [Nat.add_assoc] using this
theorem padF {a b c d:Nat} (h1:a ≤ 2) (h2:b ≤ 2) (h3:c ≤ 2) (h4:d ≤ 2):a + (b + (c + (d + (40 - (a + (b + (c + d))) + 8)))) = 48:=by
  have:=congrArg (· + 8) (pad_le (four_le h1 h2 h3 h4))
  simpa only [Nat.add_assoc] using this
theorem ite_min (a b:Nat):(if (a:Int) < b then (a:Int) else b) = ((min a b:Nat):Int):=by
  by_cases h:(a:Int) < b
  · rw [if_pos h,Nat.min_eq_left (Nat.le_of_lt (Int.ofNat_lt.mp h))]
  · rw [if_neg h,Nat.min_eq_right (Int.ofNat_le.mp (Int.not_lt.mp h))]
theorem twice {x:Int} (h:x < 4294967296):x + x < 2 ^ 33:=Int.add_lt_add h h
theorem sub_add_lt {c n i:Nat} (hc:c ≤ n) (h:i < n - c + 1):c + i < n + 1:=by
  have:=Nat.add_lt_add_left h c
  rwa [← Nat.add_assoc,Nat.add_sub_cancel' hc] at this
theorem neg_in {m:Nat} (h:m ≤ 2):-3 ≤ -(3 - (m:Int))∧-(3 - (m:Int)) ≤ -1:=by lia
theorem neg_in1 {m:Nat} (h:m ≤ 1):-1 ≤ -(1 - (m:Int))∧-(1 - (m:Int)) ≤ 0:=by lia
theorem draw_ar {x:Int} {d i:Nat} (hi:i ≤ 10) (hd:d ≤ i) (h:0 ≤ x∧x < 999983):0 ≤ x + 31 * (d:Int)∧x + 31 * (d:Int) ≤ 1000400:=by lia
theorem rd_ar {o0 o1 o2 o3 b1 b2 b3:Int} (h0:0 ≤ o0∧o0 < 256) (h1:0 ≤ o1∧o1 < 256) (h2:0 ≤ o2∧o2 < 256) (h3:0 ≤ o3∧o3 < 256) (a1:0 ≤ b1∧b1 ≤ o0 + o1 * 2 ^ 8) (a2:0 ≤ b2∧b2 ≤ b1 + o2 * 2 ^ 16) (a3:0 ≤ b3∧b3 ≤ b2 + o3 * 2 ^ 24):0 ≤ b3∧b3 < 2 ^ 32:=⟨a3.1,by lia⟩
end Mine
end
section
namespace Mine
noncomputable def bad:Code→Bool
  | .builtin id _=>Builtin.Bytes.decodersThatHold.contains id
  | _=>false
noncomputable def Clean (l:List (Code × Pos)):Prop:=∀ x ∈ l,bad x.1 = false
noncomputable def wpR {α:Type} (M:Model) (A:Around) (t:Sem α) (Q:α→Shared→Prop) (E:PySem.Value→Shared→Prop) (s:Shared):Prop :=
  ∀ Γ p,Γ.In A→bad Γ.code = false→Clean Γ.below→Sem.wp M Γ t (fun a _ s'=>Q a s') (fun e _ s'=>E e s') p s
noncomputable def codeR (M:Model) (A:Around) (c:Code) (R:Result→Shared→Prop) (s:Shared):Prop :=
  ∀ Γ p,Γ.code = c→Γ.Below A→Clean Γ.below→wpCode M Γ R p s
section
variable {α β:Type} {M:Model} {A:Around} {E:PySem.Value→Shared→Prop} {s:Shared}
theorem wpR.of {t:Sem α} {Q:α→Shared→Prop} (h:wpAny M A t Q E s):wpR M A t Q E s:=fun Γ p hΓ _ _=>h Γ p hΓ
theorem codeR.of {c:Code} {R:Result→Shared→Prop} (h:codeAny M A c R s):codeR M A c R s:=fun Γ p hc hΓ _=>h Γ p hc hΓ
theorem wpR_pure {a:α} {Q:α→Shared→Prop} (h:Q a s):wpR M A (pure a) Q E s:=fun _ _ _ _ _=>h
theorem wpR_mono {t:Sem α} {Q Q':α→Shared→Prop} {E':PySem.Value→Shared→Prop} (h:wpR M A t Q E s) (hQ:∀ a s,Q a s→Q' a s) (hE:∀ e s,E e s→E' e s):wpR M A t Q' E' s :=
  fun Γ p hΓ hb hc=>Sem.wp_mono M Γ t (fun a _ s=>hQ a s) (fun e _ s=>hE e s) p s (h Γ p hΓ hb hc)
theorem wpR_bind {m:Sem α} {f:α→Sem β} {Q:β→Shared→Prop} (h:wpR M A m (fun a s'=>wpR M A (f a) Q E s') E s):wpR M A (m >>= f) Q E s:=fun Γ p hΓ hb hc=>by
  rw [Sem.wp_bind']
  exact Sem.wp_mono M Γ m (fun a p' s' h'=>h' Γ p' hΓ hb hc) (fun _ _ _ h'=>h') p s (h Γ p hΓ hb hc)
theorem wpR_step {m:Sem α} {f:α→Sem β} {Q:β→Shared→Prop} (h:wpAny M A m (fun a s'=>wpR M A (f a) Q E s') E s):wpR M A (m >>= f) Q E s:=wpR_bind (.of h)
theorem wpR_onRaise {m:Sem α} {k:PySem.Value→Sem Unit} {Q:α→Shared→Prop} (h:wpR M A m Q (fun e s'=>wpR M A (k e) (fun _ s''=>E e s'') E s') s):wpR M A (m.onRaise k) Q E s:=fun Γ p hΓ hb hc=>by
  rw [Sem.wp_onRaise]
  exact Sem.wp_mono M Γ m (fun _ _ _ h'=>h') (fun e p' s' h'=>h' Γ p' hΓ hb hc) p s (h Γ p hΓ hb hc)
theorem wpR_attempt {m:Sem α} {Q:Except PySem.Value α→Shared→Prop} (h:wpR M A m (fun a=>Q (.ok a)) (fun e=>Q (.error e)) s):wpR M A m.attempt Q E s:=fun Γ p hΓ hb hc=>by rw [Sem.wp_attempt];exact h Γ p hΓ hb hc
theorem wpR_holding {vs:List PySem.Value} {m:Sem α} {Q:α→Shared→Prop} (h:wpR M A m Q E s):wpR M A (holding vs m) Q E s:=fun Γ p hΓ hb hc=>by rw [Sem.wp_holding];exact h Γ p hΓ hb hc
theorem wpR_operate {vs:List PySem.Value} {m:Sem PySem.Value} {Q:PySem.Value→Shared→Prop} (h:wpR M A m Q E s):wpR M A (operate vs m) Q E s:=fun Γ p hΓ hb hc=>by rw [Sem.wp_operate];exact h Γ p hΓ hb hc
theorem wpR_of_eq {a:α} {t:Sem α} {Q:α→Shared→Prop} (e:t = pure a) (h:Q a s):wpR M A t Q E s:=e ▸ wpR_pure h
theorem stand {pos:Pos} {f:Unit→Sem β} {Q:β→Shared→Prop} (h:wpR M A (f ()) Q E s):wpR M A (standAt pos >>= f) Q E s:=wpR_step (wpAny_standAt h)
theorem rel {vs keep:List PySem.Value} {f:Unit→Sem β} {Q:β→Shared→Prop} (h:wpR M A (f ()) Q E s):wpR M A (release vs keep >>= f) Q E s:=wpR_step (wpAny_release h)
theorem wpR_keep {mk f:PySem.Value} {vs:List PySem.Value} {kw:List (PySem.Str × PySem.Value)} {Q:PySem.Value→Shared→Prop} (h:wpR M A (call f vs kw) Q E s):wpR M A (callMarked mk f vs kw) Q E s:=by
  unfold callMarked
  exact fun Γ p hΓ hb hc=>by rw [Sem.wp_keep];exact h Γ p hΓ hb hc
theorem codeR_mono {c:Code} {R R':Result→Shared→Prop} (h:codeR M A c R s) (hR:∀ r s,R r s→R' r s):codeR M A c R' s:=fun Γ p hc hΓ hk=>wpCode_mono hR (h Γ p hc hΓ hk)
theorem wpR_run {c:Code} {h:Option PySem.Value} {Q:Flow→Shared→Prop} (hc:codeR M (A.mark h) c (fun r s'=>match r with | .ok f=>Q f s' | .error e=>E e s') s) (hnb:h ≠ some byPass):wpR M A (run c h) Q E s :=
  fun Γ p hΓ hb hk=>by
    rw [Sem.wp_run]
    refine hc _ p rfl (hΓ.enter c h p hnb) ?_
    intro x hx
    cases hx with
    | head=>exact hb
    | tail _ hx=>exact hk x hx
theorem wpR_runValue {c:Code} {Q:PySem.Value→Shared→Prop} (hc:codeR M A c (fun r s'=>match r with | .ok (.ret v)=>Q v s' | .ok _=>False | .error e=>E e s') s):wpR M A (runValue c) Q E s:=fun Γ p hΓ hb hk=>by
  rw [Sem.wp_runValue]
  refine hc _ p rfl (hΓ.enter c none p (by intro x;cases x)) ?_
  intro x hx
  cases hx with
  | head=>exact hb
  | tail _ hx=>exact hk x hx
theorem wpR_call {f:PySem.Value} {pos:List PySem.Value} {kw:List (PySem.Str × PySem.Value)} {Q:PySem.Value→Shared→Prop}
    (hc:codeR M A (.call f ⟨pos,kw⟩) (fun r s'=>match r with | .ok (.ret v)=>Q v s' | .ok _=>False | .error e=>E e s') s):wpR M A (call f pos kw) Q E s:=wpR_runValue hc
theorem codeR_of_tree {c:Code} {R:Result→Shared→Prop} (hb:bad c = false)
    (h:wpR M (A.under c) (M.den c) (fun fin s'=>match fin with | .done f=>R (.ok f) s' | .again c'=>c'.quiet = true∧codeR M A c' R s') (fun e s'=>R (.error e) s') s):codeR M A c R s:=fun Γ p hc hΓ hk=>by
  rw [wpCode_iff_wp,hc]
  refine Sem.wp_mono M Γ _ (fun fin p' s' h'=>?_) (fun _ _ _ h'=>h') p s (h Γ p (hc ▸ hΓ.in) (hc ▸ hb) hk)
  cases fin with
  | done f=>exact h'
  | again c'=>exact ⟨h'.1,h'.2 (Γ.goto c') p' rfl (hΓ.goto c') hk⟩
theorem stack_clean {f:Code × Pos→Bool} {g:List Code} {Q:Bool→Shared→Prop} (hg:A.guards = some g) (hf:∀ c p,c.isGuard = false→bad c = false→f (c,p) = false)
    (hno:∀ c ∈ g,∀ p,f (c,p) = false) (h:Q false s):wpR M A (do return (← stack).any f) Q E s:=fun Γ p hΓ hb hk=>by
  show Q (((Γ.code,p) :: Γ.below).any f) s
  have gs:guardsOf ((Γ.code,p) :: Γ.below) = g:=by rw [guardsOf_cons];exact hΓ.2.2.2.1 g hg
  have all:∀ l:List (Code × Pos),Clean l→(∀ c ∈ guardsOf l,∀ p,f (c,p) = false)→l.any f = false:=by
    intro l
    induction l with
    | nil=>intros;rfl
    | cons x l ih =>
      intro hc hh
      obtain ⟨c,q⟩:=x
      rw [guardsOf_cons] at hh
      rw [List.any_cons,ih (fun y hy=>hc y (.tail _ hy)) (fun c' h'=>hh c' (List.mem_append_right _ h'))]
      rw [Bool.or_false]
      cases hgd:c.isGuard with
      | false=>exact hf c q hgd (hc _ (.head _))
      | true=>exact hh c (List.mem_append_left _ (by simp [Code.guards,hgd])) q
  rw [all _ (fun x hx=>by
    cases hx with
    | head=>exact hb
    | tail _ hx=>exact hk x hx) (fun c hc p'=>hno c (gs ▸ hc) p')]
  exact h
end
end Mine
end
section
open PySem PySem.W PyProof.Rows PySem.F
namespace Mine
theorem plainAttrs_ba : PlainAttrs "bytearray" :=
  ⟨⟨"bytearray.__getattribute__", by rw [typeLookup_type, builtinLookup_eq_fast]; kernel_rfl, by decide +kernel⟩, by rw [typeLookup_type, builtinLookup_eq_fast]; kernel_rfl⟩
theorem owner_ba:Manifest.owners.lookup (String.ofList ['y','a','r','r','a','e','t','y','b'].reverse) = some Manifest.sig_bytearray:=by kernel_rfl
theorem slot_ba_append : Slot "bytearray" "append" "bytearray.append" :=
  .of (owner := "bytearray") (n := "append") (by rw [typeLookup_type, builtinLookup_eq_fast]; kernel_rfl) (by decide +kernel) (by decide +kernel) (by decide +kernel)
    (by first | exact .inl (by decide +kernel) | exact .inr (by decide +kernel)) (by rw [isSubtype_type];kernel_rfl)
theorem type_ba_append : typeOf (.builtin "bytearray.append") = pure (.type "method_descriptor") := by show builtinType _ = _; rw [builtinType_eq_fast]; kernel_rfl
theorem entry_ba_append : entryFor table "bytearray.append" = some Builtin.«bytearray.append» := entryFor_of_tree (by kernel_rfl)
theorem args_ba_append (a b : Value) : argsOk "bytearray.append" ⟨[a, b], []⟩ := by
  unfold argsOk; rw [signature?_of (id := "bytearray.append") (n := ['d', 'n', 'e', 'p', 'p', 'a']) (o := ['y', 'a', 'r', 'r', 'a', 'e', 't', 'y', 'b']) (by kernel_rfl) owner_ba]; kernel_rfl
theorem slot_ba_extend : Slot "bytearray" "extend" "bytearray.extend" :=
  .of (owner := "bytearray") (n := "extend") (by rw [typeLookup_type, builtinLookup_eq_fast]; kernel_rfl) (by decide +kernel) (by decide +kernel) (by decide +kernel)
    (by first | exact .inl (by decide +kernel) | exact .inr (by decide +kernel)) (by rw [isSubtype_type];kernel_rfl)
theorem type_ba_extend : typeOf (.builtin "bytearray.extend") = pure (.type "method_descriptor") := by show builtinType _ = _; rw [builtinType_eq_fast]; kernel_rfl
theorem entry_ba_extend : entryFor table "bytearray.extend" = some Builtin.«bytearray.extend» := entryFor_of_tree (by kernel_rfl)
theorem args_ba_extend (a b : Value) : argsOk "bytearray.extend" ⟨[a, b], []⟩ := by
  unfold argsOk; rw [signature?_of (id := "bytearray.extend") (n := ['d', 'n', 'e', 't', 'x', 'e']) (o := ['y', 'a', 'r', 'r', 'a', 'e', 't', 'y', 'b']) (by kernel_rfl) owner_ba]; kernel_rfl
theorem slot_ba_len : Slot "bytearray" "__len__" "bytearray.__len__" :=
  .of (owner := "bytearray") (n := "__len__") (by rw [typeLookup_type, builtinLookup_eq_fast]; kernel_rfl) (by decide +kernel) (by decide +kernel) (by decide +kernel)
    (by first | exact .inl (by decide +kernel) | exact .inr (by decide +kernel)) (by rw [isSubtype_type];kernel_rfl)
theorem entry_ba_len : entryFor table "bytearray.__len__" = some Builtin.«bytearray.__len__» := entryFor_of_tree (by kernel_rfl)
theorem args_ba_len (a : Value) : argsOk "bytearray.__len__" ⟨[a], []⟩ := by
  unfold argsOk; rw [signature?_of (id := "bytearray.__len__") (n := ['_', '_', 'n', 'e', 'l', '_', '_']) (o := ['y', 'a', 'r', 'r', 'a', 'e', 't', 'y', 'b']) (by kernel_rfl) owner_ba]; kernel_rfl
theorem slot_ba_getitem : Slot "bytearray" "__getitem__" "bytearray.__getitem__" :=
  .of (owner := "bytearray") (n := "__getitem__") (by rw [typeLookup_type, builtinLookup_eq_fast]; kernel_rfl) (by decide +kernel) (by decide +kernel) (by decide +kernel)
    (by first | exact .inl (by decide +kernel) | exact .inr (by decide +kernel)) (by rw [isSubtype_type];kernel_rfl)
theorem entry_ba_getitem : entryFor table "bytearray.__getitem__" = some Builtin.«bytearray.__getitem__» := entryFor_of_tree (by kernel_rfl)
theorem args_ba_getitem (a b : Value) : argsOk "bytearray.__getitem__" ⟨[a, b], []⟩ := by
  unfold argsOk; rw [signature?_of (id := "bytearray.__getitem__") (n := ['_', '_', 'm', 'e', 't', 'i', 't', 'e', 'g', '_', '_']) (o := ['y', 'a', 'r', 'r', 'a', 'e', 't', 'y', 'b']) (by kernel_rfl) owner_ba]; kernel_rfl
theorem slot_ba_setitem : Slot "bytearray" "__setitem__" "bytearray.__setitem__" :=
  .of (owner := "bytearray") (n := "__setitem__") (by rw [typeLookup_type, builtinLookup_eq_fast]; kernel_rfl) (by decide +kernel) (by decide +kernel) (by decide +kernel)
    (by first | exact .inl (by decide +kernel) | exact .inr (by decide +kernel)) (by rw [isSubtype_type];kernel_rfl)
theorem entry_ba_setitem : entryFor table "bytearray.__setitem__" = some Builtin.«bytearray.__setitem__» := entryFor_of_tree (by kernel_rfl)
theorem args_ba_setitem (a b c : Value) : argsOk "bytearray.__setitem__" ⟨[a, b, c], []⟩ := by
  unfold argsOk; rw [signature?_of (id := "bytearray.__setitem__") (n := ['_', '_', 'm', 'e', 't', 'i', 't', 'e', 's', '_', '_']) (o := ['y', 'a', 'r', 'r', 'a', 'e', 't', 'y', 'b']) (by kernel_rfl) owner_ba]; kernel_rfl
theorem entry_ba_init : entryFor table "bytearray.__init__" = some Builtin.«bytearray.__init__» := entryFor_of_tree (by kernel_rfl)
theorem args_ba_init1 (a : Value) : argsOk "bytearray.__init__" ⟨[a], []⟩ := by
  unfold argsOk; rw [signature?_of (id := "bytearray.__init__") (n := ['_', '_', 't', 'i', 'n', 'i', '_', '_']) (o := ['y', 'a', 'r', 'r', 'a', 'e', 't', 'y', 'b']) (by kernel_rfl) owner_ba]; kernel_rfl
theorem args_ba_init2 (a b : Value) : argsOk "bytearray.__init__" ⟨[a, b], []⟩ := by
  unfold argsOk; rw [signature?_of (id := "bytearray.__init__") (n := ['_', '_', 't', 'i', 'n', 'i', '_', '_']) (o := ['y', 'a', 'r', 'r', 'a', 'e', 't', 'y', 'b']) (by kernel_rfl) owner_ba]; kernel_rfl
theorem look_ba_buffer : typeLookup (.type "bytearray") "__buffer__" = pure (some (.builtin "bytearray.__buffer__")) := by rw [typeLookup_type, builtinLookup_eq_fast]; kernel_rfl
theorem look_ba_index : typeLookup (.type "bytearray") "__index__" = pure none := by rw [typeLookup_type, builtinLookup_eq_fast]; kernel_rfl
theorem look_ba_bytes : typeLookup (.type "bytearray") "__bytes__" = pure none := by rw [typeLookup_type, builtinLookup_eq_fast]; kernel_rfl
theorem look_ba_getitem : typeLookup (.type "bytearray") "__getitem__" = pure (some (.builtin "bytearray.__getitem__")) := by rw [typeLookup_type, builtinLookup_eq_fast]; kernel_rfl
end Mine
end
section
namespace Mine
section
variable {M:Model} {A:Around} {E:PySem.Value→Shared→Prop} {s:Shared} {env:Env}
theorem r_cons {x:Sem PySem.Value} {rest:List (Bool × Sem PySem.Value)} {Q:List PySem.Value→Shared→Prop}
    (h:wpR M A x (fun v s₁=>wpR M A (spliced rest) (fun vs s₂=>Q (v :: vs) s₂) E s₁) E s):wpR M A (spliced ((false,x) :: rest)) Q E s:=by
  rw [spliced]
  refine wpR_bind (wpR_mono h (fun v s₁ h₁=>?_) fun _ _ x=>x)
  simp only [Bool.false_eq_true,if_false]
  exact wpR_bind (wpR_pure (wpR_bind (wpR_holding (wpR_mono h₁ (fun vs s₂ h₂=>wpR_pure h₂) fun _ _ x=>x))))
theorem r_more {e:Expr} {rest:List Expr} {pos:Pos} {Q:List PySem.Value→Shared→Prop} (h:wpR M A (eval e env) (fun v s₁=>wpR M A (spliced (backTo pos (starEach rest env))) (fun vs s₂=>Q (v :: vs) s₂) E s₁) E s)
    (he:starEach (e :: rest) env = (false,eval e env) :: starEach rest env):wpR M A (spliced (backTo pos (starEach (e :: rest) env))) Q E s:=by rw [he];exact r_cons h
theorem r_args {f:PySem.Value} {x:Sem PySem.Value} {rest:List (Bool × Sem PySem.Value)} {Q:Args→Shared→Prop} (h:wpR M A (spliced ((false,x) :: rest)) (fun vs s'=>Q ⟨vs,[]⟩ s') E s) :
    wpR M A (evalArgs f true ((false,x) :: rest) []) Q E s:=by
  unfold evalArgs
  show wpR M A (spliced ((false,x) :: rest) >>= _) Q E s
  refine wpR_bind (wpR_mono h (fun vs s' h'=>?_) fun _ _ x=>x)
  exact wpR_holding (wpR_bind (wpR_pure (wpR_bind (wpR_pure (wpR_pure h')))))
theorem r_callWith {P:Heap→Prop} {pos:Pos} {f:PySem.Value} {first:List PySem.Value} {args:List (Bool × Sem PySem.Value)} {keywords:List (Option PySem.Str × Sem PySem.Value)} {Q:PySem.Value→Shared→Prop} (hplain:(args.any (·.1) || keywords.any (·.1.isNone)) = false)
    (hk:∀ h,P h→∃ k,(k = Keeper.frame ∨ k = Keeper.machine ∨ k = Keeper.boundFrame)∧Looks M h (keeperOf f) k)
    (h:wpR M A (evalArgs f true args keywords) (fun a s₁=>P s₁.heap∧wpR M A (call f (first++a.pos) a.kw) Q E s₁) E s):wpR M A (callWith pos f first args keywords) Q E s:=by
  delta callWith
  refine wpR_bind (wpR_holding (wpR_mono h (fun a s₁ h₁=>stand ?_) fun _ _ x=>x))
  obtain ⟨k,hk',L⟩:=hk _ h₁.1
  simp only [hplain]
  refine wpR_step (L.here ?_)
  have tail:∀ {t:Sem PySem.Value},wpR M A t Q E s₁→wpR M A (t >>= fun r=>holding [r] point >>= fun _=>pure r) Q E s₁ :=
    fun ht=>wpR_bind (wpR_mono ht (fun r s₂ hr=>wpR_step (wpAny_holding (wpAny_point (wpR_pure hr)))) fun _ _ x=>x)
  have marked (mk:PySem.Value):wpR M A (callMarked mk f (first++a.pos) a.kw) Q E s₁:=wpR_keep h₁.2
  rcases hk' with rfl | rfl | rfl <;> dsimp only <;> first | exact tail h₁.2 | (split <;> first | exact tail h₁.2 | exact tail (marked _))
theorem r_BinOp {l op r pos} {Q:PySem.Value→Shared→Prop} (h:wpR M A (eval l env) (fun a s₁=>wpR M A (eval r env) (fun b s₂=>wpR M A (binaryOp op a b) Q E s₂) E s₁) E s):wpR M A (eval (.BinOp l op r pos) env) Q E s:=by
  rw [eval_BinOp]
  exact wpR_bind (wpR_mono h (fun a s₁ h₁=>wpR_bind (wpR_holding (wpR_mono h₁ (fun b s₂ h₂=>stand (wpR_operate h₂)) fun _ _ x=>x))) fun _ _ x=>x)
theorem r_Unary {op x pos} {Q:PySem.Value→Shared→Prop} (h:wpR M A (eval x env) (fun v s₁=>wpR M A (unaryOp op v) Q E s₁) E s):wpR M A (eval (.UnaryOp op x pos) env) Q E s:=by
  rw [eval_UnaryOp]
  exact wpR_bind (wpR_mono h (fun v s₁ h₁=>stand (wpR_holding h₁)) fun _ _ x=>x)
theorem r_Compare {l op r pos} {Q:PySem.Value→Shared→Prop} (h:wpR M A (eval l env) (fun a s₁=>wpR M A (eval r env) (fun b s₂=>wpR M A (compareOp op a b) Q E s₂) E s₁) E s)
    (hm:behindInMarks op r = false):wpR M A (eval (.Compare l [op] [r] pos) env) Q E s:=by
  rw [eval_Compare1,markedBehindIn_of_false hm]
  exact wpR_bind (wpR_mono h (fun a s₁ h₁=>wpR_bind (wpR_holding (wpR_mono h₁ (fun b s₂ h₂=>stand (wpR_operate h₂)) fun _ _ x=>x))) fun _ _ x=>x)
theorem r_Call {func:Expr} {args:List Expr} {pos:Pos} {Q:PySem.Value→Shared→Prop} (h:wpR M A (eval func env) (fun f s₁=>wpR M A (callWith pos f [] (backTo pos (starEach args env)) []) Q E s₁) E s)
    (he:eval (.Call func args [] pos) env = (do callWith pos (← eval func env) [] (backTo pos (starEach args env)) (backToKw pos (keywordEach [] env)))):wpR M A (eval (.Call func args [] pos) env) Q E s:=by
  rw [he];exact wpR_bind h
theorem r_Tuple {elts:List Expr} {k:Nat} {pos:Pos} {Q:PySem.Value→Shared→Prop} (h:wpR M A (spliced (backTo pos (starEach elts env))) (fun vs s₁=>wpR M A (newTuple vs) Q E s₁) E s):wpR M A (eval (.Tuple elts k pos) env) Q E s:=by
  show wpR M A (do standAt pos;newTuple (← spliced (backTo pos (starEach elts env)))) Q E s
  exact stand (wpR_bind h)
theorem r_List {elts:List Expr} {pos:Pos} {Q:PySem.Value→Shared→Prop} (h:wpR M A (spliced (backTo pos (starEach elts env))) (fun vs s₁=>wpR M A (newList vs) Q E s₁) E s):wpR M A (eval (.List elts pos) env) Q E s:=by
  show wpR M A (do standAt pos;newList (← spliced (backTo pos (starEach elts env)))) Q E s
  exact stand (wpR_bind h)
theorem r_Sub {value slice pos} {Q:PySem.Value→Shared→Prop} (h:wpR M A (eval value env) (fun o s₁=>wpR M A (eval slice env) (fun i s₂=>wpR M A (subscriptTail value slice o i) Q E s₂) E s₁) E s) :
    wpR M A (eval (.Subscript value slice pos) env) Q E s:=by
  rw [eval_Subscript]
  exact wpR_bind (wpR_mono h (fun o s₁ h₁=>wpR_bind (wpR_holding (wpR_mono h₁ (fun i s₂ h₂=>stand h₂) fun _ _ x=>x))) fun _ _ x=>x)
theorem r_not {x pos whole} {Q:Bool→Shared→Prop} (h:wpR M A (isTrue x env (eval x env)) (fun c s'=>Q (!c) s') E s):wpR M A (isTrue (.UnaryOp .Not x pos) env whole) Q E s:=by
  show wpR M A (do return !(← isTrue x env (eval x env))) Q E s
  exact wpR_bind (wpR_mono h (fun c s' h'=>wpR_pure h') fun _ _ x=>x)
theorem r_isTrue {e:Expr} {whole:Sem PySem.Value} {Q:Bool→Shared→Prop} (h:wpR M A whole (fun v s₁=>wpR M A (truthy v) Q E s₁) E s)
    (he:isTrue e env whole = (do let v ← whole;standAt e.pos;holding [v] (truthy v))):wpR M A (isTrue e env whole) Q E s:=by
  rw [he]
  exact wpR_bind (wpR_mono h (fun v s₁ h₁=>stand (wpR_holding h₁)) fun _ _ x=>x)
theorem r_tCompare {l op r pos whole} {Q:Bool→Shared→Prop} (h:wpR M A (eval l env) (fun a s₁=>wpR M A (eval r env) (fun b s₂=>wpR M A (compareOp op a b) (fun c s₃=>wpR M A (truthy c) Q E s₃) E s₂) E s₁) E s)
    (hm:behindInMarks op r = false):wpR M A (isTrue (.Compare l [op] [r] pos) env whole) Q E s:=by
  rw [isTrue_Compare1,markedBehindIn_of_false hm]
  exact wpR_bind (wpR_mono h (fun a s₁ h₁=>wpR_bind (wpR_holding (wpR_mono h₁ (fun b s₂ h₂=>stand (wpR_bind (wpR_operate (wpR_mono h₂ (fun c s₃ h₃=>wpR_holding h₃) fun _ _ x=>x)))) fun _ _ x=>x))) fun _ _ x=>x)
theorem r_execs_nil {Q:Flow→Shared→Prop} (h:Q .next s):wpR M A (execs [] env) Q E s:=wpR_pure h
theorem r_execs_cons {st rest} {Q:Flow→Shared→Prop} (h:wpR M A (exec st env) (fun f s'=>match f with | .next=>wpR M A (execs rest env) Q E s' | f=>Q f s') E s):wpR M A (execs (st :: rest) env) Q E s:=by
  rw [execs_cons]
  refine wpR_bind (wpR_mono h (fun f s' h'=>?_) fun _ _ x=>x)
  cases f <;> first | exact h' | exact wpR_pure h'
theorem r_bindName {x:PySem.Str} {v:PySem.Value} {Q:Unit→Shared→Prop} (h:wpR M A (storeName env x v) Q E s):wpR M A (bindName env x v) Q E s:=fun Γ p hΓ hb hc=>by rw [Sem.wp_bindName];exact h Γ p hΓ hb hc
theorem r_AsName {x pos' value pos} {Q:Flow→Shared→Prop} (h:wpR M A (eval value env) (fun v s₁=>wpR M A (storeName env x v) (fun _=>Q .next) E s₁) E s) (hs:swapsWith value (some (.Name x pos')) pos.line env = pure false) :
    wpR M A (exec (.Assign [.Name x pos'] value pos) env) Q E s:=by
  rw [exec_Assign_Name env x pos' value pos hs]
  exact stand (wpR_bind (wpR_mono h (fun v s₁ h₁=>stand (wpR_bind (r_bindName (wpR_mono h₁ (fun _ _ h₂=>wpR_pure h₂) fun _ _ x=>x)))) fun _ _ x=>x))
theorem r_AsAttr {o attr pos' value pos} {Q:Flow→Shared→Prop} (h:wpR M A (eval value env) (fun v s₁=>wpR M A (eval o env) (fun ov s₂=>wpR M A (setAttr ov attr v) (fun _=>Q .next) E s₂) E s₁) E s)
    (hs:swapsWith value (some (.Attribute o attr pos')) pos.line env = pure false):wpR M A (exec (.Assign [.Attribute o attr pos'] value pos) env) Q E s:=by
  rw [plainObj_exec_Assign_Attribute o attr pos' value pos hs]
  refine stand (wpR_bind (wpR_mono h (fun v s₁ h₁=>wpR_bind ?_) fun _ _ x=>x))
  rw [assign_Attribute]
  exact wpR_bind (wpR_holding (wpR_mono h₁ (fun ov s₂ h₂=>stand (wpR_bind (wpR_holding (wpR_mono h₂ (fun _ _ h₃=>.of (wpAny_release (wpR_pure h₃))) fun _ _ x=>x)))) fun _ _ x=>x))
theorem r_AsSub {o i pos' value pos} {Q:Flow→Shared→Prop} (h:wpR M A (eval value env) (fun v s₁=>wpR M A (eval o env) (fun ov s₂=>wpR M A (eval i env) (fun iv s₃=>wpR M A (setItem ov iv v) (fun _=>Q .next) E s₃) E s₂) E s₁) E s)
    (hs:swapsWith value (some (.Subscript o i pos')) pos.line env = pure false):wpR M A (exec (.Assign [.Subscript o i pos'] value pos) env) Q E s:=by
  rw [exec_Assign_Subscript o i pos' value pos hs]
  refine stand (wpR_bind (wpR_mono h (fun v s₁ h₁=>wpR_bind ?_) fun _ _ x=>x))
  rw [assign_Subscript]
  exact wpR_bind (wpR_holding (wpR_mono h₁ (fun ov s₂ h₂=>wpR_bind (wpR_holding (wpR_mono h₂ (fun iv s₃ h₃=>stand (wpR_bind (wpR_holding (wpR_mono h₃ (fun _ _ h₄=>.of (wpAny_release (wpR_pure h₄))) fun _ _ x=>x)))) fun _ _ x=>x))) fun _ _ x=>x))
theorem r_AugName {x pos' op value pos} {Q:Flow→Shared→Prop} (h:wpR M A (loadName env x) (fun old s₁=>wpR M A (eval value env) (fun v s₂=>wpR M A (inplaceOp op old v) (fun r s₃=>wpR M A (storeName env x r) (fun _=>Q .next) E s₃) E s₂) E s₁) E s) :
    wpR M A (exec (.AugAssign (.Name x pos') op value pos) env) Q E s:=by
  rw [exec_AugAssign_Name]
  exact stand (wpR_bind (wpR_mono h (fun old s₁ h₁=>wpR_bind (wpR_holding (wpR_mono h₁ (fun v s₂ h₂=>stand (wpR_bind (wpR_operate (wpR_mono h₂ (fun r s₃ h₃=>stand (wpR_bind (r_bindName (wpR_mono h₃ (fun _ _ h₄=>wpR_pure h₄) fun _ _ x=>x)))) fun _ _ x=>x)))) fun _ _ x=>x))) fun _ _ x=>x))
theorem r_AugAttr {o value:Expr} {attr:PySem.Str} {tpos pos:Pos} {op:Operator} {Q:Flow→Shared→Prop}
    (h:wpR M A (eval o env) (fun ov s₁=>wpR M A (getAttr ov attr true) (fun old s₂=>wpR M A (eval value env) (fun v s₃=>wpR M A (inplaceOp op old v) (fun new s₄=>wpR M A (setAttr ov attr new) (fun _=>Q .next) E s₄) E s₃) E s₂) E s₁) E s) :
    wpR M A (exec (.AugAssign (.Attribute o attr tpos) op value pos) env) Q E s:=by
  have e:exec (.AugAssign (.Attribute o attr tpos) op value pos) env = (do
      standAt pos
      let ov ← eval o env
      let new ← holding [ov] do
        standAt tpos.atName
        let old ← getAttr ov attr true
        let v ← holding [old] (eval value env)
        standAt pos
        operate [old,v] (inplaceOp op old v)
      standAt tpos.atName
      holding [new,ov] (setAttr ov attr new)
      release [new,ov] []
      pure .next):=rfl
  rw [e]
  refine stand (wpR_bind (wpR_mono h (fun ov s₁ h₁=>?_) fun _ _ x=>x))
  refine wpR_bind (wpR_holding (stand (wpR_bind (wpR_mono h₁ (fun old s₂ h₂=>?_) fun _ _ x=>x))))
  refine wpR_bind (wpR_holding (wpR_mono h₂ (fun v s₃ h₃=>?_) fun _ _ x=>x))
  refine stand (wpR_operate (wpR_mono h₃ (fun new s₄ h₄=>?_) fun _ _ x=>x))
  exact stand (wpR_bind (wpR_holding (wpR_mono h₄ (fun _ _ h₅=>rel (wpR_pure h₅)) fun _ _ x=>x)))
theorem r_If {test body orelse pos} {Q:Flow→Shared→Prop} (h:wpR M A (isTrue test env (eval test env)) (fun b s₂=>if b then wpR M A (execs body env) Q E s₂ else wpR M A (execs orelse env) Q E s₂) E s) :
    wpR M A (exec (.If test body orelse pos) env) Q E s:=by
  rw [exec_If]
  refine stand (wpR_bind (wpR_mono h (fun b s₂ h₂=>?_) fun _ _ x=>x))
  cases b <;> exact h₂
end
section
variable {prog:Program} {w:World} {A:Around} {E:PySem.Value→Shared→Prop} {s:Shared} {env:Env}
theorem r_Attr {value:Expr} {attr:PySem.Str} {pos:Pos} {Q:PySem.Value→Shared→Prop} (h:wpR (model prog w) A (eval value env) (fun o s₁=>wpR (model prog w) A (getAttr o attr true) Q E s₁) E s)
    (he:eval (.Attribute value attr pos) env = (do
      let o ← eval value env
      standAt pos.atName
      let r ← holding [o] (getAttr o attr true)
      letTemporaryGo value o r
      pure r)):wpR (model prog w) A (eval (.Attribute value attr pos) env) Q E s:=by
  rw [he]
  exact wpR_bind (wpR_mono h (fun o s₁ h₁=>stand (wpR_bind (wpR_holding (wpR_mono h₁ (fun r s₂ h₂=>wpR_step (wpAny_letTemporaryGo (wpR_pure h₂))) fun _ _ x=>x)))) fun _ _ x=>x)
theorem r_Expr {e pos} {Q:Flow→Shared→Prop} (h:wpR (model prog w) A (eval e env) (fun _=>Q .next) E s) (hi:interactive env = false) (hs:swapsWith e none pos.line env = pure false):wpR (model prog w) A (exec (.Expr e pos) env) Q E s:=by
  rw [exec_Expr env e pos hi hs]
  exact stand (wpR_bind (wpR_mono h (fun v s' h'=>.of (wpAny_dropValue h')) fun _ _ x=>x))
theorem r_func {R:Result→Shared→Prop} {body env} (h:wpR (model prog w) (A.deeper env) (execs body env) (fun f s'=>R (.ok (.ret (match f with | .ret v=>v | _=>.none))) s')
      (fun e s'=>wpR (model prog w) (A.deeper env) (leaving env e) (fun _ s''=>R (.error e) s'') (fun e' s''=>R (.error e') s'') s') s):codeR (model prog w) A (.func body env) R s:=by
  refine codeR_of_tree rfl ?_
  show wpR _ (A.deeper env) (do point;match ← (execs body env).onRaise (leaving env) with | .ret v=>ret v | _=>ret .none) _ _ s
  refine wpR_step (wpAny_point (wpR_bind (wpR_onRaise (wpR_mono h (fun f s' h'=>?_) fun _ _ h'=>h'))))
  cases f <;> exact wpR_pure h'
theorem r_def {R:Result→Shared→Prop} {a:Addr} {o:Obj} {fd:FuncData} {body:List Stmt} {args:Args} {binds:List (PySem.Str × PySem.Value)}
    (hroom:A.depth < recursionLimit) (ho:s.heap.get? a = some o) (hd':o.data = .func fd) (hlim:s.heap.NoLimit) (hcd:s.heap.CodeRec fd.code fd.qualname)
    (hbody:fd.body = .stmts body) (hbind:BindsTo s fd args binds) (hcell:∀ x ∈ fd.scope.names,x.2 ≠ .cell) (hloc:∀ x ∈ binds,fd.scope.names.lookup x.1 = some .local)
    (h:∀ h₀,h₀.Ns s.heap.objs.size (fun x=>binds.reverse.lookup x)→(∀ b o,s.heap.get? b = some o→h₀.get? b = some o) →
      wpR (model prog w) (A.deeper (callEnv fd s.heap.objs.size a)) (execs body (callEnv fd s.heap.objs.size a)) (fun f s'=>R (.ok (.ret (match f with | .ret v=>v | _=>.none))) s')
        (fun e s'=>wpR (model prog w) (A.deeper (callEnv fd s.heap.objs.size a)) (leaving (callEnv fd s.heap.objs.size a) e) (fun _ s''=>R (.error e) s'') (fun e' s''=>R (.error e') s'') s')
        { s with heap:=h₀,toks:=s.toks + binds.length })
    (hco:fd.scope.isCoroutine = false) (hgen:fd.scope.isGenerator = false) (hk:fd.scope.kind = .function):codeR (model prog w) A (.call (.ref a) args) R s:=by
  refine codeR_of_tree rfl ?_
  show wpR _ A.in1 (callAny (.ref a) args) _ _ s
  delta callAny;dsimp only
  refine wpR_step (wpAny_load ho ?_)
  obtain ⟨c,oc,vs,tq,hc,hoc,hdc,hq⟩:=hcd
  simp only [hd'];delta callFunction;simp only [hco,hgen,hbody,hc]
  refine wpR_step (m:=field (.ref c) 1) (wpAny_field hoc hdc hq (wpR_step (wpAny_pure ?_)))
  refine wpR_step (hbind _ _ _ _ ?_)
  refine wpR_step ?_
  rw [← hc]
  refine wpAny_newFunctionEnv hcell hloc (fun h₀ hns₀ hsb₀=>?_) hk
  refine wpR_step (wpAny_enterFrame (hlim.fresh _ hsb₀) hroom (wpR_pure (And.intro rfl (r_func (h h₀ hns₀ fun b o e=>?_)))))
  exact hsb₀.extBut b o (Nat.ne_of_lt (Heap.lt_size e)) (Heap.get?_push_of_some _ e)
end
end Mine
end
section
namespace Mine
section
variable {α β:Type} {M:Model} {A:Around} {E:PySem.Value→Shared→Prop} {s:Shared}
theorem r_ndload {a:Addr} {p:Option PySem.Value} {k:Obj→Sem α} {o:Obj} {Q:α→Shared→Prop} (ho:s.heap.get? a = some o) (h:wpR M A (k o) Q E s):wpR M A (.load a p k) Q E s:=fun Γ q hΓ hb hc=>⟨o,ho,h Γ q hΓ hb hc⟩
theorem r_look {t:Sem α} {f:α→Sem β} {r:α} {Q:β→Shared→Prop} (x:Looks M s.heap t r) (q:wpR M A (f r) Q E s):wpR M A (t >>= f) Q E s:=wpR_step (x.here q)
end
section
variable {prog:Program} {w:World} {A:Around} {C:Addr} {R:Result→Shared→Prop} {h:Heap} {g:Array GenState} {d:Drawn} {t:Nat} {os:OsState}
theorem r_callB {s:Shared} {id:String} {args:Args} {b:Builtin} (hq:(Code.builtin id args).quiet = true) (hbad:bad (.builtin id args) = false) (hb:entryFor table id = some b)
    (h:wpAny (model prog w) A.in1 (checkBuiltinCall id args) (fun _ s₁=>wpR (model prog w) (A.under (.builtin id args)) (b args)
      (fun fin s'=>match fin with | .done f=>R (.ok f) s' | .again c'=>c'.quiet = true∧codeR (model prog w) A c' R s') (fun e s'=>R (.error e) s') s₁)
      (fun e s'=>R (.error e) s') s):codeR (model prog w) A (.call (.builtin id) args) R s:=by
  refine codeR_of_tree rfl ?_
  show wpR _ A.in1 (do checkBuiltinCall id args;again (.builtin id args)) _ _ s
  refine wpR_step (wpAny_mono h (fun _ s₁ h₁=>wpR_pure (And.intro hq (codeR_of_tree hbad ?_))) fun _ _ h'=>h')
  show wpR _ _ (match entryFor table id with | some b => b args | none => unsupported ((withoutEnding? id "#data").getD id)) _ _ s₁
  rw [hb];exact h₁
theorem r_make {rest : List PySem.Value} {kw : List (PySem.Str × PySem.Value)} {init : PySem.Value} (Y : Makes (model prog w) h C) (hi : Looks (model prog w) h (typeLookup (.ref C) "__init__") (some init))
    (hb : ∀ self, Looks (model prog w) h (bindSpecial init self) (init, [self])) (hne : (some init != some (PySem.Value.builtin "object.__init__")) = true ∨ (rest = [] ∧ kw = []))
    (hq : codeR (model prog w) (A.under (.builtin "type.__call__" ⟨.ref C :: rest, kw⟩)) (.call init ⟨.ref (h.objs.size + 1) :: rest, kw⟩) (InitBack (h.objs.size + 1) R) ⟨(h.push emptyDict).push (instObj C h.objs.size), g, d, t, os⟩) :
    codeR (model prog w) A (.call (.ref C) ⟨rest,kw⟩) R ⟨h,g,d,t,os⟩:=by
  have Y':=Y
  obtain ⟨⟨oc,od,cd,sl,hC,e1,e2,e4⟩,made,base,self,top,call,typ⟩:=Y
  refine codeR_of_tree rfl ?_
  show wpR _ _ (callAny (.ref C) _) _ _ _
  refine r_ndload hC ?_
  show wpR _ _ (callAny.viaDunder (.ref C) _) _ _ _
  unfold callAny.viaDunder
  refine wpR_step (call.at ?_)
  dsimp only
  rw [tc_bind]
  refine wpR_bind (wpR_pure (wpR_bind (wpR_pure ?_)))
  refine wpR_pure (a := Fin.again (.call (.builtin "type.__call__") ⟨.ref C :: rest, kw⟩)) (And.intro rfl ?_)
  refine r_callB (Code.quiet_builtin _ (by decide +kernel)) (show Builtin.Bytes.decodersThatHold.contains "type.__call__" = false by decide +kernel) entry_typeCall (check_slot tc_kind tc_split typ (tc_args _ _ _) ?_)
  unfold Builtin.«type.__call__»
  have hm:Looks (model prog w) h (mroOf (.ref C)) cd.mro:=((Looks.ld (part:=none) hC).andThen .now).andThen .now
  refine r_look hm ?_
  simp only [e4,Bool.false_eq_true,if_false]
  refine r_look made ?_
  dsimp only
  refine wpR_bind (wpR_pure ?_)
  refine wpR_bind (wpR_holding (.of ?_))
  refine wpAny_call ?_
  refine new_K Y' hi hne ?_
  have k:∀ b o,h.get? b = some o→((h.push emptyDict).push (instObj C h.objs.size)).get? b = some o:=fun b o e=>Heap.get?_push_of_some _ (Heap.get?_push_of_some _ e)
  have hx:((h.push emptyDict).push (instObj C h.objs.size)).get? (h.objs.size + 1) = some (instObj C h.objs.size):=by heap_get
  have t1:Looks (model prog w) ((h.push emptyDict).push (instObj C h.objs.size)) (typeOf (.ref (h.objs.size + 1))) (.ref C):=(Looks.ld hx).andThen .now
  have s1:=self.keeps k
  have i1:=hi.keeps k
  have b1:=(hb (.ref (h.objs.size + 1))).keeps k
  refine r_look (t:=isInstance (.ref (h.objs.size + 1)) (.ref C)) (t1.andThen s1) ?_
  simp only [Bool.not_true,Bool.false_eq_true,if_false]
  refine wpR_bind (wpR_holding ?_)
  unfold callSpecial?
  have sp : Looks (model prog w) ((h.push emptyDict).push (instObj C h.objs.size)) (specialOf (.ref (h.objs.size + 1)) "__init__") (some init) := t1.andThen i1
  refine r_look sp ?_
  dsimp only
  refine wpR_holding ?_
  refine r_look b1 ?_
  refine wpR_bind (wpR_call (codeR_mono hq fun r s' z=>?_))
  rcases r with e | (v | _ | _ | _) <;> first | exact z | exact z.elim | skip
  obtain ⟨rfl,z⟩:=z
  exact wpR_pure (wpR_pure z)
end
end Mine
end
section
namespace Mine
inductive BI where
  | len | min | max | sum | sorted | range | bytes | bytearray | baExtend | baAppend | lsAppend
  deriving DecidableEq
noncomputable def BI.val:BI→PySem.Value
  | .len => .builtin "len" | .min => .builtin "min" | .max => .builtin "max" | .sum => .builtin "sum" | .sorted => .builtin "sorted"
  | .baExtend => .builtin "bytearray.extend" | .baAppend => .builtin "bytearray.append" | .lsAppend => .builtin "list.append"
  | .range => .type "range" | .bytes => .type "bytes" | .bytearray => .type "bytearray"
inductive SV where
  | none | bool (b:Bool) | int (i:Int) | bytes (b:List UInt8) | str (s:PySem.Str)
  | ref (i:Nat) | fn (a:Addr) | cls (a:Addr) | bi (b:BI)
  deriving Inhabited
inductive PV where
  | int (i:Int) | bytes (b:List UInt8)
  deriving Inhabited
noncomputable def PV.sv:PV→SV
  | .int i=>.int i
  | .bytes b=>.bytes b
inductive SObj where
  | inst (C:Addr) (fs:List (PySem.Str × SV))
  | list (xs:List SV)
  | pl (xs:List PV)
  | tup (xs:List SV)
  | ba (b:List UInt8)
  | lit (l i:Nat)
  | cell (v:Option SV)
  | raw (P:Obj→Prop)
  | gone
  | tl (m i j l:Nat)
  | pt (o:Option (List PV))
  deriving Inhabited
noncomputable def VRep (ρ:Nat→Addr) (n:Nat):SV→PySem.Value→Prop
  | .none,v=>v = .none
  | .bool b,v=>v = .bool b
  | .int i,v=>∃ t,v = .int i t
  | .bytes b,v=>∃ t,v = .bytes b.toArray t
  | .str s,v=>∃ t,v = .str s t
  | .ref i,v=>i < n∧v = .ref (ρ i)
  | .fn a,v=>v = .ref a
  | .cls a,v=>v = .ref a
  | .bi b,v=>v = b.val
inductive All2 {α β:Type} (R:α→β→Prop):List α→List β→Prop where
  | nil:All2 R [] []
  | cons {a b as bs}:R a b→All2 R as bs→All2 R (a :: as) (b :: bs)
namespace All2
variable {α β:Type} {R S:α→β→Prop}
theorem mono {as:List α} {bs:List β} (h:All2 R as bs) (f:∀ a b,R a b→S a b):All2 S as bs:=by
  induction h with
  | nil=>exact .nil
  | cons x _ ih=>exact .cons (f _ _ x) ih
theorem length {as:List α} {bs:List β} (h:All2 R as bs):as.length = bs.length:=by
  induction h with
  | nil=>rfl
  | cons _ _ ih=>simp [ih]
theorem get {as:List α} {bs:List β} (h:All2 R as bs):∀ {i:Nat} {a:α},as[i]? = some a→∃ b,bs[i]? = some b∧R a b:=by
  induction h with
  | nil=>intro i a e;simp at e
  | cons x _ ih =>
    intro i a e
    cases i with
    | zero=>simp at e;subst e;exact ⟨_,rfl,x⟩
    | succ i=>simp at e;simpa using ih e
theorem get' {as:List α} {bs:List β} (h:All2 R as bs):∀ {i:Nat} {b:β},bs[i]? = some b→∃ a,as[i]? = some a∧R a b:=by
  induction h with
  | nil=>intro i a e;simp at e
  | cons x _ ih =>
    intro i a e
    cases i with
    | zero=>simp at e;subst e;exact ⟨_,rfl,x⟩
    | succ i=>simp at e;simpa using ih e
theorem append {as as':List α} {bs bs':List β} (h:All2 R as bs) (h':All2 R as' bs'):All2 R (as++as') (bs++bs'):=by
  induction h with
  | nil=>exact h'
  | cons x _ ih=>exact .cons x ih
theorem set {as:List α} {bs:List β} (h:All2 R as bs) {a:α} {b:β} (r:R a b):∀ i:Nat,All2 R (as.set i a) (bs.set i b):=by
  induction h with
  | nil=>intro i;exact .nil
  | cons x y ih =>
    intro i
    cases i with
    | zero=>exact .cons r y
    | succ i=>exact .cons x (ih i)
end All2
noncomputable def FEnt (ρ:Nat→Addr) (n:Nat) (f:PySem.Str × SV) (e:DictEntry):Prop:=(∃ t,e.key = .str f.1 t)∧VRep ρ n f.2 e.val
noncomputable def ORep (ρ:Nat→Addr) (n:Nat) (a:Addr):SObj→List (Addr × Obj)→Prop
  | .inst C fs,ch=>∃ dx es k,ch = [(a,instObj C dx),(dx,dictOf es k)]∧All2 (FEnt ρ n) fs es∧fs.length ≤ 900
  | .list xs,ch=>∃ vs k,ch = [(a,PySem.W.listOf vs.toArray k)]∧All2 (VRep ρ n) xs vs
  | .pl xs,ch=>∃ vs k,ch = [(a,PySem.W.listOf vs.toArray k)]∧All2 (VRep ρ n) (xs.map PV.sv) vs
  | .tup xs, ch => ∃ vs k, ch = [(a, ({ cls := .type "tuple", data := .seq vs.toArray k } : Obj))] ∧ All2 (VRep ρ n) xs vs
  | .ba b, ch => ch = [(a, ({ cls := .type "bytearray", data := .bytearray b.toArray 0 } : Obj))]
  | .lit l i, ch => l < n ∧ ∃ o : Obj, ch = [(a, o)] ∧ o.cls = .type "list_iterator" ∧ o.data = .fields #[.ref (ρ l), .int i 0]
  | .cell none,ch=>∃ o,ch = [(a,o)]∧o.data = .cell none
  | .cell (some v),ch=>∃ o u,ch = [(a,o)]∧o.data = .cell (some u)∧VRep ρ n v u
  | .raw P,ch=>∃ o,ch = [(a,o)]∧P o
  | .gone,ch=>ch = []
  | .tl m i j l,ch=>i < n∧j < n∧l < n∧∃ k,ch = [(a,PySem.W.listOf (([.ref (ρ i),.ref (ρ j),.ref (ρ l)]:List PySem.Value).take m).toArray k)]
  | .pt none,ch=>ch = []
  | .pt (some xs), ch => ∃ vs k, ch = [(a, ({ cls := .type "tuple", data := .seq vs.toArray k } : Obj))] ∧ All2 (VRep ρ n) (xs.map PV.sv) vs
theorem VRep.ext {ρ ρ':Nat→Addr} {n n':Nat} (h:∀ i,i < n→ρ' i = ρ i) (l:n ≤ n') {sv:SV} {v:PySem.Value} (x:VRep ρ n sv v):VRep ρ' n' sv v:=by
  cases sv <;> try exact x
  obtain ⟨a,b⟩:=x
  exact ⟨Nat.lt_of_lt_of_le a l,by rw [b,h _ a]⟩
theorem FEnt.ext {ρ ρ':Nat→Addr} {n n':Nat} (h:∀ i,i < n→ρ' i = ρ i) (l:n ≤ n') {f:PySem.Str × SV} {e:DictEntry} (x:FEnt ρ n f e):FEnt ρ' n' f e:=⟨x.1,x.2.ext h l⟩
theorem ORep.ext {ρ ρ':Nat→Addr} {n n':Nat} (h:∀ i,i < n→ρ' i = ρ i) (l:n ≤ n') {a:Addr} {o:SObj} {ch:List (Addr × Obj)} (x:ORep ρ n a o ch):ORep ρ' n' a o ch:=by
  cases o with
  | inst C fs=>obtain ⟨dx,es,k,e,y,z⟩:=x;exact ⟨dx,es,k,e,y.mono fun _ _ q=>q.ext h l,z⟩
  | list xs=>obtain ⟨vs,k,e,y⟩:=x;exact ⟨vs,k,e,y.mono fun _ _ q=>q.ext h l⟩
  | pl xs=>obtain ⟨vs,k,e,y⟩:=x;exact ⟨vs,k,e,y.mono fun _ _ q=>q.ext h l⟩
  | tup xs=>obtain ⟨vs,k,e,y⟩:=x;exact ⟨vs,k,e,y.mono fun _ _ q=>q.ext h l⟩
  | ba b=>exact x
  | lit j i=>obtain ⟨x1,o,x2,x3,x4⟩:=x;exact ⟨Nat.lt_of_lt_of_le x1 l,o,x2,x3,by rw [h _ x1];exact x4⟩
  | cell v =>
    cases v with
    | none=>exact x
    | some v=>obtain ⟨o,u,e,d,y⟩:=x;exact ⟨o,u,e,d,y.ext h l⟩
  | raw P=>exact x
  | gone=>exact x
  | tl m i j q=>obtain ⟨x1,x2,x3,x4⟩:=x;exact ⟨Nat.lt_of_lt_of_le x1 l,Nat.lt_of_lt_of_le x2 l,Nat.lt_of_lt_of_le x3 l,by rw [h _ x1,h _ x2,h _ x3];exact x4⟩
  | pt o =>
    cases o with
    | none=>exact x
    | some xs=>obtain ⟨vs,k,e,y⟩:=x;exact ⟨vs,k,e,y.mono fun _ _ q=>q.ext h l⟩
structure OReps (ρ:Nat→Addr) (objs:List SObj) (chs:List (List (Addr × Obj))):Prop where
  len:chs.length = objs.length
  at_:∀ i o,objs[i]? = some o→∃ c,chs[i]? = some c∧ORep ρ objs.length (ρ i) o c
theorem OReps.add {ρ:Nat→Addr} {objs:List SObj} {chs:List (List (Addr × Obj))} (x:OReps ρ objs chs) {a:Addr} {o:SObj} {c:List (Addr × Obj)}
    (y:∀ ρ':Nat→Addr,(∀ i,i < objs.length→ρ' i = ρ i)→ρ' objs.length = a→ORep ρ' (objs.length + 1) a o c) :
    ∃ ρ':Nat→Addr,(∀ i,i < objs.length→ρ' i = ρ i)∧ρ' objs.length = a∧OReps ρ' (objs++[o]) (chs++[c]):=by
  refine ⟨fun i=>if i = objs.length then a else ρ i,fun i h=>by simp [Nat.ne_of_lt h],by simp,?_,?_⟩
  · simp [x.len]
  · intro i o' e
    have hext:∀ j,j < objs.length→(fun i=>if i = objs.length then a else ρ i) j = ρ j:=fun j h=>by simp [Nat.ne_of_lt h]
    by_cases hi:i < objs.length
    · rw [List.getElem?_append_left hi] at e
      obtain ⟨c',hc,r⟩:=x.at_ i o' e
      refine ⟨c',by rw [List.getElem?_append_left (by rw [x.len];exact hi)];exact hc,?_⟩
      rw [List.length_append]
      have:=r.ext hext (Nat.le_add_right _ 1)
      simpa [Nat.ne_of_lt hi] using this
    · have hi':i = objs.length:=by
        have:i < (objs++[o]).length:=by
          rcases Nat.lt_or_ge i (objs++[o]).length with q | q
          · exact q
          · rw [List.getElem?_eq_none q] at e;cases e
        simp at this;lia
      subst hi'
      simp at e
      subst e
      refine ⟨c,by rw [List.getElem?_append_right (by rw [x.len];exact Nat.le_refl _),x.len];simp,?_⟩
      rw [List.length_append]
      have:=y _ hext (by simp)
      simpa using this
theorem OReps.put {ρ:Nat→Addr} {objs:List SObj} {chs:List (List (Addr × Obj))} (x:OReps ρ objs chs) {i:Nat} {o:SObj} {c:List (Addr × Obj)} (hi:i < objs.length) (y:ORep ρ objs.length (ρ i) o c) :
    OReps ρ (objs.set i o) (chs.set i c):=by
  refine ⟨by simp [x.len],fun j o' e=>?_⟩
  rw [List.length_set]
  by_cases hj:i = j
  · subst hj
    rw [List.getElem?_set_self hi] at e
    cases e
    exact ⟨c,by rw [List.getElem?_set_self (by rw [x.len];exact hi)],y⟩
  · rw [List.getElem?_set_ne hj] at e
    obtain ⟨c',hc,r⟩:=x.at_ j o' e
    exact ⟨c',by rw [List.getElem?_set_ne hj];exact hc,r⟩
noncomputable def strL:List Nat→List Nat→Bool
  | [],[]=>true
  | a :: as,b :: bs=>match Nat.beq a b with | true=>strL as bs | false=>false
  | _,_=>false
noncomputable def strB (a b:PySem.Str):Bool:=strL a.cps.toList b.cps.toList
theorem strL_iff {a b:List Nat}:strL a b = true ↔ a = b:=by
  induction a generalizing b with
  | nil =>
    cases b with
    | nil=>exact ⟨fun _=>rfl,fun _=>rfl⟩
    | cons _ _=>exact ⟨(fun h=>nomatch h),(fun h=>nomatch h)⟩
  | cons x as ih =>
    cases b with
    | nil=>exact ⟨(fun h=>nomatch h),(fun h=>nomatch h)⟩
    | cons y bs =>
      unfold strL
      cases h:Nat.beq x y with
      | true=>rw [Nat.eq_of_beq_eq_true h];exact ih.trans ⟨congrArg _,fun e=>(List.cons.inj e).2⟩
      | false=>exact ⟨(fun q=>nomatch q),fun e=>absurd (List.cons.inj e).1 (Nat.ne_of_beq_eq_false h)⟩
theorem strB_iff {a b:PySem.Str}:strB a b = true ↔ a = b:=by
  unfold strB
  rw [strL_iff]
  constructor
  · intro h;cases a;cases b;simp only [PySem.Str.mk.injEq];exact Array.toList_inj.mp h
  · rintro rfl;rfl
noncomputable def plain1:SV→Option PV
  | .int i=>some (.int i)
  | .bytes b=>some (.bytes b)
  | _=>none
noncomputable def consO (x:Option PV) (r:Option (List PV)):Option (List PV):=match x with
  | none=>none
  | some x=>match r with
    | none=>none
    | some r=>some (x :: r)
noncomputable def plains:List SV→Option (List PV)
  | []=>some []
  | v :: r=>consO (plain1 v) (plains r)
theorem plains_eq {vs:List SV}:∀ {xs:List PV},plains vs = some xs→vs = xs.map PV.sv:=by
  induction vs with
  | nil=>intro xs e;cases e;rfl
  | cons v r ih =>
    intro xs e
    have e:consO (plain1 v) (plains r) = some xs:=e
    cases h:plains r with
    | none=>rw [h] at e;cases v <;> exact nomatch e
    | some ys =>
      rw [h] at e
      cases v with
      | int i=>cases e;exact congrArg _ (ih h)
      | bytes b=>cases e;exact congrArg _ (ih h)
      | _=>exact nomatch e
noncomputable def mkList (vs:List SV):SObj:=match plains vs with
  | some xs=>.pl xs
  | none=>.list vs
theorem mkList_rep {ρ:Nat→Addr} {n:Nat} {a:Addr} {vs:List SV} {ch:List (Addr × Obj)} (h:ORep ρ n a (.list vs) ch):ORep ρ n a (mkList vs) ch:=by
  unfold mkList
  cases e:plains vs with
  | some xs=>have:=plains_eq e;subst this;exact h
  | none=>exact h
noncomputable def getS (x:PySem.Str):List (PySem.Str × SV)→Option SV
  | []=>none
  | (y,v) :: r=>match strB x y with | true=>some v | false=>getS x r
noncomputable def putS (x:PySem.Str) (v:SV):List (PySem.Str × SV)→List (PySem.Str × SV)
  | []=>[(x,v)]
  | (y,u) :: r=>match strB x y with | true=>(y,v) :: r | false=>(y,u) :: putS x v r
end Mine
end
section
namespace Mine
theorem flatten_at {α:Type}:∀ {chs:List (List α)} {i:Nat} {c:List α},chs[i]? = some c→∃ A B,chs.flatten = A++(c++B)∧∀ c',(chs.set i c').flatten = A++(c'++B)
  | [],_,_,e=>by simp at e
  | x :: r,0,c,e=>by
    simp at e;subst e
    exact ⟨[],r.flatten,by simp,fun c'=>by simp⟩
  | x :: r,i + 1,c,e=>by
    simp at e
    obtain ⟨A,B,h1,h2⟩:=flatten_at e
    exact ⟨x++A,B,by simp [h1],fun c'=>by simp [h2]⟩
theorem upd_app {d:Addr} {o o':Obj}:∀ {A B:List (Addr × Obj)},(∀ p ∈ A,p.1 ≠ d)→(∀ p ∈ B,p.1 ≠ d)→Upd d o o' (A++(d,o) :: B) (A++(d,o') :: B)
  | [],_,_,h2=>.head h2
  | _ :: _,_,h1,h2=>.tail (h1 _ (.head _)) (upd_app (fun q hq=>h1 q (.tail _ hq)) h2)
theorem upd_at {chs:List (List (Addr × Obj))} {i:Nat} {pre post:List (Addr × Obj)} {d:Addr} {o o':Obj} (hc:chs[i]? = some (pre++(d,o) :: post)) (hn:(chs.flatten.map (·.1)).Nodup) :
    Upd d o o' chs.flatten (chs.set i (pre++(d,o') :: post)).flatten∧(((chs.set i (pre++(d,o') :: post)).flatten).map (·.1)).Nodup:=by
  obtain ⟨A,B,h1,h2⟩:=flatten_at hc
  have e1:chs.flatten = (A++pre)++(d,o) :: (post++B):=by rw [h1];simp
  have e2:(chs.set i (pre++(d,o') :: post)).flatten = (A++pre)++(d,o') :: (post++B):=by rw [h2];simp
  rw [e1] at hn
  rw [List.map_append,List.nodup_append] at hn
  obtain ⟨n1,n2,n3⟩:=hn
  rw [List.map_cons,List.nodup_cons] at n2
  rw [e1,e2]
  refine ⟨upd_app (fun p hp=>?_) (fun p hp=>?_),?_⟩
  · exact n3 _ (List.mem_map_of_mem hp) _ (.head _)
  · intro q;exact n2.1 (q ▸ List.mem_map_of_mem (f:=(·.1)) hp)
  · rw [List.map_append,List.nodup_append]
    refine ⟨n1,?_,?_⟩
    · rw [List.map_cons,List.nodup_cons];exact n2
    · exact n3
structure St where
  loc:List (PySem.Str × SV)
  objs:List SObj
noncomputable def St.put (st:St) (x:PySem.Str) (v:SV):St:=⟨putS x v st.loc,st.objs⟩
noncomputable def St.setObj (st:St) (i:Nat) (o:SObj):St:=⟨st.loc,st.objs.set i o⟩
noncomputable def St.addObj (st:St) (o:SObj):St:=⟨st.loc,st.objs++[o]⟩
structure Wd where
  prog:Program
  w:World
  K:Frag
  p:Program
  loose:List PySem.Str
  mg:PySem.Str→Option PySem.Value
  mb:PySem.Str→Option PySem.Value
  glob:PySem.Str→Option SV
  attr:Addr→PySem.Str→Bool
  meth:Addr→PySem.Str→Option Addr
structure Wd.Holds (W:Wd):Prop where
  glob : ∀ x sv, W.glob x = some sv → (x == ("__debug__" : PySem.Str)) = false ∧ ((∃ v, nsIn W.K mainGlobals x = some (some v) ∧ ∀ ρ n, VRep ρ n sv v) ∨ (∃ v, nsIn W.K mainGlobals x = some none ∧ bootBuiltins x = some v ∧ x ≠ "__name__" ∧ ∀ ρ n, VRep ρ n sv v))
  attr:∀ C x,W.attr C x = true→plainGet W.K C x = true∧hasDictIn W.K C = true∧(∃ a,findIn W.K (.ref C) x = some a∧noGet W.K a = true) ∧
    findIn W.K (.ref C) "__setattr__" = some (some (.builtin "object.__setattr__")) ∧ plainOver W.K C = true ∧ takerIn W.K C x = some none
  meth:∀ C x f,W.meth C x = some f→plainGet W.K C x = true∧findIn W.K (.ref C) x = some (some (.ref f))∧isFn W.K (.ref f) = true∧fnIn W.K f = true
structure Zs where
  A:Around
  g:Heap
  L:Addr
  gn:Array GenState
  dr:Drawn
  os:OsState
  r0:Nat→Addr
structure Cx where
  W:Wd
  A:Around
  cn:PySem.Str
  cs:Scope
  a:Addr
  ccd:PySem.Value
  g:Heap
  L:Addr
  gn:Array GenState
  dr:Drawn
  os:OsState
  E:PySem.Value→Shared→Prop
  lvl:Nat
  n0:Nat
  r0:Nat→Addr
  cl:List (PySem.Str × Nat)
  fr:Option Addr
noncomputable def fnE (fr:Option Addr) (a:Addr):Option Addr:=match fr with
  | none=>some a
  | some _=>none
noncomputable def frE (fr:Option Addr) (L:Addr):Addr:=match fr with
  | none=>L
  | some f=>f
noncomputable abbrev Cx.env (X : Cx) : Env := { scope := X.cs, locals := X.L, globals := mainGlobals, cells := X.cl.map fun p => (p.1, X.r0 p.2), qual := X.cn ++ ".<locals>.", func := fnE X.fr X.a, code := X.ccd, frame := some (frE X.fr X.L), builtins := builtinsNs }
noncomputable abbrev Cx.M (X:Cx):Model:=model X.W.prog X.W.w
structure Room (A:Around) (lvl:Nat):Prop where
  hh:A.handled = none
  hg:A.guards = some []
  hd:A.depth + 4 * lvl < 900
  hu:A.units + 30 * lvl < 9000
structure Cx.Ok (X:Cx):Prop where
  W:X.W.Holds
  kind:X.cs.kind = .function
  K:X.W.K.In X.g
  T:TopRead X.W.p X.W.loose X.W.mg X.W.mb X.g
  room:Room X.A X.lvl
  cell:∀ q ∈ X.cl,q.2 < X.n0
noncomputable def LRep (ρ:Nat→Addr) (n:Nat) (m:PySem.Str→Option PySem.Value) (loc:List (PySem.Str × SV)):Prop:=∀ x sv,getS x loc = some sv→∃ v,m x = some v∧VRep ρ n sv v
noncomputable def Pin (X:Cx) (ρ:Nat→Addr) (n:Nat):Prop:=(∀ i,i < X.n0→ρ i = X.r0 i)∧X.n0 ≤ n
theorem Pin.ext {X:Cx} {ρ ρ':Nat→Addr} {n n':Nat} (x:Pin X ρ n) (h:∀ i,i < n→ρ' i = ρ i) (l:n ≤ n'):Pin X ρ' n' :=
  ⟨fun i q=>(h i (Nat.lt_of_lt_of_le q x.2)).trans (x.1 i q),Nat.le_trans x.2 l⟩
theorem Pin.set {X:Cx} {ρ:Nat→Addr} {l:List SObj} (x:Pin X ρ l.length) (i:Nat) (o:SObj):Pin X ρ (l.set i o).length:=by rw [List.length_set];exact x
inductive SEx (g:Heap) (L:Addr) (h:Heap) (ρ:Nat→Addr) (st:St):Prop
  | mk (m:PySem.Str→Option PySem.Value) (chs:List (List (Addr × Obj))) (F:Fr g L h m) (N:News g L h chs.flatten) (nd:(chs.flatten.map (·.1)).Nodup) (LR:LRep ρ st.objs.length m st.loc) (OR:OReps ρ st.objs chs)
structure SRep (X:Cx) (ρ:Nat→Addr) (st:St) (s:Shared):Prop where
  ex:SEx X.g X.L s.heap ρ st
  gn:s.gens = X.gn
  dr:s.drawn = X.dr
  os:s.os = X.os
  pin:Pin X ρ st.objs.length
theorem SRep.fr {X:Cx} {ρ:Nat→Addr} {st:St} {s:Shared} (R:SRep X ρ st s):∃ m,Fr X.g X.L s.heap m:=by cases R.ex with | mk m _ F=>exact ⟨m,F⟩
theorem LRep.ext {ρ ρ':Nat→Addr} {n n':Nat} {m:PySem.Str→Option PySem.Value} {loc:List (PySem.Str × SV)} (h:∀ i,i < n→ρ' i = ρ i) (l:n ≤ n') (x:LRep ρ n m loc):LRep ρ' n' m loc :=
  fun y sv e=>let ⟨v,a,b⟩:=x y sv e;⟨v,a,b.ext h l⟩
theorem getS_put (x y:PySem.Str) (v:SV):∀ loc:List (PySem.Str × SV),getS y (putS x v loc) = if y = x then some v else getS y loc
  | []=>by
    by_cases h:y = x
    · subst h;simp [putS,getS,strB_iff.mpr rfl]
    · have:strB y x = false:=by cases q:strB y x;rfl;exact absurd (strB_iff.mp q) h
      simp [putS,getS,this,h]
  | (z,u) :: r=>by
    unfold putS
    cases hz:strB x z with
    | true =>
      have:=strB_iff.mp hz;subst this
      by_cases h:y = x
      · subst h;simp [getS,strB_iff.mpr rfl]
      · have:strB y x = false:=by cases q:strB y x;rfl;exact absurd (strB_iff.mp q) h
        simp [getS,this,h]
    | false =>
      have hxz:x ≠ z:=fun e=>by rw [strB_iff.mpr e] at hz;cases hz
      show getS y ((z,u) :: putS x v r) = _
      unfold getS
      cases hy:strB y z with
      | true =>
        have:=strB_iff.mp hy;subst this
        have:y ≠ x:=fun e=>hxz e.symm
        simp [this]
      | false=>exact getS_put x y v r
noncomputable def kindS (x:PySem.Str):List (PySem.Str × NameKind)→Option NameKind
  | []=>none
  | (y,k) :: r=>match strB x y with | true=>some k | false=>kindS x r
theorem kindS_eq (x:PySem.Str):∀ l:List (PySem.Str × NameKind),kindS x l = l.lookup x
  | []=>rfl
  | (y,k) :: r=>by
    unfold kindS
    rw [List.lookup_cons,kindS_eq x r]
    cases h:strB x y with
    | true=>have:=strB_iff.mp h;subst this;simp
    | false =>
      have:(x == y) = false:=by
        rw [beq_eq_false_iff_ne];intro e;rw [strB_iff.mpr e] at h;cases h
      simp [this]
section
variable {X:Cx} {ρ:Nat→Addr} {st:St} {s:Shared}
theorem load_local (O:X.Ok) (R:SRep X ρ st s) {x:PySem.Str} {sv:SV} (e:getS x st.loc = some sv) (hk:kindS x X.cs.names = some .local) {Q:PySem.Value→Shared→Prop}
    (h:∀ v,VRep ρ st.objs.length sv v→Q v s):wpAny X.M X.A (loadName X.env x) Q X.E s:=by
  obtain ⟨⟨m,chs,F,N,nd,LR,OR⟩,_,_,_,_⟩:=R
  obtain ⟨v,hv,r⟩:=LR x sv e
  exact wpAny_loadName_local O.kind (by show X.cs.names.lookup x = _;rw [← kindS_eq];exact hk) F.ns hv (h v r)
theorem store_local (O:X.Ok) (R:SRep X ρ st s) {x:PySem.Str} {sv:SV} {v:PySem.Value} (r:VRep ρ st.objs.length sv v) (hk:kindS x X.cs.names = some .local) {Q:Unit→Shared→Prop}
    (h:∀ s',SRep X ρ (st.put x sv) s'→Q () s'):wpAny X.M X.A (storeName X.env x v) Q X.E s:=by
  obtain ⟨⟨m,chs,F,N,nd,LR,OR⟩,g1,g2,g3,pn⟩:=R
  refine wpAny_storeName_local (by show X.cs.names.lookup x = _;rw [← kindS_eq];exact hk) F.ns (fun h' hn hs=>h _ ⟨⟨_,chs,F.set hn hs,N.set hs,nd,?_,OR⟩,g1,g2,g3,pn⟩) (by show (X.cs.kind == .class || (X.cs.kind == .module && X.L != mainGlobals)) = false;rw [O.kind];rfl)
  intro y sw e
  rw [show (st.put x sv).loc = putS x sv st.loc from rfl,getS_put] at e
  by_cases hy:y = x
  · rw [if_pos hy] at e;cases e;exact ⟨v,by simp [hy],r⟩
  · rw [if_neg hy] at e;obtain ⟨u,hu,ru⟩:=LR y sw e;exact ⟨u,by simp [hy,hu],ru⟩
theorem load_glob (O:X.Ok) (R:SRep X ρ st s) {x:PySem.Str} {sv:SV} {pos:Pos} (e:X.W.glob x = some sv) (hk:kindS x X.cs.names = some .globalImplicit) {Q:PySem.Value→Shared→Prop}
    (h:∀ v,VRep ρ st.objs.length sv v→Q v s):wpAny X.M X.A (eval (.Name x pos) X.env) Q X.E s:=by
  obtain ⟨⟨m,chs,F,N,nd,LR,OR⟩,g1,g2,g3,pn⟩:=R
  have hx:X.env.kindOf x = some .globalImplicit:=by show X.cs.names.lookup x = _;rw [← kindS_eq];exact hk
  obtain ⟨hdb,q⟩:=O.W.glob x sv e
  rcases q with ⟨v,e1,r⟩ | ⟨v,e1,e2,e3,r⟩
  · exact PySem.Calls.Name_function_global O.kind hx (PySem.Calls.loadGlobal_global (env:=X.env) (O.T.g.keeps F.keep) (mg_of O.K O.T.g e1) (h v (r _ _))) hdb
  · exact PySem.Calls.Name_function_global O.kind hx (PySem.Calls.loadGlobal_builtin (env:=X.env) (O.T.g.keeps F.keep) (mg_none_of O.K O.T.g e1) (O.T.b.keeps F.keep) ((O.T.builtins x e3).trans e2) (h v (r _ _))) hdb
end
end Mine
end
section
namespace Mine
theorem isStr_iff {k:PySem.Value} {x y:PySem.Str} {t:Tok} (h:k = .str y t):k.isStr x = strB x y:=by
  subst h
  show (y == x) = strB x y
  cases q:strB x y with
  | true=>have:=strB_iff.mp q;subst this;simp
  | false=>rw [beq_eq_false_iff_ne];intro e;rw [strB_iff.mpr e.symm] at q;cases q
theorem getL_some {ρ:Nat→Addr} {n:Nat} {x:PySem.Str} {sv:SV} {fs:List (PySem.Str × SV)} {es:List DictEntry} (h:All2 (FEnt ρ n) fs es) (e:getS x fs = some sv):∃ v,getL x es = some (some v)∧VRep ρ n sv v:=by
  have key:∃ en,es.find? (·.key.isStr x) = some en∧VRep ρ n sv en.val:=by
    induction h with
    | nil=>cases e
    | @cons f en fs' es' r _ ih =>
      obtain ⟨⟨t,hk⟩,hv⟩:=r
      unfold getS at e
      rw [List.find?_cons,isStr_iff hk]
      cases q:strB x f.1 with
      | true=>rw [q] at e;cases e;exact ⟨en,rfl,hv⟩
      | false=>rw [q] at e;exact ih e
  obtain ⟨en,h1,h2⟩:=key
  refine ⟨en.val,?_,h2⟩
  unfold getL;rw [h1]
theorem getL_none {ρ:Nat→Addr} {n:Nat} {x:PySem.Str} {fs:List (PySem.Str × SV)} {es:List DictEntry} (h:All2 (FEnt ρ n) fs es) (e:getS x fs = none):getL x es = some none:=by
  have k1:es.find? (·.key.isStr x) = none∧es.any (·.refKey) = false:=by
    induction h with
    | nil=>exact ⟨rfl,rfl⟩
    | @cons f en fs' es' r _ ih =>
      obtain ⟨⟨t,hk⟩,hv⟩:=r
      unfold getS at e
      rw [List.find?_cons,isStr_iff hk,List.any_cons]
      cases q:strB x f.1 with
      | true=>rw [q] at e;cases e
      | false =>
        rw [q] at e
        obtain ⟨a,b⟩:=ih e
        refine ⟨a,?_⟩
        rw [b,Bool.or_false]
        unfold DictEntry.refKey
        rw [hk]
  unfold getL;rw [k1.1,k1.2];rfl
theorem putL_rep {ρ:Nat→Addr} {n:Nat} {x:PySem.Str} {sv:SV} {v:PySem.Value} {hsh:Int} {tk:Tok} {fs:List (PySem.Str × SV)} {es:List DictEntry} (h:All2 (FEnt ρ n) fs es) (r:VRep ρ n sv v) :
    All2 (FEnt ρ n) (putS x sv fs) (putL x hsh (.str x tk) v es):=by
  induction h with
  | nil=>exact .cons ⟨⟨tk,rfl⟩,r⟩ .nil
  | @cons f en fs' es' q hr ih =>
    obtain ⟨⟨t,hk⟩,hv⟩:=q
    obtain ⟨y,u⟩:=f
    unfold putS putL
    rw [isStr_iff hk]
    cases b:strB x y with
    | true=>exact .cons ⟨⟨t,hk⟩,r⟩ hr
    | false=>exact .cons ⟨⟨t,hk⟩,hv⟩ ih
theorem putS_length (x:PySem.Str) (v:SV):∀ fs:List (PySem.Str × SV),(putS x v fs).length ≤ fs.length + 1
  | []=>by simp [putS]
  | (y,u) :: r=>by
    unfold putS
    cases strB x y with
    | true=>simp
    | false=>have:=putS_length x v r;simp;lia
theorem mem_at {chs:List (List (Addr × Obj))} {i:Nat} {c:List (Addr × Obj)} (hc:chs[i]? = some c) {p:Addr × Obj} (h:p ∈ c):p ∈ chs.flatten :=
  List.mem_flatten.mpr ⟨c,List.mem_of_getElem? hc,h⟩
section
variable {X:Cx} {ρ:Nat→Addr} {st:St} {s:Shared}
theorem handed_of {ρ:Nat→Addr} {n:Nat} {sv:SV} {v:PySem.Value} (r:VRep ρ n sv v):handedIn v = true:=by
  cases sv with
  | none=>cases r;rfl
  | bool b=>cases r;rfl
  | int i=>obtain ⟨t,rfl⟩:=r;rfl
  | bytes b=>obtain ⟨t,rfl⟩:=r;rfl
  | str b=>obtain ⟨t,rfl⟩:=r;rfl
  | ref i=>obtain ⟨_,rfl⟩:=r;rfl
  | fn a=>cases r;rfl
  | cls a=>cases r;rfl
  | bi b=>cases r;cases b <;> decide +kernel
theorem get_attr (O:X.Ok) (R:SRep X ρ st s) {i:Nat} {C:Addr} {fs:List (PySem.Str × SV)} {x:PySem.Str} {sv:SV} {v₀:PySem.Value} (r₀:VRep ρ st.objs.length (.ref i) v₀)
    (ho:st.objs[i]? = some (.inst C fs)) (e:getS x fs = some sv) (ha:X.W.attr C x = true) {ex:Bool} {Q:PySem.Value→Shared→Prop}
    (h:∀ v s',SRep X ρ st s'→VRep ρ st.objs.length sv v→Q v s'):wpAny X.M X.A (getAttr v₀ x ex) Q X.E s:=by
  obtain ⟨_,rfl⟩:=r₀
  have R':=R
  obtain ⟨⟨m,chs,F,N,nd,LR,OR⟩,g1,g2,g3,pn⟩:=R
  obtain ⟨c,hc,dx,es,k,rfl,fe,_⟩:=OR.at_ i _ ho
  obtain ⟨v,hl,rv⟩:=getL_some fe e
  obtain ⟨a1,a2,⟨a,a3,a4⟩,_⟩:=O.W.attr C x ha
  have I:PySem.W.InstAt s.heap (ρ i) (instObj C dx) C (some (dictOf es k)):=InstAt.of_news N (mem_at hc (.head _)) (mem_at hc (.tail _ (.head _)))
  exact get_own F O.K I a1 a2 a3 a4 hl (handed_of rv) (h v _ ⟨⟨m,chs,F,N,nd,LR,OR⟩,g1,g2,g3,pn⟩ rv)
theorem set_attr (O:X.Ok) (R:SRep X ρ st s) {i:Nat} {C:Addr} {fs:List (PySem.Str × SV)} {x:PySem.Str} {sv:SV} {v₀ v:PySem.Value} (r₀:VRep ρ st.objs.length (.ref i) v₀) (rv:VRep ρ st.objs.length sv v)
    (ho:st.objs[i]? = some (.inst C fs)) (ha:X.W.attr C x = true) (hz:fs.length ≤ 800) {Q:Unit→Shared→Prop}
    (h:∀ s',SRep X ρ (st.setObj i (.inst C (putS x sv fs))) s'→Q () s'):wpAny X.M X.A (setAttr v₀ x v) Q X.E s:=by
  obtain ⟨hi,rfl⟩:=r₀
  obtain ⟨⟨m,chs,F,N,nd,LR,OR⟩,g1,g2,g3,pn⟩:=R
  obtain ⟨c,hc,dx,es,k,rfl,fe,_⟩:=OR.at_ i _ ho
  obtain ⟨a1,a2,⟨a,a3,a4⟩,a5,a6,a7⟩:=O.W.attr C x ha
  have I:PySem.W.InstAt s.heap (ρ i) (instObj C dx) C (some (dictOf es k)):=InstAt.of_news N (mem_at hc (.head _)) (mem_at hc (.tail _ (.head _)))
  have hgl:(getL x es).isSome = true:=by
    cases q:getS x fs with
    | some sv=>obtain ⟨v,hv,_⟩:=getL_some fe q;rw [hv];rfl
    | none=>rw [getL_none fe q];rfl
  have fe':=putL_rep (x:=x) (hsh:=PyData.keyHash X.W.w.params x) (tk:=s.toks + 1) fe rv
  have hz':=putS_length x sv fs
  have U:=upd_at (pre:=[(ρ i,instObj C dx)]) (post:=[]) (d:=dx) (o:=dictOf es k) (o':=dictOf (putL x (PyData.keyHash X.W.w.params x) (.str x (s.toks + 1)) v es) (putN x es k)) hc nd
  refine set_dict F O.K N I rfl a5 a6 a7 a2 hgl rfl U.1 (by rw [← fe'.length];lia) (fun h' F' N'=>h _ ⟨⟨m,_,F',N',U.2,?_,?_⟩,g1,g2,g3,pn.set _ _⟩)
  · show LRep ρ (st.objs.set i _).length m st.loc
    rw [List.length_set];exact LR
  · exact OR.put (List.getElem?_eq_some_iff.mp ho |>.1) ⟨dx,_,_,rfl,fe',by lia⟩
theorem SRep.alloc (R:SRep X ρ st s) {o:SObj} {a:Addr} {c:List (Addr × Obj)} {h':Heap} {tk:Tok}
    (F:∀ m,Fr X.g X.L s.heap m→Fr X.g X.L h' m) (N:∀ news,News X.g X.L s.heap news→News X.g X.L h' (c++news)) (nd:(c.map (·.1)).Nodup) (hl:∀ news,News X.g X.L s.heap news→∀ p ∈ c,∀ q ∈ news,p.1 ≠ q.1)
    (y:∀ ρ':Nat→Addr,(∀ i,i < st.objs.length→ρ' i = ρ i)→ρ' st.objs.length = a→ORep ρ' (st.objs.length + 1) a o c) :
    ∃ ρ',(∀ i,i < st.objs.length→ρ' i = ρ i)∧ρ' st.objs.length = a∧SRep X ρ' (st.addObj o) { s with heap:=h',toks:=tk }:=by
  obtain ⟨⟨m,chs,F₀,N₀,nd₀,LR,OR⟩,g1,g2,g3,pn⟩:=R
  obtain ⟨ρ',e1,e2,OR'⟩:=OR.add y
  refine ⟨ρ',e1,e2,⟨m,chs++[c],F m F₀,?_,?_,?_,OR'⟩,g1,g2,g3,pn.ext e1 (by show _ ≤ (st.objs++[o]).length;simp)⟩
  · intro p hp
    rw [List.flatten_append] at hp
    refine N _ N₀ p ?_
    rcases List.mem_append.mp hp with q | q
    · exact List.mem_append_right _ q
    · refine List.mem_append_left _ ?_
      simpa using q
  · rw [List.flatten_append,List.map_append,List.nodup_append]
    refine ⟨nd₀,by simpa using nd,fun x hx y hy=>?_⟩
    obtain ⟨q,hq,rfl⟩:=List.mem_map.mp hx
    obtain ⟨p,hp,rfl⟩:=List.mem_map.mp hy
    exact fun e=>hl _ N₀ p (by simpa using hp) q hq e.symm
  · show LRep ρ' (st.objs++[o]).length m st.loc
    rw [List.length_append]
    exact LR.ext e1 (Nat.le_add_right _ _)
theorem turnC {m:PySem.Str→Option PySem.Value} {chs:List (List (Addr × Obj))} {i:Nat} {o2:SObj} {ob ob':Obj} {h':Heap} {tk:Tok} (F:Fr X.g X.L s.heap m) (N:News X.g X.L s.heap chs.flatten) (nd:(chs.flatten.map (·.1)).Nodup)
    (LR:LRep ρ st.objs.length m st.loc) (OR:OReps ρ st.objs chs) (g1:s.gens = X.gn) (g2:s.drawn = X.dr) (g3:s.os = X.os) (pn:Pin X ρ st.objs.length) (hi:i < st.objs.length)
    (hcc:chs[i]? = some [(ρ i,ob)]) (hs:Heap.SameBut (ρ i) s.heap h') (hg':h'.get? (ρ i) = some ob') (h2:ORep ρ st.objs.length (ρ i) o2 [(ρ i,ob')]) :
    SRep X ρ (st.setObj i o2) { s with heap:=h',toks:=tk }:=by
  have U:=upd_at (pre:=[]) (post:=[]) (d:=ρ i) (o:=ob) (o':=ob') hcc nd
  obtain ⟨pre,post,e1,e2,p1,p2⟩:=U.1.split
  have hm:(ρ i,ob) ∈ chs.flatten:=mem_at hcc (.head _)
  refine ⟨⟨m,chs.set i [(ρ i,ob')],F.update N hm hs,?_,U.2,?_,?_⟩,g1,g2,g3,pn.set _ _⟩
  · show News _ _ _ (chs.set i ([]++(ρ i,ob') :: [])).flatten
    rw [e2]
    rw [e1] at N
    intro p hp
    rcases List.mem_append.mp hp with q | q
    · have:=N p (List.mem_append_left _ q)
      exact ⟨(hs.2 _ (p1 p q)).trans this.1,this.2⟩
    · cases q with
      | head =>
        have:=N (ρ i,ob) (List.mem_append_right _ (.head _))
        exact ⟨hg',this.2⟩
      | tail _ q =>
        have:=N p (List.mem_append_right _ (.tail _ q))
        exact ⟨(hs.2 _ (p2 p q)).trans this.1,this.2⟩
  · show LRep ρ (st.objs.set i _).length m st.loc
    rw [List.length_set];exact LR
  · exact OR.put hi h2
noncomputable def lookC (x:PySem.Str):List (PySem.Str × Nat)→Option Nat
  | []=>none
  | (y,h) :: r=>match strB x y with
    | true=>some h
    | false=>lookC x r
theorem lookC_eq {x:PySem.Str} {r:Nat→Addr}:∀ {l:List (PySem.Str × Nat)} {h:Nat},lookC x l = some h→(l.map fun p=>(p.1,r p.2)).lookup x = some (r h)
  | [],_,e=>by cases e
  | (y,k) :: l,h,e=>by
    unfold lookC at e
    rw [List.map_cons,List.lookup_cons]
    split at e
    · rename_i q;cases e;rw [strB_iff.mp q];simp
    · rename_i q
      have:(x == y) = false:=by rw [beq_eq_false_iff_ne];intro e;rw [strB_iff.mpr e] at q;cases q
      simp only [this];exact lookC_eq e
theorem cell_at {i:Nat} {v:Option SV} (R:SRep X ρ st s) (ho:st.objs[i]? = some (.cell v)):∃ u,s.heap.IsCell (ρ i) u∧∀ sv,v = some sv→∃ w,u = some w∧VRep ρ st.objs.length sv w:=by
  obtain ⟨⟨m,chs,F,N,nd,LR,OR⟩,g1,g2,g3,pn⟩:=R
  obtain ⟨c,hc,r⟩:=OR.at_ i _ ho
  cases v with
  | none=>obtain ⟨o,rfl,d⟩:=r;exact ⟨none,⟨o,(N _ (mem_at hc (.head _))).1,d⟩,fun sv e=>by cases e⟩
  | some v=>obtain ⟨o,u,rfl,d,y⟩:=r;exact ⟨some u,⟨o,(N _ (mem_at hc (.head _))).1,d⟩,fun sv e=>by cases e;exact ⟨u,rfl,y⟩⟩
theorem load_cell (O:X.Ok) (R:SRep X ρ st s) {x:PySem.Str} {i:Nat} {sv:SV} (hi:i < X.n0) (hx:lookC x X.cl = some i) (ho:st.objs[i]? = some (.cell (some sv))) (hk:kindS x X.cs.names = some .cell) {Q:PySem.Value→Shared→Prop}
    (h:∀ v,VRep ρ st.objs.length sv v→Q v s):wpAny X.M X.A (loadName X.env x) Q X.E s:=by
  obtain ⟨u,hc,hv⟩:=cell_at R ho
  obtain ⟨w,rfl,r⟩:=hv sv rfl
  rw [R.pin.1 i hi] at hc
  exact wpAny_loadName_cell O.kind (by show X.cs.names.lookup x = _;rw [← kindS_eq];exact hk) (lookC_eq hx) hc (h w r)
theorem store_cell (O:X.Ok) (R:SRep X ρ st s) {x:PySem.Str} {i:Nat} {o:Option SV} {sv:SV} {v:PySem.Value} (hi:i < X.n0) (hx:lookC x X.cl = some i) (ho:st.objs[i]? = some (.cell o)) (hk:kindS x X.cs.names = some .cell)
    (r:VRep ρ st.objs.length sv v) {Q:Unit→Shared→Prop} (h:∀ s',SRep X ρ (st.setObj i (.cell (some sv))) s'→Q () s'):wpAny X.M X.A (storeName X.env x v) Q X.E s:=by
  have one:∀ c,ORep ρ st.objs.length (ρ i) (.cell o) c→∃ (ob:Obj) (u:Option PySem.Value),c = [(ρ i,ob)]∧ob.data = .cell u:=fun c hc=>by
    cases o with
    | none=>obtain ⟨o,rfl,d⟩:=hc;exact ⟨o,_,rfl,d⟩
    | some v=>obtain ⟨o,u,rfl,d,y⟩:=hc;exact ⟨o,_,rfl,d⟩
  obtain ⟨⟨m,chs,F,N,nd,LR,OR⟩,g1,g2,g3,pn⟩:=R
  obtain ⟨c,hc,rc⟩:=OR.at_ i _ ho
  obtain ⟨ob,u,rfl,hd⟩:=one c rc
  have hg:=(N _ (mem_at hc (.head _))).1
  have hlt:=(List.getElem?_eq_some_iff.mp ho).1
  refine wpAny_storeName_cell O.kind (by show X.cs.names.lookup x = _;rw [← kindS_eq];exact hk) (lookC_eq hx) (v₀:=u) (by rw [← pn.1 i hi];exact ⟨ob,hg,hd⟩) fun h' hv hs=>?_
  rw [← pn.1 i hi] at hv hs
  obtain ⟨ob',hg',hd'⟩:=hv
  exact h _ (turnC (tk:=s.toks) F N nd LR OR g1 g2 g3 pn hlt hc hs hg' ⟨ob',v,rfl,hd',r⟩)
end
end Mine
end
section
namespace Mine
inductive Fl where
  | next | brk | cont | ret (v:SV)
noncomputable def FRep (ρ:Nat→Addr) (n:Nat):Fl→Flow→Prop
  | .next,f=>f = .next
  | .brk,f=>f = .brk
  | .cont,f=>f = .cont
  | .ret sv,f=>∃ v,f = .ret v∧VRep ρ n sv v
inductive EvP (X:Cx) (ρ:Nat→Addr) (n:Nat) (k:SV→St→Prop) (v:PySem.Value) (s':Shared):Prop
  | mk (ρ':Nat→Addr) (sv:SV) (st':St) (e:∀ i,i < n→ρ' i = ρ i) (l:n ≤ st'.objs.length) (R:SRep X ρ' st' s') (r:VRep ρ' st'.objs.length sv v) (q:k sv st')
inductive UnP (X:Cx) (ρ:Nat→Addr) (n:Nat) (k:St→Prop) (u:Unit) (s':Shared):Prop
  | mk (ρ':Nat→Addr) (st':St) (e:∀ i,i < n→ρ' i = ρ i) (l:n ≤ st'.objs.length) (R:SRep X ρ' st' s') (q:k st')
inductive BoP (X:Cx) (ρ:Nat→Addr) (n:Nat) (k:Bool→St→Prop) (b:Bool) (s':Shared):Prop
  | mk (ρ':Nat→Addr) (st':St) (e:∀ i,i < n→ρ' i = ρ i) (l:n ≤ st'.objs.length) (R:SRep X ρ' st' s') (q:k b st')
inductive FlP (X:Cx) (k:Fl→St→Prop) (f:Flow) (s':Shared):Prop
  | mk (ρ':Nat→Addr) (fl:Fl) (st':St) (R:SRep X ρ' st' s') (r:FRep ρ' st'.objs.length fl f) (q:k fl st')
inductive VsP (X:Cx) (ρ:Nat→Addr) (n:Nat) (k:List SV→St→Prop) (vs:List PySem.Value) (s':Shared):Prop
  | mk (ρ':Nat→Addr) (svs:List SV) (st':St) (e:∀ i,i < n→ρ' i = ρ i) (l:n ≤ st'.objs.length) (R:SRep X ρ' st' s') (r:All2 (VRep ρ' st'.objs.length) svs vs) (q:k svs st')
inductive StP (X:Cx) (k:St→Prop) (s':Shared):Prop
  | mk (ρ':Nat→Addr) (st':St) (R:SRep X ρ' st' s') (q:k st')
inductive SsP (X:Cx) (ρ:Nat→Addr) (k:St→Prop) (s':Shared):Prop
  | mk (st':St) (R:SRep X ρ st' s') (q:k st')
section
variable {X:Cx} {ρ ρ₁:Nat→Addr} {n n₁:Nat}
theorem EvP.up {k:SV→St→Prop} {v:PySem.Value} {s':Shared} (h:EvP X ρ₁ n₁ k v s') (e:∀ i,i < n→ρ₁ i = ρ i) (l:n ≤ n₁):EvP X ρ n k v s' :=
  by obtain ⟨ρ',sv,st',a,b,c,d,f⟩:=h;exact ⟨ρ',sv,st',fun i q=>(a i (Nat.lt_of_lt_of_le q l)).trans (e i q),Nat.le_trans l b,c,d,f⟩
theorem BoP.up {k:Bool→St→Prop} {v:Bool} {s':Shared} (h:BoP X ρ₁ n₁ k v s') (e:∀ i,i < n→ρ₁ i = ρ i) (l:n ≤ n₁):BoP X ρ n k v s' :=
  by obtain ⟨ρ',st',a,b,c,d⟩:=h;exact ⟨ρ',st',fun i q=>(a i (Nat.lt_of_lt_of_le q l)).trans (e i q),Nat.le_trans l b,c,d⟩
theorem EvP.one {st:St} {k:SV→St→Prop} {v:PySem.Value} {sv:SV} {s':Shared} (R:SRep X ρ st s') (r:VRep ρ st.objs.length sv v) (h:k sv st):EvP X ρ st.objs.length k v s' :=
  ⟨ρ,sv,st,fun _ _=>rfl,Nat.le_refl _,R,r,h⟩
end
structure Ev (X:Cx) (t:Sem PySem.Value) (st:St) (k:SV→St→Prop):Prop where
  go:∀ ρ s,SRep X ρ st s→wpR X.M X.A t (EvP X ρ st.objs.length k) X.E s
structure OpJ (X:Cx) (t:List PySem.Value→Sem PySem.Value) (svs:List SV) (st:St) (k:SV→St→Prop):Prop where
  go:∀ ρ s vs,SRep X ρ st s→All2 (VRep ρ st.objs.length) svs vs→wpR X.M X.A (t vs) (EvP X ρ st.objs.length k) X.E s
structure OpU (X:Cx) (t:List PySem.Value→Sem Unit) (svs:List SV) (st:St) (k:St→Prop):Prop where
  go:∀ ρ s vs,SRep X ρ st s→All2 (VRep ρ st.objs.length) svs vs→wpR X.M X.A (t vs) (UnP X ρ st.objs.length k) X.E s
structure OpS (X:Cx) (t:List PySem.Value→Sem PySem.Value) (svs:List SV) (st:St) (k:St→Prop):Prop where
  go:∀ ρ s vs,SRep X ρ st s→All2 (VRep ρ st.objs.length) svs vs→wpR X.M X.A (t vs) (fun _ s'=>StP X k s') X.E s
theorem OpS.of {X:Cx} {t:List PySem.Value→Sem PySem.Value} {svs:List SV} {st:St} {k:St→Prop} (h:OpJ X t svs st fun _ st'=>k st'):OpS X t svs st k :=
  ⟨fun ρ s vs R r=>wpR_mono (h.go ρ s vs R r) (fun _ _ q=>by obtain ⟨ρ',_,st',_,_,R',_,q⟩:=q;exact ⟨ρ',st',R',q⟩) fun _ _ x=>x⟩
structure ExJ (X:Cx) (t:Stmt) (st:St) (k:Fl→St→Prop):Prop where
  go:∀ ρ s,SRep X ρ st s→wpR X.M X.A (exec t X.env) (FlP X k) X.E s
theorem Ev.mono {X:Cx} {t:Sem PySem.Value} {st:St} {k k':SV→St→Prop} (h:Ev X t st k) (m:∀ v st',k v st'→k' v st'):Ev X t st k':=⟨fun ρ s R =>
  wpR_mono (h.go ρ s R) (fun v s' q=>by obtain ⟨ρ',sv,st',a,b,c,d,e⟩:=q;exact ⟨ρ',sv,st',a,b,c,d,m _ _ e⟩) fun _ _ x=>x⟩
noncomputable def gateK (b:Bool) (P:Prop):Prop:=match b with
  | true=>P
  | false=>False
noncomputable def gateB (b:Bool) (P Q:Prop):Prop:=match b with
  | true=>P
  | false=>Q
noncomputable def optK {α:Type} (o:Option α) (P:α→Prop):Prop:=match o with
  | some a=>P a
  | none=>False
theorem optK_of {α:Type} {o:Option α} {P:α→Prop} (h:optK o P):∃ a,o = some a∧P a:=by
  cases o with
  | some a=>exact ⟨a,rfl,h⟩
  | none=>exact h.elim
theorem gate_of {b:Bool} {P:Prop} (h:gateK b P):b = true∧P:=by
  cases b with
  | true=>exact ⟨rfl,h⟩
  | false=>exact h.elim
theorem gateB_t {b:Bool} {P Q:Prop} (c:b = true) (h:gateB b P Q):P:=by cases c;exact h
theorem gateB_f {b:Bool} {P Q:Prop} (c:b = false) (h:gateB b P Q):Q:=by cases c;exact h
noncomputable def cellK (o:Option SObj) (P:Option SV→Prop):Prop:=match o with
  | some (.cell v)=>P v
  | _=>False
theorem cellK_of {o:Option SObj} {P:Option SV→Prop} (h:cellK o P):∃ v,o = some (.cell v)∧P v:=by
  cases o with
  | none=>exact h.elim
  | some o=>cases o <;> first | exact h.elim | exact ⟨_,rfl,h⟩
noncomputable def instK (o:Option SObj) (P:Addr→List (PySem.Str × SV)→Prop):Prop:=match o with
  | some (.inst C fs)=>P C fs
  | _=>False
theorem instK_of {o:Option SObj} {P:Addr→List (PySem.Str × SV)→Prop} (h:instK o P):∃ C fs,o = some (.inst C fs)∧P C fs:=by
  cases o with
  | none=>exact h.elim
  | some o=>cases o <;> first | exact h.elim | exact ⟨_,_,rfl,h⟩
noncomputable def intK (op:Operator) (a b:Int) (k:Int→Prop):Prop:=match op with
  | .Add=>k (a + b)
  | .Sub=>k (a - b)
  | .BitAnd=>k (Builtin.bitAnd a b)
  | .BitOr=>k (Builtin.bitOr a b)
  | .BitXor=>k (Builtin.bitXor a b)
  | .Mult=>IntMulOk a b∧k (a * b)
  | .FloorDiv=>b ≠ 0∧Builtin.divisionGoesByPylong a b = false∧k (a.fdiv b)
  | .Mod=>b ≠ 0∧k (a.fmod b)
  | .LShift=>0 ≤ b∧(Builtin.Int.intBits a:Int) + b ≤ 2 ^ 27∧k (a * 2 ^ b.toNat)
  | .RShift=>0 ≤ b∧k (a.fdiv (2 ^ b.toNat))
  | _=>False
noncomputable def binK (X:Cx) (op:Operator) (a b:SV) (st:St) (k:SV→St→Prop):Prop:=match a,b with
  | .int x,.int y=>intK op x y fun r=>k (.int r) st
  | a,b=>OpJ X (fun vs=>binaryOp op (vs.getD 0 .none) (vs.getD 1 .none)) [a,b] st k
noncomputable def inpK (X:Cx) (op:Operator) (a b:SV) (st:St) (k:SV→St→Prop):Prop:=match a,b with
  | .int x,.int y=>intK op x y fun r=>k (.int r) st
  | a,b=>OpJ X (fun vs=>inplaceOp op (vs.getD 0 .none) (vs.getD 1 .none)) [a,b] st k
noncomputable def unK (X:Cx) (op:UnaryOp) (a:SV) (st:St) (k:SV→St→Prop):Prop:=match op,a with
  | .USub,.int x=>k (.int (-x)) st
  | _,_=>False
noncomputable def isNoneS:SV→Bool
  | .none=>true
  | _=>false
noncomputable def noneK (op:CmpOp) (a:SV) (st:St) (k:SV→St→Prop):Prop:=match op with
  | .Is=>k (.bool (isNoneS a)) st
  | .IsNot=>k (.bool (!isNoneS a)) st
  | _=>False
noncomputable def cmpK (X:Cx) (op:CmpOp) (a b:SV) (st:St) (k:SV→St→Prop):Prop:=match a,b with
  | .int x,.int y=>match op with
    | .Lt=>k (.bool (decide (x < y))) st
    | .LtE=>k (.bool (decide (x ≤ y))) st
    | .Gt=>k (.bool (decide (y < x))) st
    | .GtE=>k (.bool (decide (y ≤ x))) st
    | .Eq=>k (.bool (x == y)) st
    | .NotEq=>k (.bool (x != y)) st
    | _=>False
  | .bytes x,.bytes y=>match op with
    | .Eq=>k (.bool (x == y)) st
    | .NotEq=>k (.bool (x != y)) st
    | _=>OpJ X (fun vs=>compareOp op (vs.getD 0 .none) (vs.getD 1 .none)) [a,b] st k
  | a,.none=>noneK op a st k
  | a,b=>OpJ X (fun vs=>compareOp op (vs.getD 0 .none) (vs.getD 1 .none)) [a,b] st k
noncomputable def truthK (v:SV) (st:St) (k:Bool→St→Prop):Prop:=match v with
  | .bool b=>k b st
  | _=>False
noncomputable def constSV:Const→Option SV
  | .none=>some .none
  | .bool b=>some (.bool b)
  | .int i=>some (.int i)
  | .str s=>some (.str s)
  | .bytes b=>some (.bytes b)
  | _=>none
noncomputable def dbgS:PySem.Str:=⟨#[95,95,100,101,98,117,103,95,95]⟩
noncomputable def nameW (X:Cx) (id:PySem.Str) (st:St) (k:SV→St→Prop):Option NameKind→Prop
  | some .local=>gateK (!strB id dbgS) (optK (getS id st.loc) fun sv=>k sv st)
  | some .globalImplicit=>optK (X.W.glob id) fun sv=>k sv st
  | some .cell=>gateK (!strB id dbgS) (optK (lookC id X.cl) fun i=>gateK (Nat.blt i X.n0) (cellK st.objs[i]? fun o=>optK o fun sv=>k sv st))
  | _=>False
noncomputable def nameK (X:Cx) (id:PySem.Str) (st:St) (k:SV→St→Prop):Prop:=nameW X id st k (kindS id X.cs.names)
noncomputable def storeW (X:Cx) (id:PySem.Str) (v:SV) (st:St) (k:St→Prop):Option NameKind→Prop
  | some .local=>k (st.put id v)
  | some .cell=>optK (lookC id X.cl) fun i=>gateK (Nat.blt i X.n0) (cellK st.objs[i]? fun _=>k (st.setObj i (.cell (some v))))
  | _=>False
noncomputable def storeK (X:Cx) (id:PySem.Str) (v:SV) (st:St) (k:St→Prop):Prop:=storeW X id v st k (kindS id X.cs.names)
noncomputable def refK (o:SV) (P:Nat→Prop):Prop:=match o with
  | .ref i=>P i
  | _=>False
theorem refK_of {o:SV} {P:Nat→Prop} (h:refK o P):∃ i,o = .ref i∧P i:=by
  cases o <;> first | exact h.elim | exact ⟨_,rfl,h⟩
noncomputable def getA (X:Cx) (o:SV) (a:PySem.Str) (st:St) (k:SV→St→Prop):Prop:=refK o fun i=>instK st.objs[i]? fun C fs=>optK (getS a fs) fun sv=>gateK (X.W.attr C a) (k sv st)
noncomputable def setA (X:Cx) (o:SV) (a:PySem.Str) (v:SV) (st:St) (k:St→Prop):Prop:=refK o fun i=>instK st.objs[i]? fun C fs=>gateK (X.W.attr C a && Nat.ble fs.length 800) (k (st.setObj i (.inst C (putS a v fs))))
noncomputable def kCons (v:SV) (k:List SV→St→Prop):List SV→St→Prop:=fun vs st=>k (v :: vs) st
noncomputable def kMore (R:St→(List SV→St→Prop)→Prop) (k:List SV→St→Prop):SV→St→Prop:=fun v st=>R st (kCons v k)
noncomputable def evs (E:Expr→St→(SV→St→Prop)→Prop):List Expr→St→(List SV→St→Prop)→Prop
  | [],st,k=>k [] st
  | e :: r,st,k=>E e st (kMore (evs E r) k)
noncomputable def notStar:Expr→Bool
  | .Starred ..=>false
  | _=>true
noncomputable def notComp:Expr→Bool
  | .ListComp .. | .SetComp .. | .DictComp ..=>false
  | _=>true
noncomputable def okBase:Expr→Bool
  | .Name .. | .Attribute .. | .Subscript ..=>true
  | .Call (.Name _ _) (_ :: _) _ _=>true
  | _=>false
noncomputable def okArgs (args:List Expr):Bool:=args.all notStar && Nat.ble args.length 20
noncomputable def okCmp:Expr→Bool
  | .Set ..=>false
  | _=>true
end Mine
end
section
namespace Mine
noncomputable def exS:PySem.Str:=⟨#[101,120,116,101,110,100]⟩
noncomputable def apS:PySem.Str:=⟨#[97,112,112,101,110,100]⟩
theorem exS_eq : exS = "extend" := by decide +kernel
theorem apS_eq : apS = "append" := by decide +kernel
noncomputable def unsetK (o:Option SV) (P:Prop):Prop:=match o with
  | none=>P
  | some _=>False
theorem unset_of {o:Option SV} {P:Prop} (h:unsetK o P):o = none∧P:=by
  cases o with
  | none=>exact ⟨rfl,h⟩
  | some _=>exact h.elim
noncomputable def methO (X:Cx) (name:PySem.Str) (k:SV→Prop):SObj→Prop
  | .inst C fs=>unsetK (getS name fs) (optK (X.W.meth C name) fun f=>k (.fn f))
  | .ba _=>gateB (strB name exS) (k (.bi .baExtend)) (gateK (strB name apS) (k (.bi .baAppend)))
  | .list _=>gateK (strB name apS) (k (.bi .lsAppend))
  | .pl _=>gateK (strB name apS) (k (.bi .lsAppend))
  | _=>False
noncomputable def methK (X:Cx) (o:SV) (name:PySem.Str) (st:St) (k:SV→Prop):Prop:=refK o fun i=>optK st.objs[i]? (methO X name k)
noncomputable def callK (X:Cx) (f:SV) (vs:List SV) (st:St) (k:SV→St→Prop):Prop:=match f with
  | .fn a=>OpJ X (fun vs=>call (.ref a) vs) vs st k
  | .cls a=>OpJ X (fun vs=>call (.ref a) vs) vs st k
  | .bi b=>OpJ X (fun vs=>call b.val vs) vs st k
  | _=>False
noncomputable def callSt (X:Cx) (f:SV) (vs:List SV) (st:St) (k:St→Prop):Prop:=match f with
  | .fn a=>OpS X (fun vs=>call (.ref a) vs) vs st k
  | .cls a=>OpS X (fun vs=>call (.ref a) vs) vs st k
  | .bi b=>OpS X (fun vs=>call b.val vs) vs st k
  | _=>False
noncomputable def isSlice:Expr→Bool
  | .Slice ..=>true
  | _=>false
noncomputable def keepF (X:Cx):SV→Bool
  | .fn a=>keepIn X.W.K (.ref a)
  | .cls a=>keepIn X.W.K (.ref a)
  | .bi _=>true
  | _=>false
noncomputable def kGet (X:Cx) (a:PySem.Str) (k:SV→St→Prop):SV→St→Prop:=fun o st=>getA X o a st k
noncomputable def kBin (X:Cx) (op:Operator) (a:SV) (k:SV→St→Prop):SV→St→Prop:=fun b st=>binK X op a b st k
noncomputable def kUn (X:Cx) (op:UnaryOp) (k:SV→St→Prop):SV→St→Prop:=fun a st=>unK X op a st k
noncomputable def kCmp (X:Cx) (op:CmpOp) (a:SV) (k:SV→St→Prop):SV→St→Prop:=fun b st=>cmpK X op a b st k
noncomputable def kBinL (X:Cx) (E:Expr→St→(SV→St→Prop)→Prop) (r:Expr) (op:Operator) (k:SV→St→Prop):SV→St→Prop:=fun a st=>E r st (kBin X op a k)
noncomputable def kCmpL (X:Cx) (E:Expr→St→(SV→St→Prop)→Prop) (r:Expr) (op:CmpOp) (k:SV→St→Prop):SV→St→Prop:=fun a st=>E r st (kCmp X op a k)
noncomputable def kCall (X:Cx) (f:SV) (k:SV→St→Prop):List SV→St→Prop:=fun vs st=>callK X f vs st k
noncomputable def kCallM (X:Cx) (f o:SV) (k:SV→St→Prop):List SV→St→Prop:=fun vs st=>callK X f (o :: vs) st k
noncomputable def kCallS (X:Cx) (f o:SV) (k:St→Prop):List SV→St→Prop:=fun vs st=>callSt X f (o :: vs) st k
noncomputable def kMeth (X:Cx) (R:St→(List SV→St→Prop)→Prop) (name:PySem.Str) (k:SV→St→Prop):SV→St→Prop:=fun o st=>methK X o name st fun f=>R st (kCallM X f o k)
noncomputable def kMethS (X:Cx) (R:St→(List SV→St→Prop)→Prop) (name:PySem.Str) (k:St→Prop):SV→St→Prop:=fun o st=>methK X o name st fun f=>R st (kCallS X f o k)
noncomputable def kFn (X:Cx) (R:St→(List SV→St→Prop)→Prop) (k:SV→St→Prop):SV→St→Prop:=fun f st=>gateK (keepF X f) (R st (kCall X f k))
noncomputable def kTup (k:SV→St→Prop):List SV→St→Prop:=fun vs st=>gateK (Nat.ble vs.length 20) (k (.ref st.objs.length) (st.addObj (.tup vs)))
noncomputable def kLst (k:SV→St→Prop):List SV→St→Prop:=fun vs st=>gateK (Nat.ble vs.length 20) (k (.ref st.objs.length) (st.addObj (mkList vs)))
noncomputable def kSub (X:Cx) (v s:Expr) (o:SV) (k:SV→St→Prop):SV→St→Prop:=fun i st=>OpJ X (fun vs=>subscriptTail v s (vs.getD 0 .none) (vs.getD 1 .none)) [o,i] st k
noncomputable def kSubL (X:Cx) (E:Expr→St→(SV→St→Prop)→Prop) (v s:Expr) (k:SV→St→Prop):SV→St→Prop:=fun o st=>E s st (kSub X v s o k)
noncomputable def wpE (X:Cx):Nat→Expr→St→(SV→St→Prop)→Prop
  | 0,_,_,_=>False
  | n + 1,e,st,k=>match e with
    | .Constant c _ _=>optK (constSV c) fun v=>k v st
    | .Name id _=>nameK X id st k
    | .Attribute e a _=>gateK (okBase e) (wpE X n e st (kGet X a k))
    | .BinOp l op r _=>wpE X n l st (kBinL X (wpE X n) r op k)
    | .UnaryOp op e _=>wpE X n e st (kUn X op k)
    | .Compare l [op] [r] _=>gateK (okCmp r) (wpE X n l st (kCmpL X (wpE X n) r op k))
    | .Call (.Attribute o name apos) args [] pos=>gateK (okBase o && okArgs args && Nat.beq apos.endLine pos.line) (wpE X n o st (kMeth X (evs (wpE X n) args) name k))
    | .Call (.Name id p) args [] _=>gateK (okArgs args) (nameK X id st (kFn X (evs (wpE X n) args) k))
    | .Tuple es _ _=>gateK (okArgs es) (evs (wpE X n) es st (kTup k))
    | .List es _=>gateK (okArgs es) (evs (wpE X n) es st (kLst k))
    | .Subscript v s p=>gateB (isSlice s) (Ev X (eval (.Subscript v s p) X.env) st k) (wpE X n v st (kSubL X (wpE X n) v s k))
    | e=>Ev X (eval e X.env) st k
noncomputable def kTest (op:BoolOp) (R:St→(Bool→St→Prop)→Prop) (k:Bool→St→Prop):Bool→St→Prop:=fun b st=>match op with
  | .And=>(b = true→R st k)∧(b = false→k false st)
  | .Or=>(b = true→k true st)∧(b = false→R st k)
noncomputable def tests (E:Expr→St→(Bool→St→Prop)→Prop) (op:BoolOp):List Expr→St→(Bool→St→Prop)→Prop
  | [],st,k=>k (op == .And) st
  | e :: r,st,k=>E e st (kTest op (tests E op r) k)
noncomputable def plainT:Expr→Bool
  | .Name .. | .Attribute .. | .Call .. | .Constant .. | .Subscript ..=>true
  | _=>false
noncomputable def kNot (k:Bool→St→Prop):Bool→St→Prop:=fun b st=>k (!b) st
noncomputable def kTru (k:Bool→St→Prop):SV→St→Prop:=fun v st=>truthK v st k
noncomputable def wpT (X:Cx):Nat→Expr→St→(Bool→St→Prop)→Prop
  | 0,_,_,_=>False
  | n + 1,e,st,k=>match e with
    | .UnaryOp .Not x _=>wpT X n x st (kNot k)
    | .BoolOp op es _=>tests (wpT X n) op es st k
    | .Compare l [op] [r] _=>gateK (okCmp r) (wpE X 40 l st (kCmpL X (wpE X 40) r op (kTru k)))
    | e=>gateK (plainT e) (wpE X 40 e st (kTru k))
noncomputable def nextK (P:St→Prop) (k:Fl→St→Prop):Fl→St→Prop:=fun f st=>match f with
  | .next=>P st
  | f=>k f st
noncomputable def seqK (S:Stmt→St→(Fl→St→Prop)→Prop):List Stmt→(Fl→St→Prop)→St→Prop
  | [],k,st=>k .next st
  | s :: r,k,st=>S s st (nextK (seqK S r k) k)
noncomputable abbrev sss (S:Stmt→St→(Fl→St→Prop)→Prop) (l:List Stmt) (st:St) (k:Fl→St→Prop):Prop:=seqK S l k st
noncomputable def doneK (Q:St→Prop):Fl→St→Prop:=fun f st=>f = .next∧Q st
noncomputable def atK (st1:St):St→Prop:=fun st=>st = st1
noncomputable def isLocal (X:Cx) (x:PySem.Str):Bool:=match kindS x X.cs.names with
  | some .local=>true
  | _=>false
noncomputable def kNx (k:Fl→St→Prop):St→Prop:=fun st=>k .next st
noncomputable def kNxV (k:Fl→St→Prop):SV→St→Prop:=fun _ st=>k .next st
noncomputable def kRet (k:Fl→St→Prop):SV→St→Prop:=fun v st=>k (.ret v) st
noncomputable def kAs (X:Cx) (x:PySem.Str) (k:St→Prop):SV→St→Prop:=fun v st=>storeK X x v st k
noncomputable def kPut (x:PySem.Str) (k:Fl→St→Prop):SV→St→Prop:=fun r st=>k .next (st.put x r)
noncomputable def kInp (X:Cx) (op:Operator) (old:SV) (k:SV→St→Prop):SV→St→Prop:=fun v st=>inpK X op old v st k
noncomputable def kSet (X:Cx) (v:SV) (a:PySem.Str) (k:St→Prop):SV→St→Prop:=fun o st=>setA X o a v st k
noncomputable def kSetR (X:Cx) (o:SV) (a:PySem.Str) (k:St→Prop):SV→St→Prop:=fun v st=>setA X o a v st k
noncomputable def kTo (E:Expr→St→(SV→St→Prop)→Prop) (o:Expr) (K:SV→SV→St→Prop):SV→St→Prop:=fun v st=>E o st (K v)
noncomputable def kItem (X:Cx) (k:St→Prop) (v o:SV):SV→St→Prop:=fun i st=>OpU X (fun vs=>setItem (vs.getD 1 .none) (vs.getD 2 .none) (vs.getD 0 .none)) [v,o,i] st k
noncomputable def kItemL (X:Cx) (E:Expr→St→(SV→St→Prop)→Prop) (i:Expr) (k:St→Prop) (v:SV):SV→St→Prop:=fun o st=>E i st (kItem X k v o)
noncomputable def kSetL (X:Cx) (a:PySem.Str) (k:St→Prop) (v:SV):SV→St→Prop:=kSet X v a k
noncomputable def kAug (X:Cx) (E:Expr→St→(SV→St→Prop)→Prop) (e:Expr) (op:Operator) (o:SV) (a:PySem.Str) (k:St→Prop):SV→St→Prop:=fun old st=>E e st (kInp X op old (kSetR X o a k))
noncomputable def kAugL (X:Cx) (E:Expr→St→(SV→St→Prop)→Prop) (e:Expr) (op:Operator) (a:PySem.Str) (k:St→Prop):SV→St→Prop:=fun o st=>getA X o a st (kAug X E e op o a k)
noncomputable def kIf (P Q:St→Prop):Bool→St→Prop:=fun t st=>(t = true→P st)∧(t = false→Q st)
noncomputable def wpS (X:Cx):Nat→Stmt→St→(Fl→St→Prop)→Prop
  | 0,_,_,_=>False
  | n + 1,s,st,k=>match s with
    | .Pass _=>k .next st
    | .Expr (.Call (.Attribute o name apos) args [] pos) _=>gateK (okBase o && okArgs args && Nat.beq apos.endLine pos.line) (wpE X 40 o st (kMethS X (evs (wpE X 40) args) name (kNx k)))
    | .Expr e _=>gateK (notComp e) (wpE X 40 e st (kNxV k))
    | .Return none _=>k (.ret .none) st
    | .Return (some e) _=>wpE X 40 e st (kRet k)
    | .Assign [.Name x p] e q=>gateB (notComp e) (wpE X 40 e st (kAs X x (kNx k))) (ExJ X (.Assign [.Name x p] e q) st k)
    | .Assign [.Attribute o a _] e _=>gateK (notComp e) (wpE X 40 e st (kTo (wpE X 40) o (kSetL X a (kNx k))))
    | .Assign [.Subscript o i _] e _=>gateK (notComp e) (wpE X 40 e st (kTo (wpE X 40) o (kItemL X (wpE X 40) i (kNx k))))
    | .AugAssign (.Name x _) op e _=>gateK (isLocal X x) (optK (getS x st.loc) fun old=>wpE X 40 e st (kInp X op old (kPut x k)))
    | .AugAssign (.Attribute o a _) op e _=>wpE X 40 o st (kAugL X (wpE X 40) e op a (kNx k))
    | .If c b o _=>wpT X 40 c st (kIf (seqK (wpS X n) b k) (seqK (wpS X n) o k))
    | s=>ExJ X s st k
end Mine
end
section
namespace Mine
theorem SRep.tok {X:Cx} {ρ:Nat→Addr} {st:St} {s:Shared} (R:SRep X ρ st s) (t:Nat):SRep X ρ st { s with toks:=t }:=⟨R.ex,R.gn,R.dr,R.os,R.pin⟩
section
variable {X:Cx} {ρ:Nat→Addr} {st:St} {s:Shared} {k:SV→St→Prop}
theorem one_int (R:SRep X ρ st s) {i:Int} {t:Tok} (h:k (.int i) st):EvP X ρ st.objs.length k (.int i t) s:=.one (sv:=.int i) R ⟨t,rfl⟩ h
theorem one_bool (R:SRep X ρ st s) {b:Bool} (h:k (.bool b) st):EvP X ρ st.objs.length k (.bool b) s:=.one (sv:=.bool b) R rfl h
theorem int_ok {op:Operator} {x y:Int} {t u:Tok} (h:intK op x y fun r=>k (.int r) st) (R:SRep X ρ st s):wpR X.M X.A (binaryOp op (.int x t) (.int y u)) (EvP X ρ st.objs.length k) X.E s:=by
  cases op
  case Add=>exact wpR.of (add_int (one_int (R.tok _) h))
  case Sub=>exact wpR.of (sub_int (one_int (R.tok _) h))
  case Mult=>exact wpR.of (PyProof.Rows.mul_int (one_int (R.tok _) h.2) h.1)
  case Mod=>exact wpR.of (mod_int' h.1 (one_int (R.tok _) h.2))
  case FloorDiv=>exact wpR.of (floordiv_int h.1 (one_int (R.tok _) h.2.2) (.inl h.2.1))
  case LShift=>exact wpR.of (lshift_int h.1 h.2.1 (one_int (R.tok _) h.2.2))
  case RShift=>exact wpR.of (rshift_int h.1 (one_int (R.tok _) h.2))
  case BitOr=>exact wpR.of (or_int (one_int (R.tok _) h))
  case BitXor=>exact wpR.of (xor_int (one_int (R.tok _) h))
  case BitAnd=>exact wpR.of (and_int (one_int (R.tok _) h))
  all_goals exact False.elim h
theorem iint_ok {op:Operator} {x y:Int} {t u:Tok} (h:intK op x y fun r=>k (.int r) st) (R:SRep X ρ st s):wpR X.M X.A (inplaceOp op (.int x t) (.int y u)) (EvP X ρ st.objs.length k) X.E s:=by
  cases op
  case Add=>exact wpR.of (iadd_int (one_int (R.tok _) h))
  case Sub=>exact wpR.of (isub_int (one_int (R.tok _) h))
  case Mult=>exact wpR.of (imul_int (one_int (R.tok _) h.2) h.1)
  case Mod=>exact wpR.of (imod_int h.1 (one_int (R.tok _) h.2))
  case FloorDiv=>exact wpR.of (ifloordiv_int h.1 (one_int (R.tok _) h.2.2) (.inl h.2.1))
  case LShift=>exact wpR.of (ilshift_int h.1 h.2.1 (one_int (R.tok _) h.2.2))
  case RShift=>exact wpR.of (irshift_int h.1 (one_int (R.tok _) h.2))
  case BitOr=>exact wpR.of (ior_int (one_int (R.tok _) h))
  case BitXor=>exact wpR.of (ixor_int (one_int (R.tok _) h))
  case BitAnd=>exact wpR.of (iand_int (one_int (R.tok _) h))
  all_goals exact False.elim h
theorem all2_two {R:SV→PySem.Value→Prop} {a b:SV} {va vb:PySem.Value} (x:R a va) (y:R b vb):All2 R [a,b] [va,vb]:=.cons x (.cons y .nil)
theorem bin_ok {op:Operator} {a b:SV} {va vb:PySem.Value} (h:binK X op a b st k) (R:SRep X ρ st s) (ra:VRep ρ st.objs.length a va) (rb:VRep ρ st.objs.length b vb) :
    wpR X.M X.A (binaryOp op va vb) (EvP X ρ st.objs.length k) X.E s:=by
  have d:OpJ X (fun vs=>binaryOp op (vs.getD 0 .none) (vs.getD 1 .none)) [a,b] st k→wpR X.M X.A (binaryOp op va vb) (EvP X ρ st.objs.length k) X.E s:=fun h=>h.go ρ s [va,vb] R (all2_two ra rb)
  cases a with
  | int x =>
    cases b with
    | int y=>obtain ⟨t,rfl⟩:=ra;obtain ⟨u,rfl⟩:=rb;exact int_ok h R
    | _=>exact d h
  | _=>exact d h
theorem inp_ok {op:Operator} {a b:SV} {va vb:PySem.Value} (h:inpK X op a b st k) (R:SRep X ρ st s) (ra:VRep ρ st.objs.length a va) (rb:VRep ρ st.objs.length b vb) :
    wpR X.M X.A (inplaceOp op va vb) (EvP X ρ st.objs.length k) X.E s:=by
  have d:OpJ X (fun vs=>inplaceOp op (vs.getD 0 .none) (vs.getD 1 .none)) [a,b] st k→wpR X.M X.A (inplaceOp op va vb) (EvP X ρ st.objs.length k) X.E s:=fun h=>h.go ρ s [va,vb] R (all2_two ra rb)
  cases a with
  | int x =>
    cases b with
    | int y=>obtain ⟨t,rfl⟩:=ra;obtain ⟨u,rfl⟩:=rb;exact iint_ok h R
    | _=>exact d h
  | _=>exact d h
theorem un_ok {op:UnaryOp} {a:SV} {va:PySem.Value} (h:unK X op a st k) (R:SRep X ρ st s) (ra:VRep ρ st.objs.length a va) :
    wpR X.M X.A (unaryOp op va) (EvP X ρ st.objs.length k) X.E s:=by
  cases op with
  | USub =>
    cases a with
    | int x=>obtain ⟨t,rfl⟩:=ra;exact wpR.of (PyProof.Rows.neg_int (one_int (R.tok _) h))
    | _=>exact h.elim
  | _=>exact h.elim
theorem isNone_of {a:SV} {va:PySem.Value} {n:Nat} (r:VRep ρ n a va):(va == PySem.Value.none) = isNoneS a:=by
  cases a with
  | none=>cases r;rfl
  | bool b=>cases r;exact beq_eq_false_iff_ne.mpr (by simp)
  | int i=>obtain ⟨t,rfl⟩:=r;exact beq_eq_false_iff_ne.mpr (by simp)
  | bytes b=>obtain ⟨t,rfl⟩:=r;exact beq_eq_false_iff_ne.mpr (by simp)
  | str b=>obtain ⟨t,rfl⟩:=r;exact beq_eq_false_iff_ne.mpr (by simp)
  | ref i=>obtain ⟨_,rfl⟩:=r;exact beq_eq_false_iff_ne.mpr (by simp)
  | fn a=>cases r;exact beq_eq_false_iff_ne.mpr (by simp)
  | cls a=>cases r;exact beq_eq_false_iff_ne.mpr (by simp)
  | bi b=>cases r;cases b <;> exact beq_eq_false_iff_ne.mpr (by simp [BI.val])
theorem isNot_none_gen {M:Model} {A:Around} {E:PySem.Value→Shared→Prop} {s:Shared} {v:PySem.Value} {Q:PySem.Value→Shared→Prop} (h:Q (.bool (!(v == .none))) s):wpAny M A (compareOp .IsNot v .none) Q E s:=by
  cases v <;> exact fun _ _ _=>h
theorem cmp_ok {op:CmpOp} {a b:SV} {va vb:PySem.Value} (h:cmpK X op a b st k) (R:SRep X ρ st s) (ra:VRep ρ st.objs.length a va) (rb:VRep ρ st.objs.length b vb) :
    wpR X.M X.A (compareOp op va vb) (EvP X ρ st.objs.length k) X.E s:=by
  have d:OpJ X (fun vs=>compareOp op (vs.getD 0 .none) (vs.getD 1 .none)) [a,b] st k→wpR X.M X.A (compareOp op va vb) (EvP X ρ st.objs.length k) X.E s:=fun h=>h.go ρ s [va,vb] R (all2_two ra rb)
  have n:noneK op a st k→vb = .none→wpR X.M X.A (compareOp op va vb) (EvP X ρ st.objs.length k) X.E s:=fun h e=>by
    subst e
    cases op with
    | Is=>exact wpR.of (is_none_gen (one_bool R (by rw [isNone_of ra];exact h)))
    | IsNot=>exact wpR.of (isNot_none_gen (one_bool R (by rw [isNone_of ra];exact h)))
    | _=>exact h.elim
  cases b with
  | none=>cases a <;> exact n h rb
  | int y =>
    cases a with
    | int x =>
      obtain ⟨t,rfl⟩:=ra;obtain ⟨u,rfl⟩:=rb
      cases op with
      | Lt=>exact wpR.of (lt_int (one_bool R h))
      | LtE=>exact wpR.of (PyProof.Rows.le_int (one_bool R h))
      | Gt=>exact wpR.of (gt_int (one_bool R h))
      | GtE=>exact wpR.of (PyProof.Rows.ge_int (one_bool R h))
      | Eq=>exact wpR.of (eq_int (one_bool R h))
      | NotEq=>exact wpR.of (ne_int (one_bool R h))
      | _=>exact h.elim
    | _=>exact d h
  | bytes y =>
    cases a with
    | bytes x =>
      cases op with
      | Eq=>obtain ⟨t,rfl⟩:=ra;obtain ⟨u,rfl⟩:=rb;have h:k (.bool (x == y)) st:=h;exact wpR.of (PySem.W.eq_bytes (one_bool R (by simpa using h)))
      | NotEq=>obtain ⟨t,rfl⟩:=ra;obtain ⟨u,rfl⟩:=rb;have h:k (.bool (x != y)) st:=h;exact wpR.of (PySem.W.ne_bytes (one_bool R (by simpa using h)))
      | _=>exact d h
    | _=>exact d h
  | _=>cases a <;> exact d h
theorem truth_ok {v:SV} {va:PySem.Value} {k:Bool→St→Prop} (h:truthK v st k) (R:SRep X ρ st s) (ra:VRep ρ st.objs.length v va) :
    wpR X.M X.A (truthy va) (BoP X ρ st.objs.length k) X.E s:=by
  cases v with
  | bool b=>cases ra;exact wpR.of fun _ _ _=>⟨ρ,st,fun _ _=>rfl,Nat.le_refl _,R,h⟩
  | _=>exact h.elim
theorem dbg_of {x : PySem.Str} (h : strB x dbgS = false) : (x == ("__debug__" : PySem.Str)) = false := by
  rw [beq_eq_false_iff_ne]
  intro e
  have : dbgS = ("__debug__" : PySem.Str) := by decide +kernel
  rw [e,← this,strB_iff.mpr rfl] at h
  cases h
theorem not_of {b:Bool} (h:(!b) = true):b = false:=by cases b;rfl;cases h
theorem name_ok (O:X.Ok) {id:PySem.Str} {pos:Pos} (h:nameK X id st k) (R:SRep X ρ st s):wpR X.M X.A (eval (.Name id pos) X.env) (EvP X ρ st.objs.length k) X.E s:=by
  have h:nameW X id st k (kindS id X.cs.names):=h
  cases hk:kindS id X.cs.names with
  | none=>rw [hk] at h;exact h.elim
  | some m =>
    rw [hk] at h
    cases m with
    | «local» =>
      obtain ⟨hd,h⟩:=gate_of h
      obtain ⟨sv,e,h⟩:=optK_of h
      exact wpR.of (wpAny_Name (load_local O R e hk fun v r=>.one R r h) (dbg_of (not_of hd)))
    | globalImplicit =>
      obtain ⟨sv,e,h⟩:=optK_of h
      exact wpR.of (load_glob O R e hk fun v r=>.one R r h)
    | cell =>
      obtain ⟨hd,h⟩:=gate_of h
      obtain ⟨i,hl,h⟩:=optK_of h
      obtain ⟨hi,h⟩:=gate_of h
      obtain ⟨o,ho,h⟩:=cellK_of h
      obtain ⟨sv,rfl,h⟩:=optK_of h
      exact wpR.of (wpAny_Name (load_cell O R (Nat.le_of_ble_eq_true hi) hl ho hk fun v r=>.one R r h) (dbg_of (not_of hd)))
    | _=>exact h.elim
theorem storeK_ok (O:X.Ok) {id:PySem.Str} {v:SV} {vv:PySem.Value} {k:St→Prop} (h:storeK X id v st k) (R:SRep X ρ st s) (rv:VRep ρ st.objs.length v vv) :
    wpR X.M X.A (storeName X.env id vv) (fun _ s'=>SsP X ρ k s') X.E s:=by
  have h:storeW X id v st k (kindS id X.cs.names):=h
  cases hk:kindS id X.cs.names with
  | none=>rw [hk] at h;exact h.elim
  | some m =>
    rw [hk] at h
    cases m with
    | «local»=>exact wpR.of (store_local O R rv hk fun s' R'=>⟨_,R',h⟩)
    | cell =>
      obtain ⟨i,hl,h⟩:=optK_of h
      obtain ⟨hi,h⟩:=gate_of h
      obtain ⟨o,ho,h⟩:=cellK_of h
      exact wpR.of (store_cell O R (Nat.le_of_ble_eq_true hi) hl ho hk rv fun s' R'=>⟨_,R',h⟩)
    | _=>exact h.elim
theorem getA_ok (O:X.Ok) {o:SV} {a:PySem.Str} {vo:PySem.Value} {ex:Bool} (h:getA X o a st k) (R:SRep X ρ st s) (r:VRep ρ st.objs.length o vo):wpR X.M X.A (getAttr vo a ex) (EvP X ρ st.objs.length k) X.E s:=by
  obtain ⟨i,rfl,h⟩:=refK_of h
  obtain ⟨C,fs,ho,h⟩:=instK_of h
  obtain ⟨sv,e,h⟩:=optK_of h
  obtain ⟨ha,h⟩:=gate_of h
  exact wpR.of (get_attr O R r ho e ha fun v s' R' rv=>.one R' rv h)
theorem setA_ok (O:X.Ok) {o v:SV} {a:PySem.Str} {vo vv:PySem.Value} {k:St→Prop} (h:setA X o a v st k) (R:SRep X ρ st s) (r:VRep ρ st.objs.length o vo) (rv:VRep ρ st.objs.length v vv) :
    wpR X.M X.A (setAttr vo a vv) (UnP X ρ st.objs.length k) X.E s:=by
  obtain ⟨i,rfl,h⟩:=refK_of h
  obtain ⟨C,fs,ho,h⟩:=instK_of h
  obtain ⟨hc,h⟩:=gate_of h
  obtain ⟨ha,hz⟩:=Bool.and_eq_true_iff.mp hc
  exact wpR.of (set_attr O R r rv ho ha (Nat.le_of_ble_eq_true hz) fun s' R'=>⟨ρ,_,fun _ _=>rfl,by show _ ≤ (List.set _ _ _).length;rw [List.length_set];exact Nat.le_refl _,R',h⟩)
theorem const_ok {c:Const} {sv:SV} (e:constSV c = some sv) (h:k sv st) {env:Env} (R:SRep X ρ st s):wpR X.M X.A (constValue env c) (EvP X ρ st.objs.length k) X.E s:=by
  cases c with
  | none=>cases e;exact wpR.of (wpAny_pure (.one (sv:=.none) R rfl h))
  | bool b=>cases e;exact wpR.of (wpAny_pure (.one (sv:=.bool _) R rfl h))
  | int i=>cases e;exact wpR.of fun _ _ _=>.one (sv:=.int _) (R.tok _) ⟨_,rfl⟩ h
  | str s=>cases e;exact wpR.of fun _ _ _=>.one (sv:=.str _) (R.tok _) ⟨_,rfl⟩ h
  | bytes b=>cases e;exact wpR.of fun _ _ _=>.one (sv:=.bytes _) (R.tok _) ⟨_,rfl⟩ h
  | _=>exact nomatch e
end
end Mine
end
section
namespace Mine
theorem star_cons {e:Expr} {r:List Expr} {env:Env} (h:notStar e = true):starEach (e :: r) env = (false,eval e env) :: starEach r env:=by
  cases e <;> first | rfl | cases h
theorem star_any {args:List Expr} {env:Env} {pos:Pos} (h:args.all notStar = true):(backTo pos (starEach args env)).any (·.1) = false:=by
  induction args with
  | nil=>rfl
  | cons e r ih =>
    rw [List.all_cons,Bool.and_eq_true] at h
    rw [star_cons h.1]
    show (false || (backTo pos (starEach r env)).any (·.1)) = false
    rw [ih h.2];rfl
theorem star_form {args:List Expr} {env:Env} {pos:Pos} (h:args.all notStar = true):(backTo pos (starEach args env)).all (!·.1) = true:=by
  induction args with
  | nil=>rfl
  | cons e r ih =>
    rw [List.all_cons,Bool.and_eq_true] at h
    rw [star_cons h.1]
    show (true && (backTo pos (starEach r env)).all (!·.1)) = true
    rw [ih h.2];rfl
section
variable {X:Cx} {ρ:Nat→Addr} {st:St} {s:Shared}
theorem K_now (O:X.Ok) (R:SRep X ρ st s):X.W.K.In s.heap:=by
  exact O.K.keeps R.fr.choose_spec.keep
theorem evs_ok (O:X.Ok) {E':Expr→St→(SV→St→Prop)→Prop} (H:∀ e st k,E' e st k→Ev X (eval e X.env) st k) {pos:Pos} :
    ∀ {args:List Expr} {st:St} {k:List SV→St→Prop} {ρ:Nat→Addr} {s:Shared},args.all notStar = true→evs E' args st k→SRep X ρ st s →
      wpR X.M X.A (spliced (backTo pos (starEach args X.env))) (VsP X ρ st.objs.length k) X.E s:=by
  intro args
  induction args with
  | nil=>exact fun _ h R=>wpR_pure ⟨_,[],_,fun _ _=>rfl,Nat.le_refl _,R,.nil,h⟩
  | cons e r ih =>
    intro st k ρ s hs h R
    rw [List.all_cons,Bool.and_eq_true] at hs
    refine r_more ?_ (star_cons hs.1)
    refine wpR_mono ((H e st _ h).go ρ s R) (fun v s1 q=>?_) fun _ _ x=>x
    obtain ⟨ρ1,sv,st1,x1,l1,R1,r1,k1⟩:=q
    refine wpR_mono (ih hs.2 k1 R1) (fun vs s2 q=>?_) fun _ _ x=>x
    obtain ⟨ρ2,svs,st2,x2,l2,R2,r2,k2⟩:=q
    exact ⟨ρ2,sv :: svs,st2,fun i q=>(x2 i (Nat.lt_of_lt_of_le q l1)).trans (x1 i q),Nat.le_trans l1 l2,R2,.cons (r1.ext x2 l2) r2,k2⟩
theorem keepF_ok {f:SV} {vf:PySem.Value} {n:Nat} (h:keepF X f = true) (r:VRep ρ n f vf) (hp:Heap) (K:X.W.K.In hp):∃ k,(k = Keeper.frame ∨ k = Keeper.machine ∨ k = Keeper.boundFrame)∧Looks X.M hp (keeperOf vf) k:=by
  cases f with
  | fn a=>cases r;exact keeps_K (show keepIn X.W.K (.ref a) = true from h) hp K
  | cls a=>cases r;exact keeps_K (show keepIn X.W.K (.ref a) = true from h) hp K
  | bi b =>
    cases r
    exact ⟨.machine,.inr (.inl rfl),Looks.of_pure (by cases b <;> rfl)⟩
  | _=>exact absurd h Bool.false_ne_true
theorem cw_ok (O:X.Ok) {E':Expr→St→(SV→St→Prop)→Prop} (H:∀ e st k,E' e st k→Ev X (eval e X.env) st k) {pos:Pos} {f:SV} {vf:PySem.Value} {first:List SV} {vfirst:List PySem.Value} {args:List Expr} {k:SV→St→Prop}
    (hk:keepF X f = true) (ha:okArgs args = true) (rf:VRep ρ st.objs.length f vf) (r1:All2 (VRep ρ st.objs.length) first vfirst) (R:SRep X ρ st s)
    (h:evs E' args st fun vs st2=>callK X f (first++vs) st2 k) :
    wpR X.M X.A (callWith pos vf vfirst (backTo pos (starEach args X.env)) []) (EvP X ρ st.objs.length k) X.E s:=by
  obtain ⟨hs,_⟩:=Bool.and_eq_true_iff.mp ha
  have go:∀ (vs:List PySem.Value) (s2:Shared),VsP X ρ st.objs.length (fun vs st2=>callK X f (first++vs) st2 k) vs s2→X.W.K.In s2.heap∧wpR X.M X.A (call vf (vfirst++vs) []) (EvP X ρ st.objs.length k) X.E s2:=by
    rintro vs s2 ⟨ρ2,svs,st2,x2,l2,R2,r2,k2⟩
    refine ⟨K_now O R2,?_⟩
    have ra:All2 (VRep ρ2 st2.objs.length) (first++svs) (vfirst++vs):=(r1.mono fun _ _ q=>q.ext x2 l2).append r2
    have rf2:=rf.ext x2 l2
    cases f <;> first | exact k2.elim | (cases rf2;exact wpR_mono (k2.go ρ2 s2 _ R2 ra) (fun _ _ q=>q.up x2 l2) fun _ _ x=>x)
  refine r_callWith (P:=X.W.K.In) (by rw [star_any hs];rfl) (keepF_ok hk rf) ?_
  cases args with
  | nil=>exact wpR.of (evalArgs_nil3 (go [] s ⟨ρ,[],st,fun _ _=>rfl,Nat.le_refl _,R,.nil,h⟩))
  | cons e r =>
    have hs':=hs
    rw [List.all_cons,Bool.and_eq_true] at hs'
    have z:=evs_ok O H (pos:=pos) hs h R
    rw [star_cons hs'.1] at z ⊢
    exact r_args (wpR_mono z go fun _ _ x=>x)
theorem cwS_ok (O:X.Ok) {E':Expr→St→(SV→St→Prop)→Prop} (H:∀ e st k,E' e st k→Ev X (eval e X.env) st k) {pos:Pos} {f:SV} {vf:PySem.Value} {first:List SV} {vfirst:List PySem.Value} {args:List Expr} {k:St→Prop}
    (hk:keepF X f = true) (ha:okArgs args = true) (rf:VRep ρ st.objs.length f vf) (r1:All2 (VRep ρ st.objs.length) first vfirst) (R:SRep X ρ st s)
    (h:evs E' args st fun vs st2=>callSt X f (first++vs) st2 k) :
    wpR X.M X.A (callWith pos vf vfirst (backTo pos (starEach args X.env)) []) (fun _ s'=>StP X k s') X.E s:=by
  obtain ⟨hs,_⟩:=Bool.and_eq_true_iff.mp ha
  have go:∀ (vs:List PySem.Value) (s2:Shared),VsP X ρ st.objs.length (fun vs st2=>callSt X f (first++vs) st2 k) vs s2→X.W.K.In s2.heap∧wpR X.M X.A (call vf (vfirst++vs) []) (fun _ s'=>StP X k s') X.E s2:=by
    rintro vs s2 ⟨ρ2,svs,st2,x2,l2,R2,r2,k2⟩
    refine ⟨K_now O R2,?_⟩
    have ra:All2 (VRep ρ2 st2.objs.length) (first++svs) (vfirst++vs):=(r1.mono fun _ _ q=>q.ext x2 l2).append r2
    have rf2:=rf.ext x2 l2
    cases f <;> first | exact k2.elim | (cases rf2;exact k2.go ρ2 s2 _ R2 ra)
  refine r_callWith (P:=X.W.K.In) (by rw [star_any hs];rfl) (keepF_ok hk rf) ?_
  cases args with
  | nil=>exact wpR.of (evalArgs_nil3 (go [] s ⟨ρ,[],st,fun _ _=>rfl,Nat.le_refl _,R,.nil,h⟩))
  | cons e r =>
    have hs':=hs
    rw [List.all_cons,Bool.and_eq_true] at hs'
    have z:=evs_ok O H (pos:=pos) hs h R
    rw [star_cons hs'.1] at z ⊢
    exact r_args (wpR_mono z go fun _ _ x=>x)
end
end Mine
end
section
namespace Mine
theorem base_of {o:Expr} {a:PySem.Str} {env:Env} {t:Sem PySem.Value} (h:okBase o = true):attributeBase o a env t = t:=by
  cases o with
  | Call f args kw pos =>
    cases f with
    | Name _ _ =>
      cases args with
      | nil=>cases h
      | cons _ _=>rfl
    | _=>rfl
  | _=>rfl
theorem behind_of {op:CmpOp} {r:Expr} (h:okCmp r = true):behindInMarks op r = false:=by
  cases r with
  | Set _ _ _=>cases h
  | _=>rfl
theorem no_dict {h:Heap} {x:Addr} {o:Obj} (hg:h.get? x = some o) (hn:o.dict = none):∀ a,PySem.Value.ref x = .ref a→∃ o,h.get? a = some o∧o.dict = none:=by
  intro a e;injection e with e;subst e;exact ⟨o,hg,hn⟩
theorem cpos_of {o:Expr} {env:Env} {apos pos:Pos} (h:Nat.beq apos.endLine pos.line = true):methodCallPos true o env apos pos = pure pos:=by
  have h:=Nat.eq_of_beq_eq_true h
  have hb:(apos.endLine == pos.line) = true:=beq_iff_eq.mpr h
  unfold methodCallPos;simp [hb]
theorem swaps_of {e:Expr} {t:Option Expr} {n:Nat} {env:Env} (h:notComp e = true):swapsWith e t n env = pure false:=by
  cases e <;> first | rfl | cases h
section
variable {X:Cx} {ρ:Nat→Addr} {st:St} {s:Shared}
theorem keep_fn {K:Frag} {f:Addr} (h:fnIn K f = true):keepIn K (.ref f) = true:=by
  unfold fnIn at h
  unfold keepIn
  cases hl:K.lookup f with
  | none=>rw [hl] at h;cases h
  | some ob =>
    rw [hl] at h
    obtain ⟨a,b,d,e⟩:=ob
    cases d <;> first | (simp only [hl];done) | cases h
theorem ls_meth (R:SRep X ρ st s) {i:Nat} {xs:List SV} (hl:∃ (c:List (Addr × Obj)) (vs:List PySem.Value) (k:Nat),c = [(ρ i,PySem.W.listOf vs.toArray k)]∧∀ p ∈ c,s.heap.get? p.1 = some p.2) {name:PySem.Str} {pl:Sem Bool} (hn:strB name apS = true)
    {Q : PySem.Value × List PySem.Value → Shared → Prop} (hq : Q (.builtin "list.append", [.ref (ρ i)]) s) : wpAny X.M X.A (getMethod (.ref (ρ i)) name pl) Q X.E s := by
  obtain ⟨c,vs,k,rfl,hg⟩:=hl
  have hg:=hg _ (.head _)
  rw [strB_iff.mp hn,apS_eq]
  exact getMethod_builtin ⟨_,hg,rfl⟩ PySem.F.plainAttrs_list PySem.F.slot_list_append PySem.F.type_list_append (no_dict hg rfl) hq
theorem meth_ok (O:X.Ok) {o:SV} {vo:PySem.Value} {name:PySem.Str} {pl:Sem Bool} {k:SV→Prop} (h:methK X o name st k) (R:SRep X ρ st s) (r:VRep ρ st.objs.length o vo)
    {Q:PySem.Value × List PySem.Value→Shared→Prop} (hq:∀ f vf,k f→VRep ρ st.objs.length f vf→keepF X f = true→Q (vf,[vo]) s):wpAny X.M X.A (getMethod vo name pl) Q X.E s:=by
  obtain ⟨i,rfl,h⟩:=refK_of h
  obtain ⟨ob,ho,h⟩:=optK_of h
  obtain ⟨hi,rfl⟩:=r
  have R':=R
  obtain ⟨⟨m,chs,F,N,nd,LR,OR⟩,g1,g2,g3,pn⟩:=R
  obtain ⟨c,hc,rc⟩:=OR.at_ _ _ ho
  have hN:∀ p ∈ c,s.heap.get? p.1 = some p.2:=fun p hp=>(N _ (mem_at hc hp)).1
  cases ob with
  | inst C fs =>
    obtain ⟨e,h⟩:=unset_of h
    obtain ⟨f,hm,h⟩:=optK_of h
    obtain ⟨dx,es,k,rfl,fe,_⟩:=rc
    obtain ⟨a1,a2,a3,a4⟩:=O.W.meth C name f hm
    exact method_inst F O.K (InstAt.of_news N (mem_at hc (.head _)) (mem_at hc (.tail _ (.head _)))) a1 a2 a3 (getL_none fe e) (hq (.fn f) _ h rfl (keep_fn a4))
  | ba b =>
    cases rc
    have hg:=hN _ (.head _)
    cases e:strB name exS with
    | true =>
      have h:=gateB_t e h
      rw [strB_iff.mp e,exS_eq]
      exact getMethod_builtin ⟨_,hg,rfl⟩ plainAttrs_ba slot_ba_extend type_ba_extend (no_dict hg rfl) (hq (.bi .baExtend) _ h rfl rfl)
    | false =>
      obtain ⟨e,h⟩:=gate_of (gateB_f e h)
      rw [strB_iff.mp e,apS_eq]
      exact getMethod_builtin ⟨_,hg,rfl⟩ plainAttrs_ba slot_ba_append type_ba_append (no_dict hg rfl) (hq (.bi .baAppend) _ h rfl rfl)
  | list xs =>
    obtain ⟨e,h⟩:=gate_of h
    obtain ⟨vs,k,rfl,_⟩:=rc
    exact ls_meth R' (xs:=xs) ⟨_,vs,k,rfl,hN⟩ e (hq (.bi .lsAppend) _ h rfl rfl)
  | pl xs =>
    obtain ⟨e,h⟩:=gate_of h
    obtain ⟨vs,k,rfl,_⟩:=rc
    exact ls_meth R' (xs:=[]) ⟨_,vs,k,rfl,hN⟩ e (hq (.bi .lsAppend) _ h rfl rfl)
  | _=>exact h.elim
theorem form_of {args:List Expr} {pos:Pos} (h:okArgs args = true):methodCallForm (args.length + ([]:List Keyword).length) (backTo pos (starEach args X.env)) (backToKw pos (keywordEach [] X.env)) = true:=by
  obtain ⟨h1,h2⟩:=Bool.and_eq_true_iff.mp h
  have h3:=Nat.le_of_ble_eq_true h2
  unfold methodCallForm
  rw [star_form h1]
  show (true && (backToKw pos (keywordEach [] X.env)).all (·.1.isSome) && decide _) = true
  have:(backToKw pos (keywordEach [] X.env)) = []:=rfl
  rw [this]
  simp;lia
theorem new_ok {o : SObj} {svs : List SV} {vs : List PySem.Value} {T : String} {k : SV → St → Prop} (hT : T = "tuple" ∧ o = .tup svs ∨ T = "list" ∧ o = mkList svs) (R : SRep X ρ st s) (r : All2 (VRep ρ st.objs.length) svs vs)
    (h:k (.ref st.objs.length) (st.addObj o)):EvP X ρ st.objs.length k (.ref s.heap.objs.size) { s with heap:=s.heap.push { cls:=.type T,data:=.seq vs.toArray } }:=by
  obtain ⟨ρ',e1,e2,R'⟩:=R.alloc (o:=o) (a:=s.heap.objs.size) (c:=[(s.heap.objs.size,({ cls:=.type T,data:=.seq vs.toArray }:Obj))]) (h':=s.heap.push { cls:=.type T,data:=.seq vs.toArray }) (tk:=s.toks)
    (fun m F=>F.push _) (fun news N=>N.push (R.fr.choose_spec) _) (by simp) (fun news N p hp q hq=>by
      cases List.mem_singleton.mp hp
      exact (Nat.ne_of_lt (Heap.lt_size (N q hq).1)).symm)
    (fun ρ' e1 e2=>by
      have r':=r.mono fun _ _ q=>q.ext e1 (Nat.le_add_right _ 1)
      rcases hT with ⟨rfl,rfl⟩ | ⟨rfl,rfl⟩
      · exact ⟨vs,0,rfl,r'⟩
      · exact mkList_rep ⟨vs,0,rfl,r'⟩)
  refine ⟨ρ',.ref st.objs.length,st.addObj o,e1,?_,R',⟨?_,by rw [e2]⟩,h⟩
  · show _ ≤ (st.objs++[o]).length;simp
  · show _ < (st.objs++[o]).length;simp
theorem bindV {α:Type} {n:Nat} {k:SV→St→Prop} {t:Sem PySem.Value} {Q:PySem.Value→Shared→Prop} (h:wpR X.M X.A t (EvP X ρ n k) X.E s)
    (f:∀ ρ' sv st' v s',(∀ i,i < n→ρ' i = ρ i)→n ≤ st'.objs.length→SRep X ρ' st' s'→VRep ρ' st'.objs.length sv v→k sv st'→Q v s'):wpR X.M X.A t Q X.E s :=
  wpR_mono h (fun v s' q=>by obtain ⟨ρ',sv,st',a,b,c,d,e⟩:=q;exact f ρ' sv st' v s' a b c d e) fun _ _ x=>x
theorem wpE_ok (O:X.Ok):∀ n e st k,wpE X n e st k→Ev X (eval e X.env) st k
  | 0,e,st,k,h=>h.elim
  | n + 1,e,st,k,h=>by
    have IH:=wpE_ok O n
    cases e with
    | Constant c a p =>
      obtain ⟨v,e,h⟩:=optK_of h
      exact ⟨fun ρ s R=>const_ok e h R⟩
    | Name id p=>exact ⟨fun ρ s R=>name_ok O h R⟩
    | Attribute e a p =>
      obtain ⟨hb,h⟩:=gate_of h
      refine ⟨fun ρ s R=>r_Attr ?_ (by rw [arm_eval_Attribute,base_of hb])⟩
      exact bindV (α:=Unit) ((IH _ _ _ h).go ρ s R) fun ρ1 sv st1 v s1 x l R1 r1 k1=>wpR_mono (getA_ok O k1 R1 r1) (fun _ _ q=>q.up x l) fun _ _ x=>x
    | BinOp a op b p =>
      refine ⟨fun ρ s R=>r_BinOp ?_⟩
      refine bindV (α:=Unit) ((IH _ _ _ h).go ρ s R) fun ρ1 sv st1 v s1 x l R1 r1 k1=>?_
      refine bindV (α:=Unit) ((IH _ _ _ k1).go ρ1 s1 R1) fun ρ2 sv2 st2 v2 s2 x2 l2 R2 r2 k2=>?_
      exact wpR_mono (bin_ok k2 R2 (r1.ext x2 l2) r2) (fun _ _ q=>(q.up x2 l2).up x l) fun _ _ x=>x
    | UnaryOp op a p =>
      refine ⟨fun ρ s R=>r_Unary ?_⟩
      refine bindV (α:=Unit) ((IH _ _ _ h).go ρ s R) fun ρ1 sv st1 v s1 x l R1 r1 k1=>?_
      exact wpR_mono (un_ok k1 R1 r1) (fun _ _ q=>q.up x l) fun _ _ x=>x
    | Compare a ops rs p =>
      cases ops with
      | nil=>exact h
      | cons op ops =>
        cases ops with
        | cons _ _=>exact h
        | nil =>
          cases rs with
          | nil=>exact h
          | cons r rs =>
            cases rs with
            | cons _ _=>exact h
            | nil =>
              obtain ⟨hb,h⟩:=gate_of h
              refine ⟨fun ρ s R=>r_Compare ?_ (behind_of hb)⟩
              refine bindV (α:=Unit) ((IH _ _ _ h).go ρ s R) fun ρ1 sv st1 v s1 x l R1 r1 k1=>?_
              refine bindV (α:=Unit) ((IH _ _ _ k1).go ρ1 s1 R1) fun ρ2 sv2 st2 v2 s2 x2 l2 R2 r2 k2=>?_
              exact wpR_mono (cmp_ok k2 R2 (r1.ext x2 l2) r2) (fun _ _ q=>(q.up x2 l2).up x l) fun _ _ x=>x
    | Call f args kw pos =>
      cases f with
      | Attribute o name apos =>
        cases kw with
        | cons _ _=>exact h
        | nil =>
          obtain ⟨hc,h⟩:=gate_of h
          obtain ⟨hc,hl⟩:=Bool.and_eq_true_iff.mp hc
          obtain ⟨hb,ha⟩:=Bool.and_eq_true_iff.mp hc
          refine ⟨fun ρ s R=>?_⟩
          rw [arm_eval_Call,base_of hb]
          refine wpR_bind (bindV (α:=Unit) ((IH _ _ _ h).go ρ s R) fun ρ1 sv st1 v s1 x l R1 r1 k1=>?_)
          refine stand ?_
          unfold methodCall
          rw [form_of ha]
          refine wpR_bind (wpR_holding (.of (meth_ok O k1 R1 r1 fun f vf kf rf hk=>?_)))
          refine wpR_bind (wpR_of_eq (cpos_of hl) ?_)
          exact wpR_mono (cw_ok O IH hk ha rf (.cons r1 .nil) R1 kf) (fun _ _ q=>q.up x l) fun _ _ x=>x
      | Name id p =>
        cases kw with
        | cons _ _=>exact h
        | nil =>
          obtain ⟨ha,h⟩:=gate_of h
          refine ⟨fun ρ s R=>r_Call ?_ (by rfl)⟩
          refine bindV (α:=Unit) (name_ok O h R) fun ρ1 sv st1 v s1 x l R1 r1 k1=>?_
          obtain ⟨hk,k1⟩:=gate_of k1
          exact wpR_mono (cw_ok O IH hk ha r1 .nil R1 k1) (fun _ _ q=>q.up x l) fun _ _ x=>x
      | _=>exact h
    | Tuple es a p =>
      obtain ⟨ha,h⟩:=gate_of h
      obtain ⟨h1,h2⟩:=Bool.and_eq_true_iff.mp ha
      refine ⟨fun ρ s R=>r_Tuple (wpR_mono (evs_ok O IH h1 h R) (fun vs s1 q=>?_) fun _ _ x=>x)⟩
      obtain ⟨ρ1,svs,st1,x,l,R1,r1,k1⟩:=q
      obtain ⟨hz,k1⟩:=gate_of k1
      have hz:=Nat.le_of_ble_eq_true hz
      refine wpR.of (wpAny_newObj_type ((new_ok (.inl ⟨rfl,rfl⟩) R1 r1 k1).up x l) ?_)
      show vs.toArray.size ≤ sizeLine
      rw [List.size_toArray,← r1.length]
      exact Nat.le_trans hz (by decide)
    | List es p =>
      obtain ⟨ha,h⟩:=gate_of h
      obtain ⟨h1,h2⟩:=Bool.and_eq_true_iff.mp ha
      refine ⟨fun ρ s R=>r_List (wpR_mono (evs_ok O IH h1 h R) (fun vs s1 q=>?_) fun _ _ x=>x)⟩
      obtain ⟨ρ1,svs,st1,x,l,R1,r1,k1⟩:=q
      obtain ⟨hz,k1⟩:=gate_of k1
      have hz:=Nat.le_of_ble_eq_true hz
      refine wpR.of (wpAny_newObj_type ((new_ok (.inr ⟨rfl,rfl⟩) R1 r1 k1).up x l) ?_)
      show vs.toArray.size ≤ sizeLine
      rw [List.size_toArray,← r1.length]
      exact Nat.le_trans hz (by decide)
    | Subscript v t p =>
      have h:gateB (isSlice t) (Ev X (eval (.Subscript v t p) X.env) st k) (wpE X n v st fun o st1=>wpE X n t st1 fun i st2=>OpJ X (fun vs=>subscriptTail v t (vs.getD 0 .none) (vs.getD 1 .none)) [o,i] st2 k):=h
      cases hs:isSlice t with
      | true=>rw [hs] at h;exact h
      | false =>
        rw [hs] at h
        refine ⟨fun ρ s R=>r_Sub ?_⟩
        refine bindV (α:=Unit) ((IH _ _ _ h).go ρ s R) fun ρ1 sv st1 v s1 x l R1 r1 k1=>?_
        refine bindV (α:=Unit) ((IH _ _ _ k1).go ρ1 s1 R1) fun ρ2 sv2 st2 v2 s2 x2 l2 R2 r2 k2=>?_
        exact wpR_mono (k2.go ρ2 s2 _ R2 (all2_two (r1.ext x2 l2) r2)) (fun _ _ q=>(q.up x2 l2).up x l) fun _ _ x=>x
    | _=>exact h
end
end Mine
end
section
namespace Mine
noncomputable def Ts (X:Cx) (e:Expr) (st:St) (k:Bool→St→Prop):Prop:=∀ ρ s,SRep X ρ st s→wpR X.M X.A (isTrue e X.env (eval e X.env)) (BoP X ρ st.objs.length k) X.E s
section
variable {X:Cx} {ρ:Nat→Addr} {st:St} {s:Shared}
theorem plainT_eq {e:Expr} {env:Env} {t:Sem PySem.Value} (h:plainT e = true):isTrue e env t = (do let v ← t;standAt e.pos;holding [v] (truthy v)):=by
  cases e <;> first | rfl | cases h
theorem tests_ok {E':Expr→St→(Bool→St→Prop)→Prop} (H:∀ e st k,E' e st k→Ts X e st k) {op:BoolOp}:∀ {es:List Expr} {st:St} {k:Bool→St→Prop} {ρ:Nat→Addr} {s:Shared},tests E' op es st k→SRep X ρ st s →
    wpR X.M X.A (allTrue op es X.env) (BoP X ρ st.objs.length k) X.E s:=by
  intro es
  induction es with
  | nil=>exact fun h R=>wpR_pure ⟨_,_,fun _ _=>rfl,Nat.le_refl _,R,h⟩
  | cons e r ih =>
    intro st k ρ s h R
    refine wpR_bind (wpR_mono (H e st _ h ρ s R) (fun b s1 q=>?_) fun _ _ x=>x)
    obtain ⟨ρ1,st1,x1,l1,R1,k1⟩:=q
    cases op <;> cases b
    · exact wpR_pure ⟨ρ1,st1,x1,l1,R1,k1.2 rfl⟩
    · exact wpR_mono (ih (k1.1 rfl) R1) (fun _ _ q=>q.up x1 l1) fun _ _ x=>x
    · exact wpR_mono (ih (k1.2 rfl) R1) (fun _ _ q=>q.up x1 l1) fun _ _ x=>x
    · exact wpR_pure ⟨ρ1,st1,x1,l1,R1,k1.1 rfl⟩
theorem bindB {α:Type} {n:Nat} {k:Bool→St→Prop} {t:Sem Bool} {Q:Bool→Shared→Prop} (h:wpR X.M X.A t (BoP X ρ n k) X.E s)
    (f:∀ ρ' sv st' s',(∀ i,i < n→ρ' i = ρ i)→n ≤ st'.objs.length→SRep X ρ' st' s'→k sv st'→Q sv s'):wpR X.M X.A t Q X.E s :=
  wpR_mono h (fun v s' q=>by obtain ⟨ρ',st',a,b,c,e⟩:=q;exact f ρ' v st' s' a b c e) fun _ _ x=>x
theorem wpT_ok (O:X.Ok):∀ n e st k,wpT X n e st k→Ts X e st k
  | 0,e,st,k,h=>h.elim
  | n + 1,e,st,k,h=>by
    have IH:=wpT_ok O n
    intro ρ s R
    have plain:∀ {e:Expr},gateK (plainT e) (wpE X 40 e st (kTru k))→wpR X.M X.A (isTrue e X.env (eval e X.env)) (BoP X ρ st.objs.length k) X.E s:=fun {e} h=>by
      obtain ⟨hp,h⟩:=gate_of h
      refine r_isTrue ?_ (plainT_eq hp)
      refine bindV (α:=Unit) ((wpE_ok O _ _ _ _ h).go ρ s R) fun ρ1 sv st1 v s1 x l R1 r1 k1=>?_
      exact wpR_mono (truth_ok k1 R1 r1) (fun _ _ q=>q.up x l) fun _ _ x=>x
    cases e with
    | UnaryOp op x p =>
      cases op with
      | Not=>exact r_not (bindB (α:=Unit) (IH _ _ _ h ρ s R) fun ρ1 b st1 s1 x l R1 k1=>⟨ρ1,st1,x,l,R1,k1⟩)
      | _=>exact plain h
    | BoolOp op es p=>exact tests_ok IH h R
    | Compare l ops rs p =>
      cases ops with
      | nil=>exact plain h
      | cons op ops =>
        cases ops with
        | cons _ _=>exact plain h
        | nil =>
          cases rs with
          | nil=>exact plain h
          | cons r rs =>
            cases rs with
            | cons _ _=>exact plain h
            | nil =>
              obtain ⟨hb,h⟩:=gate_of h
              refine r_tCompare ?_ (behind_of hb)
              refine bindV (α:=Unit) ((wpE_ok O _ _ _ _ h).go ρ s R) fun ρ1 sv st1 v s1 x l R1 r1 k1=>?_
              refine bindV (α:=Unit) ((wpE_ok O _ _ _ _ k1).go ρ1 s1 R1) fun ρ2 sv2 st2 v2 s2 x2 l2 R2 r2 k2=>?_
              refine bindV (α:=Unit) (cmp_ok k2 R2 (r1.ext x2 l2) r2) fun ρ3 sv3 st3 v3 s3 x3 l3 R3 r3 k3=>?_
              exact wpR_mono (truth_ok k3 R3 r3) (fun _ _ q=>((q.up x3 l3).up x2 l2).up x l) fun _ _ x=>x
    | _=>exact plain h
noncomputable def Ss (X:Cx) (l:List Stmt) (st:St) (k:Fl→St→Prop):Prop:=∀ ρ s,SRep X ρ st s→wpR X.M X.A (execs l X.env) (FlP X k) X.E s
theorem FlP.one {k:Fl→St→Prop} (R:SRep X ρ st s) {f:Fl} {vf:Flow} (r:FRep ρ st.objs.length f vf) (h:k f st):FlP X k vf s:=⟨ρ,f,st,R,r,h⟩
theorem sss_ok {S:Stmt→St→(Fl→St→Prop)→Prop} (H:∀ t st k,S t st k→ExJ X t st k):∀ l st k,sss S l st k→Ss X l st k:=by
  intro l
  induction l with
  | nil=>exact fun st k h ρ s R=>r_execs_nil (.one R (f:=.next) rfl h)
  | cons t r ih =>
    intro st k h ρ s R
    refine r_execs_cons (wpR_mono ((H t st _ h).go ρ s R) (fun f s1 q=>?_) fun _ _ x=>x)
    obtain ⟨ρ1,fl,st1,R1,r1,k1⟩:=q
    cases fl with
    | next=>cases r1;exact ih st1 k k1 ρ1 s1 R1
    | brk=>cases r1;exact ⟨ρ1,.brk,st1,R1,rfl,k1⟩
    | cont=>cases r1;exact ⟨ρ1,.cont,st1,R1,rfl,k1⟩
    | ret v=>obtain ⟨w,rfl,rw'⟩:=r1;exact ⟨ρ1,.ret v,st1,R1,⟨w,rfl,rw'⟩,k1⟩
theorem isLocal_iff {x:PySem.Str} (h:isLocal X x = true):kindS x X.cs.names = some .local:=by
  unfold isLocal at h
  split at h
  · assumption
  · cases h
theorem inter_of (O:X.Ok):interactive X.env = false:=by
  unfold interactive
  show (X.cs.kind == .module && _) = false
  rw [O.kind];rfl
theorem wpS_ok (O:X.Ok):∀ n t st k,wpS X n t st k→ExJ X t st k
  | 0,e,st,k,h=>h.elim
  | n + 1,e,st,k,h=>by
    have IH:=wpS_ok O n
    have exprK:∀ {e:Expr} {q:Pos},gateK (notComp e) (wpE X 40 e st (kNxV k))→ExJ X (.Expr e q) st k:=fun {e q} h=>⟨fun ρ s R=>by
      obtain ⟨hc,h⟩:=gate_of h
      refine r_Expr ?_ (inter_of O) (swaps_of hc)
      exact bindV (α:=Unit) ((wpE_ok O _ _ _ _ h).go ρ s R) fun ρ1 sv st1 v s1 x l R1 r1 k1=>⟨ρ1,.next,st1,R1,rfl,k1⟩⟩
    cases e with
    | Pass p=>exact ⟨fun ρ s R=>wpR.of <| wpAny_Pass (.one R (f:=.next) rfl h)⟩
    | Expr e q =>
      cases e with
      | Call f args kw pos =>
        cases f with
        | Attribute o name apos =>
          cases kw with
          | cons _ _=>exact exprK h
          | nil =>
            refine ⟨fun ρ s R=>?_⟩
            obtain ⟨hc,h⟩:=gate_of h
            obtain ⟨hc,hl⟩:=Bool.and_eq_true_iff.mp hc
            obtain ⟨hb,ha⟩:=Bool.and_eq_true_iff.mp hc
            refine r_Expr ?_ (inter_of O) (swaps_of rfl)
            rw [arm_eval_Call,base_of hb]
            refine wpR_bind (bindV (α:=Unit) ((wpE_ok O _ _ _ _ h).go ρ s R) fun ρ1 sv st1 v s1 x l R1 r1 k1=>?_)
            refine stand ?_
            unfold methodCall
            rw [form_of ha]
            refine wpR_bind (wpR_holding (.of (meth_ok O k1 R1 r1 fun f vf kf rf hk=>?_)))
            refine wpR_bind (wpR_of_eq (cpos_of hl) ?_)
            exact wpR_mono (cwS_ok O (wpE_ok O 40) hk ha rf (.cons r1 .nil) R1 kf) (fun _ _ q=>by obtain ⟨ρ',st',R',q⟩:=q;exact ⟨ρ',.next,st',R',rfl,q⟩) fun _ _ x=>x
        | _=>exact exprK h
      | _=>exact exprK h
    | Return v p =>
      cases v with
      | none =>
        refine ⟨fun ρ s R=>?_⟩
        rw [exec_Return_none]
        exact stand (wpR_pure (FlP.one R (f:=.ret .none) ⟨_,rfl,rfl⟩ h))
      | some e =>
        refine ⟨fun ρ s R=>?_⟩
        rw [exec_Return_some]
        refine stand (wpR_bind ?_)
        exact bindV (α:=Unit) ((wpE_ok O _ _ _ _ h).go ρ s R) fun ρ1 sv st1 v s1 x l R1 r1 k1=>wpR_pure ⟨ρ1,.ret sv,st1,R1,⟨_,rfl,r1⟩,k1⟩
    | Assign ts e q =>
      cases ts with
      | nil=>exact h
      | cons t ts =>
        cases ts with
        | cons _ _=>cases t <;> exact h
        | nil =>
          cases t with
          | Name x p =>
            cases hc:notComp e with
            | false =>
              have h:gateB (notComp e) (wpE X 40 e st (kAs X x (kNx k))) (ExJ X (.Assign [.Name x p] e q) st k):=h
              rw [hc] at h;exact h
            | true =>
              have h:gateB (notComp e) (wpE X 40 e st (kAs X x (kNx k))) (ExJ X (.Assign [.Name x p] e q) st k):=h
              rw [hc] at h
              refine ⟨fun ρ s R=>r_AsName ?_ (swaps_of hc)⟩
              refine bindV (α:=Unit) ((wpE_ok O _ _ _ _ h).go ρ s R) fun ρ1 sv st1 v s1 x l R1 r1 k1=>?_
              exact wpR_mono (storeK_ok O k1 R1 r1) (fun _ s2 q=>by obtain ⟨st2,R2,k2⟩:=q;exact ⟨ρ1,.next,st2,R2,rfl,k2⟩) fun _ _ x=>x
          | Attribute o a p =>
            refine ⟨fun ρ s R=>?_⟩
            obtain ⟨hc,h⟩:=gate_of h
            refine r_AsAttr ?_ (swaps_of hc)
            refine bindV (α:=Unit) ((wpE_ok O _ _ _ _ h).go ρ s R) fun ρ1 sv st1 v s1 x l R1 r1 k1=>?_
            refine bindV (α:=Unit) ((wpE_ok O _ _ _ _ k1).go ρ1 s1 R1) fun ρ2 sv2 st2 v2 s2 x2 l2 R2 r2 k2=>?_
            refine wpR_mono (setA_ok O k2 R2 r2 (r1.ext x2 l2)) (fun _ s3 q=>?_) fun _ _ x=>x
            obtain ⟨ρ3,st3,x3,l3,R3,k3⟩:=q
            exact ⟨ρ3,.next,st3,R3,rfl,k3⟩
          | Subscript o i p =>
            refine ⟨fun ρ s R=>?_⟩
            obtain ⟨hc,h⟩:=gate_of h
            refine r_AsSub ?_ (swaps_of hc)
            refine bindV (α:=Unit) ((wpE_ok O _ _ _ _ h).go ρ s R) fun ρ1 sv st1 v s1 x l R1 r1 k1=>?_
            refine bindV (α:=Unit) ((wpE_ok O _ _ _ _ k1).go ρ1 s1 R1) fun ρ2 sv2 st2 v2 s2 x2 l2 R2 r2 k2=>?_
            refine bindV (α:=Unit) ((wpE_ok O _ _ _ _ k2).go ρ2 s2 R2) fun ρ3 sv3 st3 v3 s3 x3 l3 R3 r3 k3=>?_
            refine wpR_mono (k3.go ρ3 s3 [v,v2,v3] R3 (.cons ((r1.ext x2 l2).ext x3 l3) (.cons (r2.ext x3 l3) (.cons r3 .nil)))) (fun _ s4 q=>?_) fun _ _ x=>x
            obtain ⟨ρ4,st4,x4,l4,R4,k4⟩:=q
            exact ⟨ρ4,.next,st4,R4,rfl,k4⟩
          | _=>exact h
    | AugAssign t op e p =>
      cases t with
      | Name x p' =>
        refine ⟨fun ρ s R=>?_⟩
        obtain ⟨hl,h⟩:=gate_of h
        obtain ⟨old,e,h⟩:=optK_of h
        refine r_AugName (.of (load_local O R e (isLocal_iff hl) fun v r=>?_))
        refine bindV (α:=Unit) ((wpE_ok O _ _ _ _ h).go ρ s R) fun ρ1 sv st1 v s1 x l R1 r1 k1=>?_
        refine bindV (α:=Unit) (inp_ok k1 R1 (r.ext x l) r1) fun ρ2 sv2 st2 v2 s2 x2 l2 R2 r2 k2=>?_
        exact wpR.of <| store_local O R2 r2 (isLocal_iff hl) fun s3 R3=>⟨ρ2,.next,st2.put _ sv2,R3,rfl,k2⟩
      | Attribute o a p' =>
        refine ⟨fun ρ s R=>r_AugAttr ?_⟩
        refine bindV (α:=Unit) ((wpE_ok O _ _ _ _ h).go ρ s R) fun ρ1 sv st1 v s1 x l R1 r1 k1=>?_
        refine bindV (α:=Unit) (getA_ok O k1 R1 r1) fun ρ2 sv2 st2 v2 s2 x2 l2 R2 r2 k2=>?_
        refine bindV (α:=Unit) ((wpE_ok O _ _ _ _ k2).go ρ2 s2 R2) fun ρ3 sv3 st3 v3 s3 x3 l3 R3 r3 k3=>?_
        refine bindV (α:=Unit) (inp_ok k3 R3 (r2.ext x3 l3) r3) fun ρ4 sv4 st4 v4 s4 x4 l4 R4 r4 k4=>?_
        refine wpR_mono (setA_ok O k4 R4 (((r1.ext x2 l2).ext x3 l3).ext x4 l4) r4) (fun _ s5 q=>?_) fun _ _ x=>x
        obtain ⟨ρ5,st5,x5,l5,R5,k5⟩:=q
        exact ⟨ρ5,.next,st5,R5,rfl,k5⟩
      | _=>exact h
    | If c b o p =>
      refine ⟨fun ρ s R=>r_If (bindB (α:=Unit) (wpT_ok O _ _ _ _ h ρ s R) fun ρ1 b st1 s1 x l R1 k1=>?_)⟩
      cases b
      · exact sss_ok IH _ _ _ (k1.2 rfl) ρ1 s1 R1
      · exact sss_ok IH _ _ _ (k1.1 rfl) ρ1 s1 R1
    | _=>exact h
theorem body_ok (O:X.Ok) {n:Nat} {l:List Stmt} {st:St} {k:Fl→St→Prop} (h:sss (wpS X n) l st k):Ss X l st k:=sss_ok (wpS_ok O n) l st k h
end
end Mine
end
section
namespace Mine
noncomputable def SV.ren (κ:Nat→Nat):SV→SV
  | .ref i=>.ref (κ i)
  | v=>v
noncomputable def SObj.ren (κ:Nat→Nat):SObj→SObj
  | .inst C fs=>.inst C (fs.map fun f=>(f.1,f.2.ren κ))
  | .list xs=>.list (xs.map (SV.ren κ))
  | .tup xs=>.tup (xs.map (SV.ren κ))
  | .lit l i=>.lit (κ l) i
  | .cell v=>.cell (v.map (SV.ren κ))
  | .tl m i j l=>.tl m (κ i) (κ j) (κ l)
  | o=>o
noncomputable def SV.clo (n:Nat):SV→Bool
  | .ref i=>Nat.blt i n
  | _=>true
noncomputable def SObj.clo (n:Nat):SObj→Bool
  | .inst _ fs=>fs.all fun f=>f.2.clo n
  | .list xs=>xs.all (SV.clo n)
  | .tup xs=>xs.all (SV.clo n)
  | .lit l _=>Nat.blt l n
  | .cell v=>v.all (SV.clo n)
  | .tl _ i j l=>Nat.blt i n && (Nat.blt j n && Nat.blt l n)
  | _=>true
noncomputable def NDx (chs:List (List (Addr × Obj))):Prop :=
  (∀ (i:Nat) (c:List (Addr × Obj)),chs[i]? = some c→(c.map (·.1)).Nodup)∧∀ (i j:Nat) (c d:List (Addr × Obj)),i ≠ j→chs[i]? = some c→chs[j]? = some d→∀ p ∈ c,∀ q ∈ d,p.1 ≠ q.1
theorem nd_iff:∀ {chs:List (List (Addr × Obj))},(chs.flatten.map (·.1)).Nodup ↔ NDx chs
  | []=>⟨fun _=>⟨fun i c e=>by simp at e,fun i j c d _ e=>by simp at e⟩,fun _=>by simp⟩
  | x :: r=>by
    have IH:=@nd_iff r
    rw [List.flatten_cons,List.map_append,List.nodup_append,IH]
    constructor
    · rintro ⟨h1,⟨h2,h3⟩,h4⟩
      have cross:∀ (j:Nat) (d:List (Addr × Obj)),r[j]? = some d→∀ p ∈ x,∀ q ∈ d,p.1 ≠ q.1:=fun j d e p hp q hq =>
        h4 _ (List.mem_map_of_mem hp) _ (List.mem_map_of_mem (List.mem_flatten.mpr ⟨d,List.mem_of_getElem? e,hq⟩))
      refine ⟨fun i c e=>?_,fun i j c d hij ei ej=>?_⟩
      · cases i with
        | zero=>simp at e;subst e;exact h1
        | succ i=>exact h2 i c (by simpa using e)
      · cases i with
        | zero =>
          simp at ei;subst ei
          cases j with
          | zero=>exact absurd rfl hij
          | succ j=>exact cross j d (by simpa using ej)
        | succ i =>
          cases j with
          | zero =>
            simp at ej;subst ej
            exact fun p hp q hq e=>cross i c (by simpa using ei) q hq p hp e.symm
          | succ j=>exact h3 i j c d (by lia) (by simpa using ei) (by simpa using ej)
    · rintro ⟨h1,h2⟩
      refine ⟨h1 0 x (by simp),⟨fun i c e=>h1 (i + 1) c (by simpa using e),fun i j c d hij ei ej=>h2 (i + 1) (j + 1) c d (by lia) (by simpa using ei) (by simpa using ej)⟩,?_⟩
      intro a ha b hb
      obtain ⟨p,hp,rfl⟩:=List.mem_map.mp ha
      obtain ⟨q,hq,rfl⟩:=List.mem_map.mp hb
      obtain ⟨d,hd,hqd⟩:=List.mem_flatten.mp hq
      obtain ⟨j,hj⟩:=List.mem_iff_getElem?.mp hd
      exact h2 0 (j + 1) x d (by lia) (by simp) (by simpa using hj) p hp q hqd
theorem snoc_at {α:Type} {l:List α} {a q:α} {i:Nat} (h:(l++[a])[i]? = some q):l[i]? = some q ∨ (i = l.length∧q = a):=by
  rcases Nat.lt_trichotomy i l.length with hi | rfl | hi
  · rw [List.getElem?_append_left hi] at h;exact .inl h
  · rw [List.getElem?_append_right (Nat.le_refl _),Nat.sub_self] at h;exact .inr ⟨rfl,(Option.some.inj h).symm⟩
  · rw [List.getElem?_eq_none (by rw [List.length_append];exact hi)] at h;cases h
theorem NDx.snoc {chs:List (List (Addr × Obj))} {c:List (Addr × Obj)} (d:NDx chs) (hc:(c.map (·.1)).Nodup) (h:∀ (i:Nat) (q:List (Addr × Obj)),chs[i]? = some q→∀ p ∈ q,∀ p' ∈ c,p.1 ≠ p'.1):NDx (chs++[c]):=by
  refine ⟨fun i q hq=>?_,fun i j q r hij hi hj=>?_⟩
  · rcases snoc_at hq with h' | ⟨_,rfl⟩
    · exact d.1 _ _ h'
    · exact hc
  · rcases snoc_at hi with h' | ⟨h',rfl⟩ <;> rcases snoc_at hj with h'' | ⟨h'',rfl⟩
    · exact d.2 _ _ _ _ hij h' h''
    · exact h i q h'
    · exact fun p hp p' hp' e=>h j r h'' p' hp' p hp e.symm
    · exact absurd (h'.trans h''.symm) hij
structure Out where
  gn:Array GenState
  dr:Drawn
  os:OsState
inductive HEx (g h:Heap) (ρ:Nat→Addr) (objs:List SObj):Prop
  | mk (chs:List (List (Addr × Obj))) (a:∀ b o,g.get? b = some o→h.get? b = some o) (b:g.objs.size ≤ h.objs.size) (c:∀ (i:Nat) (c:List (Addr × Obj)),chs[i]? = some c→∀ p ∈ c,h.get? p.1 = some p.2∧g.get? p.1 = none) (d:NDx chs) (e:OReps ρ objs chs)
structure HRep (g:Heap) (u:Out) (ρ:Nat→Addr) (objs:List SObj) (s:Shared):Prop where
  ex:HEx g s.heap ρ objs
  gn:s.gens = u.gn
  dr:s.drawn = u.dr
  os:s.os = u.os
theorem VRep.sel {ρ:Nat→Addr} {κ:Nat→Nat} {n n2:Nat} {v:SV} {x:PySem.Value} (h:VRep ρ n (v.ren κ) x) (c:v.clo n2 = true):VRep (fun i=>ρ (κ i)) n2 v x:=by
  cases v <;> try exact h
  exact ⟨Nat.le_of_ble_eq_true c,h.2⟩
theorem all2_sel {ρ:Nat→Addr} {κ:Nat→Nat} {n n2:Nat}:∀ {xs:List SV} {vs:List PySem.Value},All2 (VRep ρ n) (xs.map (SV.ren κ)) vs→xs.all (SV.clo n2) = true→All2 (VRep (fun i=>ρ (κ i)) n2) xs vs
  | [],_,h,_=>by cases h;exact .nil
  | x :: r,_,h,c=>by
    cases h with
    | cons a b =>
      rw [List.all_cons,Bool.and_eq_true] at c
      exact .cons (a.sel c.1) (all2_sel b c.2)
theorem fent_sel {ρ:Nat→Addr} {κ:Nat→Nat} {n n2:Nat}:∀ {xs:List (PySem.Str × SV)} {vs:List DictEntry},All2 (FEnt ρ n) (xs.map fun f=>(f.1,f.2.ren κ)) vs→(xs.all fun f=>f.2.clo n2) = true→All2 (FEnt (fun i=>ρ (κ i)) n2) xs vs
  | [],_,h,_=>by cases h;exact .nil
  | x :: r,_,h,c=>by
    cases h with
    | cons a b =>
      rw [List.all_cons,Bool.and_eq_true] at c
      exact .cons ⟨a.1,a.2.sel c.1⟩ (fent_sel b c.2)
theorem pl_free {ρ ρ':Nat→Addr} {n n':Nat} {xs:List PV} {vs:List PySem.Value} (h:All2 (VRep ρ n) (xs.map PV.sv) vs):All2 (VRep ρ' n') (xs.map PV.sv) vs:=by
  induction xs generalizing vs with
  | nil=>cases h;exact .nil
  | cons x r ih =>
    cases h with
    | cons a b=>exact .cons (by cases x <;> exact a) (ih b)
theorem ORep.sel {ρ:Nat→Addr} {κ:Nat→Nat} {n n2:Nat} {a:Addr} {o:SObj} {ch:List (Addr × Obj)} (h:ORep ρ n a (o.ren κ) ch) (c:o.clo n2 = true):ORep (fun i=>ρ (κ i)) n2 a o ch:=by
  cases o with
  | inst C fs=>obtain ⟨dx,es,k,e,y,z⟩:=h;exact ⟨dx,es,k,e,fent_sel y c,by simpa using z⟩
  | list xs=>obtain ⟨vs,k,e,y⟩:=h;exact ⟨vs,k,e,all2_sel y c⟩
  | pl xs=>obtain ⟨vs,k,e,y⟩:=h;exact ⟨vs,k,e,pl_free y⟩
  | tup xs=>obtain ⟨vs,k,e,y⟩:=h;exact ⟨vs,k,e,all2_sel y c⟩
  | ba b=>exact h
  | lit l i=>exact ⟨Nat.le_of_ble_eq_true c,h.2⟩
  | cell v =>
    cases v with
    | none=>exact h
    | some v=>obtain ⟨o,u,e,d,y⟩:=h;exact ⟨o,u,e,d,y.sel c⟩
  | raw P=>exact h
  | gone=>exact h
  | tl m i j l =>
    obtain ⟨c1,c2⟩:=Bool.and_eq_true_iff.mp c
    obtain ⟨c2,c3⟩:=Bool.and_eq_true_iff.mp c2
    exact ⟨Nat.le_of_ble_eq_true c1,Nat.le_of_ble_eq_true c2,Nat.le_of_ble_eq_true c3,h.2.2.2⟩
  | pt o =>
    cases o with
    | none=>exact h
    | some xs=>obtain ⟨vs,k,e,y⟩:=h;exact ⟨vs,k,e,pl_free y⟩
theorem VRep.back {ρ ρ':Nat→Addr} {κ:Nat→Nat} {n n2:Nat} {v:SV} {x:PySem.Value} (h:VRep ρ' n2 v x) (e:∀ i,i < n2→ρ' i = ρ (κ i)) (l:∀ i,i < n2→κ i < n):VRep ρ n (v.ren κ) x:=by
  cases v <;> try exact h
  obtain ⟨a,b⟩:=h
  exact ⟨l _ a,by rw [b,e _ a]⟩
theorem all2_map {α β γ:Type} {R:α→γ→Prop} {S:β→γ→Prop} {f:α→β} {xs:List α} {vs:List γ} (h:All2 R xs vs) (k:∀ a b,R a b→S (f a) b):All2 S (xs.map f) vs:=by
  induction h with
  | nil=>exact .nil
  | cons a _ ih=>exact .cons (k _ _ a) ih
theorem ORep.back {ρ ρ':Nat→Addr} {κ:Nat→Nat} {n n2:Nat} {a:Addr} {o:SObj} {ch:List (Addr × Obj)} (h:ORep ρ' n2 a o ch) (e:∀ i,i < n2→ρ' i = ρ (κ i)) (l:∀ i,i < n2→κ i < n):ORep ρ n a (o.ren κ) ch:=by
  cases o with
  | inst C fs=>obtain ⟨dx,es,k,e',y,z⟩:=h;exact ⟨dx,es,k,e',all2_map y fun _ _ q=>⟨q.1,q.2.back e l⟩,by simpa using z⟩
  | list xs=>obtain ⟨vs,k,e',y⟩:=h;exact ⟨vs,k,e',all2_map y fun _ _ q=>q.back e l⟩
  | pl xs=>obtain ⟨vs,k,e',y⟩:=h;exact ⟨vs,k,e',pl_free y⟩
  | tup xs=>obtain ⟨vs,k,e',y⟩:=h;exact ⟨vs,k,e',all2_map y fun _ _ q=>q.back e l⟩
  | ba b=>exact h
  | lit j i=>obtain ⟨x1,o,x2,x3,x4⟩:=h;exact ⟨l _ x1,o,x2,x3,by rw [x4,e _ x1]⟩
  | cell v =>
    cases v with
    | none=>exact h
    | some v=>obtain ⟨o,u,e',d,y⟩:=h;exact ⟨o,u,e',d,y.back e l⟩
  | raw P=>exact h
  | gone=>exact h
  | tl m i j q=>obtain ⟨x1,x2,x3,x4⟩:=h;exact ⟨l _ x1,l _ x2,l _ x3,by rw [← e _ x1,← e _ x2,← e _ x3];exact x4⟩
  | pt o =>
    cases o with
    | none=>exact h
    | some xs=>obtain ⟨vs,k,e',y⟩:=h;exact ⟨vs,k,e',pl_free y⟩
noncomputable def SObj.isGone:SObj→Bool
  | .gone=>true
  | _=>false
noncomputable def pickL (κ:Nat→Nat) (objs:List SObj):Nat→List SObj→List (Option SObj)
  | _,[]=>[]
  | j,_ :: r=>objs[κ j]? :: pickL κ objs (j + 1) r
noncomputable def gone1 (b:Bool) (k:Nat) (objs:List SObj):Option SObj:=match b with
  | true=>match Nat.blt k objs.length with
    | true=>some .gone
    | false=>none
  | false=>objs[k]?
noncomputable def pickG (κ:Nat→Nat) (objs:List SObj):Nat→List SObj→List (Option SObj)
  | _,[]=>[]
  | j,o :: r=>gone1 o.isGone (κ j) objs :: pickG κ objs (j + 1) r
theorem pickL_at {κ:Nat→Nat} {objs:List SObj}:∀ {l:List SObj} {j i:Nat} {o:SObj},l[i]? = some o→(pickL κ objs j l)[i]? = some objs[κ (j + i)]?
  | [],_,_,_,e=>by simp at e
  | x :: r,j,0,o,e=>rfl
  | x :: r,j,i + 1,o,e=>by
    have:=pickL_at (κ:=κ) (objs:=objs) (j:=j + 1) (i:=i) (by simpa using e)
    rw [show j + 1 + i = j + (i + 1) by lia] at this
    exact this
theorem pickG_at {κ:Nat→Nat} {objs:List SObj}:∀ {l:List SObj} {j i:Nat} {o:SObj},l[i]? = some o→(pickG κ objs j l)[i]? = some (gone1 o.isGone (κ (j + i)) objs)
  | [],_,_,_,e=>by simp at e
  | x :: r,j,0,o,e=>by cases e;rfl
  | x :: r,j,i + 1,o,e=>by
    have:=pickG_at (κ:=κ) (objs:=objs) (j:=j + 1) (i:=i) (by simpa using e)
    rw [show j + 1 + i = j + (i + 1) by lia] at this
    exact this
noncomputable def selL (κ:Nat→Nat) (objs:List SObj) (n2:Nat) (j:Nat) (l:List SObj):Prop:=pickL κ objs j l = l.map (fun o=>some (o.ren κ))∧l.all (SObj.clo n2) = true
noncomputable def selG (κ:Nat→Nat) (objs:List SObj) (n2:Nat) (j:Nat) (l:List SObj):Prop:=pickG κ objs j l = l.map (fun o=>some (o.ren κ))∧l.all (SObj.clo n2) = true
theorem all_at {α:Type} {p:α→Bool} {l:List α} {i:Nat} {a:α} (h:l.all p = true) (e:l[i]? = some a):p a = true:=List.all_eq_true.mp h a (List.mem_of_getElem? e)
theorem selL_at {κ:Nat→Nat} {objs:List SObj} {n2:Nat} {l:List SObj} {j i:Nat} {o:SObj} (h:selL κ objs n2 j l) (e:l[i]? = some o):objs[κ (j + i)]? = some (o.ren κ)∧o.clo n2 = true:=by
  have h1:=pickL_at (κ:=κ) (objs:=objs) (j:=j) e
  rw [h.1,List.getElem?_map,e] at h1
  exact ⟨(Option.some.inj h1).symm,all_at h.2 e⟩
theorem selG_at {κ:Nat→Nat} {objs:List SObj} {n2:Nat} {l:List SObj} {j i:Nat} {o:SObj} (h:selG κ objs n2 j l) (e:l[i]? = some o):(o.isGone = true∧κ (j + i) < objs.length) ∨ (o.isGone = false∧objs[κ (j + i)]? = some (o.ren κ)∧o.clo n2 = true):=by
  have h1:=pickG_at (κ:=κ) (objs:=objs) (j:=j) e
  rw [h.1,List.getElem?_map,e] at h1
  have h2:=(Option.some.inj h1).symm
  unfold gone1 at h2
  cases hg:o.isGone with
  | true =>
    rw [hg] at h2
    refine .inl ⟨rfl,?_⟩
    cases hb:Nat.blt (κ (j + i)) objs.length with
    | true=>exact Nat.le_of_ble_eq_true hb
    | false=>rw [hb] at h2;cases h2
  | false =>
    rw [hg] at h2
    exact .inr ⟨rfl,h2,all_at h.2 e⟩
theorem selG_of {κ:Nat→Nat} {objs:List SObj} {n2:Nat} {l:List SObj} {j:Nat} (h:selL κ objs n2 j l):selG κ objs n2 j l:=by
  have key:∀ (l:List SObj) (j:Nat),pickL κ objs j l = l.map (fun o=>some (o.ren κ))→pickG κ objs j l = l.map (fun o=>some (o.ren κ)):=fun l=>by
    induction l with
    | nil=>intro j _;rfl
    | cons x r ih =>
      intro j h
      obtain ⟨h1,h2⟩:=List.cons.inj h
      show gone1 _ _ _ :: _ = _ :: _
      rw [ih _ h2]
      congr 1
      cases x <;> first | exact h1 | (have:=(List.getElem?_eq_some_iff.mp h1).1;show (match Nat.blt (κ j) objs.length with | true=>some SObj.gone | false=>none) = _;rw [show Nat.blt (κ j) objs.length = true from Nat.ble_eq_true_of_le this];rfl)
  exact ⟨key l j h.1,h.2⟩
noncomputable def inU (U:List Nat) (i:Nat):Bool:=U.any fun k=>Nat.beq k i
noncomputable def SV.av (U:List Nat):SV→Bool
  | .ref i=>!inU U i
  | _=>true
noncomputable def SObj.av (U:List Nat):SObj→Bool
  | .inst _ fs=>fs.all fun f=>f.2.av U
  | .list xs=>xs.all (SV.av U)
  | .tup xs=>xs.all (SV.av U)
  | .lit l _=>!inU U l
  | .cell v=>v.all (SV.av U)
  | .tl _ i j l=>!inU U i && (!inU U j && !inU U l)
  | _=>true
theorem VRep.av {ρ ρ':Nat→Addr} {n n':Nat} {U:List Nat} (h:∀ i,i < n→inU U i = false→ρ' i = ρ i) (l:n ≤ n') {sv:SV} {v:PySem.Value} (x:VRep ρ n sv v) (a:sv.av U = true):VRep ρ' n' sv v:=by
  cases sv <;> try exact x
  obtain ⟨b,c⟩:=x
  exact ⟨Nat.lt_of_lt_of_le b l,by rw [c,h _ b ((Bool.not_eq_true' _).mp a)]⟩
theorem all2_av {ρ ρ':Nat→Addr} {n n':Nat} {U:List Nat} (h:∀ i,i < n→inU U i = false→ρ' i = ρ i) (l:n ≤ n'):∀ {xs:List SV} {vs:List PySem.Value},All2 (VRep ρ n) xs vs→xs.all (SV.av U) = true→All2 (VRep ρ' n') xs vs
  | [],_,x,_=>by cases x;exact .nil
  | y :: r,_,x,a=>by
    cases x with
    | cons p q =>
      rw [List.all_cons,Bool.and_eq_true] at a
      exact .cons (p.av h l a.1) (all2_av h l q a.2)
theorem fent_av {ρ ρ':Nat→Addr} {n n':Nat} {U:List Nat} (h:∀ i,i < n→inU U i = false→ρ' i = ρ i) (l:n ≤ n'):∀ {xs:List (PySem.Str × SV)} {vs:List DictEntry},All2 (FEnt ρ n) xs vs→(xs.all fun f=>f.2.av U) = true→All2 (FEnt ρ' n') xs vs
  | [],_,x,_=>by cases x;exact .nil
  | y :: r,_,x,a=>by
    cases x with
    | cons p q =>
      rw [List.all_cons,Bool.and_eq_true] at a
      exact .cons ⟨p.1,p.2.av h l a.1⟩ (fent_av h l q a.2)
theorem ORep.av {ρ ρ':Nat→Addr} {n n':Nat} {U:List Nat} (h:∀ i,i < n→inU U i = false→ρ' i = ρ i) (l:n ≤ n') {a:Addr} {o:SObj} {ch:List (Addr × Obj)} (x:ORep ρ n a o ch) (v:o.av U = true):ORep ρ' n' a o ch:=by
  cases o with
  | inst C fs=>obtain ⟨dx,es,k,e,y,z⟩:=x;exact ⟨dx,es,k,e,fent_av h l y v,z⟩
  | list xs=>obtain ⟨vs,k,e,y⟩:=x;exact ⟨vs,k,e,all2_av h l y v⟩
  | pl xs=>obtain ⟨vs,k,e,y⟩:=x;exact ⟨vs,k,e,pl_free y⟩
  | tup xs=>obtain ⟨vs,k,e,y⟩:=x;exact ⟨vs,k,e,all2_av h l y v⟩
  | ba b=>exact x
  | lit j i=>obtain ⟨x1,o,x2,x3,x4⟩:=x;exact ⟨Nat.lt_of_lt_of_le x1 l,o,x2,x3,by rw [h _ x1 ((Bool.not_eq_true' _).mp v)];exact x4⟩
  | cell w =>
    cases w with
    | none=>exact x
    | some w=>obtain ⟨o,u,e,d,y⟩:=x;exact ⟨o,u,e,d,y.av h l v⟩
  | raw P=>exact x
  | gone=>exact x
  | tl m i j q =>
    obtain ⟨v1,v2⟩:=Bool.and_eq_true_iff.mp v
    obtain ⟨v2,v3⟩:=Bool.and_eq_true_iff.mp v2
    obtain ⟨x1,x2,x3,x4⟩:=x
    exact ⟨Nat.lt_of_lt_of_le x1 l,Nat.lt_of_lt_of_le x2 l,Nat.lt_of_lt_of_le x3 l,by rw [h _ x1 ((Bool.not_eq_true' _).mp v1),h _ x2 ((Bool.not_eq_true' _).mp v2),h _ x3 ((Bool.not_eq_true' _).mp v3)];exact x4⟩
  | pt o =>
    cases o with
    | none=>exact x
    | some xs=>obtain ⟨vs,k,e,y⟩:=x;exact ⟨vs,k,e,pl_free y⟩
noncomputable def kap (ι:List Nat) (n:Nat) (i:Nat):Nat:=match ι[i]? with
  | some k=>k
  | none=>n + (i - ι.length)
end Mine
end
section
namespace Mine
theorem lt_of_some {α:Type} {l:List α} {i:Nat} {a:α} (h:l[i]? = some a):i < l.length:=(List.getElem?_eq_some_iff.mp h).1
theorem some_of_lt {α:Type} {l:List α} {i:Nat} (h:i < l.length):∃ a,l[i]? = some a:=⟨l[i],List.getElem?_eq_getElem h⟩
noncomputable def pickC (o:SObj) (c:List (Addr × Obj)):List (Addr × Obj):=if o.isGone = true then [] else c
theorem reps_sel {ρ:Nat→Addr} {objs objs2:List SObj} {chs:List (List (Addr × Obj))} {κ:Nat→Nat} (OR:OReps ρ objs chs) (nd:NDx chs) (h:selG κ objs objs2.length 0 objs2)
    (inj:∀ i j,i < objs2.length→j < objs2.length→i ≠ j→κ i ≠ κ j) :
    ∃ chs2,OReps (fun i=>ρ (κ i)) objs2 chs2∧NDx chs2∧∀ j c,chs2[j]? = some c→j < objs2.length∧κ j < objs.length∧(c = [] ∨ chs[κ j]? = some c):=by
  let f:Nat→List (Addr × Obj):=fun j=>pickC ((objs2[j]?).getD .gone) ((chs[κ j]?).getD [])
  have key:∀ j,j < objs2.length→∃ o,objs2[j]? = some o∧κ j < objs.length∧(f j = [] ∨ chs[κ j]? = some (f j))∧ORep (fun i=>ρ (κ i)) objs2.length (ρ (κ j)) o (f j):=fun j hj=>by
    obtain ⟨o,ho⟩:=some_of_lt hj
    rcases selG_at h ho with ⟨h1,h2⟩ | ⟨h0,h1,h2⟩
    · rw [Nat.zero_add] at h2
      have hf:f j = []:=by
        show pickC ((objs2[j]?).getD .gone) _ = _
        rw [ho]
        exact if_pos h1
      refine ⟨o,ho,h2,.inl hf,?_⟩
      cases o <;> first | exact hf | cases h1
    · rw [Nat.zero_add] at h1
      obtain ⟨c,hc,r⟩:=OR.at_ _ _ h1
      have hf:f j = c:=by
        show pickC ((objs2[j]?).getD .gone) _ = _
        rw [ho,hc]
        exact if_neg (by show ¬ o.isGone = true;rw [h0];decide)
      exact ⟨o,ho,lt_of_some h1,.inr (hf ▸ hc),hf ▸ r.sel h2⟩
  have at2:∀ j c,((List.range objs2.length).map f)[j]? = some c→j < objs2.length∧κ j < objs.length∧(c = [] ∨ chs[κ j]? = some c):=fun j c e=>by
    have hj:j < objs2.length:=by have:=lt_of_some e;simpa using this
    obtain ⟨o,ho,hk,hc,r⟩:=key j hj
    rw [List.getElem?_map,List.getElem?_range hj] at e
    simp only [Option.map_some,Option.some.injEq] at e
    exact ⟨hj,hk,e ▸ hc⟩
  refine ⟨(List.range objs2.length).map f,⟨by simp,fun j o ho=>?_⟩,⟨fun j c e=>?_,fun i j c d hij ei ej=>?_⟩,at2⟩
  · have hj:=lt_of_some ho
    obtain ⟨o',ho',_,_,r⟩:=key j hj
    rw [ho] at ho';cases ho'
    exact ⟨f j,by rw [List.getElem?_map,List.getElem?_range hj];rfl,r⟩
  · rcases (at2 j c e).2.2 with rfl | q
    · exact List.nodup_nil
    · exact nd.1 _ _ q
  · obtain ⟨i1,_,i2⟩:=at2 i c ei
    obtain ⟨j1,_,j2⟩:=at2 j d ej
    rcases i2 with rfl | i2
    · exact fun p hp=>nomatch hp
    · rcases j2 with rfl | j2
      · exact fun p _ q hq=>nomatch hq
      · exact nd.2 _ _ _ _ (inj i j i1 j1 hij) i2 j2
theorem HRep.sel {g:Heap} {u:Out} {ρ:Nat→Addr} {objs objs2:List SObj} {s:Shared} {κ:Nat→Nat} (R:HRep g u ρ objs s) (h:selG κ objs objs2.length 0 objs2)
    (inj:∀ i j,i < objs2.length→j < objs2.length→i ≠ j→κ i ≠ κ j):HRep g u (fun i=>ρ (κ i)) objs2 s:=by
  obtain ⟨⟨chs,a,b,c,d,e⟩,g1,g2,g3⟩:=R
  obtain ⟨chs2,x,y,z⟩:=reps_sel e d h inj
  refine ⟨⟨chs2,a,b,fun i q hq=>?_,y,x⟩,g1,g2,g3⟩
  rcases (z _ _ hq).2.2 with rfl | w
  · exact fun p hp=>nomatch hp
  · exact c _ _ w
noncomputable def posN (i:Nat):List Nat→Nat→Option Nat
  | [],_=>none
  | k :: r,j=>match Nat.beq k i with
    | true=>some j
    | false=>posN i r (j + 1)
theorem posN_some {i:Nat}:∀ {l:List Nat} {j m:Nat},posN i l j = some m→j ≤ m∧l[m - j]? = some i
  | [],_,_,e=>by cases e
  | k :: r,j,m,e=>by
    unfold posN at e
    split at e
    · rename_i hb;cases e;simp [Nat.eq_of_beq_eq_true hb]
    · obtain ⟨h1,h2⟩:=posN_some e
      refine ⟨Nat.le_of_succ_le h1,?_⟩
      rw [sub_one h1];exact h2
theorem posN_none {i:Nat}:∀ {l:List Nat} {j:Nat},posN i l j = none→∀ m:Nat,l[m]? ≠ some i
  | [],_,_,m,h=>by simp at h
  | k :: r,j,e,m,h=>by
    unfold posN at e
    split at e
    · cases e
    · rename_i hb
      cases m with
      | zero=>simp at h;exact Nat.ne_of_beq_eq_false hb h
      | succ m=>exact posN_none e m (by simpa using h)
noncomputable def liftA (κ:Nat→Nat) (ι:List Nat) (objs2:List SObj):Nat→List SObj→List SObj
  | _,[]=>[]
  | i,o :: r=>(match posN i ι 0 with
    | some j=>(objs2.getD j .gone).ren κ
    | none=>o) :: liftA κ ι objs2 (i + 1) r
noncomputable def liftB (κ:Nat→Nat):List SObj→List SObj
  | []=>[]
  | o :: r=>o.ren κ :: liftB κ r
noncomputable def lift (ι:List Nat) (objs objs2:List SObj):List SObj:=liftA (kap ι objs.length) ι objs2 0 objs++liftB (kap ι objs.length) (objs2.drop ι.length)
theorem liftA_at {κ:Nat→Nat} {ι:List Nat} {objs2:List SObj}:∀ {l:List SObj} {i k:Nat},(liftA κ ι objs2 i l)[k]? = (l[k]?).map fun o=>match posN (i + k) ι 0 with
    | some j=>(objs2.getD j .gone).ren κ
    | none=>o
  | [],i,k=>by rw [List.getElem?_nil];rfl
  | o :: r,i,0=>rfl
  | o :: r,i,k + 1=>by
    show (liftA κ ι objs2 (i + 1) r)[k]? = _
    rw [List.getElem?_cons_succ,liftA_at,show i + 1 + k = i + (k + 1) by lia]
theorem liftA_len {κ:Nat→Nat} {ι:List Nat} {objs2:List SObj}:∀ {l:List SObj} {i:Nat},(liftA κ ι objs2 i l).length = l.length
  | [],i=>rfl
  | o :: r,i=>congrArg (· + 1) liftA_len
theorem liftB_eq {κ:Nat→Nat}:∀ {l:List SObj},liftB κ l = l.map (SObj.ren κ)
  | []=>rfl
  | o :: r=>congrArg (_ :: ·) liftB_eq
noncomputable def nodupN:List Nat→Bool
  | []=>true
  | k :: r=>r.all (fun j=>!Nat.beq k j) && nodupN r
theorem nodupN_inj:∀ {l:List Nat},nodupN l = true→∀ {i j k:Nat},l[i]? = some k→l[j]? = some k→i = j
  | [],_,i,j,k,e,_=>by simp at e
  | x :: r,h,i,j,k,e1,e2=>by
    obtain ⟨h1,h2⟩:=Bool.and_eq_true_iff.mp (show (r.all (fun j=>!Nat.beq x j) && nodupN r) = true from h)
    have no:∀ m:Nat,r[m]? ≠ some x:=fun m q=>by
      have:=List.all_eq_true.mp h1 x (List.mem_of_getElem? q)
      rw [show Nat.beq x x = true from Nat.beq_refl x] at this;cases this
    cases i with
    | zero =>
      simp at e1;subst e1
      cases j with
      | zero=>rfl
      | succ j=>exact absurd (by simpa using e2) (no j)
    | succ i =>
      cases j with
      | zero=>simp at e2;subst e2;exact absurd (by simpa using e1) (no i)
      | succ j=>exact congrArg (· + 1) (nodupN_inj h2 (k:=k) (by simpa using e1) (by simpa using e2))
end Mine
end
section
namespace Mine
noncomputable def Cx.u (X:Cx):Out:=⟨X.gn,X.dr,X.os⟩
theorem kap_lt {ι:List Nat} {n i:Nat} (h:i < ι.length):ι[i]? = some (kap ι n i):=by
  obtain ⟨k,hk⟩:=some_of_lt h
  unfold kap;rw [hk]
theorem kap_ge {ι:List Nat} {n i:Nat} (h:ι.length ≤ i):kap ι n i = n + (i - ι.length):=by
  unfold kap;rw [List.getElem?_eq_none h]
noncomputable def mixC (ι:List Nat) (chs chs2:List (List (Addr × Obj))):List (List (Addr × Obj)) :=
  ((List.range chs.length).map fun i=>match posN i ι 0 with
    | some j=>(chs2[j]?).getD []
    | none=>(chs[i]?).getD [])++chs2.drop ι.length
theorem mixC_len {ι:List Nat} {chs chs2:List (List (Addr × Obj))}:(mixC ι chs chs2).length = chs.length + (chs2.length - ι.length):=by simp [mixC]
theorem mixC_at {ι:List Nat} {chs chs2:List (List (Addr × Obj))} (hl:ι.length ≤ chs2.length) {i:Nat} {c:List (Addr × Obj)} (h:(mixC ι chs chs2)[i]? = some c) :
    (i < chs.length∧(∃ j,posN i ι 0 = some j∧chs2[j]? = some c)) ∨ (i < chs.length∧posN i ι 0 = none∧chs[i]? = some c) ∨ (∃ j,ι.length ≤ j∧i = chs.length + (j - ι.length)∧chs2[j]? = some c):=by
  unfold mixC at h
  by_cases hi:i < chs.length
  · rw [List.getElem?_append_left (by simpa using hi),List.getElem?_map,List.getElem?_range hi] at h
    simp only [Option.map_some,Option.some.injEq] at h
    split at h
    · rename_i j hj
      obtain ⟨_,hk⟩:=posN_some hj
      have:j < chs2.length:=Nat.lt_of_lt_of_le (by simpa using lt_of_some hk) hl
      obtain ⟨c',hc'⟩:=some_of_lt this
      rw [hc'] at h
      exact .inl ⟨hi,j,hj,hc'.trans (congrArg some h)⟩
    · rename_i hj
      obtain ⟨c',hc'⟩:=some_of_lt hi
      rw [hc'] at h
      exact .inr (.inl ⟨hi,hj,hc'.trans (congrArg some h)⟩)
  · rw [List.getElem?_append_right (by simpa using Nat.le_of_not_lt hi)] at h
    simp only [List.length_map,List.length_range,List.getElem?_drop] at h
    exact .inr (.inr ⟨ι.length + (i - chs.length),Nat.le_add_right _ _,(sub_shift hi).symm,h⟩)
theorem mixC_in {ι:List Nat} {chs chs2:List (List (Addr × Obj))} {i j:Nat} {c:List (Addr × Obj)} (hi:i < chs.length) (hp:posN i ι 0 = some j) (hc:chs2[j]? = some c):(mixC ι chs chs2)[i]? = some c:=by
  unfold mixC
  rw [List.getElem?_append_left (by simpa using hi),List.getElem?_map,List.getElem?_range hi]
  simp [hp,hc]
theorem mixC_out {ι:List Nat} {chs chs2:List (List (Addr × Obj))} {i:Nat} {c:List (Addr × Obj)} (hp:posN i ι 0 = none) (hc:chs[i]? = some c):(mixC ι chs chs2)[i]? = some c:=by
  have hi:=lt_of_some hc
  unfold mixC
  rw [List.getElem?_append_left (by simpa using hi),List.getElem?_map,List.getElem?_range hi]
  simp [hp,hc]
theorem mixC_new {ι:List Nat} {chs chs2:List (List (Addr × Obj))} {i:Nat} {c:List (Addr × Obj)} (hi:chs.length ≤ i) (hc:chs2[ι.length + (i - chs.length)]? = some c):(mixC ι chs chs2)[i]? = some c:=by
  unfold mixC
  rw [List.getElem?_append_right (by simpa using hi)]
  simpa using hc
theorem SV.av_nil (v:SV):v.av [] = true:=by cases v <;> rfl
theorem SObj.av_nil (o:SObj):o.av [] = true:=by
  cases o with
  | inst C fs=>exact List.all_eq_true.mpr fun f _=>SV.av_nil _
  | list xs=>exact List.all_eq_true.mpr fun f _=>SV.av_nil _
  | tup xs=>exact List.all_eq_true.mpr fun f _=>SV.av_nil _
  | cell v=>cases v with
    | none=>rfl
    | some v=>exact SV.av_nil v
  | _=>rfl
noncomputable def avO (U ι:List Nat):Nat→List SObj→Bool
  | _,[]=>true
  | i,o :: r=>(match posN i ι 0 with
    | some _=>true
    | none=>o.av U) && avO U ι (i + 1) r
theorem avO_at {U ι:List Nat}:∀ {l:List SObj} {j i:Nat} {o:SObj},avO U ι j l = true→l[i]? = some o→posN (j + i) ι 0 = none→o.av U = true
  | [],_,_,_,_,e,_=>by simp at e
  | x :: r,j,i,o,h,e,q=>by
    unfold avO at h
    obtain ⟨h1,h2⟩:=Bool.and_eq_true_iff.mp h
    cases i with
    | zero =>
      simp at e;subst e
      rw [Nat.add_zero] at q
      rw [q] at h1
      exact h1
    | succ i=>exact avO_at (i:=i) h2 (by simpa using e) (by rw [show j + 1 + i = j + (i + 1) by lia];exact q)
noncomputable def indep (U ι:List Nat) (n0:Nat) (st:St):Bool:=match U with
  | []=>true
  | U=>avO U ι 0 st.objs && st.loc.all (fun f=>f.2.av U) && U.all (fun k=>Nat.ble n0 k)
theorem getS_in {x:PySem.Str} {v:SV}:∀ {l:List (PySem.Str × SV)},getS x l = some v→∃ f ∈ l,f.2 = v
  | [],e=>by cases e
  | (y,u) :: r,e=>by
    unfold getS at e
    split at e
    · cases e;exact ⟨_,.head _,rfl⟩
    · obtain ⟨f,h1,h2⟩:=getS_in e;exact ⟨f,.tail _ h1,h2⟩
theorem indep_at {U ι:List Nat} {n0:Nat} {st:St} (h:indep U ι n0 st = true):(∀ i o,st.objs[i]? = some o→posN i ι 0 = none→o.av U = true)∧(∀ x v,getS x st.loc = some v→v.av U = true)∧∀ i,i < n0→inU U i = false:=by
  cases U with
  | nil=>exact ⟨fun i o _ _=>SObj.av_nil o,fun x v _=>SV.av_nil v,fun i _=>rfl⟩
  | cons k r =>
    obtain ⟨h,h3⟩:=Bool.and_eq_true_iff.mp h
    obtain ⟨h1,h2⟩:=Bool.and_eq_true_iff.mp h
    refine ⟨fun i o e q=>avO_at h1 e (by rw [Nat.zero_add];exact q),fun x v e=>?_,fun i hi=>?_⟩
    · obtain ⟨f,hf,rfl⟩:=getS_in e
      exact List.all_eq_true.mp h2 f hf
    · cases q:inU (k :: r) i with
      | false=>rfl
      | true =>
        obtain ⟨m,hm,e⟩:=List.any_eq_true.mp q
        have:=Nat.le_of_ble_eq_true (List.all_eq_true.mp h3 m hm)
        have:=Nat.eq_of_beq_eq_true e
        lia
theorem inU_of {U:List Nat} {i:Nat} (h:i ∈ U):inU U i = true:=List.any_eq_true.mpr ⟨i,h,Nat.beq_refl i⟩
inductive BackSt (X:Cx) (ρ:Nat→Addr) (st:St) (U ι:List Nat) (ρ':Nat→Addr) (objs3:List SObj) (s':Shared):Prop
  | mk (ρ3:Nat→Addr) (e:∀ i,i < st.objs.length→inU U i = false→ρ3 i = ρ i) (l:st.objs.length ≤ (lift ι st.objs objs3).length) (R:SRep X ρ3 ⟨st.loc,lift ι st.objs objs3⟩ s')
    (b:∀ sv v,VRep ρ' objs3.length sv v→VRep ρ3 (lift ι st.objs objs3).length (sv.ren (kap ι st.objs.length)) v)
section
variable {X:Cx} {ρ:Nat→Addr} {st:St} {s:Shared}
structure Turn1 (L:Addr) (g g2:Heap):Prop where
  none_:∀ b,g.get? b = none→g2.get? b = none
  other:∀ b o,g.get? b = some o→b ≠ L→g2.get? b = some o
  at_:∀ o,g.get? L = some o→∃ sl,g2.get? L = some { o with slots:=sl }
theorem Turn1.refl {L:Addr} {g:Heap}:Turn1 L g g:=⟨fun _ e=>e,fun _ _ e _=>e,fun o e=>⟨o.slots,e⟩⟩
inductive Hand2 (X:Cx) (ρ:Nat→Addr) (st:St) (s:Shared) (ι:List Nat) (objs2:List SObj) (U:List Nat):Prop
  | mk (g':Heap) (h1:∀ b o,X.g.get? b = some o→g'.get? b = some o) (h2:HRep g' X.u (fun i=>ρ (kap ι st.objs.length i)) objs2 s) (h3:∃ o es k,g'.get? X.L = some o∧o.data = .dict es k)
    (h4:∀ i P,st.objs[i]? = some (.raw P)→posN i ι 0 = none→∃ o,g'.get? (ρ i) = some o∧P o)
    (h5:∀ g2 s' ρ' objs3,Turn1 X.L g' g2→HRep g2 X.u ρ' objs3 s'→(∀ i,i < objs2.length→inU U (kap ι st.objs.length i) = false→ρ' i = ρ (kap ι st.objs.length i))→objs2.length ≤ objs3.length→BackSt X ρ st U ι ρ' objs3 s')
inductive Hand (X:Cx) (ρ:Nat→Addr) (st:St) (s:Shared) (ι:List Nat) (objs2:List SObj) (U:List Nat):Prop
  | mk (g':Heap) (h1:∀ b o,X.g.get? b = some o→g'.get? b = some o) (h2:HRep g' X.u (fun i=>ρ (kap ι st.objs.length i)) objs2 s)
    (h5:∀ s' ρ' objs3,HRep g' X.u ρ' objs3 s'→(∀ i,i < objs2.length→inU U (kap ι st.objs.length i) = false→ρ' i = ρ (kap ι st.objs.length i))→objs2.length ≤ objs3.length→BackSt X ρ st U ι ρ' objs3 s')
theorem hand2 (R:SRep X ρ st s) {ι:List Nat} {objs2:List SObj} (U:List Nat) (hl:objs2.length = ι.length) (hsel:selG (kap ι st.objs.length) st.objs objs2.length 0 objs2) (hnd:nodupN ι = true) (hin:indep U ι X.n0 st = true):Hand2 X ρ st s ι objs2 U:=by
  obtain ⟨⟨m,chs,F,N,nd,LR,OR⟩,u1,u2,u3,pn⟩:=R
  have nd:=nd_iff.mp nd
  have inj:∀ i j,i < objs2.length→j < objs2.length→i ≠ j→kap ι st.objs.length i ≠ kap ι st.objs.length j:=fun i j hi hj hij e=>by
    rw [hl] at hi hj
    exact hij (nodupN_inj hnd (kap_lt hi) (by rw [e];exact kap_lt hj))
  obtain ⟨hin1,hin2,hin3⟩:=indep_at hin
  obtain ⟨chs2,OR2,nd2,at2'⟩:=reps_sel OR nd hsel inj
  have at2:∀ j c,chs2[j]? = some c→∀ p,p ∈ c→j < objs2.length∧chs[kap ι st.objs.length j]? = some c:=fun j c e p hp=>by
    obtain ⟨a1,a2,a3⟩:=at2' j c e
    rcases a3 with rfl | a3
    · cases hp
    · exact ⟨a1,a3⟩
  have Nat':∀ {i:Nat} {c:List (Addr × Obj)},chs[i]? = some c→∀ p ∈ c,s.heap.get? p.1 = some p.2∧p.1 ≠ X.L∧X.g.get? p.1 = none:=fun e p hp=>N p (mem_at e hp)
  obtain ⟨oL,es,ep,hL,hLd,hLr⟩:=F.ns
  have hLg:(hideAll s.heap (chs2.flatten.map (·.1))).get? X.L = some oL:=hideAll_get _ hL fun hm=>by
    obtain ⟨p',hp',e'⟩:=List.mem_map.mp hm
    obtain ⟨c',hc',hpc'⟩:=List.mem_flatten.mp hp'
    obtain ⟨j,hj⟩:=List.mem_iff_getElem?.mp hc'
    exact (Nat' (at2 j c' hj p' hpc').2 p' hpc').2.1 e'
  have notin:∀ {i:Nat} {q:List (Addr × Obj)},posN i ι 0 = none→chs[i]? = some q→∀ p ∈ q,p.1 ∉ chs2.flatten.map (·.1):=fun {i q} hp hq p hpq hm=>by
    obtain ⟨p',hp',e'⟩:=List.mem_map.mp hm
    obtain ⟨c',hc',hpc'⟩:=List.mem_flatten.mp hp'
    obtain ⟨j,hj⟩:=List.mem_iff_getElem?.mp hc'
    obtain ⟨j1,j2⟩:=at2 j c' hj p' hpc'
    by_cases hij:i = kap ι st.objs.length j
    · subst hij
      exact posN_none hp j (kap_lt (by rw [← hl];exact j1))
    · exact nd.2 _ _ _ _ hij hq j2 p hpq p' hpc' e'.symm
  refine ⟨hideAll s.heap (chs2.flatten.map (·.1)),fun b o e=>hideAll_get _ (F.keep b o e) fun q=>?_,⟨⟨chs2,fun b o e=>of_hideAll _ e,Nat.le_of_eq (hideAll_size _ _),fun j c hc p hp=>⟨(Nat' (at2 j c hc p hp).2 p hp).1,hideAll_none _ (List.mem_map_of_mem (mem_at hc hp))⟩,nd2,OR2⟩,u1,u2,u3⟩,⟨oL,es,ep,hLg,hLd⟩,fun i P ho hp=>?_,?_⟩
  · obtain ⟨p,hp,rfl⟩:=List.mem_map.mp q
    obtain ⟨c,hc,hpc⟩:=List.mem_flatten.mp hp
    obtain ⟨j,hj⟩:=List.mem_iff_getElem?.mp hc
    rw [(Nat' (at2 j c hj p hpc).2 p hpc).2.2] at e;cases e
  · obtain ⟨c,hc,ob,rfl,hP⟩:=OR.at_ i _ ho
    exact ⟨ob,hideAll_get _ (Nat' hc _ (.head _)).1 (notin hp hc _ (.head _)),hP⟩
  · intro g2 s' ρ' objs3 T R' hρ hlen
    obtain ⟨⟨chs3,a,b,c,d,e⟩,w1,w2,w3⟩:=R'
    have hlen3:ι.length ≤ chs3.length:=by rw [e.len,← hl];exact hlen
    have hnL:(lift ι st.objs objs3).length = st.objs.length + (objs3.length - ι.length):=by simp [lift,liftA_len,liftB_eq]
    obtain ⟨slL,hLs⟩:=T.at_ _ hLg
    have up:∀ b o,(hideAll s.heap (chs2.flatten.map (·.1))).get? b = some o→b ≠ X.L→s'.heap.get? b = some o:=fun b o e n=>a _ _ (T.other b o e n)
    have out:∀ b,g2.get? b = none→(hideAll s.heap (chs2.flatten.map (·.1))).get? b = none:=fun b e=>by
      cases q:(hideAll s.heap (chs2.flatten.map (·.1))).get? b with
      | none=>rfl
      | some o =>
        by_cases hb:b = X.L
        · subst hb;rw [hLs] at e;cases e
        · rw [T.other b o q hb] at e;cases e
    have nL:X.g.get? X.L = none:=by
      cases q:X.g.get? X.L with
      | none=>rfl
      | some o=>exact absurd (Nat.lt_of_lt_of_le (Heap.lt_size q) F.above) (Nat.lt_irrefl _)
    have gsub:∀ b o,X.g.get? b = some o→(hideAll s.heap (chs2.flatten.map (·.1))).get? b = some o:=fun b o q=>hideAll_get _ (F.keep b o q) fun hm=>by
      obtain ⟨p',hp',e'⟩:=List.mem_map.mp hm
      obtain ⟨c',hc',hpc'⟩:=List.mem_flatten.mp hp'
      obtain ⟨j,hj⟩:=List.mem_iff_getElem?.mp hc'
      have:=(Nat' (at2 j c' hj p' hpc').2 p' hpc').2.2
      rw [e',q] at this;cases this
    let ρ3:Nat→Addr:=fun i=>if i < st.objs.length then (match posN i ι 0 with
      | some j=>ρ' j
      | none=>ρ i) else ρ' (ι.length + (i - st.objs.length))
    have kapl:∀ j,j < ι.length→kap ι st.objs.length j < st.objs.length:=fun j hj=>by
      obtain ⟨c,hc⟩:=some_of_lt (l:=chs2) (i:=j) (by rw [OR2.len,hl];exact hj)
      exact (at2' j c hc).2.1
    have posk:∀ j,j < ι.length→posN (kap ι st.objs.length j) ι 0 = some j:=fun j hj=>by
      have h0:=kap_lt (n:=st.objs.length) hj
      cases q:posN (kap ι st.objs.length j) ι 0 with
      | none=>exact absurd h0 (posN_none q j)
      | some m =>
        have:=(posN_some q).2
        rw [Nat.sub_zero] at this
        rw [nodupN_inj hnd h0 this]
    have hρ3n:∀ i,i < st.objs.length→posN i ι 0 = none→ρ3 i = ρ i:=fun i q e=>by simp [ρ3,q,e]
    have hκ:∀ j,j < objs3.length→ρ' j = ρ3 (kap ι st.objs.length j):=fun j hj=>by
      by_cases hji:j < ι.length
      · simp [ρ3,kapl j hji,posk j hji]
      · rw [kap_ge (Nat.le_of_not_lt hji)]
        have q1:¬ (st.objs.length + (j - ι.length) < st.objs.length):=Nat.not_lt.mpr (Nat.le_add_right _ _)
        have q2:ι.length + (st.objs.length + (j - ι.length) - st.objs.length) = j:=sub_shift hji
        simp only [ρ3,if_neg q1,q2]
    have hρ3:∀ i,i < st.objs.length→inU U i = false→ρ3 i = ρ i:=fun i q e=>by
      cases w:posN i ι 0 with
      | none=>exact hρ3n i q w
      | some j =>
        have w':=(posN_some w).2
        rw [Nat.sub_zero] at w'
        have hj:=lt_of_some w'
        have hk:kap ι st.objs.length j = i:=by have:=kap_lt (n:=st.objs.length) hj;rw [w'] at this;exact (Option.some.inj this).symm
        have:=hρ j (by rw [hl];exact hj) (by rw [hk];exact e)
        rw [hk] at this
        simp [ρ3,q,w,this]
    have hκl:∀ j,j < objs3.length→kap ι st.objs.length j < (lift ι st.objs objs3).length:=fun j hj=>by
      rw [hnL]
      by_cases hji:j < ι.length
      · have:=kapl j hji
        lia
      · rw [kap_ge (Nat.le_of_not_lt hji)];exact Nat.add_lt_add_left (Nat.sub_lt_sub_right (Nat.le_of_not_lt hji) hj) _
    have hle:st.objs.length ≤ (lift ι st.objs objs3).length:=by rw [hnL];exact Nat.le_add_right _ _
    refine ⟨ρ3,hρ3,hle,⟨⟨m,mixC ι chs chs3,⟨⟨_,es,ep,a _ _ hLs,hLd,hLr⟩,fun b o q=>up _ _ (gsub b o q) (fun e=>by rw [e,nL] at q;cases q),F.above⟩,?_,nd_iff.mpr ⟨?_,?_⟩,fun x sv e=>let ⟨v,q1,q2⟩:=LR x sv e;⟨v,q1,q2.av hρ3 hle (hin2 x sv e)⟩,⟨?_,?_⟩⟩,w1,w2,w3,fun i hi=>(hρ3 i (Nat.lt_of_lt_of_le hi pn.2) (hin3 i hi)).trans (pn.1 i hi),Nat.le_trans pn.2 hle⟩,fun sv v r=>r.back hκ hκl⟩
    · intro p hp
      obtain ⟨q,hq,hpq⟩:=List.mem_flatten.mp hp
      obtain ⟨i,hi⟩:=List.mem_iff_getElem?.mp hq
      rcases mixC_at hlen3 hi with ⟨_,j,_,hj⟩ | ⟨_,hn,hc⟩ | ⟨j,_,_,hj⟩
      · obtain ⟨z1,z2⟩:=c j q hj p hpq
        replace z2:=out _ z2
        refine ⟨z1,fun w=>?_,?_⟩
        · rw [w,hLg] at z2;cases z2
        · cases w:X.g.get? p.1 with
          | none=>rfl
          | some o=>rw [gsub _ _ w] at z2;cases z2
      · obtain ⟨z1,z2,z3⟩:=Nat' hc p hpq
        exact ⟨up _ _ (hideAll_get _ z1 (notin hn hc p hpq)) z2,z2,z3⟩
      · obtain ⟨z1,z2⟩:=c j q hj p hpq
        replace z2:=out _ z2
        refine ⟨z1,fun w=>?_,?_⟩
        · rw [w,hLg] at z2;cases z2
        · cases w:X.g.get? p.1 with
          | none=>rfl
          | some o=>rw [gsub _ _ w] at z2;cases z2
    · intro i q hi
      rcases mixC_at hlen3 hi with ⟨_,j,_,hj⟩ | ⟨_,hn,hc⟩ | ⟨j,_,_,hj⟩
      · exact d.1 _ _ hj
      · exact nd.1 _ _ hc
      · exact d.1 _ _ hj
    · have old:∀ {i j:Nat} {q r:List (Addr × Obj)},posN i ι 0 = none→chs[i]? = some q→chs3[j]? = some r→∀ p ∈ q,∀ p' ∈ r,p.1 ≠ p'.1:=fun {i j q r} hn hc hj p hp p' hp' w=>by
        have z:=out _ (c j r hj p' hp').2
        rw [← w,hideAll_get _ (Nat' hc p hp).1 (notin hn hc p hp)] at z;cases z
      intro i j q r hij hi hj
      rcases mixC_at hlen3 hi with ⟨_,x,px,hx⟩ | ⟨_,hn,hc⟩ | ⟨x,lx,ex,hx⟩ <;> rcases mixC_at hlen3 hj with ⟨_,y,py,hy⟩ | ⟨_,hn',hc'⟩ | ⟨y,ly,ey,hy⟩
      · refine d.2 x y _ _ (fun w=>?_) hx hy
        subst w
        have e1:=(posN_some px).2;have e2:=(posN_some py).2
        rw [e1] at e2;exact hij (Option.some.inj e2)
      · exact fun p hp p' hp' w=>old hn' hc' hx p' hp' p hp w.symm
      · refine d.2 x y _ _ (fun w=>?_) hx hy
        subst w
        have e1:=lt_of_some (posN_some px).2
        lia
      · exact old hn hc hy
      · exact nd.2 _ _ _ _ hij hc hc'
      · exact old hn hc hy
      · refine d.2 x y _ _ (fun w=>?_) hx hy
        subst w
        have e1:=lt_of_some (posN_some py).2
        lia
      · exact fun p hp p' hp' w=>old hn' hc' hx p' hp' p hp w.symm
      · exact d.2 x y _ _ (fun w=>hij (by lia)) hx hy
    · rw [mixC_len,OR.len,e.len,hnL]
    · intro i o ho
      by_cases hi:i < st.objs.length
      · unfold lift at ho
        rw [List.getElem?_append_left (by rw [liftA_len];exact hi),liftA_at,Nat.zero_add] at ho
        obtain ⟨o0,ho0⟩:=some_of_lt hi
        rw [ho0] at ho
        simp only [Option.map_some,Option.some.injEq] at ho
        split at ho
        · rename_i j hj
          have hji:=(posN_some hj).2
          rw [Nat.sub_zero] at hji
          have hj1:=lt_of_some hji
          obtain ⟨o3,ho3⟩:=some_of_lt (l:=objs3) (i:=j) (by lia)
          rw [List.getD_eq_getElem?_getD,ho3] at ho
          subst ho
          obtain ⟨q,hq,r⟩:=e.at_ _ _ ho3
          refine ⟨q,mixC_in (by rw [OR.len];exact hi) hj hq,?_⟩
          have hk:kap ι st.objs.length j = i:=by have:=kap_lt (n:=st.objs.length) hj1;rw [hji] at this;exact (Option.some.inj this).symm
          have e1:=hκ j (lt_of_some ho3)
          rw [hk] at e1
          rw [← e1]
          exact r.back hκ hκl
        · rename_i hj
          subst ho
          obtain ⟨q,hq,r⟩:=OR.at_ _ _ ho0
          refine ⟨q,mixC_out hj hq,?_⟩
          rw [hρ3n i hi hj]
          exact r.av hρ3 hle (hin1 i o0 ho0 hj)
      · have hi:=Nat.le_of_not_lt hi
        unfold lift at ho
        rw [List.getElem?_append_right (by rw [liftA_len];exact hi),liftA_len,liftB_eq,List.getElem?_map,List.getElem?_drop] at ho
        obtain ⟨o3,ho3,rfl⟩:=Option.map_eq_some_iff.mp ho
        obtain ⟨q,hq,r⟩:=e.at_ _ _ ho3
        refine ⟨q,mixC_new (by rw [OR.len];exact hi) (by rw [OR.len];exact hq),?_⟩
        have e1:=hκ _ (lt_of_some ho3)
        rw [kap_ge (Nat.le_add_right _ _),Nat.add_sub_cancel_left,Nat.add_sub_cancel' hi] at e1
        rw [← e1]
        exact r.back hκ hκl
theorem hand (R:SRep X ρ st s) {ι:List Nat} {objs2:List SObj} (U:List Nat) (hl:objs2.length = ι.length) (hsel:selG (kap ι st.objs.length) st.objs objs2.length 0 objs2) (hnd:nodupN ι = true) (hin:indep U ι X.n0 st = true):Hand X ρ st s ι objs2 U:=by
  obtain ⟨g',h1,h2,_,_,h5⟩:=hand2 R U hl hsel hnd hin
  exact ⟨g',h1,h2,fun s' ρ' objs3=>h5 g' s' ρ' objs3 .refl⟩
end
end Mine
end
section
namespace Mine
theorem Room.le {A:Around} {l l':Nat} (h:Room A l) (q:l' ≤ l):Room A l':=⟨h.hh,h.hg,by have:=h.hd;lia,by have:=h.hu;lia⟩
theorem Room.down {A:Around} {l:Nat} {env:Env} (h:Room A (l + 1)):Room (A.deeper env) l :=
  ⟨h.hh,h.hg,by have:=h.hd;show A.depth + 1 + 4 * l < 900;lia,by have:=h.hu;show A.units + 3 + 30 * l < 9000;lia⟩
noncomputable def Det (res:SV) (objs':List SObj):SV→List SObj→Prop:=fun r o=>r = res∧o = objs'
inductive Back (g:Heap) (u:Out) (ρ:Nat→Addr) (objs:List SObj) (mv:List Nat) (P:SV→List SObj→Prop) (v:PySem.Value) (s':Shared):Prop
  | mk (ρ':Nat→Addr) (res:SV) (objs':List SObj) (e:∀ i,i < objs.length→inU mv i = false→ρ' i = ρ i) (l:objs.length ≤ objs'.length) (R:HRep g u ρ' objs' s') (r:VRep ρ' objs'.length res v) (p:P res objs')
noncomputable def RetB (g:Heap) (u:Out) (ρ:Nat→Addr) (objs:List SObj) (mv:List Nat) (P:SV→List SObj→Prop) (r:Result) (s':Shared):Prop:=match r with
  | .ok (.ret v)=>Back g u ρ objs mv P v s'
  | _=>False
noncomputable def FnRM (W:Wd) (lvl:Nat) (t:List PySem.Value→Sem PySem.Value) (args:List SV) (objs:List SObj) (mv:List Nat) (P:SV→List SObj→Prop):Prop :=
  ∀ (A:Around) (E:PySem.Value→Shared→Prop) (g:Heap) (u:Out) (ρ:Nat→Addr) (s:Shared) (vs:List PySem.Value),
    Room A lvl→W.K.In g→TopRead W.p W.loose W.mg W.mb g→HRep g u ρ objs s→All2 (VRep ρ objs.length) args vs →
      wpR (model W.prog W.w) A (t vs) (Back g u ρ objs mv P) E s
noncomputable abbrev FnR (W:Wd) (lvl:Nat) (t:List PySem.Value→Sem PySem.Value) (args:List SV) (objs:List SObj) (P:SV→List SObj→Prop):Prop:=FnRM W lvl t args objs [] P
noncomputable def FnM (W:Wd) (lvl:Nat) (f:Addr) (args:List SV) (objs:List SObj) (mv:List Nat) (P:SV→List SObj→Prop):Prop :=
  ∀ (A:Around) (g:Heap) (u:Out) (ρ:Nat→Addr) (s:Shared) (vs:List PySem.Value),
    Room A lvl→W.K.In g→TopRead W.p W.loose W.mg W.mb g→HRep g u ρ objs s→All2 (VRep ρ objs.length) args vs →
      codeR (model W.prog W.w) A (.call (.ref f) ⟨vs,[]⟩) (RetB g u ρ objs mv P) s
noncomputable abbrev FnC (W:Wd) (lvl:Nat) (f:Addr) (args:List SV) (objs:List SObj) (P:SV→List SObj→Prop):Prop:=FnM W lvl f args objs [] P
theorem FnM.toM {W:Wd} {lvl:Nat} {f:Addr} {args:List SV} {objs:List SObj} {mv:List Nat} {P:SV→List SObj→Prop} (h:FnM W lvl f args objs mv P):FnRM W lvl (fun vs=>call (.ref f) vs) args objs mv P :=
  fun A E g u ρ s vs a b c d e=>wpR_call (codeR_mono (h A g u ρ s vs a b c d e) fun r s' q=>by
    rcases r with x | (v | _ | _ | _) <;> first | exact q | exact q.elim)
theorem FnM.toR {W:Wd} {lvl:Nat} {f:Addr} {args:List SV} {objs:List SObj} {P:SV→List SObj→Prop} (h:FnM W lvl f args objs [] P):FnR W lvl (fun vs=>call (.ref f) vs) args objs P:=h.toM
theorem inU_map {mv:List Nat} {κ:Nat→Nat} {j:Nat} (h:inU (mv.map κ) (κ j) = false):inU mv j = false:=by
  cases q:inU mv j with
  | false=>rfl
  | true =>
    obtain ⟨m,hm,e⟩:=List.any_eq_true.mp q
    have:=Nat.eq_of_beq_eq_true e
    subst this
    rw [inU_of (List.mem_map_of_mem hm)] at h
    cases h
inductive CallP (X:Cx) (ρ:Nat→Addr) (st:St) (ι mv:List Nat) (P:SV→List SObj→Prop) (v:PySem.Value) (s':Shared):Prop
  | mk (ρ3:Nat→Addr) (res:SV) (objs3:List SObj) (e:∀ i,i < st.objs.length→inU (mv.map (kap ι st.objs.length)) i = false→ρ3 i = ρ i) (l:st.objs.length ≤ (lift ι st.objs objs3).length) (R:SRep X ρ3 ⟨st.loc,lift ι st.objs objs3⟩ s')
    (b:VRep ρ3 (lift ι st.objs objs3).length (res.ren (kap ι st.objs.length)) v) (p:P res objs3)
theorem call_run {X:Cx} {lvl:Nat} {t:List PySem.Value→Sem PySem.Value} {args2:List SV} {st:St} {objs2:List SObj} {mv:List Nat} {P:SV→List SObj→Prop} (ι:List Nat) (F:FnRM X.W lvl t args2 objs2 mv P) (O:X.Ok) (hle:Nat.ble lvl X.lvl = true)
    (hl:objs2.length = ι.length) (hnd:nodupN ι = true) (hsel:selG (kap ι st.objs.length) st.objs objs2.length 0 objs2) (hc:args2.all (SV.clo objs2.length) = true) (hin:indep (mv.map (kap ι st.objs.length)) ι X.n0 st = true)
    {ρ:Nat→Addr} {s:Shared} {vs:List PySem.Value} (R:SRep X ρ st s) (r:All2 (VRep ρ st.objs.length) (args2.map (SV.ren (kap ι st.objs.length))) vs) :
    wpR X.M X.A (t vs) (CallP X ρ st ι mv P) X.E s:=by
  obtain ⟨g',h1,h2,h3⟩:=hand R (mv.map (kap ι st.objs.length)) hl hsel hnd hin
  refine wpR_mono (F X.A X.E g' X.u _ s vs (O.room.le (Nat.le_of_ble_eq_true hle)) (O.K.keeps h1) (O.T.keeps h1) h2 (all2_sel r hc)) (fun v s' q=>?_) fun _ _ x=>x
  obtain ⟨ρ',res,objs3,e,l,R',r',p⟩:=q
  obtain ⟨ρ3,e3,l3,R3,b3⟩:=h3 s' ρ' objs3 R' (fun i hi q=>e i hi (inU_map q)) l
  exact ⟨ρ3,res,objs3,e3,l3,R3,b3 _ _ r',p⟩
theorem call_ofP {X:Cx} {lvl:Nat} {t:List PySem.Value→Sem PySem.Value} {args args2:List SV} {st:St} {objs2:List SObj} {P:SV→List SObj→Prop} {k:SV→St→Prop} (ι:List Nat) (F:FnR X.W lvl t args2 objs2 P) (O:X.Ok) (hle:Nat.ble lvl X.lvl = true)
    (hl:objs2.length = ι.length) (hnd:nodupN ι = true) (hsel:selL (kap ι st.objs.length) st.objs objs2.length 0 objs2) (ha:args = args2.map (SV.ren (kap ι st.objs.length))) (hc:args2.all (SV.clo objs2.length) = true)
    (h:∀ res objs3,P res objs3→k (res.ren (kap ι st.objs.length)) ⟨st.loc,lift ι st.objs objs3⟩):OpJ X t args st k:=by
  subst ha
  constructor
  intro ρ s vs R r
  exact wpR_mono (call_run ι F O hle hl hnd (selG_of hsel) hc rfl R r) (fun v s' q=>by obtain ⟨ρ3,res,objs3,e3,l3,R3,b3,p⟩:=q;exact ⟨ρ3,_,_,fun i hi=>e3 i hi rfl,l3,R3,b3,h _ _ p⟩) fun _ _ x=>x
theorem call_ofM {X:Cx} {lvl:Nat} {t:List PySem.Value→Sem PySem.Value} {args args2:List SV} {st:St} {objs2:List SObj} {mv:List Nat} {P:SV→List SObj→Prop} {k:St→Prop} (ι:List Nat) (F:FnRM X.W lvl t args2 objs2 mv P) (O:X.Ok) (hle:Nat.ble lvl X.lvl = true)
    (hl:objs2.length = ι.length) (hnd:nodupN ι = true) (hsel:selG (kap ι st.objs.length) st.objs objs2.length 0 objs2) (ha:args = args2.map (SV.ren (kap ι st.objs.length))) (hc:args2.all (SV.clo objs2.length) = true)
    (hin:indep (mv.map (kap ι st.objs.length)) ι X.n0 st = true) (h:∀ res objs3,P res objs3→k ⟨st.loc,lift ι st.objs objs3⟩):OpS X t args st k:=by
  subst ha
  constructor
  intro ρ s vs R r
  exact wpR_mono (call_run ι F O hle hl hnd hsel hc hin R r) (fun v s' q=>by obtain ⟨ρ3,res,objs3,e3,l3,R3,b3,p⟩:=q;exact ⟨ρ3,_,R3,h _ _ p⟩) fun _ _ x=>x
theorem call_of {X:Cx} {lvl:Nat} {t:List PySem.Value→Sem PySem.Value} {args args2:List SV} {st:St} {objs2 objs3:List SObj} {res:SV} {k:SV→St→Prop} (ι:List Nat) (F:FnR X.W lvl t args2 objs2 (Det res objs3)) (O:X.Ok) (hle:Nat.ble lvl X.lvl = true)
    (hl:objs2.length = ι.length) (hnd:nodupN ι = true) (hsel:selL (kap ι st.objs.length) st.objs objs2.length 0 objs2) (ha:args = args2.map (SV.ren (kap ι st.objs.length))) (hc:args2.all (SV.clo objs2.length) = true)
    (h:k (res.ren (kap ι st.objs.length)) ⟨st.loc,lift ι st.objs objs3⟩):OpJ X t args st k :=
  call_ofP ι F O hle hl hnd hsel ha hc fun r o ⟨a,b⟩=>by subst a b;exact h
noncomputable def retV:Fl→SV
  | .ret v=>v
  | _=>.none
inductive FinM (n:Nat) (mv:List Nat) (P:SV→List SObj→Prop) (fl:Fl) (st:St):Prop
  | mk (ι:List Nat) (res:SV) (objs':List SObj) (k:∀ j,j < n→inU mv j = false→kap ι 0 j = j) (l:objs'.length = ι.length) (m:n ≤ ι.length) (nd:nodupN ι = true) (s:selG (kap ι 0) st.objs objs'.length 0 objs') (r:retV fl = res.ren (kap ι 0)) (c:res.clo objs'.length = true) (p:P res objs')
noncomputable abbrev Fin (n:Nat) (P:SV→List SObj→Prop):Fl→St→Prop:=FinM n [] P
theorem all2_zip {R:SV→PySem.Value→Prop}:∀ {names:List PySem.Str} {args:List SV} {vs:List PySem.Value},All2 R args vs→All2 (fun (a:PySem.Str × SV) (b:PySem.Str × PySem.Value)=>a.1 = b.1∧R a.2 b.2) (names.zip args) (names.zip vs)
  | [],_,_,_=>by simp;exact .nil
  | x :: r,[],_,h=>by cases h;simp;exact .nil
  | x :: r,a :: as,_,h=>by
    cases h with
    | cons p q=>exact .cons ⟨rfl,p⟩ (all2_zip q)
theorem all2_rev {α β:Type} {R:α→β→Prop} {as:List α} {bs:List β} (h:All2 R as bs):All2 R as.reverse bs.reverse:=by
  induction h with
  | nil=>exact .nil
  | cons a _ ih=>rw [List.reverse_cons,List.reverse_cons];exact ih.append (.cons a .nil)
theorem getS_lookup {R:SV→PySem.Value→Prop} {as:List (PySem.Str × SV)} {bs:List (PySem.Str × PySem.Value)} (h:All2 (fun (a:PySem.Str × SV) (b:PySem.Str × PySem.Value)=>a.1 = b.1∧R a.2 b.2) as bs) {x:PySem.Str} {sv:SV}
    (e:getS x as = some sv):∃ v,bs.lookup x = some v∧R sv v:=by
  induction h with
  | nil=>cases e
  | @cons a b as' bs' r _ ih =>
    obtain ⟨y,v⟩:=b
    obtain ⟨z,w⟩:=a
    obtain ⟨e1,r⟩:=r
    subst e1
    unfold getS at e
    rw [List.lookup_cons]
    cases q:strB x z with
    | true=>rw [q] at e;cases e;have:=strB_iff.mp q;subst this;exact ⟨v,by simp,r⟩
    | false =>
      rw [q] at e
      have:(x == z) = false:=by rw [beq_eq_false_iff_ne];intro e;rw [strB_iff.mpr e] at q;cases q
      rw [this];exact ih e
theorem frep_val {ρ:Nat→Addr} {n:Nat} {f:Fl} {fl:Flow} (r:FRep ρ n f fl):VRep ρ n (retV f) (match (generalizing:=false) fl with | .ret v=>v | _=>.none):=by
  cases f with
  | next=>cases r;exact rfl
  | brk=>cases r;exact rfl
  | cont=>cases r;exact rfl
  | ret v=>obtain ⟨w,rfl,rw'⟩:=r;exact rw'
noncomputable def fnN:Nat→(List PySem.Value→Prop)→Prop
  | 0,P=>P []
  | n + 1,P=>∀ v,fnN n fun l=>P (v :: l)
theorem fnN_at:∀ {n:Nat} {P:List PySem.Value→Prop},fnN n P→∀ {vs:List PySem.Value},vs.length = n→P vs
  | 0,P,h,[],_=>h
  | 0,P,h,_ :: _,e=>by simp at e
  | n + 1,P,h,[],e=>by simp at e
  | n + 1,P,h,v :: vs,e=>fnN_at (h v) (by simpa using e)
noncomputable def mvAll (mv:List Nat):Nat→Nat→Bool
  | _,0=>true
  | j,k + 1=>inU mv j && mvAll mv (j + 1) k
theorem mvAll_at {mv:List Nat}:∀ {j k:Nat},mvAll mv j k = true→∀ i,i < k→inU mv (j + i) = true
  | _,0,_,i,hi=>absurd hi (Nat.not_lt_zero _)
  | j,k + 1,h,i,hi=>by
    obtain ⟨h1,h2⟩:=Bool.and_eq_true_iff.mp h
    cases i with
    | zero=>exact h1
    | succ i=>have:=mvAll_at h2 i (by lia);rwa [show j + 1 + i = j + (i + 1) by lia] at this
theorem fin_back {X:Cx} {ρ:Nat→Addr} {objs:List SObj} {mv:List Nat} {P:SV→List SObj→Prop} {fl:Flow} {s':Shared} (q:FlP X (FinM objs.length mv P) fl s') (hρ:∀ r:Nat→Addr,(∀ i,i < X.n0→r i = X.r0 i)→∀ i,i < objs.length→inU mv i = false→r i = ρ i) :
    Back X.g X.u ρ objs mv P (match (generalizing:=false) fl with | .ret v=>v | _=>.none) s':=by
  obtain ⟨ρ1,f1,st1,R1,r1,ι,res,objs',i1,i2,i3,i4,i5,i6,i7,i8⟩:=q
  have rv:=frep_val r1
  rw [i6] at rv
  obtain ⟨⟨m,chs1,F1,N1,nd1,LR1,OR1⟩,v1,v2,v3,pn⟩:=R1
  have H1:HRep X.g X.u ρ1 st1.objs s':=by
    obtain ⟨oL,_,_,hL,_⟩:=F1.ns
    exact ⟨⟨chs1,F1.keep,Nat.le_trans F1.above (Nat.le_of_lt (Heap.lt_size hL)),fun i q hq p hp=>⟨(N1 p (mem_at hq hp)).1,(N1 p (mem_at hq hp)).2.2⟩,nd_iff.mp nd1,OR1⟩,v1,v2,v3⟩
  refine ⟨fun i=>ρ1 (kap ι 0 i),res,objs',fun i hi hm=>?_,by rw [i2];exact i3,H1.sel i5 (fun i j hi hj hij q=>?_),rv.sel i7,i8⟩
  · show ρ1 (kap ι 0 i) = _
    rw [i1 i hi hm]
    exact hρ ρ1 pn.1 i hi hm
  · rw [i2] at hi hj
    exact hij (nodupN_inj i4 (kap_lt hi) (by rw [q];exact kap_lt hj))
noncomputable def nX (qual:PySem.Str) (scope:Scope) (f:Addr) (cdv:PySem.Value) (lvl n0:Nat) (W:Wd) (Z:Zs):Cx:=⟨W,Z.A,qual,scope,f,cdv,Z.g,Z.L,Z.gn,Z.dr,Z.os,fun _ _=>False,lvl,n0,Z.r0,[],none⟩
theorem enterN {W:Wd} {lvl:Nat} {f:Addr} {name qual:PySem.Str} {params:Arguments} {body:List Stmt} {scope:Scope} {dV kV doc pm cdv ct oc:PySem.Value} {an od:Option Addr} {osl:Array (Option PySem.Value)}
    {args:List SV} {objs:List SObj} {mv:List Nat} {P:SV→List SObj→Prop} (n0:Nat) (hn0:Nat.ble n0 objs.length = true) (hm0:mvAll mv n0 (objs.length - n0) = true) (names:List PySem.Str) (hW:W.Holds)
    (ho:W.K.lookup f = some ⟨oc,od,.func (fnOf name qual params body scope dV kV doc pm an cdv ct),osl⟩) (hcd:codeIn W.K cdv qual = true)
    (hbind:fnN names.length fun vs=>bindArgs (fnOf name qual params body scope dV kV doc pm an cdv ct) ⟨vs,[]⟩ = pure (names.zip vs))
    (hlen:args.length = names.length) (hloc:(names.all fun y=>kindS y scope.names == some .local) = true) (hcell:(scope.names.all fun x=>x.2 != .cell) = true)
    (hco:scope.isCoroutine = false) (hgen:scope.isGenerator = false) (hk:scope.kind = .function)
    (h:∀ Z:Zs,(nX qual scope f cdv lvl n0 W Z).Ok→Ss (nX qual scope f cdv lvl n0 W Z) body ⟨(names.zip args).reverse,objs⟩ (FinM objs.length mv P)):FnM W (lvl + 1) f args objs mv P:=by
  intro A g u ρ s vs hr hK hT R r
  obtain ⟨⟨chs,a,b,c,d,e⟩,w1,w2,w3⟩:=R
  have KS:W.K.In s.heap:=hK.keeps a
  have hloc:∀ y ∈ names,scope.names.lookup y = some .local:=fun y hy=>by rw [← kindS_eq];exact beq_iff_eq.mp (List.all_eq_true.mp hloc y hy)
  have hcell:∀ x ∈ scope.names,x.2 ≠ .cell:=fun x hx=>by simpa using List.all_eq_true.mp hcell x hx
  refine r_def (fd:=fnOf name qual params body scope dV kV doc pm an cdv ct) (body:=body) (binds:=names.zip vs) ?_ (KS _ _ ho) rfl (hT.nolimit.keeps a) (codeRec_of KS hcd) rfl
    (BindsTo.of_eq (fnN_at hbind (by rw [← r.length,hlen]))) hcell (fun x hx=>hloc _ (List.of_mem_zip hx).1) (fun h₁ hns hk₁=>?_) hco hgen hk
  · have:=hr.hd;show A.depth < 1000;lia
  have O:(nX qual scope f cdv lvl n0 W ⟨A.deeper (callEnv (fnOf name qual params body scope dV kV doc pm an cdv ct) s.heap.objs.size f),g,s.heap.objs.size,u.gn,u.dr,u.os,ρ⟩).Ok :=
    ⟨hW,hk,hK,hT,hr.down,fun q hq=>nomatch hq⟩
  have R0:SRep (nX qual scope f cdv lvl n0 W ⟨A.deeper (callEnv (fnOf name qual params body scope dV kV doc pm an cdv ct) s.heap.objs.size f),g,s.heap.objs.size,u.gn,u.dr,u.os,ρ⟩)
      ρ ⟨(names.zip args).reverse,objs⟩ { s with heap:=h₁,toks:=s.toks + (names.zip vs).length }:=by
    refine ⟨⟨_,chs,⟨hns,fun b o q=>hk₁ b o (a b o q),b⟩,?_,nd_iff.mpr d,fun x sv q=>getS_lookup (all2_rev (all2_zip r)) q,e⟩,w1,w2,w3,fun _ _=>rfl,Nat.le_of_ble_eq_true hn0⟩
    intro p hp
    obtain ⟨q,hq,hpq⟩:=List.mem_flatten.mp hp
    obtain ⟨i,hi⟩:=List.mem_iff_getElem?.mp hq
    obtain ⟨z1,z2⟩:=c i q hi p hpq
    exact ⟨hk₁ _ _ z1,Nat.ne_of_lt (Heap.lt_size z1),z2⟩
  exact wpR_mono (h _ O ρ _ R0) (fun fl s' q=>fin_back q fun r hr i hi hm=>by
    by_cases q:i < n0
    · exact hr i q
    · have:=mvAll_at hm0 (i - n0) (Nat.sub_lt_sub_right (Nat.le_of_not_lt q) hi)
      rw [Nat.add_sub_cancel' (Nat.le_of_not_lt q),hm] at this
      cases this) fun _ _ x=>x.elim
theorem enter {W:Wd} {lvl:Nat} {f:Addr} {name qual:PySem.Str} {params:Arguments} {body:List Stmt} {scope:Scope} {dV kV doc pm cdv ct oc:PySem.Value} {an od:Option Addr} {osl:Array (Option PySem.Value)}
    {args:List SV} {objs:List SObj} {mv:List Nat} {P:SV→List SObj→Prop} (names:List PySem.Str) (hW:W.Holds)
    (ho:W.K.lookup f = some ⟨oc,od,.func (fnOf name qual params body scope dV kV doc pm an cdv ct),osl⟩) (hcd:codeIn W.K cdv qual = true)
    (hbind:fnN names.length fun vs=>bindArgs (fnOf name qual params body scope dV kV doc pm an cdv ct) ⟨vs,[]⟩ = pure (names.zip vs))
    (hlen:args.length = names.length) (hloc:(names.all fun y=>kindS y scope.names == some .local) = true) (hcell:(scope.names.all fun x=>x.2 != .cell) = true)
    (hco:scope.isCoroutine = false) (hgen:scope.isGenerator = false) (hk:scope.kind = .function)
    (h:∀ Z:Zs,(nX qual scope f cdv lvl objs.length W Z).Ok→Ss (nX qual scope f cdv lvl objs.length W Z) body ⟨(names.zip args).reverse,objs⟩ (FinM objs.length mv P)):FnM W (lvl + 1) f args objs mv P :=
  enterN objs.length (Nat.ble_eq_true_of_le (Nat.le_refl _)) (by rw [Nat.sub_self];rfl) names hW ho hcd hbind hlen hloc hcell hco hgen hk h
end Mine
end
section
namespace Mine
theorem Room.make {A : Around} {l : Nat} {C : Addr} {vals : List PySem.Value} {kw : List (PySem.Str × PySem.Value)} (h : Room A (l + 1)) : Room (A.under (.builtin "type.__call__" ⟨.ref C :: vals, kw⟩)) l := by
  refine ⟨h.hh,?_,?_,?_⟩
  · have : (Code.builtin "type.__call__" ⟨.ref C :: vals, kw⟩).guards = [] := rfl
    show pushGuards (Code.builtin "type.__call__" ⟨.ref C :: vals, kw⟩).guards A.guards = _
    rw [this];exact h.hg
  · have:=h.hd
    rw [depth_under_kw];lia
  · have:=h.hu
    have : (Code.builtin "type.__call__" ⟨.ref C :: vals, kw⟩).cUnits ≤ 10 := by first | exact (show (1 : Nat) ≤ 10 by decide) | exact (show (2 : Nat) ≤ 10 by decide) | exact (show (3 : Nat) ≤ 10 by decide) | exact (show (4 : Nat) ≤ 10 by decide) | exact (show (0 : Nat) ≤ 10 by decide)
    show A.units + (Code.builtin "type.__call__" ⟨.ref C :: vals, kw⟩).cUnits + 30 * l < 9000; lia
theorem HRep.push2 {g:Heap} {u:Out} {ρ:Nat→Addr} {objs:List SObj} {s:Shared} (R:HRep g u ρ objs s) {C:Addr} :
    ∃ ρ',(∀ i,i < objs.length→ρ' i = ρ i)∧ρ' objs.length = s.heap.objs.size + 1∧HRep g u ρ' (objs++[.inst C []]) { s with heap:=(s.heap.push emptyDict).push (instObj C s.heap.objs.size) }:=by
  obtain ⟨⟨chs,a,b,c,d,e⟩,w1,w2,w3⟩:=R
  obtain ⟨ρ',e1,e2,OR'⟩:=e.add (a:=s.heap.objs.size + 1) (o:=.inst C []) (c:=[(s.heap.objs.size + 1,instObj C s.heap.objs.size),(s.heap.objs.size,dictOf [] 0)]) (fun ρ' _ _=>⟨s.heap.objs.size,[],0,rfl,.nil,by simp⟩)
  have k:∀ b o,s.heap.get? b = some o→((s.heap.push emptyDict).push (instObj C s.heap.objs.size)).get? b = some o:=fun b o e=>Heap.get?_push_of_some _ (Heap.get?_push_of_some _ e)
  have fresh:∀ x,s.heap.objs.size ≤ x→g.get? x = none:=fun x hx=>by
    cases q:g.get? x with
    | none=>rfl
    | some o=>exact absurd (Heap.lt_size (a _ _ q)) (Nat.not_lt.mpr hx)
  have hx:((s.heap.push emptyDict).push (instObj C s.heap.objs.size)).get? (s.heap.objs.size + 1) = some (instObj C s.heap.objs.size):=by heap_get
  have hy:((s.heap.push emptyDict).push (instObj C s.heap.objs.size)).get? s.heap.objs.size = some (dictOf [] 0):=by heap_get
  have big:∀ p ∈ [(s.heap.objs.size + 1,instObj C s.heap.objs.size),(s.heap.objs.size,dictOf [] 0)],s.heap.objs.size ≤ p.1∧((s.heap.push emptyDict).push (instObj C s.heap.objs.size)).get? p.1 = some p.2:=fun p hp=>by
    rcases List.mem_cons.mp hp with rfl | hp
    · exact ⟨Nat.le_succ _,hx⟩
    · rw [List.mem_singleton.mp hp];exact ⟨Nat.le_refl _,hy⟩
  refine ⟨ρ',e1,e2,⟨⟨_,fun b o q=>k _ _ (a _ _ q),?_,fun i q hq p hp=>?_,d.snoc (by simp) fun i q h p hp p' hp' e=>?_,OR'⟩,w1,w2,w3⟩⟩
  · show g.objs.size ≤ ((s.heap.push emptyDict).push _).objs.size
    rw [Heap.size_push,Heap.size_push];lia
  · rcases snoc_at hq with h | ⟨_,rfl⟩
    · exact ⟨k _ _ (c i q h p hp).1,(c i q h p hp).2⟩
    · exact ⟨(big p hp).2,fresh _ (big p hp).1⟩
  · exact absurd (e ▸ Heap.lt_size (c i q h p hp).1) (Nat.not_lt.mpr (big p' hp').1)
theorem makeC {W : Wd} {lvl : Nat} {C fI : Addr} {args : List SV} {objs : List SObj} {P : List SObj → Prop} (hm : makesIn W.K C = true) (hi : findIn W.K (.ref C) "__init__" = some (some (.ref fI))) (hf : isFn W.K (.ref fI) = true)
    (h:FnM W lvl fI (.ref objs.length :: args) (objs++[.inst C []]) [] (fun r o=>r = .none∧P o)):FnM W (lvl + 1) C args objs [] (fun r o=>r = .ref objs.length∧P o):=by
  intro A g u ρ s vs hr hK hT R r
  obtain ⟨hh,gn,d,t,os⟩:=s
  have KS:W.K.In hh:=by obtain ⟨⟨chs,a,_⟩,_⟩:=R;exact hK.keeps a
  refine r_make (makes_of KS hm) (looks_findIn KS hi) (fun self=>bind_fn KS self (beq_iff_eq.mp hf)) (.inl rfl) ?_
  obtain ⟨ρ1,e1,e2,R1⟩:=R.push2 (C:=C)
  have r1:All2 (VRep ρ1 (objs++[SObj.inst C []]).length) (.ref objs.length :: args) (.ref (hh.objs.size + 1) :: vs):=.cons ⟨by simp,by rw [e2]⟩ (r.mono fun _ _ q=>q.ext e1 (by simp))
  refine codeR_mono (h _ g u ρ1 _ _ hr.make hK hT R1 r1) fun r' s' hq=>?_
  unfold InitBack
  cases r' with
  | error e=>exact hq
  | ok f =>
    cases f with
    | ret v =>
      obtain ⟨ρ2,res,objs',x2,l2,R2,r2,rfl,p⟩:=hq
      rw [List.length_append] at x2 l2
      refine ⟨r2,ρ2,.ref objs.length,objs',fun i q _=>(x2 i (Nat.lt_succ_of_lt q) rfl).trans (e1 i q),Nat.le_trans (Nat.le_succ _) l2,R2,⟨Nat.lt_of_lt_of_le (Nat.lt_succ_self _) l2,?_⟩,rfl,p⟩
      rw [x2 _ (Nat.lt_succ_self _) rfl,e2]
    | _=>exact hq
end Mine
end
section
namespace Mine
noncomputable def fnBody:Stmt→List Stmt
  | .FunctionDef _ _ b _ _ _ _ _ _ _=>b
  | _=>[]
noncomputable def fnArgs:Stmt→Arguments
  | .FunctionDef _ a _ _ _ _ _ _ _ _=>a
  | _=>default
noncomputable def fnScope:Stmt→Scope
  | .FunctionDef _ _ _ _ _ _ s _ _ _=>s
  | _=>default
noncomputable def fnName:Stmt→PySem.Str
  | .FunctionDef n _ _ _ _ _ _ _ _ _=>n
  | _=>default
@[reducible] noncomputable def x_write_groups : PySem.Str := "write_groups"
@[reducible] noncomputable def x_n : PySem.Str := "n"
@[reducible] noncomputable def x_most : PySem.Str := "most"
@[reducible] noncomputable def x_out : PySem.Str := "out"
@[reducible] noncomputable def x_BadOption : PySem.Str := "BadOption"
@[reducible] noncomputable def x_bytearray : PySem.Str := "bytearray"
@[reducible] noncomputable def x_bytes : PySem.Str := "bytes"
@[reducible] noncomputable def x_put_varint : PySem.Str := "put_varint"
@[reducible] noncomputable def x_MAX_64 : PySem.Str := "MAX_64"
@[reducible] noncomputable def x_put_varint32 : PySem.Str := "put_varint32"
@[reducible] noncomputable def x_MAX_32 : PySem.Str := "MAX_32"
@[reducible] noncomputable def x_put_fixed32 : PySem.Str := "put_fixed32"
@[reducible] noncomputable def x_put_fixed64 : PySem.Str := "put_fixed64"
@[reducible] noncomputable def x_read_fixed32 : PySem.Str := "read_fixed32"
@[reducible] noncomputable def x_data : PySem.Str := "data"
@[reducible] noncomputable def x_at : PySem.Str := "at"
@[reducible] noncomputable def x_len : PySem.Str := "len"
@[reducible] noncomputable def x_ShortOctets : PySem.Str := "ShortOctets"
@[reducible] noncomputable def x_read_fixed64 : PySem.Str := "read_fixed64"
@[reducible] noncomputable def x_checksum : PySem.Str := "checksum"
@[reducible] noncomputable def x_kind : PySem.Str := "kind"
@[reducible] noncomputable def x_CHECK_CRC : PySem.Str := "CHECK_CRC"
@[reducible] noncomputable def x_CHECK_SUM : PySem.Str := "CHECK_SUM"
@[reducible] noncomputable def x_sum : PySem.Str := "sum"
@[reducible] noncomputable def x_bloom_hash : PySem.Str := "bloom_hash"
@[reducible] noncomputable def x_size : PySem.Str := "size"
@[reducible] noncomputable def x_h : PySem.Str := "h"
@[reducible] noncomputable def x_rest : PySem.Str := "rest"
@[reducible] noncomputable def x_HASH_SEED : PySem.Str := "HASH_SEED"
@[reducible] noncomputable def x_HASH_MUL : PySem.Str := "HASH_MUL"
@[reducible] noncomputable def x_HASH_SHIFT : PySem.Str := "HASH_SHIFT"
@[reducible] noncomputable def x_pack_tag : PySem.Str := "pack_tag"
@[reducible] noncomputable def x_seq : PySem.Str := "seq"
@[reducible] noncomputable def x_MAX_SEQ : PySem.Str := "MAX_SEQ"
@[reducible] noncomputable def x_KIND_DELETE : PySem.Str := "KIND_DELETE"
@[reducible] noncomputable def x_KIND_VALUE : PySem.Str := "KIND_VALUE"
@[reducible] noncomputable def x_user_of : PySem.Str := "user_of"
@[reducible] noncomputable def x_ik : PySem.Str := "ik"
@[reducible] noncomputable def x_TAG_LENGTH : PySem.Str := "TAG_LENGTH"
@[reducible] noncomputable def x_Corrupt : PySem.Str := "Corrupt"
@[reducible] noncomputable def x_tag_of : PySem.Str := "tag_of"
@[reducible] noncomputable def x_compare : PySem.Str := "compare"
@[reducible] noncomputable def x_self : PySem.Str := "self"
@[reducible] noncomputable def x_a : PySem.Str := "a"
@[reducible] noncomputable def x_b : PySem.Str := "b"
@[reducible] noncomputable def x_separator : PySem.Str := "separator"
@[reducible] noncomputable def x_least : PySem.Str := "least"
@[reducible] noncomputable def x_min : PySem.Str := "min"
@[reducible] noncomputable def x_successor : PySem.Str := "successor"
@[reducible] noncomputable def x_range : PySem.Str := "range"
@[reducible] noncomputable def x_BytesOrder : PySem.Str := "BytesOrder"
@[reducible] noncomputable def x_user_order : PySem.Str := "user_order"
@[reducible] noncomputable def x_dress : PySem.Str := "dress"
@[reducible] noncomputable def x_user : PySem.Str := "user"
@[reducible] noncomputable def x_short : PySem.Str := "short"
@[reducible] noncomputable def x_KIND_SEEK : PySem.Str := "KIND_SEEK"
@[reducible] noncomputable def x_check : PySem.Str := "check"
@[reducible] noncomputable def x_log_block : PySem.Str := "log_block"
@[reducible] noncomputable def x_sync_writes : PySem.Str := "sync_writes"
@[reducible] noncomputable def x_create_missing : PySem.Str := "create_missing"
@[reducible] noncomputable def x_paranoid : PySem.Str := "paranoid"
@[reducible] noncomputable def x_write_buffer : PySem.Str := "write_buffer"
@[reducible] noncomputable def x_max_height : PySem.Str := "max_height"
@[reducible] noncomputable def x_heights : PySem.Str := "heights"
@[reducible] noncomputable def x_block_size : PySem.Str := "block_size"
@[reducible] noncomputable def x_restart_interval : PySem.Str := "restart_interval"
@[reducible] noncomputable def x_filter_bits : PySem.Str := "filter_bits"
@[reducible] noncomputable def x_filter_base_lg : PySem.Str := "filter_base_lg"
@[reducible] noncomputable def x_max_file_size : PySem.Str := "max_file_size"
@[reducible] noncomputable def x_num_levels : PySem.Str := "num_levels"
@[reducible] noncomputable def x_l0_trigger : PySem.Str := "l0_trigger"
@[reducible] noncomputable def x_l0_stop : PySem.Str := "l0_stop"
@[reducible] noncomputable def x_base_bytes : PySem.Str := "base_bytes"
@[reducible] noncomputable def x_level_factor : PySem.Str := "level_factor"
@[reducible] noncomputable def x_max_mem_level : PySem.Str := "max_mem_level"
@[reducible] noncomputable def x_grandparent_factor : PySem.Str := "grandparent_factor"
@[reducible] noncomputable def x_expand_factor : PySem.Str := "expand_factor"
@[reducible] noncomputable def x_shared_prefix : PySem.Str := "shared_prefix"
@[reducible] noncomputable def x_interval : PySem.Str := "interval"
@[reducible] noncomputable def x_order : PySem.Str := "order"
@[reducible] noncomputable def x_buffer : PySem.Str := "buffer"
@[reducible] noncomputable def x_restarts : PySem.Str := "restarts"
@[reducible] noncomputable def x_since : PySem.Str := "since"
@[reducible] noncomputable def x_entries : PySem.Str := "entries"
@[reducible] noncomputable def x_finished : PySem.Str := "finished"
@[reducible] noncomputable def x_last_key : PySem.Str := "last_key"
@[reducible] noncomputable def x_reset : PySem.Str := "reset"
@[reducible] noncomputable def x_empty : PySem.Str := "empty"
@[reducible] noncomputable def x_estimate : PySem.Str := "estimate"
@[reducible] noncomputable def x_add : PySem.Str := "add"
@[reducible] noncomputable def x_key : PySem.Str := "key"
@[reducible] noncomputable def x_value : PySem.Str := "value"
@[reducible] noncomputable def x_shared : PySem.Str := "shared"
@[reducible] noncomputable def x_BuildOrder : PySem.Str := "BuildOrder"
@[reducible] noncomputable def x_finish : PySem.Str := "finish"
@[reducible] noncomputable def x_offset : PySem.Str := "offset"
@[reducible] noncomputable def x_encode : PySem.Str := "encode"
@[reducible] noncomputable def x_seal_block : PySem.Str := "seal_block"
@[reducible] noncomputable def x_content : PySem.Str := "content"
@[reducible] noncomputable def x_PLAIN_TYPE : PySem.Str := "PLAIN_TYPE"
@[reducible] noncomputable def x_bits : PySem.Str := "bits"
@[reducible] noncomputable def x_probes : PySem.Str := "probes"
@[reducible] noncomputable def x_MOST_PROBES : PySem.Str := "MOST_PROBES"
@[reducible] noncomputable def x_make : PySem.Str := "make"
@[reducible] noncomputable def x_keys : PySem.Str := "keys"
@[reducible] noncomputable def x_wanted : PySem.Str := "wanted"
@[reducible] noncomputable def x_wide : PySem.Str := "wide"
@[reducible] noncomputable def x_delta : PySem.Str := "delta"
@[reducible] noncomputable def x_LEAST_FILTER_BITS : PySem.Str := "LEAST_FILTER_BITS"
@[reducible] noncomputable def x_WORD : PySem.Str := "WORD"
@[reducible] noncomputable def x_bloom : PySem.Str := "bloom"
@[reducible] noncomputable def x_base_lg : PySem.Str := "base_lg"
@[reducible] noncomputable def x_offsets : PySem.Str := "offsets"
@[reducible] noncomputable def x_filters : PySem.Str := "filters"
@[reducible] noncomputable def x_start_block : PySem.Str := "start_block"
@[reducible] noncomputable def x_span : PySem.Str := "span"
@[reducible] noncomputable def x_close_span : PySem.Str := "close_span"
@[reducible] noncomputable def x_add_key : PySem.Str := "add_key"
@[reducible] noncomputable def x_meta : PySem.Str := "meta"
@[reducible] noncomputable def x_index : PySem.Str := "index"
@[reducible] noncomputable def x_HANDLES_ROOM : PySem.Str := "HANDLES_ROOM"
@[reducible] noncomputable def x_MAGIC : PySem.Str := "MAGIC"
@[reducible] noncomputable def x_options : PySem.Str := "options"
@[reducible] noncomputable def x_BlockBuilder : PySem.Str := "BlockBuilder"
@[reducible] noncomputable def x_Bloom : PySem.Str := "Bloom"
@[reducible] noncomputable def x_FilterBuilder : PySem.Str := "FilterBuilder"
@[reducible] noncomputable def x_block : PySem.Str := "block"
@[reducible] noncomputable def x_waiting : PySem.Str := "waiting"
@[reducible] noncomputable def x_closed : PySem.Str := "closed"
@[reducible] noncomputable def x_count : PySem.Str := "count"
@[reducible] noncomputable def x_ikey : PySem.Str := "ikey"
@[reducible] noncomputable def x_close_block : PySem.Str := "close_block"
@[reducible] noncomputable def x_write_block : PySem.Str := "write_block"
@[reducible] noncomputable def x_Handle : PySem.Str := "Handle"
@[reducible] noncomputable def x_metas : PySem.Str := "metas"
@[reducible] noncomputable def x_FILTER_KEY : PySem.Str := "FILTER_KEY"
@[reducible] noncomputable def x_Footer : PySem.Str := "Footer"
@[reducible] noncomputable def x__law_users : PySem.Str := "_law_users"
@[reducible] noncomputable def x__law_limits : PySem.Str := "_law_limits"
@[reducible] noncomputable def x__law_draw : PySem.Str := "_law_draw"
@[reducible] noncomputable def x_nums : PySem.Str := "nums"
@[reducible] noncomputable def x_i : PySem.Str := "i"
@[reducible] noncomputable def x__law_options : PySem.Str := "_law_options"
@[reducible] noncomputable def x_setup : PySem.Str := "setup"
@[reducible] noncomputable def x_opts : PySem.Str := "opts"
@[reducible] noncomputable def x_Options : PySem.Str := "Options"
@[reducible] noncomputable def x__law_reckoned : PySem.Str := "_law_reckoned"
@[reducible] noncomputable def x_rows : PySem.Str := "rows"
@[reducible] noncomputable def x_limit : PySem.Str := "limit"
@[reducible] noncomputable def x_sizes : PySem.Str := "sizes"
@[reducible] noncomputable def x_weight : PySem.Str := "weight"
@[reducible] noncomputable def x_many : PySem.Str := "many"
@[reducible] noncomputable def x_before : PySem.Str := "before"
@[reducible] noncomputable def x_max : PySem.Str := "max"
@[reducible] noncomputable def x__law_refused : PySem.Str := "_law_refused"
@[reducible] noncomputable def x_builder : PySem.Str := "builder"
@[reducible] noncomputable def x__law_built : PySem.Str := "_law_built"
@[reducible] noncomputable def x_again : PySem.Str := "again"
@[reducible] noncomputable def x_table : PySem.Str := "table"
@[reducible] noncomputable def x_TableBuilder : PySem.Str := "TableBuilder"
@[reducible] noncomputable def x_InternalOrder : PySem.Str := "InternalOrder"
@[reducible] noncomputable def x__law_end : PySem.Str := "_law_end"
@[reducible] noncomputable def x_law : PySem.Str := "law"
@[reducible] noncomputable def x_script : PySem.Str := "script"
@[reducible] noncomputable def x_x : PySem.Str := "x"
@[reducible] noncomputable def x_heads : PySem.Str := "heads"
@[reducible] noncomputable def x_head : PySem.Str := "head"
@[reducible] noncomputable def x_cut : PySem.Str := "cut"
@[reducible] noncomputable def x_bare : PySem.Str := "bare"
@[reducible] noncomputable def x_lit : PySem.Str := "lit"
@[reducible] noncomputable def x_end : PySem.Str := "end"
@[reducible] noncomputable def x_whole : PySem.Str := "whole"
@[reducible] noncomputable def x_told : PySem.Str := "told"
@[reducible] noncomputable def x_bright : PySem.Str := "bright"
@[reducible] noncomputable def x_first : PySem.Str := "first"
@[reducible] noncomputable def x_sorted : PySem.Str := "sorted"
@[reducible] noncomputable def x_one : PySem.Str := "one"
@[reducible] noncomputable def b_write_groups:List Stmt:=fnBody (stQ 18)
@[reducible] noncomputable def sc_write_groups:Scope:=fnScope (stQ 18)
@[reducible] noncomputable def fo_write_groups:FuncData:=fnOf (fnName (stQ 18)) n27 (fnArgs (stQ 18)) b_write_groups sc_write_groups .none .none .none (.str n80 296) none (.ref 100) .none
theorem lk_write_groups (P : Params) : (KF P).lookup 101 = some ⟨.type "function", none, .func fo_write_groups, #[]⟩ := by kernel_rfl
theorem cd_write_groups (P:Params):codeIn (KF P) (.ref 100) n27 = true:=by kernel_rfl
@[reducible] noncomputable def b_put_varint:List Stmt:=fnBody (stQ 19)
@[reducible] noncomputable def sc_put_varint:Scope:=fnScope (stQ 19)
@[reducible] noncomputable def fo_put_varint:FuncData:=fnOf (fnName (stQ 19)) n28 (fnArgs (stQ 19)) b_put_varint sc_put_varint .none .none .none (.str n80 296) none (.ref 107) .none
theorem lk_put_varint (P : Params) : (KF P).lookup 108 = some ⟨.type "function", none, .func fo_put_varint, #[]⟩ := by kernel_rfl
theorem cd_put_varint (P:Params):codeIn (KF P) (.ref 107) n28 = true:=by kernel_rfl
@[reducible] noncomputable def b_put_varint32:List Stmt:=fnBody (stQ 20)
@[reducible] noncomputable def sc_put_varint32:Scope:=fnScope (stQ 20)
@[reducible] noncomputable def fo_put_varint32:FuncData:=fnOf (fnName (stQ 20)) n29 (fnArgs (stQ 20)) b_put_varint32 sc_put_varint32 .none .none .none (.str n80 296) none (.ref 114) .none
theorem lk_put_varint32 (P : Params) : (KF P).lookup 115 = some ⟨.type "function", none, .func fo_put_varint32, #[]⟩ := by kernel_rfl
theorem cd_put_varint32 (P:Params):codeIn (KF P) (.ref 114) n29 = true:=by kernel_rfl
@[reducible] noncomputable def b_put_fixed32:List Stmt:=fnBody (stQ 21)
@[reducible] noncomputable def sc_put_fixed32:Scope:=fnScope (stQ 21)
@[reducible] noncomputable def fo_put_fixed32:FuncData:=fnOf (fnName (stQ 21)) n30 (fnArgs (stQ 21)) b_put_fixed32 sc_put_fixed32 .none .none .none (.str n80 296) none (.ref 121) .none
theorem lk_put_fixed32 (P : Params) : (KF P).lookup 122 = some ⟨.type "function", none, .func fo_put_fixed32, #[]⟩ := by kernel_rfl
theorem cd_put_fixed32 (P:Params):codeIn (KF P) (.ref 121) n30 = true:=by kernel_rfl
@[reducible] noncomputable def b_put_fixed64:List Stmt:=fnBody (stQ 22)
@[reducible] noncomputable def sc_put_fixed64:Scope:=fnScope (stQ 22)
@[reducible] noncomputable def fo_put_fixed64:FuncData:=fnOf (fnName (stQ 22)) n31 (fnArgs (stQ 22)) b_put_fixed64 sc_put_fixed64 .none .none .none (.str n80 296) none (.ref 128) .none
theorem lk_put_fixed64 (P : Params) : (KF P).lookup 129 = some ⟨.type "function", none, .func fo_put_fixed64, #[]⟩ := by kernel_rfl
theorem cd_put_fixed64 (P:Params):codeIn (KF P) (.ref 128) n31 = true:=by kernel_rfl
@[reducible] noncomputable def b_read_fixed32:List Stmt:=fnBody (stQ 23)
@[reducible] noncomputable def sc_read_fixed32:Scope:=fnScope (stQ 23)
@[reducible] noncomputable def fo_read_fixed32:FuncData:=fnOf (fnName (stQ 23)) n32 (fnArgs (stQ 23)) b_read_fixed32 sc_read_fixed32 .none .none .none (.str n80 296) none (.ref 135) .none
theorem lk_read_fixed32 (P : Params) : (KF P).lookup 136 = some ⟨.type "function", none, .func fo_read_fixed32, #[]⟩ := by kernel_rfl
theorem cd_read_fixed32 (P:Params):codeIn (KF P) (.ref 135) n32 = true:=by kernel_rfl
@[reducible] noncomputable def b_read_fixed64:List Stmt:=fnBody (stQ 24)
@[reducible] noncomputable def sc_read_fixed64:Scope:=fnScope (stQ 24)
@[reducible] noncomputable def fo_read_fixed64:FuncData:=fnOf (fnName (stQ 24)) n33 (fnArgs (stQ 24)) b_read_fixed64 sc_read_fixed64 .none .none .none (.str n80 296) none (.ref 142) .none
theorem lk_read_fixed64 (P : Params) : (KF P).lookup 143 = some ⟨.type "function", none, .func fo_read_fixed64, #[]⟩ := by kernel_rfl
theorem cd_read_fixed64 (P:Params):codeIn (KF P) (.ref 142) n33 = true:=by kernel_rfl
@[reducible] noncomputable def b_checksum:List Stmt:=fnBody (stQ 28)
@[reducible] noncomputable def sc_checksum:Scope:=fnScope (stQ 28)
@[reducible] noncomputable def fo_checksum:FuncData:=fnOf (fnName (stQ 28)) n37 (fnArgs (stQ 28)) b_checksum sc_checksum .none .none .none (.str n80 296) none (.ref 171) .none
theorem lk_checksum (P : Params) : (KF P).lookup 172 = some ⟨.type "function", none, .func fo_checksum, #[]⟩ := by kernel_rfl
theorem cd_checksum (P:Params):codeIn (KF P) (.ref 171) n37 = true:=by kernel_rfl
@[reducible] noncomputable def b_bloom_hash:List Stmt:=fnBody (stQ 29)
@[reducible] noncomputable def sc_bloom_hash:Scope:=fnScope (stQ 29)
@[reducible] noncomputable def fo_bloom_hash:FuncData:=fnOf (fnName (stQ 29)) n38 (fnArgs (stQ 29)) b_bloom_hash sc_bloom_hash .none .none .none (.str n80 296) none (.ref 178) .none
theorem lk_bloom_hash (P : Params) : (KF P).lookup 179 = some ⟨.type "function", none, .func fo_bloom_hash, #[]⟩ := by kernel_rfl
theorem cd_bloom_hash (P:Params):codeIn (KF P) (.ref 178) n38 = true:=by kernel_rfl
@[reducible] noncomputable def b_pack_tag:List Stmt:=fnBody (stQ 36)
@[reducible] noncomputable def sc_pack_tag:Scope:=fnScope (stQ 36)
@[reducible] noncomputable def fo_pack_tag:FuncData:=fnOf (fnName (stQ 36)) n44 (fnArgs (stQ 36)) b_pack_tag sc_pack_tag .none .none .none (.str n81 417) none (.ref 185) .none
theorem lk_pack_tag (P : Params) : (KF P).lookup 186 = some ⟨.type "function", none, .func fo_pack_tag, #[]⟩ := by kernel_rfl
theorem cd_pack_tag (P:Params):codeIn (KF P) (.ref 185) n44 = true:=by kernel_rfl
@[reducible] noncomputable def b_user_of:List Stmt:=fnBody (stQ 37)
@[reducible] noncomputable def sc_user_of:Scope:=fnScope (stQ 37)
@[reducible] noncomputable def fo_user_of:FuncData:=fnOf (fnName (stQ 37)) n45 (fnArgs (stQ 37)) b_user_of sc_user_of .none .none .none (.str n81 417) none (.ref 192) .none
theorem lk_user_of (P : Params) : (KF P).lookup 193 = some ⟨.type "function", none, .func fo_user_of, #[]⟩ := by kernel_rfl
theorem cd_user_of (P:Params):codeIn (KF P) (.ref 192) n45 = true:=by kernel_rfl
@[reducible] noncomputable def b_tag_of:List Stmt:=fnBody (stQ 38)
@[reducible] noncomputable def sc_tag_of:Scope:=fnScope (stQ 38)
@[reducible] noncomputable def fo_tag_of:FuncData:=fnOf (fnName (stQ 38)) n46 (fnArgs (stQ 38)) b_tag_of sc_tag_of .none .none .none (.str n81 417) none (.ref 199) .none
theorem lk_tag_of (P : Params) : (KF P).lookup 200 = some ⟨.type "function", none, .func fo_tag_of, #[]⟩ := by kernel_rfl
theorem cd_tag_of (P:Params):codeIn (KF P) (.ref 199) n46 = true:=by kernel_rfl
@[reducible] noncomputable def b_Order_compare:List Stmt:=fnBody (meQ 39 0)
@[reducible] noncomputable def sc_Order_compare:Scope:=fnScope (meQ 39 0)
@[reducible] noncomputable def fo_Order_compare:FuncData:=fnOf (fnName (meQ 39 0)) n83 (fnArgs (meQ 39 0)) b_Order_compare sc_Order_compare .none .none .none (.str n81 417) none (.ref 213) .none
theorem lk_Order_compare (P : Params) : (KF P).lookup 214 = some ⟨.type "function", none, .func fo_Order_compare, #[]⟩ := by kernel_rfl
theorem cd_Order_compare (P:Params):codeIn (KF P) (.ref 213) n83 = true:=by kernel_rfl
@[reducible] noncomputable def b_BytesOrder_separator:List Stmt:=fnBody (meQ 40 0)
@[reducible] noncomputable def sc_BytesOrder_separator:Scope:=fnScope (meQ 40 0)
@[reducible] noncomputable def fo_BytesOrder_separator:FuncData:=fnOf (fnName (meQ 40 0)) n88 (fnArgs (meQ 40 0)) b_BytesOrder_separator sc_BytesOrder_separator .none .none .none (.str n81 417) none (.ref 255) .none
theorem lk_BytesOrder_separator (P : Params) : (KF P).lookup 256 = some ⟨.type "function", none, .func fo_BytesOrder_separator, #[]⟩ := by kernel_rfl
theorem cd_BytesOrder_separator (P:Params):codeIn (KF P) (.ref 255) n88 = true:=by kernel_rfl
@[reducible] noncomputable def b_BytesOrder_successor:List Stmt:=fnBody (meQ 40 1)
@[reducible] noncomputable def sc_BytesOrder_successor:Scope:=fnScope (meQ 40 1)
@[reducible] noncomputable def fo_BytesOrder_successor:FuncData:=fnOf (fnName (meQ 40 1)) n89 (fnArgs (meQ 40 1)) b_BytesOrder_successor sc_BytesOrder_successor .none .none .none (.str n81 417) none (.ref 262) .none
theorem lk_BytesOrder_successor (P : Params) : (KF P).lookup 263 = some ⟨.type "function", none, .func fo_BytesOrder_successor, #[]⟩ := by kernel_rfl
theorem cd_BytesOrder_successor (P:Params):codeIn (KF P) (.ref 262) n89 = true:=by kernel_rfl
@[reducible] noncomputable def b_InternalOrder___init__:List Stmt:=fnBody (meQ 41 0)
@[reducible] noncomputable def sc_InternalOrder___init__:Scope:=fnScope (meQ 41 0)
@[reducible] noncomputable def fo_InternalOrder___init__:FuncData:=fnOf (fnName (meQ 41 0)) n91 (fnArgs (meQ 41 0)) b_InternalOrder___init__ sc_InternalOrder___init__ .none .none .none (.str n81 417) none (.ref 288) .none
theorem lk_InternalOrder___init__ (P : Params) : (KF P).lookup 289 = some ⟨.type "function", none, .func fo_InternalOrder___init__, #[]⟩ := by kernel_rfl
theorem cd_InternalOrder___init__ (P:Params):codeIn (KF P) (.ref 288) n91 = true:=by kernel_rfl
@[reducible] noncomputable def b_InternalOrder_compare:List Stmt:=fnBody (meQ 41 1)
@[reducible] noncomputable def sc_InternalOrder_compare:Scope:=fnScope (meQ 41 1)
@[reducible] noncomputable def fo_InternalOrder_compare:FuncData:=fnOf (fnName (meQ 41 1)) n92 (fnArgs (meQ 41 1)) b_InternalOrder_compare sc_InternalOrder_compare .none .none .none (.str n81 417) none (.ref 295) .none
theorem lk_InternalOrder_compare (P : Params) : (KF P).lookup 296 = some ⟨.type "function", none, .func fo_InternalOrder_compare, #[]⟩ := by kernel_rfl
theorem cd_InternalOrder_compare (P:Params):codeIn (KF P) (.ref 295) n92 = true:=by kernel_rfl
@[reducible] noncomputable def b_InternalOrder_dress:List Stmt:=fnBody (meQ 41 2)
@[reducible] noncomputable def sc_InternalOrder_dress:Scope:=fnScope (meQ 41 2)
@[reducible] noncomputable def fo_InternalOrder_dress:FuncData:=fnOf (fnName (meQ 41 2)) n94 (fnArgs (meQ 41 2)) b_InternalOrder_dress sc_InternalOrder_dress .none .none .none (.str n81 417) none (.ref 302) .none
theorem lk_InternalOrder_dress (P : Params) : (KF P).lookup 303 = some ⟨.type "function", none, .func fo_InternalOrder_dress, #[]⟩ := by kernel_rfl
theorem cd_InternalOrder_dress (P:Params):codeIn (KF P) (.ref 302) n94 = true:=by kernel_rfl
@[reducible] noncomputable def b_InternalOrder_separator:List Stmt:=fnBody (meQ 41 3)
@[reducible] noncomputable def sc_InternalOrder_separator:Scope:=fnScope (meQ 41 3)
@[reducible] noncomputable def fo_InternalOrder_separator:FuncData:=fnOf (fnName (meQ 41 3)) n95 (fnArgs (meQ 41 3)) b_InternalOrder_separator sc_InternalOrder_separator .none .none .none (.str n81 417) none (.ref 309) .none
theorem lk_InternalOrder_separator (P : Params) : (KF P).lookup 310 = some ⟨.type "function", none, .func fo_InternalOrder_separator, #[]⟩ := by kernel_rfl
theorem cd_InternalOrder_separator (P:Params):codeIn (KF P) (.ref 309) n95 = true:=by kernel_rfl
@[reducible] noncomputable def b_InternalOrder_successor:List Stmt:=fnBody (meQ 41 4)
@[reducible] noncomputable def sc_InternalOrder_successor:Scope:=fnScope (meQ 41 4)
@[reducible] noncomputable def fo_InternalOrder_successor:FuncData:=fnOf (fnName (meQ 41 4)) n96 (fnArgs (meQ 41 4)) b_InternalOrder_successor sc_InternalOrder_successor .none .none .none (.str n81 417) none (.ref 316) .none
theorem lk_InternalOrder_successor (P : Params) : (KF P).lookup 317 = some ⟨.type "function", none, .func fo_InternalOrder_successor, #[]⟩ := by kernel_rfl
theorem cd_InternalOrder_successor (P:Params):codeIn (KF P) (.ref 316) n96 = true:=by kernel_rfl
@[reducible] noncomputable def b_Options___init__:List Stmt:=fnBody (meQ 42 0)
@[reducible] noncomputable def sc_Options___init__:Scope:=fnScope (meQ 42 0)
@[reducible] noncomputable def fo_Options___init__:FuncData:=fnOf (fnName (meQ 42 0)) n97 (fnArgs (meQ 42 0)) b_Options___init__ sc_Options___init__ .none .none .none (.str n81 417) none (.ref 342) .none
theorem lk_Options___init__ (P : Params) : (KF P).lookup 343 = some ⟨.type "function", none, .func fo_Options___init__, #[]⟩ := by kernel_rfl
theorem cd_Options___init__ (P:Params):codeIn (KF P) (.ref 342) n97 = true:=by kernel_rfl
@[reducible] noncomputable def b_shared_prefix:List Stmt:=fnBody (stQ 48)
@[reducible] noncomputable def sc_shared_prefix:Scope:=fnScope (stQ 48)
@[reducible] noncomputable def fo_shared_prefix:FuncData:=fnOf (fnName (stQ 48)) n55 (fnArgs (stQ 48)) b_shared_prefix sc_shared_prefix .none .none .none (.str n100 681) none (.ref 370) .none
theorem lk_shared_prefix (P : Params) : (KF P).lookup 371 = some ⟨.type "function", none, .func fo_shared_prefix, #[]⟩ := by kernel_rfl
theorem cd_shared_prefix (P:Params):codeIn (KF P) (.ref 370) n55 = true:=by kernel_rfl
@[reducible] noncomputable def b_BlockBuilder___init__:List Stmt:=fnBody (meQ 49 0)
@[reducible] noncomputable def sc_BlockBuilder___init__:Scope:=fnScope (meQ 49 0)
@[reducible] noncomputable def fo_BlockBuilder___init__:FuncData:=fnOf (fnName (meQ 49 0)) n101 (fnArgs (meQ 49 0)) b_BlockBuilder___init__ sc_BlockBuilder___init__ .none .none .none (.str n100 681) none (.ref 384) .none
theorem lk_BlockBuilder___init__ (P : Params) : (KF P).lookup 385 = some ⟨.type "function", none, .func fo_BlockBuilder___init__, #[]⟩ := by kernel_rfl
theorem cd_BlockBuilder___init__ (P:Params):codeIn (KF P) (.ref 384) n101 = true:=by kernel_rfl
@[reducible] noncomputable def b_BlockBuilder_reset:List Stmt:=fnBody (meQ 49 1)
@[reducible] noncomputable def sc_BlockBuilder_reset:Scope:=fnScope (meQ 49 1)
@[reducible] noncomputable def fo_BlockBuilder_reset:FuncData:=fnOf (fnName (meQ 49 1)) n103 (fnArgs (meQ 49 1)) b_BlockBuilder_reset sc_BlockBuilder_reset .none .none .none (.str n100 681) none (.ref 391) .none
theorem lk_BlockBuilder_reset (P : Params) : (KF P).lookup 392 = some ⟨.type "function", none, .func fo_BlockBuilder_reset, #[]⟩ := by kernel_rfl
theorem cd_BlockBuilder_reset (P:Params):codeIn (KF P) (.ref 391) n103 = true:=by kernel_rfl
@[reducible] noncomputable def b_BlockBuilder_empty:List Stmt:=fnBody (meQ 49 2)
@[reducible] noncomputable def sc_BlockBuilder_empty:Scope:=fnScope (meQ 49 2)
@[reducible] noncomputable def fo_BlockBuilder_empty:FuncData:=fnOf (fnName (meQ 49 2)) n105 (fnArgs (meQ 49 2)) b_BlockBuilder_empty sc_BlockBuilder_empty .none .none .none (.str n100 681) none (.ref 398) .none
theorem lk_BlockBuilder_empty (P : Params) : (KF P).lookup 399 = some ⟨.type "function", none, .func fo_BlockBuilder_empty, #[]⟩ := by kernel_rfl
theorem cd_BlockBuilder_empty (P:Params):codeIn (KF P) (.ref 398) n105 = true:=by kernel_rfl
@[reducible] noncomputable def b_BlockBuilder_estimate:List Stmt:=fnBody (meQ 49 3)
@[reducible] noncomputable def sc_BlockBuilder_estimate:Scope:=fnScope (meQ 49 3)
@[reducible] noncomputable def fo_BlockBuilder_estimate:FuncData:=fnOf (fnName (meQ 49 3)) n107 (fnArgs (meQ 49 3)) b_BlockBuilder_estimate sc_BlockBuilder_estimate .none .none .none (.str n100 681) none (.ref 405) .none
theorem lk_BlockBuilder_estimate (P : Params) : (KF P).lookup 406 = some ⟨.type "function", none, .func fo_BlockBuilder_estimate, #[]⟩ := by kernel_rfl
theorem cd_BlockBuilder_estimate (P:Params):codeIn (KF P) (.ref 405) n107 = true:=by kernel_rfl
@[reducible] noncomputable def b_BlockBuilder_add:List Stmt:=fnBody (meQ 49 4)
@[reducible] noncomputable def sc_BlockBuilder_add:Scope:=fnScope (meQ 49 4)
@[reducible] noncomputable def fo_BlockBuilder_add:FuncData:=fnOf (fnName (meQ 49 4)) n109 (fnArgs (meQ 49 4)) b_BlockBuilder_add sc_BlockBuilder_add .none .none .none (.str n100 681) none (.ref 412) .none
theorem lk_BlockBuilder_add (P : Params) : (KF P).lookup 413 = some ⟨.type "function", none, .func fo_BlockBuilder_add, #[]⟩ := by kernel_rfl
theorem cd_BlockBuilder_add (P:Params):codeIn (KF P) (.ref 412) n109 = true:=by kernel_rfl
@[reducible] noncomputable def b_BlockBuilder_finish:List Stmt:=fnBody (meQ 49 5)
@[reducible] noncomputable def sc_BlockBuilder_finish:Scope:=fnScope (meQ 49 5)
@[reducible] noncomputable def fo_BlockBuilder_finish:FuncData:=fnOf (fnName (meQ 49 5)) n111 (fnArgs (meQ 49 5)) b_BlockBuilder_finish sc_BlockBuilder_finish .none .none .none (.str n100 681) none (.ref 419) .none
theorem lk_BlockBuilder_finish (P : Params) : (KF P).lookup 420 = some ⟨.type "function", none, .func fo_BlockBuilder_finish, #[]⟩ := by kernel_rfl
theorem cd_BlockBuilder_finish (P:Params):codeIn (KF P) (.ref 419) n111 = true:=by kernel_rfl
@[reducible] noncomputable def b_Handle___init__:List Stmt:=fnBody (meQ 50 0)
@[reducible] noncomputable def sc_Handle___init__:Scope:=fnScope (meQ 50 0)
@[reducible] noncomputable def fo_Handle___init__:FuncData:=fnOf (fnName (meQ 50 0)) n112 (fnArgs (meQ 50 0)) b_Handle___init__ sc_Handle___init__ .none .none .none (.str n100 681) none (.ref 440) .none
theorem lk_Handle___init__ (P : Params) : (KF P).lookup 441 = some ⟨.type "function", none, .func fo_Handle___init__, #[]⟩ := by kernel_rfl
theorem cd_Handle___init__ (P:Params):codeIn (KF P) (.ref 440) n112 = true:=by kernel_rfl
@[reducible] noncomputable def b_Handle_encode:List Stmt:=fnBody (meQ 50 1)
@[reducible] noncomputable def sc_Handle_encode:Scope:=fnScope (meQ 50 1)
@[reducible] noncomputable def fo_Handle_encode:FuncData:=fnOf (fnName (meQ 50 1)) n114 (fnArgs (meQ 50 1)) b_Handle_encode sc_Handle_encode .none .none .none (.str n100 681) none (.ref 447) .none
theorem lk_Handle_encode (P : Params) : (KF P).lookup 448 = some ⟨.type "function", none, .func fo_Handle_encode, #[]⟩ := by kernel_rfl
theorem cd_Handle_encode (P:Params):codeIn (KF P) (.ref 447) n114 = true:=by kernel_rfl
@[reducible] noncomputable def b_seal_block:List Stmt:=fnBody (stQ 51)
@[reducible] noncomputable def sc_seal_block:Scope:=fnScope (stQ 51)
@[reducible] noncomputable def fo_seal_block:FuncData:=fnOf (fnName (stQ 51)) n58 (fnArgs (stQ 51)) b_seal_block sc_seal_block .none .none .none (.str n100 681) none (.ref 468) .none
theorem lk_seal_block (P : Params) : (KF P).lookup 469 = some ⟨.type "function", none, .func fo_seal_block, #[]⟩ := by kernel_rfl
theorem cd_seal_block (P:Params):codeIn (KF P) (.ref 468) n58 = true:=by kernel_rfl
@[reducible] noncomputable def b_Bloom___init__:List Stmt:=fnBody (meQ 52 0)
@[reducible] noncomputable def sc_Bloom___init__:Scope:=fnScope (meQ 52 0)
@[reducible] noncomputable def fo_Bloom___init__:FuncData:=fnOf (fnName (meQ 52 0)) n116 (fnArgs (meQ 52 0)) b_Bloom___init__ sc_Bloom___init__ .none .none .none (.str n100 681) none (.ref 482) .none
theorem lk_Bloom___init__ (P : Params) : (KF P).lookup 483 = some ⟨.type "function", none, .func fo_Bloom___init__, #[]⟩ := by kernel_rfl
theorem cd_Bloom___init__ (P:Params):codeIn (KF P) (.ref 482) n116 = true:=by kernel_rfl
@[reducible] noncomputable def b_Bloom_make:List Stmt:=fnBody (meQ 52 1)
@[reducible] noncomputable def sc_Bloom_make:Scope:=fnScope (meQ 52 1)
@[reducible] noncomputable def fo_Bloom_make:FuncData:=fnOf (fnName (meQ 52 1)) n118 (fnArgs (meQ 52 1)) b_Bloom_make sc_Bloom_make .none .none .none (.str n100 681) none (.ref 489) .none
theorem lk_Bloom_make (P : Params) : (KF P).lookup 490 = some ⟨.type "function", none, .func fo_Bloom_make, #[]⟩ := by kernel_rfl
theorem cd_Bloom_make (P:Params):codeIn (KF P) (.ref 489) n118 = true:=by kernel_rfl
@[reducible] noncomputable def b_FilterBuilder___init__:List Stmt:=fnBody (meQ 53 0)
@[reducible] noncomputable def sc_FilterBuilder___init__:Scope:=fnScope (meQ 53 0)
@[reducible] noncomputable def fo_FilterBuilder___init__:FuncData:=fnOf (fnName (meQ 53 0)) n120 (fnArgs (meQ 53 0)) b_FilterBuilder___init__ sc_FilterBuilder___init__ .none .none .none (.str n100 681) none (.ref 517) .none
theorem lk_FilterBuilder___init__ (P : Params) : (KF P).lookup 518 = some ⟨.type "function", none, .func fo_FilterBuilder___init__, #[]⟩ := by kernel_rfl
theorem cd_FilterBuilder___init__ (P:Params):codeIn (KF P) (.ref 517) n120 = true:=by kernel_rfl
@[reducible] noncomputable def b_FilterBuilder_start_block:List Stmt:=fnBody (meQ 53 1)
@[reducible] noncomputable def sc_FilterBuilder_start_block:Scope:=fnScope (meQ 53 1)
@[reducible] noncomputable def fo_FilterBuilder_start_block:FuncData:=fnOf (fnName (meQ 53 1)) n122 (fnArgs (meQ 53 1)) b_FilterBuilder_start_block sc_FilterBuilder_start_block .none .none .none (.str n100 681) none (.ref 524) .none
theorem lk_FilterBuilder_start_block (P : Params) : (KF P).lookup 525 = some ⟨.type "function", none, .func fo_FilterBuilder_start_block, #[]⟩ := by kernel_rfl
theorem cd_FilterBuilder_start_block (P:Params):codeIn (KF P) (.ref 524) n122 = true:=by kernel_rfl
@[reducible] noncomputable def b_FilterBuilder_add_key:List Stmt:=fnBody (meQ 53 2)
@[reducible] noncomputable def sc_FilterBuilder_add_key:Scope:=fnScope (meQ 53 2)
@[reducible] noncomputable def fo_FilterBuilder_add_key:FuncData:=fnOf (fnName (meQ 53 2)) n124 (fnArgs (meQ 53 2)) b_FilterBuilder_add_key sc_FilterBuilder_add_key .none .none .none (.str n100 681) none (.ref 531) .none
theorem lk_FilterBuilder_add_key (P : Params) : (KF P).lookup 532 = some ⟨.type "function", none, .func fo_FilterBuilder_add_key, #[]⟩ := by kernel_rfl
theorem cd_FilterBuilder_add_key (P:Params):codeIn (KF P) (.ref 531) n124 = true:=by kernel_rfl
@[reducible] noncomputable def b_FilterBuilder_close_span:List Stmt:=fnBody (meQ 53 3)
@[reducible] noncomputable def sc_FilterBuilder_close_span:Scope:=fnScope (meQ 53 3)
@[reducible] noncomputable def fo_FilterBuilder_close_span:FuncData:=fnOf (fnName (meQ 53 3)) n126 (fnArgs (meQ 53 3)) b_FilterBuilder_close_span sc_FilterBuilder_close_span .none .none .none (.str n100 681) none (.ref 538) .none
theorem lk_FilterBuilder_close_span (P : Params) : (KF P).lookup 539 = some ⟨.type "function", none, .func fo_FilterBuilder_close_span, #[]⟩ := by kernel_rfl
theorem cd_FilterBuilder_close_span (P:Params):codeIn (KF P) (.ref 538) n126 = true:=by kernel_rfl
@[reducible] noncomputable def b_FilterBuilder_finish:List Stmt:=fnBody (meQ 53 4)
@[reducible] noncomputable def sc_FilterBuilder_finish:Scope:=fnScope (meQ 53 4)
@[reducible] noncomputable def fo_FilterBuilder_finish:FuncData:=fnOf (fnName (meQ 53 4)) n127 (fnArgs (meQ 53 4)) b_FilterBuilder_finish sc_FilterBuilder_finish .none .none .none (.str n100 681) none (.ref 545) .none
theorem lk_FilterBuilder_finish (P : Params) : (KF P).lookup 546 = some ⟨.type "function", none, .func fo_FilterBuilder_finish, #[]⟩ := by kernel_rfl
theorem cd_FilterBuilder_finish (P:Params):codeIn (KF P) (.ref 545) n127 = true:=by kernel_rfl
@[reducible] noncomputable def b_Footer___init__:List Stmt:=fnBody (meQ 58 0)
@[reducible] noncomputable def sc_Footer___init__:Scope:=fnScope (meQ 58 0)
@[reducible] noncomputable def fo_Footer___init__:FuncData:=fnOf (fnName (meQ 58 0)) n128 (fnArgs (meQ 58 0)) b_Footer___init__ sc_Footer___init__ .none .none .none (.str n129 957) none (.ref 566) .none
theorem lk_Footer___init__ (P : Params) : (KF P).lookup 567 = some ⟨.type "function", none, .func fo_Footer___init__, #[]⟩ := by kernel_rfl
theorem cd_Footer___init__ (P:Params):codeIn (KF P) (.ref 566) n128 = true:=by kernel_rfl
@[reducible] noncomputable def b_Footer_encode:List Stmt:=fnBody (meQ 58 1)
@[reducible] noncomputable def sc_Footer_encode:Scope:=fnScope (meQ 58 1)
@[reducible] noncomputable def fo_Footer_encode:FuncData:=fnOf (fnName (meQ 58 1)) n130 (fnArgs (meQ 58 1)) b_Footer_encode sc_Footer_encode .none .none .none (.str n129 957) none (.ref 573) .none
theorem lk_Footer_encode (P : Params) : (KF P).lookup 574 = some ⟨.type "function", none, .func fo_Footer_encode, #[]⟩ := by kernel_rfl
theorem cd_Footer_encode (P:Params):codeIn (KF P) (.ref 573) n130 = true:=by kernel_rfl
@[reducible] noncomputable def b_TableBuilder___init__:List Stmt:=fnBody (meQ 59 0)
@[reducible] noncomputable def sc_TableBuilder___init__:Scope:=fnScope (meQ 59 0)
@[reducible] noncomputable def fo_TableBuilder___init__:FuncData:=fnOf (fnName (meQ 59 0)) n131 (fnArgs (meQ 59 0)) b_TableBuilder___init__ sc_TableBuilder___init__ .none .none .none (.str n129 957) none (.ref 601) .none
theorem lk_TableBuilder___init__ (P : Params) : (KF P).lookup 602 = some ⟨.type "function", none, .func fo_TableBuilder___init__, #[]⟩ := by kernel_rfl
theorem cd_TableBuilder___init__ (P:Params):codeIn (KF P) (.ref 601) n131 = true:=by kernel_rfl
@[reducible] noncomputable def b_TableBuilder_size:List Stmt:=fnBody (meQ 59 1)
@[reducible] noncomputable def sc_TableBuilder_size:Scope:=fnScope (meQ 59 1)
@[reducible] noncomputable def fo_TableBuilder_size:FuncData:=fnOf (fnName (meQ 59 1)) n133 (fnArgs (meQ 59 1)) b_TableBuilder_size sc_TableBuilder_size .none .none .none (.str n129 957) none (.ref 608) .none
theorem lk_TableBuilder_size (P : Params) : (KF P).lookup 609 = some ⟨.type "function", none, .func fo_TableBuilder_size, #[]⟩ := by kernel_rfl
theorem cd_TableBuilder_size (P:Params):codeIn (KF P) (.ref 608) n133 = true:=by kernel_rfl
@[reducible] noncomputable def b_TableBuilder_count:List Stmt:=fnBody (meQ 59 2)
@[reducible] noncomputable def sc_TableBuilder_count:Scope:=fnScope (meQ 59 2)
@[reducible] noncomputable def fo_TableBuilder_count:FuncData:=fnOf (fnName (meQ 59 2)) n135 (fnArgs (meQ 59 2)) b_TableBuilder_count sc_TableBuilder_count .none .none .none (.str n129 957) none (.ref 615) .none
theorem lk_TableBuilder_count (P : Params) : (KF P).lookup 616 = some ⟨.type "function", none, .func fo_TableBuilder_count, #[]⟩ := by kernel_rfl
theorem cd_TableBuilder_count (P:Params):codeIn (KF P) (.ref 615) n135 = true:=by kernel_rfl
@[reducible] noncomputable def b_TableBuilder_add:List Stmt:=fnBody (meQ 59 3)
@[reducible] noncomputable def sc_TableBuilder_add:Scope:=fnScope (meQ 59 3)
@[reducible] noncomputable def fo_TableBuilder_add:FuncData:=fnOf (fnName (meQ 59 3)) n136 (fnArgs (meQ 59 3)) b_TableBuilder_add sc_TableBuilder_add .none .none .none (.str n129 957) none (.ref 622) .none
theorem lk_TableBuilder_add (P : Params) : (KF P).lookup 623 = some ⟨.type "function", none, .func fo_TableBuilder_add, #[]⟩ := by kernel_rfl
theorem cd_TableBuilder_add (P:Params):codeIn (KF P) (.ref 622) n136 = true:=by kernel_rfl
@[reducible] noncomputable def b_TableBuilder_write_block:List Stmt:=fnBody (meQ 59 4)
@[reducible] noncomputable def sc_TableBuilder_write_block:Scope:=fnScope (meQ 59 4)
@[reducible] noncomputable def fo_TableBuilder_write_block:FuncData:=fnOf (fnName (meQ 59 4)) n138 (fnArgs (meQ 59 4)) b_TableBuilder_write_block sc_TableBuilder_write_block .none .none .none (.str n129 957) none (.ref 629) .none
theorem lk_TableBuilder_write_block (P : Params) : (KF P).lookup 630 = some ⟨.type "function", none, .func fo_TableBuilder_write_block, #[]⟩ := by kernel_rfl
theorem cd_TableBuilder_write_block (P:Params):codeIn (KF P) (.ref 629) n138 = true:=by kernel_rfl
@[reducible] noncomputable def b_TableBuilder_close_block:List Stmt:=fnBody (meQ 59 5)
@[reducible] noncomputable def sc_TableBuilder_close_block:Scope:=fnScope (meQ 59 5)
@[reducible] noncomputable def fo_TableBuilder_close_block:FuncData:=fnOf (fnName (meQ 59 5)) n140 (fnArgs (meQ 59 5)) b_TableBuilder_close_block sc_TableBuilder_close_block .none .none .none (.str n129 957) none (.ref 636) .none
theorem lk_TableBuilder_close_block (P : Params) : (KF P).lookup 637 = some ⟨.type "function", none, .func fo_TableBuilder_close_block, #[]⟩ := by kernel_rfl
theorem cd_TableBuilder_close_block (P:Params):codeIn (KF P) (.ref 636) n140 = true:=by kernel_rfl
@[reducible] noncomputable def b_TableBuilder_finish:List Stmt:=fnBody (meQ 59 6)
@[reducible] noncomputable def sc_TableBuilder_finish:Scope:=fnScope (meQ 59 6)
@[reducible] noncomputable def fo_TableBuilder_finish:FuncData:=fnOf (fnName (meQ 59 6)) n141 (fnArgs (meQ 59 6)) b_TableBuilder_finish sc_TableBuilder_finish .none .none .none (.str n129 957) none (.ref 643) .none
theorem lk_TableBuilder_finish (P : Params) : (KF P).lookup 644 = some ⟨.type "function", none, .func fo_TableBuilder_finish, #[]⟩ := by kernel_rfl
theorem cd_TableBuilder_finish (P:Params):codeIn (KF P) (.ref 643) n141 = true:=by kernel_rfl
@[reducible] noncomputable def b__law_users:List Stmt:=fnBody (stQ 61)
@[reducible] noncomputable def sc__law_users:Scope:=fnScope (stQ 61)
@[reducible] noncomputable def fo__law_users:FuncData:=fnOf (fnName (stQ 61)) n66 (fnArgs (stQ 61)) b__law_users sc__law_users .none .none .none (.str n1 1110) none (.ref 664) .none
theorem lk__law_users (P : Params) : (KF P).lookup 665 = some ⟨.type "function", none, .func fo__law_users, #[]⟩ := by kernel_rfl
theorem cd__law_users (P:Params):codeIn (KF P) (.ref 664) n66 = true:=by kernel_rfl
@[reducible] noncomputable def b__law_limits:List Stmt:=fnBody (stQ 62)
@[reducible] noncomputable def sc__law_limits:Scope:=fnScope (stQ 62)
@[reducible] noncomputable def fo__law_limits:FuncData:=fnOf (fnName (stQ 62)) n67 (fnArgs (stQ 62)) b__law_limits sc__law_limits .none .none .none (.str n1 1110) none (.ref 671) .none
theorem lk__law_limits (P : Params) : (KF P).lookup 672 = some ⟨.type "function", none, .func fo__law_limits, #[]⟩ := by kernel_rfl
theorem cd__law_limits (P:Params):codeIn (KF P) (.ref 671) n67 = true:=by kernel_rfl
@[reducible] noncomputable def b__law_draw:List Stmt:=fnBody (stQ 63)
@[reducible] noncomputable def sc__law_draw:Scope:=fnScope (stQ 63)
@[reducible] noncomputable def fo__law_draw:FuncData:=fnOf (fnName (stQ 63)) n68 (fnArgs (stQ 63)) b__law_draw sc__law_draw .none .none .none (.str n1 1110) none (.ref 678) .none
theorem lk__law_draw (P : Params) : (KF P).lookup 679 = some ⟨.type "function", none, .func fo__law_draw, #[]⟩ := by kernel_rfl
theorem cd__law_draw (P:Params):codeIn (KF P) (.ref 678) n68 = true:=by kernel_rfl
@[reducible] noncomputable def b__law_options:List Stmt:=fnBody (stQ 64)
@[reducible] noncomputable def sc__law_options:Scope:=fnScope (stQ 64)
@[reducible] noncomputable def fo__law_options:FuncData:=fnOf (fnName (stQ 64)) n69 (fnArgs (stQ 64)) b__law_options sc__law_options .none .none .none (.str n1 1110) none (.ref 685) .none
theorem lk__law_options (P : Params) : (KF P).lookup 686 = some ⟨.type "function", none, .func fo__law_options, #[]⟩ := by kernel_rfl
theorem cd__law_options (P:Params):codeIn (KF P) (.ref 685) n69 = true:=by kernel_rfl
@[reducible] noncomputable def b__law_reckoned:List Stmt:=fnBody (stQ 65)
@[reducible] noncomputable def sc__law_reckoned:Scope:=fnScope (stQ 65)
@[reducible] noncomputable def fo__law_reckoned:FuncData:=fnOf (fnName (stQ 65)) n70 (fnArgs (stQ 65)) b__law_reckoned sc__law_reckoned .none .none .none (.str n1 1110) none (.ref 690) .none
theorem lk__law_reckoned (P : Params) : (KF P).lookup 691 = some ⟨.type "function", none, .func fo__law_reckoned, #[]⟩ := by kernel_rfl
theorem cd__law_reckoned (P:Params):codeIn (KF P) (.ref 690) n70 = true:=by kernel_rfl
@[reducible] noncomputable def b__law_refused:List Stmt:=fnBody (stQ 66)
@[reducible] noncomputable def sc__law_refused:Scope:=fnScope (stQ 66)
@[reducible] noncomputable def fo__law_refused:FuncData:=fnOf (fnName (stQ 66)) n71 (fnArgs (stQ 66)) b__law_refused sc__law_refused .none .none .none (.str n1 1110) none (.ref 697) .none
theorem lk__law_refused (P : Params) : (KF P).lookup 698 = some ⟨.type "function", none, .func fo__law_refused, #[]⟩ := by kernel_rfl
theorem cd__law_refused (P:Params):codeIn (KF P) (.ref 697) n71 = true:=by kernel_rfl
@[reducible] noncomputable def b__law_built:List Stmt:=fnBody (stQ 67)
@[reducible] noncomputable def sc__law_built:Scope:=fnScope (stQ 67)
@[reducible] noncomputable def fo__law_built:FuncData:=fnOf (fnName (stQ 67)) n72 (fnArgs (stQ 67)) b__law_built sc__law_built .none .none .none (.str n1 1110) none (.ref 704) .none
theorem lk__law_built (P : Params) : (KF P).lookup 705 = some ⟨.type "function", none, .func fo__law_built, #[]⟩ := by kernel_rfl
theorem cd__law_built (P:Params):codeIn (KF P) (.ref 704) n72 = true:=by kernel_rfl
@[reducible] noncomputable def b__law_end:List Stmt:=fnBody (stQ 68)
@[reducible] noncomputable def sc__law_end:Scope:=fnScope (stQ 68)
@[reducible] noncomputable def fo__law_end:FuncData:=fnOf (fnName (stQ 68)) n73 (fnArgs (stQ 68)) b__law_end sc__law_end .none .none .none (.str n1 1110) none (.ref 711) .none
theorem lk__law_end (P : Params) : (KF P).lookup 712 = some ⟨.type "function", none, .func fo__law_end, #[]⟩ := by kernel_rfl
theorem cd__law_end (P:Params):codeIn (KF P) (.ref 711) n73 = true:=by kernel_rfl
@[reducible] noncomputable def b_law:List Stmt:=fnBody (stQ 69)
@[reducible] noncomputable def sc_law:Scope:=fnScope (stQ 69)
@[reducible] noncomputable def fo_law:FuncData:=fnOf (fnName (stQ 69)) n74 (fnArgs (stQ 69)) b_law sc_law .none .none .none (.str n1 1110) none (.ref 716) .none
theorem lk_law (P : Params) : (KF P).lookup 717 = some ⟨.type "function", none, .func fo_law, #[]⟩ := by kernel_rfl
theorem cd_law (P:Params):codeIn (KF P) (.ref 716) n74 = true:=by kernel_rfl
noncomputable def globK:List (PySem.Str × SV):=[(x_Corrupt,.cls 56),(x_ShortOctets,.cls 68),(x_BadOption,.cls 80),(x_BuildOrder,.cls 92),(x_MAX_32,.int 4294967295),(x_MAX_64,.int 18446744073709551615),(x_CHECK_CRC,.int 1),(x_CHECK_SUM,.int 2),(x_HASH_SEED,.int 3164544308),(x_HASH_MUL,.int 3332679571),(x_HASH_SHIFT,.int 24),(x_write_groups,.fn 101),(x_put_varint,.fn 108),(x_put_varint32,.fn 115),(x_put_fixed32,.fn 122),(x_put_fixed64,.fn 129),(x_read_fixed32,.fn 136),(x_read_fixed64,.fn 143),(x_checksum,.fn 172),(x_bloom_hash,.fn 179),(x_KIND_DELETE,.int 0),(x_KIND_VALUE,.int 1),(x_KIND_SEEK,.int 1),(x_MAX_SEQ,.int 72057594037927935),(x_TAG_LENGTH,.int 8),(x_pack_tag,.fn 186),(x_user_of,.fn 193),(x_tag_of,.fn 200),(x_BytesOrder,.cls 273),(x_InternalOrder,.cls 327),(x_Options,.cls 360),(x_PLAIN_TYPE,.int 0),(x_MOST_PROBES,.int 30),(x_LEAST_FILTER_BITS,.int 64),(x_WORD,.int 4294967295),(x_shared_prefix,.fn 371),(x_BlockBuilder,.cls 423),(x_Handle,.cls 458),(x_seal_block,.fn 469),(x_Bloom,.cls 500),(x_FilterBuilder,.cls 549),(x_MAGIC,.int 15800726617472432983),(x_HANDLES_ROOM,.int 40),(x_FILTER_KEY,.bytes [102,105,108,116,101,114,46,114,97,102,116,107,101,101,112,46,98,108,111,111,109]),(x_Footer,.cls 584),(x_TableBuilder,.cls 654),(x__law_users,.fn 665),(x__law_limits,.fn 672),(x__law_draw,.fn 679),(x__law_options,.fn 686),(x__law_reckoned,.fn 691),(x__law_refused,.fn 698),(x__law_built,.fn 705),(x__law_end,.fn 712),(x_law,.fn 717)]
noncomputable def globB:List (PySem.Str × SV):=[(x_len,.bi .len),(x_min,.bi .min),(x_max,.bi .max),(x_sum,.bi .sum),(x_sorted,.bi .sorted),(x_range,.bi .range),(x_bytes,.bi .bytes),(x_bytearray,.bi .bytearray)]
@[reducible] noncomputable def c_BuildOrder:Addr:=92
@[reducible] noncomputable def c_BytesOrder:Addr:=273
@[reducible] noncomputable def c_InternalOrder:Addr:=327
@[reducible] noncomputable def c_Options:Addr:=360
@[reducible] noncomputable def c_BlockBuilder:Addr:=423
@[reducible] noncomputable def c_Handle:Addr:=458
@[reducible] noncomputable def c_Bloom:Addr:=500
@[reducible] noncomputable def c_FilterBuilder:Addr:=549
@[reducible] noncomputable def c_Footer:Addr:=584
@[reducible] noncomputable def c_TableBuilder:Addr:=654
end Mine
end
section
namespace Mine
noncomputable def attrL:List (Addr × PySem.Str):=[(c_Options,x_check),(c_Options,x_log_block),(c_Options,x_sync_writes),(c_Options,x_create_missing),(c_Options,x_paranoid),(c_Options,x_write_buffer),(c_Options,x_max_height),(c_Options,x_heights),(c_Options,x_block_size),(c_Options,x_restart_interval),(c_Options,x_filter_bits),(c_Options,x_filter_base_lg),(c_Options,x_max_file_size),(c_Options,x_num_levels),(c_Options,x_l0_trigger),(c_Options,x_l0_stop),(c_Options,x_base_bytes),(c_Options,x_level_factor),(c_Options,x_max_mem_level),(c_Options,x_grandparent_factor),(c_Options,x_expand_factor),(c_InternalOrder,x_user_order),(c_BlockBuilder,x_interval),(c_BlockBuilder,x_order),(c_BlockBuilder,x_buffer),(c_BlockBuilder,x_restarts),(c_BlockBuilder,x_since),(c_BlockBuilder,x_entries),(c_BlockBuilder,x_finished),(c_BlockBuilder,x_last_key),(c_Handle,x_offset),(c_Handle,x_size),(c_Bloom,x_bits),(c_Bloom,x_probes),(c_FilterBuilder,x_bloom),(c_FilterBuilder,x_base_lg),(c_FilterBuilder,x_keys),(c_FilterBuilder,x_offsets),(c_FilterBuilder,x_filters),(c_FilterBuilder,x_finished),(c_Footer,x_meta),(c_Footer,x_index),(c_TableBuilder,x_options),(c_TableBuilder,x_order),(c_TableBuilder,x_out),(c_TableBuilder,x_block),(c_TableBuilder,x_index),(c_TableBuilder,x_filters),(c_TableBuilder,x_waiting),(c_TableBuilder,x_last_key),(c_TableBuilder,x_entries),(c_TableBuilder,x_closed)]
noncomputable def methL:List (Addr × PySem.Str × Addr):=[(c_BytesOrder,x_separator,256),(c_BytesOrder,x_successor,263),(c_InternalOrder,x_compare,296),(c_InternalOrder,x_dress,303),(c_InternalOrder,x_separator,310),(c_InternalOrder,x_successor,317),(c_BlockBuilder,x_reset,392),(c_BlockBuilder,x_empty,399),(c_BlockBuilder,x_estimate,406),(c_BlockBuilder,x_add,413),(c_BlockBuilder,x_finish,420),(c_Handle,x_encode,448),(c_Bloom,x_make,490),(c_FilterBuilder,x_start_block,525),(c_FilterBuilder,x_add_key,532),(c_FilterBuilder,x_close_span,539),(c_FilterBuilder,x_finish,546),(c_Footer,x_encode,574),(c_TableBuilder,x_size,609),(c_TableBuilder,x_count,616),(c_TableBuilder,x_add,623),(c_TableBuilder,x_write_block,630),(c_TableBuilder,x_close_block,637),(c_TableBuilder,x_finish,644),(c_BytesOrder,x_compare,214)]
noncomputable def globT (x:PySem.Str):Option SV:=match getS x globK with
  | some v=>some v
  | none=>getS x globB
noncomputable def attrIn (C:Addr) (x:PySem.Str):List (Addr × PySem.Str)→Bool
  | []=>false
  | (D,y) :: r=>match Nat.beq C D with
    | true=>match strB x y with
      | true=>true
      | false=>attrIn C x r
    | false=>attrIn C x r
noncomputable def methIn (C:Addr) (x:PySem.Str):List (Addr × PySem.Str × Addr)→Option Addr
  | []=>none
  | (D,y,f) :: r=>match Nat.beq C D with
    | true=>match strB x y with
      | true=>some f
      | false=>methIn C x r
    | false=>methIn C x r
theorem getS_mem {x:PySem.Str} {v:SV} {l:List (PySem.Str × SV)} (e:getS x l = some v):(x,v) ∈ l:=by
  induction l with
  | nil=>cases e
  | cons p r ih =>
    obtain ⟨y,u⟩:=p
    unfold getS at e
    cases q:strB x y with
    | true=>rw [q] at e;cases e;rw [strB_iff.mp q];exact .head _
    | false=>rw [q] at e;exact .tail _ (ih e)
theorem attrIn_mem {C:Addr} {x:PySem.Str} {l:List (Addr × PySem.Str)} (e:attrIn C x l = true):(C,x) ∈ l:=by
  induction l with
  | nil=>cases e
  | cons p r ih =>
    obtain ⟨D,y⟩:=p
    unfold attrIn at e
    cases q:Nat.beq C D with
    | true =>
      rw [q] at e
      cases q':strB x y with
      | true=>rw [strB_iff.mp q',Nat.eq_of_beq_eq_true q];exact .head _
      | false=>rw [q'] at e;exact .tail _ (ih e)
    | false=>rw [q] at e;exact .tail _ (ih e)
theorem methIn_mem {C:Addr} {x:PySem.Str} {f:Addr} {l:List (Addr × PySem.Str × Addr)} (e:methIn C x l = some f):(C,x,f) ∈ l:=by
  induction l with
  | nil=>cases e
  | cons p r ih =>
    obtain ⟨D,y,h⟩:=p
    unfold methIn at e
    cases q:Nat.beq C D with
    | true =>
      rw [q] at e
      cases q':strB x y with
      | true=>rw [q'] at e;cases e;rw [strB_iff.mp q',Nat.eq_of_beq_eq_true q];exact .head _
      | false=>rw [q'] at e;exact .tail _ (ih e)
    | false=>rw [q] at e;exact .tail _ (ih e)
noncomputable def optB {α:Type} (o:Option α) (f:α→Bool):Bool:=match o with
  | some a=>f a
  | none=>false
theorem optB_of {α:Type} {o:Option α} {f:α→Bool} (h:optB o f = true):∃ a,o = some a∧f a = true:=by
  cases o with
  | some a=>exact ⟨a,rfl,h⟩
  | none=>cases h
noncomputable def intB (i:Int) (v:PySem.Value):Bool:=match v with
  | .int j _=>i == j
  | _=>false
noncomputable def refB (a:Addr) (v:PySem.Value):Bool:=match v with
  | .ref b=>a == b
  | _=>false
noncomputable def bytB (a:List UInt8) (v:PySem.Value):Bool:=match v with
  | .bytes b _=>a == b.toList
  | _=>false
noncomputable def svB (sv:SV) (v:PySem.Value):Bool:=match sv with
  | .int i=>intB i v
  | .fn a=>refB a v
  | .cls a=>refB a v
  | .bytes b=>bytB b v
  | _=>false
theorem refB_of {a:Addr} {v:PySem.Value} (h:refB a v = true):v = .ref a:=by
  cases v <;> first | exact congrArg _ (beq_iff_eq.mp h).symm | cases h
theorem svB_of {sv:SV} {v:PySem.Value} (h:svB sv v = true) (ρ:Nat→Addr) (n:Nat):VRep ρ n sv v:=by
  cases sv with
  | int i=>cases v <;> first | exact ⟨_,congrArg (PySem.Value.int · _) (beq_iff_eq.mp h).symm⟩ | cases h
  | bytes b=>cases v <;> first | exact ⟨_,congrArg (PySem.Value.bytes · _) (congrArg List.toArray (beq_iff_eq.mp h)).symm⟩ | cases h
  | fn a=>exact refB_of h
  | cls a=>exact refB_of h
  | _=>cases h
noncomputable def biB (sv:SV) (o:Option PySem.Value):Bool:=match sv with
  | .bi b=>o == some b.val
  | _=>false
theorem biB_of {sv:SV} {o:Option PySem.Value} (h:biB sv o = true):∃ v,o = some v∧∀ ρ n,VRep ρ n sv v:=by
  cases sv with
  | bi b=>exact ⟨_,beq_iff_eq.mp h,fun _ _=>rfl⟩
  | _=>cases h
noncomputable def isNo (o:Option PySem.Value):Bool:=match o with
  | none=>true
  | some _=>false
noncomputable def gchk (K:Frag) (p:PySem.Str × SV):Bool:=!strB p.1 dbgS && optB (nsIn K mainGlobals p.1) fun o=>optB o (svB p.2)
noncomputable def bchk (K:Frag) (p:PySem.Str × SV):Bool:=!strB p.1 dbgS && (optB (nsIn K mainGlobals p.1) isNo && biB p.2 (bootBuiltins p.1))
noncomputable def nmS:PySem.Str:=⟨#[95,95,110,97,109,101,95,95]⟩
theorem nmS_eq : nmS = "__name__" := by decide +kernel
noncomputable def achk (K : Frag) (p : Addr × PySem.Str) : Bool := plainGet K p.1 p.2 && hasDictIn K p.1 && optB (findIn K (.ref p.1) p.2) (noGet K) && (findIn K (.ref p.1) "__setattr__" == some (some (.builtin "object.__setattr__"))) && plainOver K p.1 && (takerIn K p.1 p.2 == some none)
noncomputable def mchk (K:Frag) (p:Addr × PySem.Str × Addr):Bool:=plainGet K p.1 p.2.1 && (findIn K (.ref p.1) p.2.1 == some (some (.ref p.2.2))) && isFn K (.ref p.2.2) && fnIn K p.2.2
theorem g_all (P:Params):globK.all (gchk (KF P)) = true:=by kernel_rfl
theorem b_all (P:Params):globB.all (bchk (KF P)) = true:=by kernel_rfl
theorem b_nm:(globB.all fun p=>!strB p.1 nmS) = true:=by kernel_rfl
theorem a_all (P:Params):attrL.all (achk (KF P)) = true:=by kernel_rfl
theorem m_all (P:Params):methL.all (mchk (KF P)) = true:=by kernel_rfl
theorem globT_of {x:PySem.Str} {sv:SV} (e:globT x = some sv):getS x globK = some sv ∨ getS x globB = some sv:=by
  unfold globT at e
  cases h:getS x globK with
  | some v=>rw [h] at e;exact .inl e
  | none=>rw [h] at e;exact .inr e
structure Vs where
  prog:Program
  w:World
  p:Program
  loose:List PySem.Str
  mg:PySem.Str→Option PySem.Value
  mb:PySem.Str→Option PySem.Value
@[reducible] noncomputable def WK (V:Vs):Wd :=
  { prog:=V.prog,w:=V.w,K:=KF V.w.params,p:=V.p,loose:=V.loose,mg:=V.mg,mb:=V.mb,glob:=globT,attr:=fun C x=>attrIn C x attrL,meth:=fun C x=>methIn C x methL }
theorem WK_holds (V:Vs):(WK V).Holds:=by
  refine ⟨fun x sv e=>?_,fun C x e=>?_,fun C x f e=>?_⟩
  · rcases globT_of e with e | e
    · obtain ⟨h1,h2⟩:=Bool.and_eq_true_iff.mp (List.all_eq_true.mp (g_all V.w.params) _ (getS_mem e))
      obtain ⟨o,q1,h2⟩:=optB_of h2
      obtain ⟨v,rfl,h2⟩:=optB_of h2
      exact ⟨dbg_of (not_of h1),.inl ⟨v,q1,svB_of h2⟩⟩
    · obtain ⟨h1,h2⟩:=Bool.and_eq_true_iff.mp (List.all_eq_true.mp (b_all V.w.params) _ (getS_mem e))
      obtain ⟨h2,h3⟩:=Bool.and_eq_true_iff.mp h2
      obtain ⟨o,q1,h2⟩:=optB_of h2
      obtain ⟨v,q2,h3⟩:=biB_of h3
      refine ⟨dbg_of (not_of h1),.inr ⟨v,?_,q2,fun e'=>?_,h3⟩⟩
      · cases o with
        | none=>exact q1
        | some _=>cases h2
      · have hn:=not_of (List.all_eq_true.mp b_nm _ (getS_mem e))
        rw [← nmS_eq] at e'
        rw [strB_iff.mpr e'] at hn;cases hn
  · obtain ⟨h,h6⟩:=Bool.and_eq_true_iff.mp (List.all_eq_true.mp (a_all V.w.params) _ (attrIn_mem e))
    obtain ⟨h,h5⟩:=Bool.and_eq_true_iff.mp h
    obtain ⟨h,h4⟩:=Bool.and_eq_true_iff.mp h
    obtain ⟨h,h3⟩:=Bool.and_eq_true_iff.mp h
    obtain ⟨h1,h2⟩:=Bool.and_eq_true_iff.mp h
    exact ⟨h1,h2,optB_of h3,beq_iff_eq.mp h4,h5,beq_iff_eq.mp h6⟩
  · obtain ⟨h,h4⟩:=Bool.and_eq_true_iff.mp (List.all_eq_true.mp (m_all V.w.params) _ (methIn_mem e))
    obtain ⟨h,h3⟩:=Bool.and_eq_true_iff.mp h
    obtain ⟨h1,h2⟩:=Bool.and_eq_true_iff.mp h
    exact ⟨h1,beq_iff_eq.mp h2,h3,h4⟩
end Mine
end
section
namespace Mine
theorem lift_same {ι:List Nat} {objs objs2:List SObj} (hl:objs2.length = ι.length) (hnd:nodupN ι = true) (hsel:selL (kap ι objs.length) objs objs2.length 0 objs2):lift ι objs objs2 = objs:=by
  unfold lift
  rw [← hl,List.drop_length]
  show liftA _ _ _ _ _++[] = _
  rw [List.append_nil]
  apply List.ext_getElem?
  intro i
  rw [liftA_at,Nat.zero_add]
  cases ho:objs[i]? with
  | none=>rfl
  | some o =>
    simp only [Option.map_some]
    split
    · rename_i j hj
      have hji:=(posN_some hj).2
      rw [Nat.sub_zero] at hji
      have hj1:=lt_of_some hji
      obtain ⟨o2,ho2⟩:=some_of_lt (l:=objs2) (i:=j) (by lia)
      have h1:=(selL_at hsel ho2).1
      rw [Nat.zero_add] at h1
      have hk:kap ι objs.length j = i:=by
        have:=kap_lt (n:=objs.length) hj1
        rw [hji] at this
        exact (Option.some.inj this).symm
      rw [hk,ho] at h1
      rw [List.getD_eq_getElem?_getD,ho2]
      exact h1.symm
    · rfl
noncomputable def SV.flat:SV→Bool
  | .ref _=>false
  | _=>true
theorem SV.flat_ren {v:SV} (h:v.flat = true) (κ:Nat→Nat):v.ren κ = v:=by cases v <;> first | rfl | cases h
theorem SV.flat_clo {v:SV} (h:v.flat = true) (n:Nat):v.clo n = true:=by cases v <;> first | rfl | cases h
theorem flats_ren {l:List SV} (h:l.all SV.flat = true) (κ:Nat→Nat):l.map (SV.ren κ) = l:=by
  induction l with
  | nil=>rfl
  | cons v r ih =>
    rw [List.all_cons,Bool.and_eq_true] at h
    rw [List.map_cons,h.1 |> fun q=>SV.flat_ren q κ,ih h.2]
theorem flats_clo {l:List SV} (h:l.all SV.flat = true) (n:Nat):l.all (SV.clo n) = true:=List.all_eq_true.mpr fun v hv=>SV.flat_clo (List.all_eq_true.mp h v hv) n
theorem call0 {X:Cx} {lvl:Nat} {t:List PySem.Value→Sem PySem.Value} {args:List SV} {st:St} {res:SV} {k:SV→St→Prop} (F:FnR X.W lvl t args [] (Det res [])) (O:X.Ok) (hle:Nat.ble lvl X.lvl = true)
    (ha:args.all SV.flat = true) (hr:res.flat = true) (h:k res st):OpJ X t args st k :=
  call_of [] F O hle rfl rfl ⟨rfl,rfl⟩ (flats_ren ha _).symm (flats_clo ha _) (by
    rw [SV.flat_ren hr,lift_same (ι:=[]) (objs2:=[]) rfl rfl ⟨rfl,rfl⟩]
    exact h)
theorem callS {X:Cx} {lvl:Nat} {t:List PySem.Value→Sem PySem.Value} {args args2:List SV} {st:St} {objs2:List SObj} {res:SV} {k:SV→St→Prop} (ι:List Nat) (F:FnR X.W lvl t args2 objs2 (Det res objs2)) (O:X.Ok) (hle:Nat.ble lvl X.lvl = true)
    (hl:objs2.length = ι.length) (hnd:nodupN ι = true) (hsel:selL (kap ι st.objs.length) st.objs objs2.length 0 objs2) (ha:args = args2.map (SV.ren (kap ι st.objs.length))) (hc:args2.all (SV.clo objs2.length) = true)
    (hr:res.flat = true) (h:k res st):OpJ X t args st k :=
  call_of ι F O hle hl hnd hsel ha hc (by
    rw [SV.flat_ren hr,lift_same hl hnd hsel]
    exact h)
end Mine
end
section
namespace Mine
noncomputable def frs (l:List Env):List Addr:=l.filterMap (·.frame)
noncomputable def FD (h:Heap) (l:List Env):Prop:=∀ env ∈ l,env.scope.kind = .function∧∃ L o es k,env.frame = some L∧h.get? L = some o∧o.data = .dict es k
theorem FD.keeps {h h':Heap} {l:List Env} (x:FD h l) (k:∀ b o,h.get? b = some o→h'.get? b = some o):FD h' l:=fun env he =>
  let ⟨a,L,o,es,n,b,c,d⟩:=x env he;⟨a,L,o,es,n,b,k _ _ c,d⟩
theorem FD.funs {h base:Heap}:∀ {l:List Env},FD h l→(∀ b ∈ frs l,base.get? b = none)→h.FunFrames base l
  | [],_,_=>trivial
  | env :: r,x,hb=>by
    obtain ⟨a,L,o,es,n,b,c,d⟩:=x env (.head _)
    have hm:∀ b ∈ frs r,b ∈ frs (env :: r):=fun b hb=>by
      obtain ⟨e,he,hf⟩:=List.mem_filterMap.mp hb
      exact List.mem_filterMap.mpr ⟨e,.tail _ he,hf⟩
    exact ⟨by rw [a];simp,⟨L,o,b,hb L (List.mem_filterMap.mpr ⟨env,.head _,b⟩),c,fun vs q=>by rw [d] at q;cases q⟩,FD.funs (fun e he=>x e (.tail _ he)) fun b q=>hb b (hm b q)⟩
structure Fly (l:List Env) (C:Addr) (hr:Heap) (e:Addr) (h:Heap):Prop where
  fly:∃ t,Heap.FlyingW (hideAll hr (frs l)) l e (.ref C) (.ref t) h
  up:hr.UpToSlots h
section
variable {M:Model} {A:Around} {E:PySem.Value→Shared→Prop} {s:Shared} {env:Env} {outer:List Env} {L C e:Addr} {h:Heap} {Q:Unit→Shared→Prop}
theorem frs_cons (hf:env.frame = some L):frs (env :: outer) = L :: frs outer:=by
  unfold frs
  rw [List.filterMap_cons,hf]
theorem leave_made {args:List PySem.Value} (hA:A.frames = some (env :: outer)) (hf:env.frame = some L) (hD:FD h (env :: outer)) (hx:Heap.MadeExcOf h s.heap e (.ref C) args)
    (hQ:∀ h',Fly outer C (hideAll h [L]) e h'→Q () { s with heap:=h' }):wpAny M A (leaving env (.ref e)) Q E s:=by
  refine wpAny_leaves_madeW (base:=hideAll h (frs (env :: outer))) hA hf (fun b o q=>of_hideAll _ q) (hD.funs fun b hb=>hideAll_none _ hb) hx fun h' t f _ _ up=>hQ h' ⟨⟨t,?_⟩,fun b o q hn=>up b o (hx.keeps b o (of_hideAll _ q)) hn⟩
  rw [frs_cons hf] at f
  exact f
theorem leave_on (hA:A.frames = some (env :: outer)) (hf:env.frame = some L) (x:Fly (env :: outer) C h e s.heap)
    (hQ:∀ h',Fly outer C (hideAll h [L]) e h'→Q () { s with heap:=h' }):wpAny M A (leaving env (.ref e)) Q E s:=by
  obtain ⟨⟨t,f⟩,up⟩:=x
  refine wpAny_leaves_onW hA hf f fun h' g u=>hQ h' ⟨⟨t,?_⟩,fun b o q hn=>?_⟩
  · rw [frs_cons hf] at g
    exact g
  · obtain ⟨sl,hs⟩:=up b o (of_hideAll _ q) hn
    obtain ⟨sl',hs'⟩:=u b _ hs (by simpa using hn)
    exact ⟨sl',hs'⟩
end
noncomputable def RaP (g:Heap) (u:Out) (ρ:Nat→Addr) (objs:List SObj) (outer:List Env) (C:Addr) (r:Result) (s':Shared):Prop :=
  ∃ e hr ρ',r = .error (.ref e)∧(∀ i,i < objs.length→ρ' i = ρ i)∧HRep g u ρ' objs { s' with heap:=hr }∧Fly outer C hr e s'.heap
noncomputable def RaX (W:Wd) (lvl:Nat) (f:Addr) (args:List SV) (objs:List SObj) (C:Addr):Prop :=
  ∀ (A:Around) (outer:List Env) (g:Heap) (u:Out) (ρ:Nat→Addr) (s:Shared) (vs:List PySem.Value),
    Room A lvl→W.K.In g→TopRead W.p W.loose W.mg W.mb g→HRep g u ρ objs s→All2 (VRep ρ objs.length) args vs→A.frames = some outer→FD g outer →
      codeR (model W.prog W.w) A (.call (.ref f) ⟨vs,[]⟩) (RaP g u ρ objs outer C) s
noncomputable def ExcE (g:Heap) (u:Out) (r0:Nat→Addr) (objs:List SObj) (env:Env) (L:Addr) (outer:List Env) (C:Addr) (v:PySem.Value) (s:Shared):Prop :=
  ∃ e hr ρ1,v = .ref e∧(∀ i,i < objs.length→ρ1 i = r0 i)∧HRep g u ρ1 objs { s with heap:=hideAll hr [L] }∧FD hr (env :: outer)∧((∃ args,Heap.MadeExcOf hr s.heap e (.ref C) args) ∨ Fly (env :: outer) C hr e s.heap)
theorem exc_leaves {M:Model} {A:Around} {E:PySem.Value→Shared→Prop} {g:Heap} {u:Out} {r0:Nat→Addr} {objs:List SObj} {env:Env} {L:Addr} {outer:List Env} {C:Addr} {v:PySem.Value} {s:Shared}
    (hA:A.frames = some (env :: outer)) (hf:env.frame = some L) (x:ExcE g u r0 objs env L outer C v s):wpR M A (leaving env v) (fun _ s2=>RaP g u r0 objs outer C (.error v) s2) E s:=by
  obtain ⟨e,hr,ρ1,rfl,h1,h2,h3,h4⟩:=x
  have fin:∀ h',Fly outer C (hideAll hr [L]) e h'→RaP g u r0 objs outer C (.error (.ref e)) { s with heap:=h' }:=fun h' f=>⟨e,_,ρ1,rfl,h1,h2,f⟩
  rcases h4 with ⟨args,hx⟩ | hx
  · exact .of (leave_made hA hf h3 hx fin)
  · exact .of (leave_on hA hf hx fin)
section
variable {X:Cx} {ρ:Nat→Addr} {st:St} {s:Shared}
theorem SRep.hrep (R:SRep X ρ st s):HRep X.g X.u ρ st.objs { s with heap:=hideAll s.heap [X.L] }:=by
  obtain ⟨⟨m,chs,F,N,nd,LR,OR⟩,g1,g2,g3,pn⟩:=R
  have nL:∀ b o,X.g.get? b = some o→b ∉ [X.L]:=fun b o e q=>by
    rw [List.mem_singleton] at q
    subst q
    exact absurd (Nat.lt_of_lt_of_le (Heap.lt_size e) F.above) (Nat.lt_irrefl _)
  refine ⟨⟨chs,fun b o e=>hideAll_get _ (F.keep b o e) (nL b o e),?_,fun i c hc p hp=>?_,nd_iff.mp nd,OR⟩,g1,g2,g3⟩
  · obtain ⟨o,_,_,hL,_⟩:=F.ns
    show _ ≤ (hideAll s.heap [X.L]).objs.size
    rw [hideAll_size]
    exact Nat.le_trans F.above (Nat.le_of_lt (Heap.lt_size hL))
  · have z:=N p (mem_at hc hp)
    exact ⟨hideAll_get _ z.1 (fun q=>z.2.1 (List.mem_singleton.mp q)),z.2.2⟩
theorem SRep.fd (O:X.Ok) (R:SRep X ρ st s) (hfr:X.fr = none) {outer:List Env} (D:FD X.g outer):FD s.heap (X.env :: outer):=by
  obtain ⟨⟨m,chs,F,N,nd,LR,OR⟩,g1,g2,g3,pn⟩:=R
  intro env he
  rcases List.mem_cons.mp he with rfl | he
  · obtain ⟨o,es,k,hL,hd,_⟩:=F.ns
    exact ⟨O.kind,X.L,o,es,k,by show some (frE X.fr X.L) = _;rw [hfr];rfl,hL,hd⟩
  · exact (D.keeps F.keep) env he
theorem j_raise (O:X.Ok) {outer:List Env} {C:Addr} {x:PySem.Str} {e₀:Expr} {np cpos pos:Pos} {k:Fl→St→Prop} (hcl:X.cl = []) (hfr:X.fr = none) (D:FD X.g outer) (hX:∀ v s,ExcE X.g X.u X.r0 st.objs X.env X.L outer C v s→X.E v s) (hn:st.objs.length = X.n0)
    (hx : nsIn X.W.K mainGlobals x = some (some (.ref C))) (hq : excIn X.W.K C [.type "Exception", .type "BaseException", .type "object"] "Exception.__new__" = true) (hk : kindS x X.cs.names = some .globalImplicit) (hd : strB x dbgS = false)
    (hs:notStar e₀ = true) (ev:∀ ρ s,SRep X ρ st s→wpAny X.M X.A (eval e₀ X.env) (fun _ s'=>s'.heap = s.heap∧s'.gens = s.gens∧s'.drawn = s.drawn∧s'.os = s.os) X.E s):ExJ X (.Raise (some (.Call (.Name x np) [e₀] [] cpos)) none pos) st k:=by
  constructor
  intro ρ s R
  obtain ⟨W,A,cn,cs,a,ccd,g,L,gn,dr,os,E,lvl,n0,r0,cl,fr⟩:=X
  cases hcl
  cases hfr
  have R':=R
  obtain ⟨⟨m,chs,F,N,nd,LR,OR⟩,g1,g2,g3,pn⟩:=R
  refine .of (Raise_own (mg:=W.mg) F O.T.g (own_of_in O.K O.T hx hq) PySem.F.excBase_Exception O.room.hh ?_ (star_cons hs) rfl O.kind ?_ (dbg_of hd))
  · refine spliced_more (wpAny_mono (ev ρ s R') (fun v s' ⟨e1,e2,e3,e4⟩=>spliced_none ⟨show 1 ≤ sizeLine by decide,by rw [e1];exact F.keep,fun h' e hm=>?_⟩) fun _ _ x=>x) (star_cons hs)
    refine hX _ _ ⟨e,s.heap,ρ,rfl,fun i hi=>pn.1 i (by rw [← hn];exact hi),?_,R'.fd O rfl D,.inl ⟨_,by rw [← e1];exact hm⟩⟩
    obtain ⟨z,y1,y2,y3⟩:=R'.hrep
    exact ⟨z,e2.trans y1,e3.trans y2,e4.trans y3⟩
  · show cs.names.lookup x = _
    rw [← kindS_eq];exact hk
end
noncomputable def raX (qual:PySem.Str) (scope:Scope) (f:Addr) (cdv:PySem.Value) (lvl:Nat) (C:Addr) (objs:List SObj) (W:Wd) (Z:Zs) (outer:List Env):Cx :=
  ⟨W,Z.A,qual,scope,f,cdv,Z.g,Z.L,Z.gn,Z.dr,Z.os,ExcE Z.g ⟨Z.gn,Z.dr,Z.os⟩ Z.r0 objs (envX qual scope Z.L f cdv []) Z.L outer C,lvl,objs.length,Z.r0,[],none⟩
theorem enterX {W:Wd} {lvl:Nat} {f:Addr} {name qual:PySem.Str} {params:Arguments} {body:List Stmt} {scope:Scope} {dV kV doc pm cdv ct oc:PySem.Value} {an od:Option Addr} {osl:Array (Option PySem.Value)}
    {args:List SV} {objs:List SObj} {C:Addr} (names:List PySem.Str) (hW:W.Holds)
    (ho:W.K.lookup f = some ⟨oc,od,.func (fnOf name qual params body scope dV kV doc pm an cdv ct),osl⟩) (hcd:codeIn W.K cdv qual = true)
    (hbind:fnN names.length fun vs=>bindArgs (fnOf name qual params body scope dV kV doc pm an cdv ct) ⟨vs,[]⟩ = pure (names.zip vs))
    (hlen:args.length = names.length) (hloc:(names.all fun y=>kindS y scope.names == some .local) = true) (hcell:(scope.names.all fun x=>x.2 != .cell) = true)
    (hco:scope.isCoroutine = false) (hgen:scope.isGenerator = false) (hk:scope.kind = .function)
    (h:∀ (outer:List Env) (Z:Zs),(raX qual scope f cdv lvl C objs W Z outer).Ok→FD Z.g outer→Z.A.frames = some (envX qual scope Z.L f cdv [] :: outer) →
      Ss (raX qual scope f cdv lvl C objs W Z outer) body ⟨(names.zip args).reverse,objs⟩ (fun _ _=>False)):RaX W (lvl + 1) f args objs C:=by
  intro A outer g u ρ s vs hr hK hT R r hA D
  obtain ⟨⟨chs,a,b,c,d,e⟩,w1,w2,w3⟩:=R
  have KS:W.K.In s.heap:=hK.keeps a
  have hloc:∀ y ∈ names,scope.names.lookup y = some .local:=fun y hy=>by rw [← kindS_eq];exact beq_iff_eq.mp (List.all_eq_true.mp hloc y hy)
  have hcell:∀ x ∈ scope.names,x.2 ≠ .cell:=fun x hx=>by simpa using List.all_eq_true.mp hcell x hx
  refine r_def (fd:=fnOf name qual params body scope dV kV doc pm an cdv ct) (body:=body) (binds:=names.zip vs) ?_ (KS _ _ ho) rfl (hT.nolimit.keeps a) (codeRec_of KS hcd) rfl
    (BindsTo.of_eq (fnN_at hbind (by rw [← r.length,hlen]))) hcell (fun x hx=>hloc _ (List.of_mem_zip hx).1) (fun h₁ hns hk₁=>?_) hco hgen hk
  · have:=hr.hd;show A.depth < 1000;lia
  have hAd:(A.deeper (envX qual scope s.heap.objs.size f cdv [])).frames = some (envX qual scope s.heap.objs.size f cdv [] :: outer):=Around.frames_deeper hA
  have O:(raX qual scope f cdv lvl C objs W ⟨A.deeper (envX qual scope s.heap.objs.size f cdv []),g,s.heap.objs.size,u.gn,u.dr,u.os,ρ⟩ outer).Ok:=⟨hW,hk,hK,hT,hr.down,fun q hq=>nomatch hq⟩
  have R0:SRep (raX qual scope f cdv lvl C objs W ⟨A.deeper (envX qual scope s.heap.objs.size f cdv []),g,s.heap.objs.size,u.gn,u.dr,u.os,ρ⟩ outer)
      ρ ⟨(names.zip args).reverse,objs⟩ { s with heap:=h₁,toks:=s.toks + (names.zip vs).length }:=by
    refine ⟨⟨_,chs,⟨hns,fun b o q=>hk₁ b o (a b o q),b⟩,?_,nd_iff.mpr d,fun x sv q=>getS_lookup (all2_rev (all2_zip r)) q,e⟩,w1,w2,w3,fun _ _=>rfl,Nat.le_refl _⟩
    intro p hp
    obtain ⟨q,hq,hpq⟩:=List.mem_flatten.mp hp
    obtain ⟨i,hi⟩:=List.mem_iff_getElem?.mp hq
    obtain ⟨z1,z2⟩:=c i q hi p hpq
    exact ⟨hk₁ _ _ z1,Nat.ne_of_lt (Heap.lt_size z1),z2⟩
  exact wpR_mono (h _ _ O D hAd ρ _ R0) (fun fl s' q=>q.rec fun _ _ _ _ _ q=>q.elim) fun v s' x=>exc_leaves hAd rfl x
noncomputable def OutD (X:Cx) (st:St) (ι:List Nat) (outer:List Env):Prop:=∀ env ∈ outer,env.scope.kind = .function∧((∃ L o es k,env.frame = some L∧X.g.get? L = some o∧o.data = .dict es k) ∨
  ∃ i P,env.frame = some (X.r0 i)∧i < X.n0∧st.objs[i]? = some (.raw P)∧posN i ι 0 = none∧∀ o,P o→∃ es k,o.data = .dict es k)
theorem OutD.of {X:Cx} {st:St} {ι:List Nat} {outer:List Env} (D:FD X.g outer):OutD X st ι outer:=fun env he=>⟨(D env he).1,.inl (D env he).2⟩
theorem call_raP {X:Cx} {lvl:Nat} {f:Addr} {args2:List SV} {st:St} {objs2:List SObj} {C:Addr} {outer:List Env} (ι:List Nat) (F:RaX X.W lvl f args2 objs2 C) (O:X.Ok) (hle:Nat.ble lvl X.lvl = true)
    (hl:objs2.length = ι.length) (hnd:nodupN ι = true) (hsel:selL (kap ι st.objs.length) st.objs objs2.length 0 objs2) (hc:args2.all (SV.clo objs2.length) = true) (hA:X.A.frames = some (X.env :: outer)) (hfr:X.fr = none)
    (hD:OutD X st ι outer)
    {ρ:Nat→Addr} {s:Shared} {vs:List PySem.Value} (R:SRep X ρ st s) (r:All2 (VRep ρ st.objs.length) (args2.map (SV.ren (kap ι st.objs.length))) vs) {Q:PySem.Value→Shared→Prop} {E:PySem.Value→Shared→Prop}
    (h:∀ e hr ρ3 s',SRep X ρ3 st { s' with heap:=hr }→(∀ i,i < st.objs.length→ρ3 i = ρ i)→Fly (X.env :: outer) C hr e s'.heap→E (.ref e) s'):wpR X.M X.A (call (.ref f) vs) Q E s:=by
  obtain ⟨g',h1,h2,⟨oL,es,k,hL,hd⟩,hraw,h3⟩:=hand2 R [] hl (selG_of hsel) hnd rfl
  have D:FD g' (X.env :: outer):=fun env he=>by
    rcases List.mem_cons.mp he with rfl | he
    · exact ⟨O.kind,X.L,oL,es,k,by show some (frE X.fr X.L) = _;rw [hfr];rfl,hL,hd⟩
    · obtain ⟨a,⟨L,o,es,k,b,ho,hk⟩ | ⟨i,P,b,c,d,e,f⟩⟩:=hD env he
      · exact ⟨a,L,o,es,k,b,h1 _ _ ho,hk⟩
      obtain ⟨o,ho,hp⟩:=hraw i P d e
      obtain ⟨es,k,hk⟩:=f o hp
      exact ⟨a,_,o,es,k,b,by rw [← R.pin.1 i c];exact ho,hk⟩
  refine wpR_call (codeR_mono (F X.A _ g' X.u _ s vs (O.room.le (Nat.le_of_ble_eq_true hle)) (O.K.keeps h1) (O.T.keeps h1) h2 (all2_sel r hc) hA D) fun res s' ⟨e,hr,ρ',q1,q2,q3,q4⟩=>?_)
  subst q1
  obtain ⟨ρ3,e3,l3,R3,_⟩:=h3 g' { s' with heap:=hr } ρ' objs2 .refl q3 (fun i hi _=>q2 i hi) (Nat.le_refl _)
  rw [lift_same hl hnd hsel] at R3
  exact h e hr ρ3 s' R3 (fun i hi=>e3 i hi rfl) q4
theorem j_raCall {X:Cx} {lvl:Nat} {f:Addr} {args args2:List SV} {st:St} {objs2:List SObj} {C:Addr} {outer:List Env} {k:St→Prop} (ι:List Nat) (F:RaX X.W lvl f args2 objs2 C) (O:X.Ok) (hle:Nat.ble lvl X.lvl = true)
    (hl:objs2.length = ι.length) (hnd:nodupN ι = true) (hsel:selL (kap ι st.objs.length) st.objs objs2.length 0 objs2) (ha:args = args2.map (SV.ren (kap ι st.objs.length))) (hc:args2.all (SV.clo objs2.length) = true)
    (hA:X.A.frames = some (X.env :: outer)) (hfr:X.fr = none) (D:FD X.g outer) (hX:∀ v s,ExcE X.g X.u X.r0 st.objs X.env X.L outer C v s→X.E v s) (hn:st.objs.length = X.n0):OpS X (fun vs=>call (.ref f) vs) args st k:=by
  subst ha
  constructor
  intro ρ s vs R r
  refine call_raP ι F O hle hl hnd hsel hc hA hfr (.of D) R r fun e hr ρ3 s' R3 e3 fl=>hX _ _ ⟨e,hr,ρ3,rfl,fun i hi=>?_,R3.hrep,R3.fd O hfr D,.inr fl⟩
  exact R3.pin.1 i (by rw [← hn];exact hi)
end Mine
end
section
namespace Mine
structure UpP (P:Obj→Prop):Prop where
  up:∀ o sl,P o→P { o with slots:=sl }
  dict:∀ o,P o→∃ es k,o.data = .dict es k
noncomputable def dictP (o0:Obj) (o:Obj):Prop:=∃ sl,o = { o0 with slots:=sl }
theorem upP_dict {o0:Obj} {es:Array DictEntry} {k:Nat} (h:o0.data = .dict es k):UpP (dictP o0):=⟨fun o sl ⟨sl',e⟩=>⟨sl,by rw [e]⟩,fun o ⟨sl,e⟩=>⟨es,k,by rw [e];exact h⟩⟩
noncomputable def Outs (X:Cx) (outer:List Env) (hs:List Nat):Prop:=All2 (fun env i=>env.scope.kind = .function∧env.frame = some (X.r0 i)∧i < X.n0) outer hs
noncomputable def RawAt (st:St) (hs:List Nat):Prop:=∀ i ∈ hs,∃ P,st.objs[i]? = some (.raw P)∧UpP P
theorem Outs.at_ {X:Cx} {outer:List Env} {hs:List Nat} (x:Outs X outer hs) {env:Env} (h:env ∈ outer):∃ i ∈ hs,env.scope.kind = .function∧env.frame = some (X.r0 i)∧i < X.n0:=by
  induction x with
  | nil=>cases h
  | cons a _ ih =>
    rcases List.mem_cons.mp h with rfl | h
    · exact ⟨_,.head _,a⟩
    · obtain ⟨i,hi,q⟩:=ih h
      exact ⟨i,.tail _ hi,q⟩
section
variable {X:Cx} {ρ:Nat→Addr} {st:St} {s:Shared}
theorem SRep.unw {hr h':Heap} {outer:List Env} {hs:List Nat} (hfr:X.fr = none) (R:SRep X ρ st { s with heap:=hr }) (ho:Outs X outer hs) (hp:RawAt st hs) (hB:(hideAll hr (frs (X.env :: outer))).StaysIn h') (up:hr.UpToSlots h'):SRep X ρ st { s with heap:=h' }:=by
  obtain ⟨⟨m,chs,F,N,nd,LR,OR⟩,g1,g2,g3,pn⟩:=R
  have ndx:=nd_iff.mp nd
  have fr:∀ b,b ∈ frs (X.env :: outer)→b = X.L ∨ ∃ i P,b = ρ i∧st.objs[i]? = some (.raw P)∧UpP P:=fun b hb=>by
    obtain ⟨env,he,hf⟩:=List.mem_filterMap.mp hb
    rcases List.mem_cons.mp he with rfl | he
    · exact .inl (by have:=(Option.some.inj hf).symm;rw [hfr] at this;exact this)
    · obtain ⟨i,hi,_,q,hl⟩:=ho.at_ he
      obtain ⟨P,hP,u⟩:=hp i hi
      rw [hf] at q
      exact .inr ⟨i,P,(Option.some.inj q).trans (pn.1 i hl).symm,hP,u⟩
  have keep:∀ b o,hr.get? b = some o→b ∉ frs (X.env :: outer)→h'.get? b = some o:=fun b o e n=>hB b o (hideAll_get _ e n)
  have nL:∀ b o,X.g.get? b = some o→b ∉ frs (X.env :: outer):=fun b o e q=>by
    rcases fr b q with rfl | ⟨i,P,rfl,hP,u⟩
    · exact absurd (Nat.lt_of_lt_of_le (Heap.lt_size e) F.above) (Nat.lt_irrefl _)
    · obtain ⟨c,hc,ob,rfl,_⟩:=OR.at_ i _ hP
      rw [(N _ (mem_at hc (.head _))).2.2] at e;cases e
  have one:∀ i c,chs[i]? = some c→(∀ p ∈ c,h'.get? p.1 = some p.2) ∨ ∃ P ob sl,st.objs[i]? = some (.raw P)∧UpP P∧c = [(ρ i,ob)]∧P ob∧h'.get? (ρ i) = some { ob with slots:=sl }:=fun i c hc=>by
    by_cases hx:∀ p ∈ c,p.1 ∉ frs (X.env :: outer)
    · exact .inl fun p hp=>keep _ _ (N p (mem_at hc hp)).1 (hx p hp)
    · obtain ⟨p,hx⟩:=Classical.not_forall.mp hx
      obtain ⟨hp,hm⟩:=Classical.not_forall.mp hx
      replace hm:=Classical.not_not.mp hm
      rcases fr p.1 hm with e | ⟨j,P,e,hP,u⟩
      · exact absurd e (N p (mem_at hc hp)).2.1
      · obtain ⟨d,hd,ob,rfl,hob⟩:=OR.at_ j _ hP
        have hij:i = j:=by
          by_cases q:i = j
          · exact q
          · exact absurd e (ndx.2 i j c _ q hc hd p hp _ (.head _))
        subst hij
        rw [hc] at hd
        cases hd
        obtain ⟨es,k,hk⟩:=u.dict ob hob
        obtain ⟨sl,hs⟩:=up _ _ (N _ (mem_at hc (.head _))).1 (fun vs q=>by rw [show ob.data = _ from hk] at q;cases q)
        exact .inr ⟨P,ob,sl,hP,u,rfl,hob,hs⟩
  let f:Addr × Obj→Addr × Obj:=fun p=>(p.1,(h'.get? p.1).getD p.2)
  have fst:∀ c:List (Addr × Obj),(c.map f).map (·.1) = c.map (·.1):=fun c=>by rw [List.map_map];rfl
  have at2:∀ i c,(chs.map (List.map f))[i]? = some c→∃ d:List (Addr × Obj),chs[i]? = some d∧c = d.map f:=fun i c e=>by
    rw [List.getElem?_map] at e
    obtain ⟨d,hd,rfl⟩:=Option.map_eq_some_iff.mp e
    exact ⟨d,hd,rfl⟩
  have here:∀ i d,chs[i]? = some d→∀ p ∈ d,h'.get? p.1 = some (f p).2:=fun i d hd p hp=>by
    show _ = some ((h'.get? p.1).getD p.2)
    rcases one i d hd with h | ⟨P,ob,sl,_,_,rfl,_,h⟩
    · rw [h p hp];rfl
    · rcases List.mem_singleton.mp hp with rfl
      rw [h];rfl
  refine ⟨⟨m,chs.map (List.map f),⟨up.ns F.ns,fun b o e=>keep b o (F.keep b o e) (nL b o e),F.above⟩,fun p hp=>?_,nd_iff.mpr ⟨fun i c e=>?_,fun i j c d hij ei ej p hp q hq=>?_⟩,LR,⟨by rw [List.length_map,OR.len],fun i o ho=>?_⟩⟩,g1,g2,g3,pn⟩
  · obtain ⟨c,hc,hpc⟩:=List.mem_flatten.mp hp
    obtain ⟨i,hi⟩:=List.mem_iff_getElem?.mp hc
    obtain ⟨d,hd,rfl⟩:=at2 i c hi
    obtain ⟨q,hq,rfl⟩:=List.mem_map.mp hpc
    exact ⟨here i d hd q hq,(N q (mem_at hd hq)).2⟩
  · obtain ⟨d,hd,rfl⟩:=at2 i c e
    rw [fst];exact ndx.1 i d hd
  · obtain ⟨c',hc,rfl⟩:=at2 i c ei
    obtain ⟨d',hd,rfl⟩:=at2 j d ej
    obtain ⟨p',hp',rfl⟩:=List.mem_map.mp hp
    obtain ⟨q',hq',rfl⟩:=List.mem_map.mp hq
    exact ndx.2 i j _ _ hij hc hd p' hp' q' hq'
  · obtain ⟨c,hc,r⟩:=OR.at_ i o ho
    refine ⟨c.map f,by rw [List.getElem?_map,hc];rfl,?_⟩
    rcases one i c hc with h | ⟨P,ob,sl,hP,u,rfl,hob,h⟩
    · have:c.map f = c:=by
        conv=>rhs;rw [← List.map_id c]
        refine List.map_congr_left fun p hp=>?_
        show (p.1,(h'.get? p.1).getD p.2) = p
        rw [h p hp];rfl
      rw [this];exact r
    · rw [hP] at ho
      cases ho
      refine ⟨{ ob with slots:=sl },?_,u.up _ _ hob⟩
      show [(ρ i,(h'.get? (ρ i)).getD ob)] = _
      rw [h];rfl
end
section
variable {prog:Program} {w:World} {A:Around} {E:PySem.Value→Shared→Prop} {s:Shared} {env:Env}
theorem r_Try {body orelse:List Stmt} {h₀:ExceptHandler} {hs:List ExceptHandler} {pos:Pos} {Q:Flow→Shared→Prop}
    (h:wpR (model prog w) A (execs body env) (fun f s₁=>match f with | .next=>wpR (model prog w) A (execs orelse env) Q E s₁ | f=>Q f s₁)
      (fun e s₁=>wpR (model prog w) A (noteFrame e env) (fun _ s₂=>wpR (model prog w) A (setFlight e none) (fun _ s₃=>wpR (model prog w) A (handleBy e env (h₀ :: hs)) Q E s₃) E s₂) E s₁) s) :
    wpR (model prog w) A (exec (.Try body (h₀ :: hs) orelse [] pos) env) Q E s:=by
  rw [arm_exec_Try]
  refine stand ?_
  delta tryStmt
  simp only [List.isEmpty_nil,if_true,List.isEmpty_cons,Bool.false_and,Bool.false_eq_true,if_false]
  refine wpR_bind (wpR_attempt (wpR_mono h (fun f s₁ h₁=>?_) fun e s₁ h₁=>?_))
  · cases f <;> first | exact h₁ | exact wpR_pure h₁
  · exact wpR_bind (wpR_mono h₁ (fun _ _ h₂=>wpR_bind h₂) fun _ _ x=>x)
end
noncomputable def CatE (X:Cx) (st:St) (outer:List Env) (C:Addr) (v:PySem.Value) (s':Shared):Prop:=∃ e hr ρ3,v = .ref e∧SRep X ρ3 st { s' with heap:=hr }∧Fly (X.env :: outer) C hr e s'.heap
noncomputable abbrev Cx.onErr (X:Cx) (E:PySem.Value→Shared→Prop):Cx:={ X with E:=E }
theorem Cx.Ok.onErr {X:Cx} (O:X.Ok) {E:PySem.Value→Shared→Prop}:(X.onErr E).Ok:=⟨O.W,O.kind,O.K,O.T,O.room,O.cell⟩
theorem j_tryTrue {X:Cx} (O:X.Ok) {st st1:St} {outer:List Env} {hs:List Nat} {C:Addr} {x:PySem.Str} {np hpos pos rp cp:Pos} {n:Nat} {body:List Stmt} {k:Fl→St→Prop} (hcl:X.cl = []) (hfr:X.fr = none) (ho:Outs X outer hs) (hp:RawAt st1 hs) (hA:X.A.frames = some (X.env :: outer))
    (hx : nsIn X.W.K mainGlobals x = some (some (.ref C))) (hq : ktsIn X.W.K C "BaseException" = true) (hk : kindS x X.cs.names = some .globalImplicit) (hd : strB x dbgS = false)
    (hb:Ss (X.onErr (CatE X st1 outer C)) body st (fun _ _=>False)) (h:k (.ret (.bool true)) st1) :
    ExJ X (.Try body [.ExceptHandler (some (.Name x np)) none [.Return (some (.Constant (.bool true) n cp)) rp] hpos] [] [] pos) st k:=by
  constructor
  intro ρ s R
  refine r_Try (wpR_mono (hb ρ s ⟨R.ex,R.gn,R.dr,R.os,R.pin⟩) (fun f s1 ⟨_,_,_,_,_,q⟩=>q.elim) fun v s1 ⟨e,hr,ρ3,q,R3,fl⟩=>?_)
  subst q
  obtain ⟨W,A,cn,cs,a,ccd,g,L,gn,dr,os,E,lvl,n0,r0,cl,fr⟩:=X
  cases hcl
  cases hfr
  obtain ⟨⟨t,fl⟩,up⟩:=fl
  refine .of (wpAny_looks_onW hA rfl fl fun h4 held up4=>.of (wpAny_landsW held fun h5 fl5 up5=>.of ?_))
  have up5:=(up.trans up4).trans up5
  obtain ⟨⟨m,chs,F,N,nd,LR,OR⟩,_⟩:=SRep.unw (s:=s1) rfl R3 ho hp fl5.1 up5
  obtain ⟨nm,q',N',bs,bm,hdct,sn,sub,ab,col,dd,k0,k1,k2,k3,k5,newId,hC,hbase,_⟩:=kts_cls O.K hq
  obtain ⟨ob,hob,hobc⟩:=fl5.there
  refine wpAny_handleBy_cons (codeAny_handlers_test (name_K F O.K O.T hx ?_ O.kind ?_ (dbg_of hd))) (by intro q;cases q)
  · refine wpAny_excMatches_sub_self (F.keep _ _ hC) hob hobc hbase (codeAny_handlers_suite ?_)
    refine lands_againW fl5 fun h6 fl6 up6=>?_
    have R6:=SRep.unw (s:=s1) rfl R3 ho hp fl6.1 (up5.trans up6)
    refine wpAny_execs_cons ?_
    rw [exec_Return_some]
    exact wpAny_bind (wpAny_standAt (wpAny_bind (wpAny_pure (wpAny_pure ⟨ρ3,.ret (.bool true),st1,R6,⟨_,rfl,rfl⟩,h⟩))))
  · show cs.names.lookup x = _
    rw [← kindS_eq];exact hk
end Mine
end
section
namespace Mine
noncomputable def RetT (Lc:Addr) (g:Heap) (u:Out) (ρ:Nat→Addr) (objs:List SObj) (P:SV→List SObj→Prop) (r:Result) (s':Shared):Prop:=∃ g2,Turn1 Lc g g2∧RetB g2 u ρ objs [] P r s'
noncomputable def FnT (W:Wd) (lvl:Nat) (f:Addr) (args:List SV) (objs:List SObj) (hs:List Nat) (P:SV→List SObj→Prop):Prop :=
  ∀ (A:Around) (envc:Env) (outer:List Env) (Lc:Addr) (g₀ g:Heap) (u:Out) (ρ:Nat→Addr) (s:Shared) (vs:List PySem.Value),
    Room A lvl→W.K.In g₀→TopRead W.p W.loose W.mg W.mb g₀→(∀ b o,g₀.get? b = some o→g.get? b = some o)→g₀.get? Lc = none→HRep g u ρ objs s→All2 (VRep ρ objs.length) args vs →
    A.frames = some (envc :: outer)→envc.frame = some Lc→envc.scope.kind = .function→(∃ o es k,g.get? Lc = some o∧o.data = .dict es k) →
    All2 (fun env i=>env.scope.kind = .function∧env.frame = some (ρ i)∧i < objs.length) outer hs→codeR (model W.prog W.w) A (.call (.ref f) ⟨vs,[]⟩) (RetT Lc g u ρ objs P) s
inductive FinT (n:Nat) (d:Obj→Prop) (P:SV→List SObj→Prop) (fl:Fl) (st:St):Prop
  | mk (hn:st.objs[n]? = some (.raw d)) (ι:List Nat) (res:SV) (objs':List SObj) (k:∀ j,j < n→kap ι 0 j = j) (l:objs'.length = ι.length) (m:n ≤ ι.length) (nd:nodupN ι = true) (ne:∀ k ∈ ι,k ≠ n) (s:selG (kap ι 0) st.objs objs'.length 0 objs') (r:retV fl = res.ren (kap ι 0)) (c:res.clo objs'.length = true) (p:P res objs')
noncomputable abbrev tX (qual:PySem.Str) (scope:Scope) (f:Addr) (cdv:PySem.Value) (lvl n:Nat) (W:Wd) (Z:Zs):Cx:=nX qual scope f cdv lvl (n + 1) W Z
theorem enterT {W:Wd} {lvl:Nat} {f:Addr} {name qual:PySem.Str} {params:Arguments} {body:List Stmt} {scope:Scope} {dV kV doc pm cdv ct oc:PySem.Value} {an od:Option Addr} {osl:Array (Option PySem.Value)}
    {args:List SV} {objs:List SObj} {hs:List Nat} {P:SV→List SObj→Prop} (names:List PySem.Str) (hW:W.Holds)
    (ho:W.K.lookup f = some ⟨oc,od,.func (fnOf name qual params body scope dV kV doc pm an cdv ct),osl⟩) (hcd:codeIn W.K cdv qual = true)
    (hbind:fnN names.length fun vs=>bindArgs (fnOf name qual params body scope dV kV doc pm an cdv ct) ⟨vs,[]⟩ = pure (names.zip vs))
    (hlen:args.length = names.length) (hloc:(names.all fun y=>kindS y scope.names == some .local) = true) (hcell:(scope.names.all fun x=>x.2 != .cell) = true)
    (hco:scope.isCoroutine = false) (hgen:scope.isGenerator = false) (hk:scope.kind = .function)
    (h:∀ (outer:List Env) (d:Obj→Prop) (Z:Zs),UpP d→(tX qual scope f cdv lvl objs.length W Z).Ok →
      Z.A.frames = some (envX qual scope Z.L f cdv [] :: outer)→Outs (tX qual scope f cdv lvl objs.length W Z) outer (objs.length :: hs) →
      Ss (tX qual scope f cdv lvl objs.length W Z) body ⟨(names.zip args).reverse,objs++[.raw d]⟩ (FinT objs.length d P)):FnT W (lvl + 1) f args objs hs P:=by
  intro A envc outer Lc g₀ g u ρ s vs hr hK hT hg0 hLc R r hA hf hkc hdc hout
  obtain ⟨oL,es,kk,hL,hd⟩:=hdc
  obtain ⟨⟨chs,a,b,c,d,e⟩,w1,w2,w3⟩:=R
  have hgg:∀ b o,g₀.get? b = some o→(hideAll g [Lc]).get? b = some o:=fun b o q=>hideAll_get _ (hg0 b o q) fun m=>by
    rw [List.mem_singleton] at m;rw [m,hLc] at q;cases q
  have KS:W.K.In s.heap:=(hK.keeps hg0).keeps a
  have hloc:∀ y ∈ names,scope.names.lookup y = some .local:=fun y hy=>by rw [← kindS_eq];exact beq_iff_eq.mp (List.all_eq_true.mp hloc y hy)
  have hcell:∀ x ∈ scope.names,x.2 ≠ .cell:=fun x hx=>by simpa using List.all_eq_true.mp hcell x hx
  refine r_def (fd:=fnOf name qual params body scope dV kV doc pm an cdv ct) (body:=body) (binds:=names.zip vs) ?_ (KS _ _ ho) rfl ((hT.keeps hg0).nolimit.keeps a) (codeRec_of KS hcd) rfl
    (BindsTo.of_eq (fnN_at hbind (by rw [← r.length,hlen]))) hcell (fun x hx=>hloc _ (List.of_mem_zip hx).1) (fun h₁ hns hk₁=>?_) hco hgen hk
  · have:=hr.hd;show A.depth < 1000;lia
  have hAd:(A.deeper (envX qual scope s.heap.objs.size f cdv [])).frames = some (envX qual scope s.heap.objs.size f cdv [] :: envc :: outer):=Around.frames_deeper hA
  obtain ⟨ρ',r1,r2,OR'⟩:=e.add (a:=Lc) (o:=.raw (dictP oL)) (c:=[(Lc,oL)]) (fun _ _ _=>⟨oL,rfl,oL.slots,rfl⟩)
  have O:(tX qual scope f cdv lvl objs.length W ⟨A.deeper (envX qual scope s.heap.objs.size f cdv []),hideAll g [Lc],s.heap.objs.size,u.gn,u.dr,u.os,ρ'⟩).Ok:=⟨hW,hk,hK.keeps hgg,hT.keeps hgg,hr.down,fun q hq=>nomatch hq⟩
  have hne:∀ (i:Nat) (q:List (Addr × Obj)),chs[i]? = some q→∀ p ∈ q,p.1 ≠ Lc:=fun i q hq p hp w=>by have:=(c i q hq p hp).2;rw [w,hL] at this;cases this
  have R0:SRep (tX qual scope f cdv lvl objs.length W ⟨A.deeper (envX qual scope s.heap.objs.size f cdv []),hideAll g [Lc],s.heap.objs.size,u.gn,u.dr,u.os,ρ'⟩)
      ρ' ⟨(names.zip args).reverse,objs++[.raw (dictP oL)]⟩ { s with heap:=h₁,toks:=s.toks + (names.zip vs).length }:=by
    refine ⟨⟨_,chs++[[(Lc,oL)]],⟨hns,fun b o q=>hk₁ b o (a b o (of_hideAll _ q)),Nat.le_trans (Nat.le_of_eq (hideAll_size _ _)) b⟩,fun p hp=>?_,nd_iff.mpr (d.snoc (by simp) fun i q hq p hp p' hp'=>by rw [List.mem_singleton.mp hp'];exact hne i q hq p hp),fun x sv q=>?_,OR'⟩,w1,w2,w3,fun _ _=>rfl,by show objs.length + 1 ≤ (objs++[_]).length;simp⟩
    · obtain ⟨q,hq,hpq⟩:=List.mem_flatten.mp hp
      obtain ⟨i,hi⟩:=List.mem_iff_getElem?.mp hq
      rcases snoc_at hi with h' | ⟨_,rfl⟩
      · obtain ⟨z1,z2⟩:=c i q h' p hpq
        refine ⟨hk₁ _ _ z1,Nat.ne_of_lt (Heap.lt_size z1),?_⟩
        show (hideAll g [Lc]).get? p.1 = none
        cases w:(hideAll g [Lc]).get? p.1 with
        | none=>rfl
        | some o=>rw [of_hideAll _ w] at z2;cases z2
      · rcases List.mem_singleton.mp hpq with rfl
        exact ⟨hk₁ _ _ (a _ _ hL),Nat.ne_of_lt (Heap.lt_size (a _ _ hL)),hideAll_none _ (.head _)⟩
    · obtain ⟨v,q1,q2⟩:=getS_lookup (all2_rev (all2_zip r)) q
      exact ⟨v,q1,q2.ext r1 (by show _ ≤ (objs++[_]).length;simp)⟩
  have hOut:Outs (tX qual scope f cdv lvl objs.length W ⟨A.deeper (envX qual scope s.heap.objs.size f cdv []),hideAll g [Lc],s.heap.objs.size,u.gn,u.dr,u.os,ρ'⟩) (envc :: outer) (objs.length :: hs) :=
    .cons ⟨hkc,by rw [hf];exact congrArg some r2.symm,Nat.lt_succ_self _⟩ (hout.mono fun env i ⟨x,y,z⟩=>⟨x,by rw [y];exact congrArg some (r1 i z).symm,Nat.lt_succ_of_lt z⟩)
  refine wpR_mono (h _ _ _ (upP_dict hd) O hAd hOut ρ' _ R0) (fun fl s' q=>?_) fun _ _ x=>x.elim
  obtain ⟨ρ1,f1,st1,R1,r1',hn,ι,res,objs',i1,i2,i3,i4,i5,i6,i7,i8,i9⟩:=q
  have rv:=frep_val r1'
  rw [i7] at rv
  obtain ⟨⟨m,chs1,F1,N1,nd1,LR1,OR1⟩,v1,v2,v3,pn⟩:=R1
  have ndx:=nd_iff.mp nd1
  have hρn:ρ1 objs.length = Lc:=(pn.1 _ (Nat.lt_succ_self _)).trans r2
  obtain ⟨cn,hcn,ob,rfl,slb,hob⟩:=OR1.at_ _ _ hn
  have hbL:s'.heap.get? Lc = some { oL with slots:=slb }:=by
    have:=(N1 _ (mem_at hcn (.head _))).1
    rw [hob] at this
    rw [← hρn];exact this
  obtain ⟨chs2,OR2,nd2,at2⟩:=reps_sel OR1 ndx i6 (fun i j hi hj hij q=>by
    rw [i2] at hi hj
    exact hij (nodupN_inj i4 (kap_lt hi) (by rw [q];exact kap_lt hj)))
  obtain ⟨T,S⟩:=kts_turn_at (fs:=[Lc]) (g:=g) (h:=s'.heap) (fun b hb=>by rw [List.mem_singleton.mp hb];exact ⟨oL,hL⟩) (fun b o q n=>F1.keep b o (hideAll_get _ q n))
    (fun b o q n=>by rw [List.mem_singleton.mp n] at q ⊢;rw [hL] at q;cases q;exact ⟨slb,hbL⟩)
  refine ⟨_,⟨T.none_,fun b o q n=>T.other b o q (fun m=>n (List.mem_singleton.mp m)),fun o q=>T.frame _ o q (.head _)⟩,fun i=>ρ1 (kap ι 0 i),res,objs',fun i hi _=>?_,by rw [i2];exact i3,⟨⟨chs2,S,?_,fun j q hq p hp=>?_,nd2,OR2⟩,v1,v2,v3⟩,rv.sel i8,i9⟩
  · show ρ1 (kap ι 0 i) = _
    rw [i1 i hi,pn.1 i (Nat.lt_succ_of_lt hi)]
    exact r1 i hi
  · obtain ⟨o,_,_,hL',_⟩:=F1.ns
    rw [T.size]
    exact Nat.le_trans b (Nat.le_of_lt (Heap.lt_size hL'))
  · obtain ⟨hj,hkj,q1⟩:=at2 j q hq
    rcases q1 with rfl | q1
    · cases hp
    · have z:=N1 p (mem_at q1 hp)
      have hpL:p.1 ≠ Lc:=fun w=>by
        have hkn:kap ι 0 j ≠ objs.length:=i5 _ (List.mem_of_getElem? (kap_lt (by rw [← i2];exact hj)))
        exact ndx.2 _ _ _ _ hkn q1 hcn p hp _ (.head _) (w.trans hρn.symm)
      refine ⟨z.1,T.none_ _ ?_⟩
      cases w:g.get? p.1 with
      | none=>rfl
      | some o=>have this:(hideAll g [Lc]).get? p.1 = none:=z.2.2;rw [hideAll_get _ w (fun m=>hpL (List.mem_singleton.mp m))] at this;cases this
end Mine
end
section
open PySem PySem.W PyProof.Rows PySem.F
namespace Mine
section
variable {prog:Program} {w:World} {A:Around} {E:PySem.Value→Shared→Prop} {s:Shared}
theorem ifR_t {α:Type} {M:Model} {c:Prop} [Decidable c] {a b:Sem α} {Q:α→Shared→Prop} (hc:c) (h:wpR M A a Q E s):wpR M A (if c then a else b) Q E s:=by rw [if_pos hc];exact h
theorem ifR_f {α:Type} {M:Model} {c:Prop} [Decidable c] {a b:Sem α} {Q:α→Shared→Prop} (hc:¬ c) (h:wpR M A b Q E s):wpR M A (if c then a else b) Q E s:=by rw [if_neg hc];exact h
theorem ifA_t {α:Type} {M:Model} {c:Prop} [Decidable c] {a b:Sem α} {Q:α→Shared→Prop} (hc:c) (h:wpAny M A a Q E s):wpAny M A (if c then a else b) Q E s:=by rw [if_pos hc];exact h
theorem ifA_f {α:Type} {M:Model} {c:Prop} [Decidable c] {a b:Sem α} {Q:α→Shared→Prop} (hc:¬ c) (h:wpAny M A b Q E s):wpAny M A (if c then a else b) Q E s:=by rw [if_neg hc];exact h
theorem g_contains : guardIds.contains "bytearray.__contains__" = true ∧ guardIds.contains "bytearray.__mod__" = true ∧ guardIds.contains "bytearray.__rmod__" = true ∧ guardIds.contains "_struct.pack_into.held" = true ∧ guardIds.contains "bytearray.find.held" = true := by decide +kernel
theorem dif_f {c:Prop} [Decidable c] {t:c→Bool} {e:¬ c→Bool} (h:¬ c) (q:e h = false):dite c t e = false:=by rw [dif_neg h];exact q
theorem not_guard {x id:String} {args:Args} (g:guardIds.contains x = true) (h:(Code.builtin id args).isGuard = false):¬ id = x:=fun e=>by
  subst e
  rw [Code.isGuard,g] at h;cases h
theorem exported_R {M:Model} {self:PySem.Value} {Q:Bool→Shared→Prop} (hg:A.guards = some []) (h:Q false s):wpR M A (Builtin.Bytes.exported self) Q E s:=by
  refine stack_clean hg (fun c p h1 h2=>?_) (fun c hc=>nomatch hc) h
  cases c with
  | builtin id args =>
    obtain ⟨g1,g2,g3,g4,g5⟩:=g_contains
    obtain ⟨pos,kw⟩:=args
    delta Builtin.Bytes.exported.match_1
    refine dif_f (not_guard g1 h1) ?_
    refine dif_f (not_guard g2 h1) ?_
    refine dif_f (not_guard g3 h1) ?_
    refine dif_f (not_guard g4 h1) ?_
    refine dif_f (not_guard g5 h1) ?_
    cases pos with
    | nil=>rfl
    | cons v _ =>
      have h2:Builtin.Bytes.decodersThatHold.contains id = false:=h2
      show (_ && Builtin.Bytes.decodersThatHold.contains id) = false
      rw [h2,Bool.and_false]
  | _=>rfl
noncomputable def baObj (b : List UInt8) : Obj := { cls := .type "bytearray", data := .bytearray b.toArray 0 }
theorem resize_R {a:Addr} {b:List UInt8} {Q:Unit→Shared→Prop} (hg:A.guards = some []) (ho:s.heap.get? a = some (baObj b)) (h:Q () s):wpR (model prog w) A (Builtin.Bytes.checkResize (.ref a)) Q E s:=by
  unfold Builtin.Bytes.checkResize
  refine wpR_bind (wpR_bind (exported_R hg ?_))
  refine wpR_bind (wpR_bind ?_)
  refine r_ndload ho (wpR_pure ?_)
  refine wpR_pure (wpR_pure ?_)
  show wpR _ _ (if decide ((0:Nat) > 0) = true then _ else pure ()) _ _ _
  rw [if_neg (by decide)]
  exact wpR_pure h
theorem payload_R {a:Addr} {b:List UInt8} {Q:Array UInt8→Shared→Prop} (ho:s.heap.get? a = some (baObj b)) (h:Q b.toArray s):wpAny (model prog w) A (Builtin.Bytes.payload (.ref a)) Q E s:=by
  unfold Builtin.Bytes.payload Builtin.Bytes.payload?
  refine wpAny_bind (wpAny_bind (wpAny_load ho ?_))
  exact wpAny_pure (wpAny_pure h)
theorem write_R {a:Addr} {b b':List UInt8} {f:Array UInt8→Array UInt8} {Q:Unit→Shared→Prop} (ho:s.heap.get? a = some (baObj b)) (hf:f b.toArray = b'.toArray) (hz:b'.length ≤ sizeLine)
    (hh:(s.heap.update a (Obj.mapBytearray f)).get? a = some (baObj b')→Q () { s with heap:=s.heap.update a (Obj.mapBytearray f) }):wpAny (model prog w) A (Builtin.Bytes.write (.ref a) f) Q E s:=by
  show wpAny _ _ (updateBytearray a f) _ _ _
  unfold updateBytearray
  refine wpAny_bind (wpAny_load ho ?_)
  show wpAny _ _ (update a (Obj.mapBytearray f) >>= fun _=>lookBehind a) _ _ _
  refine wpAny_bind (wpAny_update ho ?_)
  have h2:(s.heap.update a (Obj.mapBytearray f)).get? a = some (baObj b'):=by
    have:=Heap.get?_update_self (Obj.mapBytearray f) ho rfl
    rw [this]; exact congrArg (fun x : Array UInt8 => some ({ cls := .type "bytearray", data := .bytearray x 0 } : Obj)) hf
  refine wpAny_lookBehind h2 ?_ (hh h2)
  show (if b'.toArray.size > sizeLine then _ else none) = none
  rw [if_neg]
  simp;omega
end
section
variable {X:Cx} {ρ:Nat→Addr} {st:St} {s:Shared}
theorem SRep.grown (R:SRep X ρ st s) {h':Heap} {tk:Tok} (hk:∀ b o,s.heap.get? b = some o→h'.get? b = some o):SRep X ρ st { s with heap:=h',toks:=tk }:=by
  obtain ⟨⟨m,chs,F,N,nd,LR,OR⟩,g1,g2,g3,pn⟩:=R
  exact ⟨⟨m,chs,F.keeps hk,N.grown hk,nd,LR,OR⟩,g1,g2,g3,pn⟩
theorem ba_at (R:SRep X ρ st s) {i:Nat} {b:List UInt8} (ho:st.objs[i]? = some (.ba b)):s.heap.get? (ρ i) = some (baObj b):=by
  obtain ⟨⟨m,chs,F,N,nd,LR,OR⟩,g1,g2,g3,pn⟩:=R
  obtain ⟨c,hcc,r⟩:=OR.at_ i _ ho
  cases r
  exact (N _ (mem_at hcc (.head _))).1
theorem ba_turn (R:SRep X ρ st s) {i:Nat} {b b':List UInt8} {h':Heap} {tk:Tok} (ho:st.objs[i]? = some (.ba b)) (hs:Heap.SameBut (ρ i) s.heap h') (hg':h'.get? (ρ i) = some (baObj b')) :
    SRep X ρ (st.setObj i (.ba b')) { s with heap:=h',toks:=tk } :=
by
  obtain ⟨⟨m,chs,F,N,nd,LR,OR⟩,g1,g2,g3,pn⟩:=R
  obtain ⟨c,hcc,r⟩:=OR.at_ i _ ho
  cases r
  exact turnC F N nd LR OR g1 g2 g3 pn (List.getElem?_eq_some_iff.mp ho).1 hcc hs hg' rfl
theorem callR_slot {T:String} {name:PySem.Str} {id:String} {B:Builtin} {self:PySem.Value} {rest:List PySem.Value} {prog:Program} {w:World} {A:Around} {E:PySem.Value→Shared→Prop} {Q:PySem.Value→Shared→Prop} (slot:Slot T name id) (hT:s.TypeIs self T)
    (entry:entryFor table id = some B) (args:argsOk id ⟨self :: rest,[]⟩) (hbad:Builtin.Bytes.decodersThatHold.contains id = false)
    (h:wpR (model prog w) A.in1 (B ⟨self :: rest,[]⟩) (fun fin s'=>∃ v,fin = .done (.ret v)∧Q v s') E s):wpR (model prog w) A (call (.builtin id) (self :: rest)) Q E s:=by
  refine wpR_call (r_callB (plainId_quiet slot.plain _) hbad entry (slot.check _ _ _ _ _ _ _ _ hT args ?_))
  rw [Around.under_plainId slot.plain _]
  refine wpR_mono h (fun fin s' ⟨v,e,q⟩=>?_) fun _ _ x=>x
  subst e;exact q
theorem buffer_full {b:Array UInt8} {t:Tok} {id:String}:Builtin.Bytes.takeBufferQuiet? id (.bytes b t) 0 = pure (some (b,none)):=by
  unfold Builtin.Bytes.takeBufferQuiet? Builtin.Bytes.takeBuffer?
  rw [KBy.special_eq KBy.look_buffer,KBy.own_buffer]
  have:((0:Int) == Builtin.Bytes.fullReadOnly) = false:=by decide
  rw [this,KBy.buffer_eq]
  rfl
theorem j_extend {i:Nat} {b c:List UInt8} {k:SV→St→Prop} (O:X.Ok) (ho:st.objs[i]? = some (.ba b)) (hz:b.length + c.length ≤ 16777216) (h:k .none (st.setObj i (.ba (b++c)))) :
    OpJ X (fun vs=>call BI.baExtend.val vs) [.ref i,.bytes c] st k:=by
  constructor
  intro ρ s vs R r
  cases r with
  | cons r1 r =>
  cases r with
  | cons r2 r =>
  cases r
  obtain ⟨hi,rfl⟩:=r1
  obtain ⟨t,rfl⟩:=r2
  have hg:=ba_at R ho
  refine callR_slot slot_ba_extend ⟨_,hg,rfl⟩ entry_ba_extend (args_ba_extend _ _) (by decide +kernel) ?_
  show wpR _ _ (specialOf (.bytes c.toArray t) "__buffer__" >>= fun r => _) _ _ _
  refine wpR_bind (wpR_of_eq (KBy.special_eq KBy.look_buffer) ?_)
  show wpR _ _ (rule _ >>= fun _=>_) _ _ _
  refine wpR_step (wpAny_rule ?_)
  refine wpR_step (payload_R hg ?_)
  refine wpR_bind (wpR_of_eq buffer_full ?_)
  refine ifR_t rfl ?_
  show wpR _ _ ((if (!c.toArray.isEmpty) = true then (Builtin.Bytes.checkResize (.ref (ρ i)) >>= fun r=>(do Builtin.Bytes.write (.ref (ρ i)) (·++c.toArray);ret .none)) else (do Builtin.Bytes.write (.ref (ρ i)) (·++c.toArray);ret .none))) _ _ _
  have fin:wpR (model X.W.prog X.W.w) X.A.in1 (do Builtin.Bytes.write (.ref (ρ i)) (·++c.toArray);ret .none) (fun fin s'=>∃ v,fin = .done (.ret v)∧EvP X ρ st.objs.length k v s') X.E s:=by
    refine wpR_step (write_R (b':=b++c) hg (by simp) (by rw [List.length_append,sizeLine_eq];exact hz) (fun hh=>?_))
    refine wpR_pure ⟨_,rfl,ρ,.none,st.setObj i (.ba (b++c)),fun _ _=>rfl,?_,?_,rfl,h⟩
    · show _ ≤ (st.objs.set _ _).length;rw [List.length_set];exact Nat.le_refl _
    · exact ba_turn (tk:=s.toks) R ho (Heap.SameBut.update ..) hh
  split
  · exact wpR_bind (resize_R O.room.hg hg fin)
  · exact fin
end
end Mine
end
section
open PySem PySem.W PyProof.Rows PySem.F
namespace Mine
theorem mro_ba : mroOf (.type "bytearray") = pure [.type "bytearray", .type "object"] := by rw [mroOf_type]; kernel_rfl
theorem lookup_ba_new : typeLookup (.type "bytearray") "__new__" = pure (some (.builtin "bytearray.__new__")) := by rw [typeLookup_type, builtinLookup_eq_fast]; kernel_rfl
theorem slot_ba_init : Slot "bytearray" "__init__" "bytearray.__init__" :=
  .of (owner := "bytearray") (n := "__init__") (by rw [typeLookup_type, builtinLookup_eq_fast]; kernel_rfl) (by decide +kernel) (by decide +kernel) (by decide +kernel)
    (by first | exact .inl (by decide +kernel) | exact .inr (by decide +kernel)) (by rw [isSubtype_type];kernel_rfl)
theorem called_ba : TypeCalled "bytearray" "bytearray.__new__" "bytearray.__init__" :=
  ⟨by decide +kernel,by decide +kernel,⟨_,_,mro_ba⟩,madeBy_type mro_ba lookup_ba_new (by decide +kernel),by decide +kernel,by rw [isSubtype_type];kernel_rfl,slot_ba_init⟩
theorem typeCall_ba0 : checkTypeCall "bytearray" ⟨[], []⟩ = pure () := by kernel_rfl
theorem typeCall_ba1 (a : PySem.Value) : checkTypeCall "bytearray" ⟨[a], []⟩ = pure () := by kernel_rfl
theorem newCall_ba0 : checkBuiltinCall "bytearray.__new__" ⟨[.type "bytearray"], []⟩ = pure () := by kernel_rfl
theorem newCall_ba1 (a : PySem.Value) : checkBuiltinCall "bytearray.__new__" ⟨[.type "bytearray", a], []⟩ = pure () := by kernel_rfl
theorem entry_ba_new : entryFor table "bytearray.__new__" = some Builtin.«list.__new__» := entryFor_alias (id' := "list.__new__") (by kernel_rfl) (by first | rfl | decide +kernel) (by decide +kernel) (by kernel_rfl)
theorem plain_ba_new : plainId "bytearray.__new__" = true := by decide +kernel
set_option maxRecDepth 1000000 in
set_option maxHeartbeats 4000000 in
theorem owner_ba_new : ("bytearray.__new__".splitOn ".__new__").headD "" = "bytearray" := by simp +decide [String.splitOn, String.splitOnAux]
theorem sub_ba_self : isSubtype (.type "bytearray") (.type "bytearray") = pure true := by rw [isSubtype_type]; kernel_rfl
section
variable {prog:Program} {w:World} {A:Around} {E:PySem.Value→Shared→Prop} {s:Shared}
theorem code_ba_new (args : List PySem.Value) {Q₁ : PySem.Value → Shared → Prop} (hc : checkBuiltinCall "bytearray.__new__" ⟨.type "bytearray" :: args, []⟩ = pure ())
    (h:Q₁ (.ref s.heap.objs.size) { s with heap:=s.heap.push (baObj []) }) :
    codeAny (model prog w) A (.call (.builtin "bytearray.__new__") ⟨.type "bytearray" :: args, []⟩) (wants Q₁ E) s := by
  refine codeAny_of_tree ?_
  show wpAny _ A.in1 (do checkBuiltinCall "bytearray.__new__" ⟨.type "bytearray" :: args, []⟩; again (.builtin "bytearray.__new__" ⟨.type "bytearray" :: args, []⟩)) _ _ s
  refine wpAny_bind (wpAny_of_eq hc (wpAny_pure ⟨plainId_quiet plain_ba_new _,codeAny_builtin_stack entry_ba_new rfl fun p st=>?_⟩))
  rw [Around.under_plainId plain_ba_new _]
  have hsub:=sub_ba_self
  have hown:=owner_ba_new
  obtain ⟨hp,g,d,tk,os⟩:=s
  simp only [hown]
  wp_walk
  exact h
theorem codeR_builtin {id:String} {args:Args} {b:Builtin} {R:Result→Shared→Prop} (hbad:bad (.builtin id args) = false) (hb:entryFor table id = some b)
    (h:wpR (model prog w) (A.under (.builtin id args)) (b args) (fun fin s'=>match fin with | .done f=>R (.ok f) s' | .again c'=>c'.quiet = true∧codeR (model prog w) A c' R s') (fun e s'=>R (.error e) s') s):codeR (model prog w) A (.builtin id args) R s:=by
  refine codeR_of_tree hbad ?_
  show wpR _ _ (match entryFor table id with | some b => b args | none => unsupported ((withoutEnding? id "#data").getD id)) _ _ s
  rw [hb];exact h
theorem wpR_eq {α:Type} {M:Model} {t t':Sem α} {Q:α→Shared→Prop} (e:t = t') (h:wpR M A t' Q E s):wpR M A t Q E s:=e ▸ h
theorem callR_type {T newId initId:String} {Bi:Builtin} {args:List PySem.Value} {Q Q₁:PySem.Value→Shared→Prop} (ft:TypeCalled T newId initId)
    (hct:checkTypeCall T ⟨args,[]⟩ = pure ()) (entryI:entryFor table initId = some Bi) (hbi:Builtin.Bytes.decodersThatHold.contains initId = false)
    (hnew:codeAny (model prog w) A.in1 (.call (.builtin newId) ⟨.type T :: args,[]⟩) (wants Q₁ E) s)
    (hnext:∀ obj s₁,Q₁ obj s₁→s₁.TypeIs obj T∧argsOk initId ⟨obj :: args,[]⟩ ∧
      wpR (model prog w) A.in1.in1 (Bi ⟨obj :: args,[]⟩) (fun fin s'=>fin = .done (.ret .none)∧Q obj s') E s₁) :
    wpR (model prog w) A (call (.type T) args) Q E s:=by
  obtain ⟨c,tl,hmro⟩:=ft.mro
  have hmade:=ft.made
  have hsub:=ft.sub
  refine wpR_call (codeR_of_tree rfl ?_)
  show wpR _ _ (callAny (.type T) _) _ _ _
  refine wpR_pure ⟨Code.quiet_builtin _ (by decide +kernel), codeR_builtin (show Builtin.Bytes.decodersThatHold.contains "type.__call__" = false by decide +kernel) F.entry_type_call ?_⟩
  rw [Around.under_plain (weight_type_call_type T args []) rfl]
  have h1:=ft.notType
  have h2:=ft.canCreate
  unfold Builtin.«type.__call__»
  refine ifR_f (by rw [h1];decide) ?_
  refine ifR_f (by rw [h2];decide) ?_
  refine wpR_bind (wpR_of_eq hct ?_)
  refine wpR_bind (wpR_of_eq hmro ?_)
  refine ifR_f (by simp) ?_
  refine wpR_bind (wpR_of_eq hmade ?_)
  refine wpR_bind (wpR_pure ?_)
  refine wpR_bind (wpR_holding (.of (wpAny_call (codeAny_mono hnew fun r s₁ hr=>?_))))
  cases r with
  | error e=>exact hr
  | ok fl =>
    cases fl with
    | ret obj =>
      obtain ⟨hT,hok,hsi⟩:=hnext _ _ hr
      refine wpR_bind (.of (wpAny_isInstance hT hsub ?_))
      refine ifR_f (by simp) ?_
      refine wpR_bind (wpR_holding ?_)
      unfold callSpecial?
      refine wpR_step (wpAny_specialOf hT ft.init.lookup ?_)
      dsimp only
      refine wpR_holding (wpR_bind (wpR_of_eq (ft.init.bind obj) ?_))
      refine wpR_bind (wpR_call (r_callB (plainId_quiet ft.init.plain _) hbi entryI (ft.init.check _ _ _ _ _ _ _ _ hT hok ?_)))
      rw [Around.under_plainId ft.init.plain _]
      refine wpR_mono hsi (fun fin s' ⟨e,q⟩=>?_) fun _ _ x=>x
      subst e
      exact wpR_pure (ifR_f (by simp) (wpR_pure q))
    | _=>exact hr.elim
end
end Mine
end
section
open PySem PySem.W PyProof.Rows PySem.F
namespace Mine
theorem look_ba_release : typeLookup (.type "bytearray") "__release_buffer__" = pure (some (.builtin "bytearray.__release_buffer__")) := by rw [typeLookup_type, builtinLookup_eq_fast]; kernel_rfl
theorem bind_ba0 : Builtin.Bytes.bindOptional "bytearray.__init__" "bytearray" ["source", "encoding", "errors"] [] [] = pure [none, none, none] := by kernel_rfl
theorem bind_ba1 (v : PySem.Value) : Builtin.Bytes.bindOptional "bytearray.__init__" "bytearray" ["source", "encoding", "errors"] [v] [] = pure [some v, none, none] := by kernel_rfl
theorem ends1 : ("bytearray.__release_buffer__" : String).endsWith ("." ++ "__release_buffer__") = true := by decide +kernel
theorem drop1 : ("bytearray.__release_buffer__" : String).dropRight (("__release_buffer__" : String).length + 1) = "bytearray" := by decide +kernel
theorem ends2 : ("bytearray.__buffer__" : String).endsWith ("." ++ "__buffer__") = true := by decide +kernel
theorem drop2 : ("bytearray.__buffer__" : String).dropRight (("__buffer__" : String).length + 1) = "bytearray" := by decide +kernel
section
variable {prog:Program} {w:World} {A:Around} {E:PySem.Value→Shared→Prop} {s:Shared} {a:Addr} {b:List UInt8}
theorem ba_T (hg : s.heap.get? a = some (baObj b)) : s.TypeIs (.ref a) "bytearray" := ⟨_, hg, rfl⟩
theorem ownRel_ba {Q:Bool→Shared→Prop} (hg:s.heap.get? a = some (baObj b)) (h:Q false s):wpAny (model prog w) A (Builtin.Bytes.ownRelease (.ref a)) Q E s:=by
  unfold Builtin.Bytes.ownRelease Builtin.Bytes.slotIsOwn
  refine wpAny_bind (wpAny_bind (wpAny_specialOf (ba_T hg) look_ba_release ?_))
  try dsimp only
  refine ifA_f (by rw [ends1];decide) ?_
  rw [drop1]
  exact wpAny_isInstance (ba_T hg) sub_ba_self (wpAny_pure h)
theorem ownBuf_ba {Q : Bool → Shared → Prop} (hg : s.heap.get? a = some (baObj b)) (h : Q true s) : wpAny (model prog w) A (Builtin.Bytes.slotIsOwn (.ref a) "__buffer__") Q E s := by
  unfold Builtin.Bytes.slotIsOwn
  refine wpAny_bind (wpAny_specialOf (ba_T hg) look_ba_buffer ?_)
  try dsimp only
  refine ifA_f (by rw [ends2];decide) ?_
  rw [drop2]
  exact wpAny_isInstance (ba_T hg) sub_ba_self h
theorem buffer_ba {id:String} {full:Bool} {Q:Option (Array UInt8)→Shared→Prop} (hg:s.heap.get? a = some (baObj b)) (h:Q (some b.toArray) s):wpAny (model prog w) A (Builtin.Bytes.buffer? id (.ref a) full) Q E s:=by
  unfold Builtin.Bytes.buffer?
  refine wpAny_bind (wpAny_specialOf (ba_T hg) look_ba_buffer ?_)
  try dsimp only
  refine wpAny_bind (ownBuf_ba hg (ifA_f (by decide) ?_))
  refine wpAny_bind (wpAny_specialOf (ba_T hg) look_ba_buffer ?_)
  try dsimp only
  refine wpAny_bind (ownRel_ba hg (ifA_f (by decide) ?_))
  exact wpAny_bind (payload_R hg (wpAny_pure h))
end
section
variable {X:Cx} {ρ:Nat→Addr} {st:St} {s:Shared}
theorem new_at {o:SObj} {ob:Obj} {k:SV→St→Prop} {h':Heap} {a:Addr} {tk:Tok} (R:SRep X ρ st s) (hk:∀ b o,s.heap.get? b = some o→h'.get? b = some o) (hg:h'.get? a = some ob) (ha:s.heap.objs.size ≤ a)
    (y:∀ ρ':Nat→Addr,(∀ i,i < st.objs.length→ρ' i = ρ i)→ρ' st.objs.length = a→ORep ρ' (st.objs.length + 1) a o [(a,ob)])
    (h:k (.ref st.objs.length) (st.addObj o)):EvP X ρ st.objs.length k (.ref a) { s with heap:=h',toks:=tk }:=by
  have hF:Fr X.g X.L s.heap (R.fr.choose):=R.fr.choose_spec
  have hno:∀ x,s.heap.objs.size ≤ x→s.heap.get? x = none:=fun x hx=>by
    cases q:s.heap.get? x with
    | none=>rfl
    | some o=>exact absurd (Heap.lt_size q) (Nat.not_lt.mpr hx)
  have hX:X.g.get? a = none:=by
    cases q:X.g.get? a with
    | none=>rfl
    | some o=>have:=hF.keep _ _ q;rw [hno a ha] at this;cases this
  have hL:a ≠ X.L:=fun e=>Nat.not_lt.mpr ha (e ▸ hF.ns.lt)
  obtain ⟨ρ',e1,e2,R'⟩:=R.alloc (o:=o) (a:=a) (c:=[(a,ob)]) (h':=h') (tk:=tk) (fun m F=>F.keeps hk) (fun news N p hp=>by
      rcases List.mem_cons.mp hp with q | q
      · subst q;exact ⟨hg,hL,hX⟩
      · exact ⟨hk _ _ (N p q).1,(N p q).2⟩) (by simp) (fun news N p hp q hq=>by
      cases List.mem_singleton.mp hp
      exact fun e=>by have:=(N q hq).1;rw [← e,hno a ha] at this;cases this) y
  refine ⟨ρ',.ref st.objs.length,st.addObj o,e1,?_,R',⟨?_,by rw [e2]⟩,h⟩
  · show _ ≤ (st.objs++[o]).length;simp
  · show _ < (st.objs++[o]).length;simp
theorem new_end {o:SObj} {ob:Obj} {k:SV→St→Prop} {tk:Tok} (R:SRep X ρ st s) (hf:ob.isFreed = false:=by rfl)
    (y:∀ ρ':Nat→Addr,(∀ i,i < st.objs.length→ρ' i = ρ i)→ρ' st.objs.length = s.heap.objs.size→ORep ρ' (st.objs.length + 1) s.heap.objs.size o [(s.heap.objs.size,ob)])
    (h:k (.ref st.objs.length) (st.addObj o)):EvP X ρ st.objs.length k (.ref s.heap.objs.size) { s with heap:=s.heap.push ob,toks:=tk } :=
  new_at R (fun b o e=>Heap.get?_push_of_some _ e) (Heap.get?_push_size _ hf) (Nat.le_refl _) y h
theorem keep_pu {h:Heap} {ob:Obj} {f:Obj→Obj}:∀ b o,h.get? b = some o→((h.push ob).update h.objs.size f).get? b = some o:=fun b o e =>
  (Heap.get?_update_other _ _ (Nat.ne_of_gt (Heap.lt_size e))).trans (Heap.get?_push_of_some _ e)
theorem keep_u {h h':Heap} {n:Nat} {f:Obj→Obj} (hk:∀ b o,h.get? b = some o→h'.get? b = some o) (hn:h.objs.size ≤ n):∀ b o,h.get? b = some o→(h'.update n f).get? b = some o:=fun b o e =>
  (Heap.get?_update_other _ _ (Nat.ne_of_gt (Nat.lt_of_lt_of_le (Heap.lt_size e) hn))).trans (hk b o e)
theorem notExp {a:Addr} {b:List UInt8} {A:Around} {s:Shared} {prog:Program} {w:World} {E:PySem.Value→Shared→Prop} {Q:Bool→Shared→Prop} (hg:A.guards = some []) (ho:s.heap.get? a = some (baObj b)) (h:Q false s) :
    wpR (model prog w) A (Builtin.Bytes.exported (.ref a) <||> (do return (← Builtin.Bytes.exportsOf (.ref a)) > 0)) Q E s:=by
  refine wpR_bind (exported_R hg ?_)
  refine wpR_bind (wpR_bind ?_)
  refine r_ndload ho (wpR_pure ?_)
  refine wpR_pure (wpR_pure ?_)
  exact h
theorem j_bytearray0 {k:SV→St→Prop} (O:X.Ok) (h:k (.ref st.objs.length) (st.addObj (.ba []))):OpJ X (fun vs=>call BI.bytearray.val vs) [] st k:=by
  constructor
  intro ρ s vs R r
  cases r
  refine callR_type (Q₁:=fun obj s₁=>obj = .ref s.heap.objs.size∧s₁ = { s with heap:=s.heap.push (baObj []) }) called_ba typeCall_ba0 entry_ba_init (by decide +kernel) (code_ba_new [] newCall_ba0 ⟨rfl,rfl⟩) ?_
  rintro _ _ ⟨rfl,rfl⟩
  have hg:(s.heap.push (baObj [])).get? s.heap.objs.size = some (baObj []):=Heap.get?_push_size _ rfl
  refine ⟨⟨_,hg,rfl⟩,args_ba_init1 _,?_⟩
  unfold Builtin.«bytearray.__init__»
  refine wpR_step (ownRel_ba hg ?_)
  refine ifR_f (by decide) ?_
  refine wpR_bind (wpR_of_eq bind_ba0 ?_)
  refine wpR_bind (wpR_of_eq (a:=()) rfl ?_)
  refine wpR_bind (wpR_of_eq (a:=()) rfl ?_)
  refine wpR_bind (notExp O.room.hg hg ?_)
  refine ifR_f (by decide) ?_
  refine wpR_step (write_R (b':=[]) hg rfl (by simp) fun hh=>?_)
  refine wpR_bind (wpR_of_eq (a:=()) rfl ?_)
  refine wpR_pure ⟨rfl,?_⟩
  exact new_at (s:=s) (o:=.ba []) (tk:=s.toks) R keep_pu hh (Nat.le_refl _) (fun _ _ _=>rfl) h
theorem j_bytearrayN {n:Int} {k:SV→St→Prop} (O:X.Ok) (h0:0 ≤ n) (h1:n ≤ 1000000) (h:k (.ref st.objs.length) (st.addObj (.ba (List.replicate n.toNat 0)))):OpJ X (fun vs=>call BI.bytearray.val vs) [.int n] st k:=by
  constructor
  intro ρ s vs R r
  cases r with
  | cons r1 r =>
  cases r
  obtain ⟨t,rfl⟩:=r1
  refine callR_type (Q₁:=fun obj s₁=>obj = .ref s.heap.objs.size∧s₁ = { s with heap:=s.heap.push (baObj []) }) called_ba (typeCall_ba1 _) entry_ba_init (by decide +kernel) (code_ba_new _ (newCall_ba1 _) ⟨rfl,rfl⟩) ?_
  rintro _ _ ⟨rfl,rfl⟩
  have hg:(s.heap.push (baObj [])).get? s.heap.objs.size = some (baObj []):=Heap.get?_push_size _ rfl
  refine ⟨⟨_,hg,rfl⟩,args_ba_init2 _ _,?_⟩
  unfold Builtin.«bytearray.__init__»
  refine wpR_step (ownRel_ba hg ?_)
  refine ifR_f (by decide) ?_
  refine wpR_bind (wpR_of_eq (bind_ba1 _) ?_)
  refine wpR_bind (wpR_of_eq (a:=()) rfl ?_)
  refine wpR_bind (wpR_of_eq (a:=()) rfl ?_)
  refine wpR_bind (notExp O.room.hg hg ?_)
  refine ifR_f (by decide) ?_
  refine wpR_step (write_R (b':=[]) hg rfl (by simp) fun hh=>?_)
  refine wpR_bind (wpR_of_eq (a:=none) rfl ?_)
  refine ifR_f (by simp) ?_
  refine wpR_bind (wpR_of_eq (a:=()) rfl ?_)
  refine wpR_step (wpAny_specialOf (typeIs_int _ _ _) F.slot_int_index.lookup ?_)
  refine ifR_t rfl ?_
  refine wpR_bind (wpR_attempt (wpR_of_eq (a:=n) rfl ?_))
  try dsimp only
  have hf:Builtin.Bytes.fitsIndex n = true:=by simp only [Builtin.Bytes.fitsIndex,Bool.and_eq_true,decide_eq_true_eq];lia
  refine ifR_f (by rw [hf];decide) ?_
  refine ifR_f (by simp;lia) ?_
  refine ifR_f (by simp;lia) ?_
  refine ifR_f (by rw [KBy.tooLong_not (by lia)];decide) ?_
  refine wpR_step (wpAny_rule ?_)
  by_cases hn:n > 0
  · refine ifR_t hn ?_
    refine wpR_step (write_R (b':=List.replicate n.toNat 0) hh (by simp) (by rw [List.length_replicate,sizeLine_eq];lia) fun hh2=>?_)
    exact wpR_pure ⟨rfl,new_at (s:=s) (o:=.ba (List.replicate n.toNat 0)) (tk:=s.toks) R (keep_u keep_pu (Nat.le_refl _)) hh2 (Nat.le_refl _) (fun _ _ _=>rfl) h⟩
  · refine ifR_f hn ?_
    have:n = 0:=by lia
    subst this
    exact wpR_pure ⟨rfl,new_at (s:=s) (o:=.ba []) (tk:=s.toks) R keep_pu hh (Nat.le_refl _) (fun _ _ _=>rfl) h⟩
theorem j_bytearrayB {i:Nat} {b:List UInt8} {k:SV→St→Prop} (O:X.Ok) (ho:st.objs[i]? = some (.ba b)) (hz:b.length ≤ 1000000) (h:k (.ref st.objs.length) (st.addObj (.ba b))):OpJ X (fun vs=>call BI.bytearray.val vs) [.ref i] st k:=by
  constructor
  intro ρ s vs R r
  cases r with
  | cons r1 r =>
  cases r
  obtain ⟨hi,rfl⟩:=r1
  have hg0:=ba_at R ho
  have hne:ρ i ≠ s.heap.objs.size:=Nat.ne_of_lt (Heap.lt_size hg0)
  refine callR_type (Q₁:=fun obj s₁=>obj = .ref s.heap.objs.size∧s₁ = { s with heap:=s.heap.push (baObj []) }) called_ba (typeCall_ba1 _) entry_ba_init (by decide +kernel) (code_ba_new _ (newCall_ba1 _) ⟨rfl,rfl⟩) ?_
  rintro _ _ ⟨rfl,rfl⟩
  have hg:(s.heap.push (baObj [])).get? s.heap.objs.size = some (baObj []):=Heap.get?_push_size _ rfl
  refine ⟨⟨_,hg,rfl⟩,args_ba_init2 _ _,?_⟩
  unfold Builtin.«bytearray.__init__»
  refine wpR_step (ownRel_ba hg ?_)
  refine ifR_f (by decide) ?_
  refine wpR_bind (wpR_of_eq (bind_ba1 _) ?_)
  refine wpR_bind (wpR_of_eq (a:=()) rfl ?_)
  refine wpR_bind (wpR_of_eq (a:=()) rfl ?_)
  refine wpR_bind (notExp O.room.hg hg ?_)
  refine ifR_f (by decide) ?_
  refine wpR_step (write_R (b':=[]) hg rfl (by simp) fun hh=>?_)
  have hs:=keep_pu (f:=Obj.mapBytearray fun _=>#[]) (ob:=baObj []) _ _ hg0
  refine wpR_step (wpAny_bind (wpAny_load hs ?_))
  refine wpAny_pure (ifR_f (by simp) ?_)
  refine wpR_bind (wpR_of_eq (a:=()) rfl ?_)
  refine wpR_step (wpAny_specialOf ⟨_,hs,rfl⟩ look_ba_index ?_)
  refine ifR_f (by simp) ?_
  refine wpR_step (buffer_ba hs ?_)
  try dsimp only
  refine wpR_step (wpAny_rule ?_)
  refine wpR_step (write_R (b':=b) hh rfl (by rw [sizeLine_eq];lia) fun hh2=>?_)
  exact wpR_pure ⟨rfl,new_at (s:=s) (o:=.ba b) (tk:=s.toks) R (keep_u keep_pu (Nat.le_refl _)) hh2 (Nat.le_refl _) (fun _ _ _=>rfl) h⟩
end
end Mine
end
section
open PySem PySem.W PyProof.Rows PySem.F
namespace Mine
theorem all2_one {R:SV→PySem.Value→Prop} {a:SV} {vs:List PySem.Value} (h:All2 R [a] vs):∃ v,vs = [v]∧R a v:=by
  cases h with
  | cons x y=>cases y;exact ⟨_,rfl,x⟩
theorem all2_two' {R:SV→PySem.Value→Prop} {a b:SV} {vs:List PySem.Value} (h:All2 R [a,b] vs):∃ v u,vs = [v,u]∧R a v∧R b u:=by
  cases h with
  | cons x y=>obtain ⟨u,rfl,z⟩:=all2_one y;exact ⟨_,_,rfl,x,z⟩
theorem all2_three' {R:SV→PySem.Value→Prop} {a b c:SV} {vs:List PySem.Value} (h:All2 R [a,b,c] vs):∃ v u w,vs = [v,u,w]∧R a v∧R b u∧R c w:=by
  cases h with
  | cons x y=>obtain ⟨u,w,rfl,z,z'⟩:=all2_two' y;exact ⟨_,_,_,rfl,x,z,z'⟩
section
variable {X:Cx} {ρ:Nat→Addr} {st:St} {s:Shared}
theorem set_len {i:Nat} {o:SObj}:st.objs.length ≤ (st.setObj i o).objs.length:=by show _ ≤ (st.objs.set _ _).length;rw [List.length_set];exact Nat.le_refl _
theorem one_bytes {k:SV→St→Prop} {b:List UInt8} {t:Tok} (R:SRep X ρ st s) (h:k (.bytes b) st):EvP X ρ st.objs.length k (.bytes b.toArray t) s:=.one (sv:=.bytes b) R ⟨t,rfl⟩ h
theorem asIndex_int {i:Int} {t:Tok}:asIndex (.int i t) = pure i:=rfl
theorem j_baAppend {i:Nat} {b:List UInt8} {n:Int} {k:SV→St→Prop} (O:X.Ok) (ho:st.objs[i]? = some (.ba b)) (h0:0 ≤ n) (h1:n < 256) (hz:b.length ≤ 1000000) (h:k .none (st.setObj i (.ba (b++[n.toNat.toUInt8])))) :
    OpJ X (fun vs=>call BI.baAppend.val vs) [.ref i,.int n] st k:=by
  constructor
  intro ρ s vs R r
  obtain ⟨v,u,rfl,⟨hi,rfl⟩,t,rfl⟩:=all2_two' r
  have hg:=ba_at R ho
  refine callR_slot slot_ba_append ⟨_,hg,rfl⟩ entry_ba_append (args_ba_append _ _) (by decide +kernel) ?_
  unfold Builtin.«bytearray.append»
  refine wpR_bind (wpR_of_eq (a:=(.ref (ρ i),.int n t)) rfl ?_)
  unfold Builtin.Bytes.byteValue
  refine wpR_bind (wpR_bind (wpR_of_eq asIndex_int ?_))
  refine ifR_f (by simp;lia) (wpR_pure ?_)
  refine wpR_bind (resize_R O.room.hg hg ?_)
  refine wpR_step (write_R (b':=b++[n.toNat.toUInt8]) hg (by simp) (by rw [List.length_append,sizeLine_eq];simp;lia) (fun hh=>?_))
  exact wpR_pure ⟨_,rfl,ρ,.none,_,fun _ _=>rfl,set_len,ba_turn (tk:=s.toks) R ho (Heap.SameBut.update ..) hh,rfl,h⟩
theorem j_lenB {b:List UInt8} {k:SV→St→Prop} (hz:b.length ≤ 1000000) (h:k (.int b.length) st):OpJ X (fun vs=>call BI.len.val vs) [.bytes b] st k:=by
  constructor
  intro ρ s vs R r
  obtain ⟨v,rfl,t,rfl⟩:=all2_one r
  exact wpR.of (len_bytes (by simp;lia) (one_int (R.tok _) (by simpa using h)))
theorem j_lenBa {i:Nat} {b:List UInt8} {k:SV→St→Prop} (ho:st.objs[i]? = some (.ba b)) (hz:b.length ≤ 1000000) (h:k (.int b.length) st):OpJ X (fun vs=>call BI.len.val vs) [.ref i] st k:=by
  constructor
  intro ρ s vs R r
  obtain ⟨v,rfl,hi,rfl⟩:=all2_one r
  have hg:=ba_at R ho
  have hT : s.TypeIs (.ref (ρ i)) "bytearray" := ⟨_, hg, rfl⟩
  refine wpR.of (Calls.call_function_entry kind_len plain_len entry_len (args_len1 _) ?_)
  unfold Builtin.«len»
  refine wpAny_bind (m := oneArg "len" _) (wpAny_pure ?_)
  refine wpAny_bind (m := callSpecial? (.ref (ρ i)) (PySem.Str.ofString "__len__")) (wpAny_callSpecial?_slot (name := PySem.Str.ofString "__len__") hT slot_ba_len
    (wpAny_call_entry slot_ba_len hT entry_ba_len ?_ (args_ba_len _)))
  refine wpAny_bind (m := slotArgs "__len__" 0 _) (wpAny_of_eq rfl ?_)
  refine wpAny_bind (payload_R hg ?_)
  refine wpAny_bind (wpAny_mkInt (wpAny_pure ⟨_,rfl,?_⟩))
  refine wpAny_bind (wpAny_holding (wpAny_pure ?_))
  refine wpAny_bind (wpAny_letGo ?_)
  refine ifA_f (by lia) ?_
  refine ifA_f (by simp;lia) ?_
  refine wpAny_bind (wpAny_mkInt (wpAny_pure ⟨_,rfl,?_⟩))
  exact one_int (R.tok _) (by simpa using h)
theorem list_at (R:SRep X ρ st s) {i:Nat} {xs:List SV} (ho:st.objs[i]? = some (.list xs) ∨ ∃ ps,st.objs[i]? = some (.pl ps)∧xs = ps.map PV.sv) :
    ∃ vs k,s.heap.get? (ρ i) = some (PySem.W.listOf vs.toArray k)∧All2 (VRep ρ st.objs.length) xs vs:=by
  obtain ⟨⟨m,chs,F,N,nd,LR,OR⟩,g1,g2,g3,pn⟩:=R
  rcases ho with ho | ⟨ps,ho,rfl⟩
  · obtain ⟨c,hcc,vs,k,rfl,r⟩:=OR.at_ i _ ho
    exact ⟨vs,k,(N _ (mem_at hcc (.head _))).1,r⟩
  · obtain ⟨c,hcc,vs,k,rfl,r⟩:=OR.at_ i _ ho
    exact ⟨vs,k,(N _ (mem_at hcc (.head _))).1,r⟩
theorem tup_at (R:SRep X ρ st s) {i:Nat} {xs:List SV} (ho:st.objs[i]? = some (.tup xs)) :
    ∃ vs k, s.heap.get? (ρ i) = some ({ cls := .type "tuple", data := .seq vs.toArray k } : Obj) ∧ All2 (VRep ρ st.objs.length) xs vs := by
  obtain ⟨⟨m,chs,F,N,nd,LR,OR⟩,g1,g2,g3,pn⟩:=R
  obtain ⟨c,hcc,vs,k,rfl,r⟩:=OR.at_ i _ ho
  exact ⟨vs,k,(N _ (mem_at hcc (.head _))).1,r⟩
theorem isList_of {a:Addr} {vs:List PySem.Value} {k:Nat} (hg:s.heap.get? a = some (PySem.W.listOf vs.toArray k)):s.heap.IsList a vs.toArray:=⟨_,hg,rfl,k,rfl⟩
theorem j_lenL {i:Nat} {xs:List SV} {k:SV→St→Prop} (ho:st.objs[i]? = some (.list xs) ∨ ∃ ps,st.objs[i]? = some (.pl ps)∧xs = ps.map PV.sv) (hz:xs.length ≤ 1000000) (h:k (.int xs.length) st):OpJ X (fun vs=>call BI.len.val vs) [.ref i] st k:=by
  constructor
  intro ρ s vs R r
  obtain ⟨v,rfl,hi,rfl⟩:=all2_one r
  obtain ⟨ws,n,hg,ra⟩:=list_at R ho
  have hl:=ra.length
  exact wpR.of (Calls.call_len_list (isList_of hg) (by simp;lia) (one_int (R.tok _) (by simp only [List.size_toArray];rw [← hl];exact h)))
theorem j_lenP {i:Nat} {ps:List PV} {k:SV→St→Prop} (ho:st.objs[i]? = some (.pl ps)) (hz:ps.length ≤ 1000000) (h:k (.int ps.length) st):OpJ X (fun vs=>call BI.len.val vs) [.ref i] st k :=
  j_lenL (.inr ⟨ps,ho,rfl⟩) (by simpa using hz) (by simpa using h)
theorem j_lsAppendP {i:Nat} {ps:List PV} {x:PV} {k:SV→St→Prop} (ho:st.objs[i]? = some (.pl ps)) (hz:ps.length ≤ 1000000) (h:k .none (st.setObj i (.pl (ps++[x])))):OpJ X (fun vs=>call BI.lsAppend.val vs) [.ref i,x.sv] st k:=by
  constructor
  intro ρ s vs R r
  obtain ⟨v,u,rfl,⟨hi,rfl⟩,ru⟩:=all2_two' r
  obtain ⟨⟨m,chs,F,N,nd,LR,OR⟩,g1,g2,g3,pn⟩:=id R
  obtain ⟨c,hcc,ws,n,rfl,ra⟩:=OR.at_ i _ ho
  have hg:=(N _ (mem_at hcc (.head _))).1
  have hl:=ra.length
  refine wpR.of (call_meets PySem.F.slot_list_append ⟨_,hg,rfl⟩ PySem.F.entry_list_append (PySem.F.args_list_append_2 _ _) (list_append (ρ i) ws.toArray n u (by simp only [List.size_toArray,sizeLine_eq];rw [← hl];simp;lia)) ⟨hg,?_⟩)
  have hu:(s.heap.update (ρ i) (Obj.mapSeq fun x=>x.push u)).get? (ρ i) = some (PySem.W.listOf (ws++[u]).toArray (n + 1)):=by
    rw [Heap.get?_update_self _ hg rfl];simp [Obj.mapSeq,PySem.W.listOf]
  refine ⟨ρ,.none,_,fun _ _=>rfl,set_len,turnC (tk:=s.toks) F N nd LR OR g1 g2 g3 pn hi hcc (Heap.SameBut.update ..) hu ?_,rfl,h⟩
  refine ⟨ws++[u],n + 1,rfl,?_⟩
  rw [List.map_append]
  exact ra.append (.cons ru .nil)
theorem j_lsAppendL {i:Nat} {xs:List SV} {x:SV} {k:SV→St→Prop} (ho:st.objs[i]? = some (.list xs)) (hz:xs.length ≤ 1000000) (h:k .none (st.setObj i (.list (xs++[x])))):OpJ X (fun vs=>call BI.lsAppend.val vs) [.ref i,x] st k:=by
  constructor
  intro ρ s vs R r
  obtain ⟨v,u,rfl,⟨hi,rfl⟩,ru⟩:=all2_two' r
  obtain ⟨⟨m,chs,F,N,nd,LR,OR⟩,g1,g2,g3,pn⟩:=id R
  obtain ⟨c,hcc,ws,n,rfl,ra⟩:=OR.at_ i _ ho
  have hg:=(N _ (mem_at hcc (.head _))).1
  have hl:=ra.length
  refine wpR.of (call_meets PySem.F.slot_list_append ⟨_,hg,rfl⟩ PySem.F.entry_list_append (PySem.F.args_list_append_2 _ _) (list_append (ρ i) ws.toArray n u (by simp only [List.size_toArray,sizeLine_eq];rw [← hl];lia)) ⟨hg,?_⟩)
  have hu:(s.heap.update (ρ i) (Obj.mapSeq fun x=>x.push u)).get? (ρ i) = some (PySem.W.listOf (ws++[u]).toArray (n + 1)):=by
    rw [Heap.get?_update_self _ hg rfl];simp [Obj.mapSeq,PySem.W.listOf]
  refine ⟨ρ,.none,_,fun _ _=>rfl,set_len,turnC (tk:=s.toks) F N nd LR OR g1 g2 g3 pn hi hcc (Heap.SameBut.update ..) hu ?_,rfl,h⟩
  exact ⟨ws++[u],n + 1,rfl,ra.append (.cons ru .nil)⟩
theorem j_lsAppend0 {i:Nat} {x:SV} {k:SV→St→Prop} (ho:st.objs[i]? = some (.pl [])) (h:k .none (st.setObj i (.list [x]))):OpJ X (fun vs=>call BI.lsAppend.val vs) [.ref i,x] st k:=by
  constructor
  intro ρ s vs R r
  obtain ⟨v,u,rfl,⟨hi,rfl⟩,ru⟩:=all2_two' r
  obtain ⟨⟨m,chs,F,N,nd,LR,OR⟩,g1,g2,g3,pn⟩:=id R
  obtain ⟨c,hcc,ws,n,rfl,ra⟩:=OR.at_ i _ ho
  have hg:=(N _ (mem_at hcc (.head _))).1
  cases ra
  refine wpR.of (call_meets PySem.F.slot_list_append ⟨_,hg,rfl⟩ PySem.F.entry_list_append (PySem.F.args_list_append_2 _ _) (list_append (ρ i) (List.toArray []) n u (by simp)) ⟨hg,?_⟩)
  have hu:(s.heap.update (ρ i) (Obj.mapSeq fun x=>x.push u)).get? (ρ i) = some (PySem.W.listOf [u].toArray (n + 1)):=by
    rw [Heap.get?_update_self _ hg rfl];simp [Obj.mapSeq,PySem.W.listOf]
  refine ⟨ρ,.none,_,fun _ _=>rfl,set_len,turnC (tk:=s.toks) F N nd LR OR g1 g2 g3 pn hi hcc (Heap.SameBut.update ..) hu ?_,rfl,h⟩
  exact ⟨[u],n + 1,rfl,.cons ru .nil⟩
theorem bytesNew1 {x:PySem.Value} {s:Shared} {A:Around} {E:PySem.Value→Shared→Prop} {prog:Program} {w:World} {Q:PySem.Value→Shared→Prop}
    (g : wpAny (model prog w) A.in1.in1 (Builtin.«bytes.__new__» ⟨[.type "bytes", x], []⟩) (fun fin s' => ∃ v, fin = .done (.ret v) ∧ s'.TypeIs v "bytes" ∧ Q v s') E s) : wpAny (model prog w) A (call (.type "bytes") [x]) Q E s := by
  refine callType_codes (Q₁ := fun obj s₁ => s₁.TypeIs obj "bytes" ∧ Q obj s₁) F.bm_called (F.bm_typeCall _) F.entry_object_init ?_ fun obj s₁ h₁ => ?_
  · refine codeAny_of_tree ?_
    show wpAny _ A.in1.in1 (do checkBuiltinCall "bytes.__new__" ⟨[.type "bytes", x], []⟩; again (.builtin "bytes.__new__" ⟨[.type "bytes", x], []⟩)) _ _ s
    refine wpAny_bind (wpAny_of_eq (F.bm_newCall _) (wpAny_pure ⟨plainId_quiet F.bm_plain _,codeAny_builtin F.bm_entry ?_⟩))
    rw [Around.under_plainId F.bm_plain _]
    refine wpAny_mono g (fun fin s' ⟨v,e,h1,h2⟩=>?_) fun _ _ x=>x
    subst e;exact ⟨h1,h2⟩
  · exact ⟨h₁.1,F.args_object_init_2 obj _,object_init_meets F.bm_called.init.lookup F.bm_called.made (by decide) prog w A.in1 _ s₁ ⟨h₁.1,rfl,h₁.2⟩⟩
end
end Mine
end
section
open PySem PySem.W PyProof.Rows PySem.F
namespace Mine
theorem SRep.op {X:Cx} {ρ:Nat→Addr} {st:St} {s:Shared} (R:SRep X ρ st s):∃ m news,Fr X.g X.L s.heap m∧News X.g X.L s.heap news∧∀ h' tk,Fr X.g X.L h' m→News X.g X.L h' news→SRep X ρ st { s with heap:=h',toks:=tk }:=by
  obtain ⟨⟨m,chs,F,N,nd,LR,OR⟩,g1,g2,g3,pn⟩:=R
  exact ⟨m,_,F,N,fun h' tk F' N'=>⟨⟨m,chs,F',N',nd,LR,OR⟩,g1,g2,g3,pn⟩⟩
noncomputable def pints:List PV→List Int
  | []=>[]
  | .int i :: r=>i :: pints r
  | .bytes _ :: r=>pints r
noncomputable def ipl (l:List Int):List PV:=l.map PV.int
theorem ints_are {ρ:Nat→Addr} {n:Nat}:∀ {l:List Int} {vs:List PySem.Value},All2 (VRep ρ n) ((ipl l).map PV.sv) vs→IntsAre vs l
  | [],_,h=>by cases h;exact .nil
  | i :: l,_,h=>by
    cases h with
    | cons a b=>obtain ⟨t,rfl⟩:=a;exact .cons i t (ints_are b)
noncomputable def rowB (l:List Int):List UInt8:=l.map fun n=>n.toNat.toUInt8
section
variable {X:Cx} {ρ:Nat→Addr} {st:St} {s:Shared} {k:SV→St→Prop}
theorem j_bytesL {i:Nat} {l:List Int} (O:X.Ok) (ho:st.objs[i]? = some (.pl (ipl l))) (hr:∀ n ∈ l,0 ≤ n∧n < 256) (hz:l.length ≤ 1000000) (h:k (.bytes (rowB l)) st):OpJ X (fun vs=>call BI.bytes.val vs) [.ref i] st k:=by
  constructor
  intro ρ s vs R r
  obtain ⟨v,rfl,hi,rfl⟩:=all2_one r
  obtain ⟨ws,n,hg,ra⟩:=list_at R (.inr ⟨_,ho,rfl⟩)
  obtain ⟨m,news,F,N,back⟩:=R.op
  have hl:=(ints_are ra).length
  refine wpR.of (bytes_K F N (isList_of hg) (ints_are ra) hr (by rw [hl,sizeLine_eq];lia) O.room.hh fun h' t tk F' N' _=>?_)
  exact one_bytes (back h' tk F' N') h
theorem j_addB {b c:List UInt8} (hz:b.length + c.length ≤ 1000000) (h:k (.bytes (b++c)) st):OpJ X (fun vs=>binaryOp .Add (vs.getD 0 .none) (vs.getD 1 .none)) [.bytes b,.bytes c] st k:=by
  constructor
  intro ρ s vs R r
  obtain ⟨v,u,rfl,⟨t,rfl⟩,t',rfl⟩:=all2_two' r
  exact wpR.of (bytes_add_K (by simp;lia) rfl fun t' tk=>one_bytes (R.tok _) h)
theorem j_min2 {a b:Int} (O:X.Ok) (h:k (.int (if b < a then b else a)) st):OpJ X (fun vs=>call BI.min.val vs) [.int a,.int b] st k:=by
  constructor
  intro ρ s vs R r
  obtain ⟨v,u,rfl,⟨t,rfl⟩,t',rfl⟩:=all2_two' r
  obtain ⟨m,news,F,N,back⟩:=R.op
  exact wpR.of (min_two_N O.room.hh F N fun h' tk F' N'=>one_int (back h' tk F' N') h)
theorem j_sumB {b:List UInt8} (O:X.Ok) (hz:b.length ≤ 1000000) (h:k (.int (b.map fun c=>(c.toNat:Int)).sum) st):OpJ X (fun vs=>call BI.sum.val vs) [.bytes b] st k:=by
  constructor
  intro ρ s vs R r
  obtain ⟨v,rfl,t,rfl⟩:=all2_one r
  obtain ⟨m,news,F,N,back⟩:=R.op
  refine wpR.of (KBmo.sum_K F N O.room.hh (KBw.ints_list b) (by simp;lia) fun h' t' tk F' N' _ _=>one_int (back h' tk F' N') h)
noncomputable def ltB (a b:List UInt8):Bool:=Builtin.Bytes.order a b == .lt
noncomputable def gtB (a b:List UInt8):Bool:=Builtin.Bytes.order a b == .gt
theorem slot_bytes_lt : Slot "bytes" (cmpInfo .Lt).2.1 "bytes.__lt__" :=
  .of (owner := "bytes") (n := "__lt__") (by rw [typeLookup_type, builtinLookup_eq_fast]; kernel_rfl) (by decide +kernel) (by decide +kernel) (by decide +kernel)
    (by first | exact .inl (by decide +kernel) | exact .inr (by decide +kernel)) (by rw [isSubtype_type];kernel_rfl)
theorem entry_bytes_lt : entryFor table "bytes.__lt__" = some Builtin.«bytes.__lt__» := entryFor_of_tree (by kernel_rfl)
theorem args_bytes_lt (a b : PySem.Value) : argsOk "bytes.__lt__" ⟨[a, b], []⟩ := by
  unfold argsOk; rw [signature?_of (id := "bytes.__lt__") (n := ['_', '_', 't', 'l', '_', '_']) (o := ['s', 'e', 't', 'y', 'b']) (by kernel_rfl) FB.owner_bytes]; kernel_rfl
theorem slot_bytes_gt : Slot "bytes" (cmpInfo .Gt).2.1 "bytes.__gt__" :=
  .of (owner := "bytes") (n := "__gt__") (by rw [typeLookup_type, builtinLookup_eq_fast]; kernel_rfl) (by decide +kernel) (by decide +kernel) (by decide +kernel)
    (by first | exact .inl (by decide +kernel) | exact .inr (by decide +kernel)) (by rw [isSubtype_type];kernel_rfl)
theorem entry_bytes_gt : entryFor table "bytes.__gt__" = some Builtin.«bytes.__gt__» := entryFor_of_tree (by kernel_rfl)
theorem args_bytes_gt (a b : PySem.Value) : argsOk "bytes.__gt__" ⟨[a, b], []⟩ := by
  unfold argsOk; rw [signature?_of (id := "bytes.__gt__") (n := ['_', '_', 't', 'g', '_', '_']) (o := ['s', 'e', 't', 'y', 'b']) (by kernel_rfl) FB.owner_bytes]; kernel_rfl
theorem gives_lt (b c:Array UInt8) (t u:Tok):Gives (Builtin.«bytes.__lt__» ⟨[.bytes b t,.bytes c u],[]⟩) (.val (.bool (ltB b.toList c.toList))):=by
  refine .of_wp fun M A E s Q hq=>?_
  show wpAny M A (isInstance (.bytes c u) (.type "bytes") >>= fun r => _) _ E s
  exact wpAny_bind (wpAny_isInstance (typeIs_bytes s c u) F.sub_bytes_bytes (wpAny_pure ⟨_,rfl,hq⟩))
theorem gives_gt (b c:Array UInt8) (t u:Tok):Gives (Builtin.«bytes.__gt__» ⟨[.bytes b t,.bytes c u],[]⟩) (.val (.bool (gtB b.toList c.toList))):=by
  refine .of_wp fun M A E s Q hq=>?_
  show wpAny M A (isInstance (.bytes c u) (.type "bytes") >>= fun r => _) _ E s
  exact wpAny_bind (wpAny_isInstance (typeIs_bytes s c u) F.sub_bytes_bytes (wpAny_pure ⟨_,rfl,hq⟩))
theorem j_ltB {a b:List UInt8} (h:k (.bool (ltB a b)) st):OpJ X (fun vs=>compareOp .Lt (vs.getD 0 .none) (vs.getD 1 .none)) [.bytes a,.bytes b] st k:=by
  constructor
  intro ρ s vs R r
  obtain ⟨v,u,rfl,⟨t,rfl⟩,t',rfl⟩:=all2_two' r
  exact wpR.of (compareOp_gives (op:=.Lt) (typeIs_bytes s _ t) (typeIs_bytes s _ t') slot_bytes_lt entry_bytes_lt (args_bytes_lt _ _) (gives_lt _ _ t t') (fun e=>nomatch e) (one_bool R (by simpa using h)))
theorem j_gtB {a b:List UInt8} (h:k (.bool (gtB a b)) st):OpJ X (fun vs=>compareOp .Gt (vs.getD 0 .none) (vs.getD 1 .none)) [.bytes a,.bytes b] st k:=by
  constructor
  intro ρ s vs R r
  obtain ⟨v,u,rfl,⟨t,rfl⟩,t',rfl⟩:=all2_two' r
  exact wpR.of (compareOp_gives (op:=.Gt) (typeIs_bytes s _ t) (typeIs_bytes s _ t') slot_bytes_gt entry_bytes_gt (args_bytes_gt _ _) (gives_gt _ _ t t') (fun e=>nomatch e) (one_bool R (by simpa using h)))
noncomputable def octet (b:List UInt8) (i:Int):Int:=(b.getD i.toNat 0).toNat
theorem j_itemB {v sl:Expr} {b:List UInt8} {i:Int} (h0:0 ≤ i) (h1:i < b.length) (hz:b.length ≤ 1000000) (h:k (.int (octet b i)) st)
    (hs:∀ o i:PySem.Value,subscripted sl false o i = operate [o,i] (getItem o i):=by intro _ _;rfl) (ht:∀ o r:PySem.Value,letTemporaryGo v o r = pure ():=by intro _ _;rfl) :
    OpJ X (fun vs=>subscriptTail v sl (vs.getD 0 .none) (vs.getD 1 .none)) [.bytes b,.int i] st k:=by
  constructor
  intro ρ s vs R r
  obtain ⟨a,c,rfl,⟨t,rfl⟩,t',rfl⟩:=all2_two' r
  exact wpR.of (bytes_item_K (by lia) h0 h1 rfl (one_int (R.tok _) h) (hs _ _) (ht _))
theorem look_bytes_bytes : typeLookup (.type "bytes") "__bytes__" = pure (some (.builtin "bytes.__bytes__")) := by rw [typeLookup_type, builtinLookup_eq_fast]; kernel_rfl
theorem look_int_bytes : typeLookup (.type "int") "__bytes__" = pure none := by rw [typeLookup_type, builtinLookup_eq_fast]; kernel_rfl
theorem j_bytesB {b:List UInt8} (h:k (.bytes b) st):OpJ X (fun vs=>call BI.bytes.val vs) [.bytes b] st k:=by
  constructor
  intro ρ s vs R r
  obtain ⟨v,rfl,t,rfl⟩:=all2_one r
  refine wpR.of (bytesNew1 ?_)
  unfold Builtin.«bytes.__new__»
  refine wpAny_bind (wpAny_of_eq (a:=true) rfl (ifA_f (by decide) ?_))
  refine wpAny_bind (wpAny_of_eq F.bm_sub (ifA_f (by decide) ?_))
  refine wpAny_bind (wpAny_of_eq (F.bm_bind _) ?_)
  refine wpAny_bind (wpAny_of_eq (a:=()) rfl ?_)
  refine wpAny_bind (wpAny_of_eq (a:=()) rfl ?_)
  refine ifA_f (by decide) ?_
  refine wpAny_bind (wpAny_of_eq (KBy.special_eq look_bytes_bytes) ?_)
  refine wpAny_bind (wpAny_rule ?_)
  refine wpAny_bind (wpAny_of_eq (a := .type "bytes") rfl (ifA_t (by decide) ?_))
  exact wpAny_pure ⟨_,rfl,typeIs_bytes _ _ _,one_bytes R h⟩
theorem j_bytesBa {i:Nat} {b:List UInt8} (O:X.Ok) (ho:st.objs[i]? = some (.ba b)) (hz:b.length ≤ 1000000) (h:k (.bytes b) st):OpJ X (fun vs=>call BI.bytes.val vs) [.ref i] st k:=by
  constructor
  intro ρ s vs R r
  obtain ⟨v,rfl,hi,rfl⟩:=all2_one r
  have hg:=ba_at R ho
  have hT : s.TypeIs (.ref (ρ i)) "bytearray" := ⟨_, hg, rfl⟩
  refine wpR.of (bytesNew1 ?_)
  unfold Builtin.«bytes.__new__»
  refine wpAny_bind (wpAny_of_eq (a:=true) rfl (ifA_f (by decide) ?_))
  refine wpAny_bind (wpAny_of_eq F.bm_sub (ifA_f (by decide) ?_))
  refine wpAny_bind (wpAny_of_eq (F.bm_bind _) ?_)
  refine wpAny_bind (wpAny_of_eq (a:=()) rfl ?_)
  refine wpAny_bind (wpAny_of_eq (a:=()) rfl ?_)
  refine ifA_f (by decide) ?_
  refine wpAny_bind (wpAny_specialOf hT look_ba_bytes ?_)
  refine wpAny_bind (wpAny_bind (wpAny_bind (wpAny_load hg ?_)))
  refine wpAny_pure (wpAny_pure (ifA_f (by decide) ?_))
  refine wpAny_bind (wpAny_specialOf hT look_ba_index (ifA_t rfl ?_))
  refine wpAny_bind (buffer_ba hg ?_)
  refine wpAny_bind (wpAny_rule ?_)
  refine wpAny_bind (wpAny_mkBytes ?_ (by simp [sizeLine_eq];lia))
  exact wpAny_pure ⟨_,rfl,typeIs_bytes _ _ _,one_bytes (R.tok _) h⟩
theorem j_bytesN {n:Int} (h0:0 ≤ n) (h1:n ≤ 1000000) (h:k (.bytes (List.replicate n.toNat 0)) st):OpJ X (fun vs=>call BI.bytes.val vs) [.int n] st k:=by
  constructor
  intro ρ s vs R r
  obtain ⟨v,rfl,t,rfl⟩:=all2_one r
  refine wpR.of (bytesNew1 ?_)
  unfold Builtin.«bytes.__new__»
  refine wpAny_bind (wpAny_of_eq (a:=true) rfl (ifA_f (by decide) ?_))
  refine wpAny_bind (wpAny_of_eq F.bm_sub (ifA_f (by decide) ?_))
  refine wpAny_bind (wpAny_of_eq (F.bm_bind _) ?_)
  refine wpAny_bind (wpAny_of_eq (a:=()) rfl ?_)
  refine wpAny_bind (wpAny_of_eq (a:=()) rfl ?_)
  refine ifA_f (by decide) ?_
  refine wpAny_bind (wpAny_specialOf (typeIs_int _ _ _) look_int_bytes ?_)
  refine wpAny_bind (wpAny_of_eq (a:=false) rfl (ifA_f (by decide) ?_))
  refine wpAny_bind (wpAny_specialOf (typeIs_int _ _ _) F.slot_int_index.lookup (ifA_f (by decide) ?_))
  refine wpAny_bind (wpAny_attempt (wpAny_of_eq (a:=n) rfl ?_))
  try dsimp only
  have hf:Builtin.Bytes.fitsIndex n = true:=by simp only [Builtin.Bytes.fitsIndex,Bool.and_eq_true,decide_eq_true_eq];lia
  refine ifA_f (by rw [hf];decide) (ifA_f (by simp;lia) (ifA_f (by simp;lia) (ifA_f (by rw [KBy.tooLong_not (by lia)];decide) ?_)))
  refine wpAny_bind (wpAny_rule ?_)
  refine wpAny_bind (wpAny_mkBytes ?_ (by simp [sizeLine_eq];lia))
  refine wpAny_pure ⟨_,rfl,typeIs_bytes _ _ _,?_⟩
  rw [show Array.replicate n.toNat (0:UInt8) = (List.replicate n.toNat 0).toArray by simp]
  exact one_bytes (R.tok _) h
end
end Mine
end
section
open PySem PySem.W PyProof.Rows PySem.F
namespace Mine
noncomputable def cut {α:Type} (l:List α) (lo hi:Option Int):List α:=(l.drop (lo.elim 0 (clipAt l.length))).take (hi.elim l.length (clipAt l.length) - lo.elim 0 (clipAt l.length))
theorem cut_drop {α:Type} (l:List α) (n:Nat) (h:n ≤ l.length):cut l (some (n:Int)) none = l.drop n:=by
  unfold cut clipAt
  simp only [Option.elim_none,Option.elim_some,if_neg (neg_no n)]
  rw [clipN,Nat.min_eq_left h]
  exact List.take_of_length_le (by rw [List.length_drop];exact Nat.le_refl _)
theorem cut_take {α:Type} (l:List α) (n:Nat):cut l none (some (n:Int)) = l.take n:=by
  unfold cut clipAt
  simp only [Option.elim_none,Option.elim_some,List.drop_zero,Nat.sub_zero,if_neg (neg_no n)]
  rw [clipN]
  rcases Nat.le_total n l.length with h | h
  · rw [Nat.min_eq_left h]
  · rw [Nat.min_eq_right h,List.take_length,List.take_of_length_le h]
noncomputable def partK (X:Cx) (e:Option Expr) (st:St) (k:SV→St→Prop):Prop:=match e with
  | none=>k .none st
  | some e=>wpE X 40 e st k
noncomputable def partQ (l:SV) (P:Option Int→Prop):Prop:=match l with
  | .none=>P none
  | .int i=>P (some i)
  | _=>False
noncomputable def sliceL (x:Option SObj) (lo hi:Option Int) (st:St) (k:SV→St→Prop):Prop:=match x with
  | some o=>match o with
    | .list xs=>xs.length ≤ 1000000∧k (.ref st.objs.length) (st.addObj (.list (cut xs lo hi)))
    | .pl xs=>xs.length ≤ 1000000∧k (.ref st.objs.length) (st.addObj (.pl (cut xs lo hi)))
    | _=>False
  | none=>False
noncomputable def sliceK (X:Cx) (o l u:SV) (st:St) (k:SV→St→Prop):Prop:=partQ l fun lo=>partQ u fun hi=>match o with
  | .bytes b=>b.length ≤ 1000000∧k (.bytes (cut b lo hi)) st
  | .ref i=>sliceL st.objs[i]? lo hi st k
  | _=>False
noncomputable def partS:SV→Option (Option Int)
  | .none=>some none
  | .int i=>some (some i)
  | _=>none
theorem part_of {ρ:Nat→Addr} {n:Nat} {l:SV} {v:PySem.Value} {lo:Option Int} (r:VRep ρ n l v) (e:partS l = some lo):IsPart v lo:=by
  cases l with
  | none=>cases r;cases e;exact .none
  | int i=>obtain ⟨t,rfl⟩:=r;cases e;exact .int _ _
  | _=>cases (show (none:Option (Option Int)) = some lo from e)
theorem partQ_of {ρ:Nat→Addr} {n:Nat} {l:SV} {v:PySem.Value} {P:Option Int→Prop} (r:VRep ρ n l v) (h:partQ l P):∃ lo,IsPart v lo∧P lo:=by
  cases l with
  | none=>cases r;exact ⟨_,.none,h⟩
  | int i=>obtain ⟨t,rfl⟩:=r;exact ⟨_,.int _ _,h⟩
  | _=>exact h.elim
theorem all2_take {α β:Type} {R:α→β→Prop} {as:List α} {bs:List β} (h:All2 R as bs):∀ n:Nat,All2 R (as.take n) (bs.take n):=by
  induction h with
  | nil=>intro n;simp;exact .nil
  | cons a _ ih =>
    intro n
    cases n with
    | zero=>exact .nil
    | succ n=>exact .cons a (ih n)
theorem all2_drop {α β:Type} {R:α→β→Prop} {as:List α} {bs:List β} (h:All2 R as bs):∀ n:Nat,All2 R (as.drop n) (bs.drop n):=by
  induction h with
  | nil=>intro n;simp;exact .nil
  | cons a b ih =>
    intro n
    cases n with
    | zero=>exact .cons a b
    | succ n=>exact ih n
theorem all2_cut {α β:Type} {R:α→β→Prop} {as:List α} {bs:List β} (h:All2 R as bs) (lo hi:Option Int):All2 R (cut as lo hi) (cut bs lo hi):=by
  unfold cut;rw [h.length];exact all2_take (all2_drop h _) _
theorem map_cut {α β:Type} (f:α→β) (l:List α) (lo hi:Option Int):cut (l.map f) lo hi = (cut l lo hi).map f:=by
  unfold cut;rw [List.length_map,List.map_take,List.map_drop]
theorem slicePick_cut (vs:List PySem.Value) (lo hi:Option Int):slicePick vs.toArray lo hi none = (cut vs lo hi).toArray:=by
  rw [slicePick_plain];simp [cut]
theorem picked_cut (b:List UInt8) (lo hi:Option Int):KBy.picked b.toArray lo hi = (cut b lo hi).toArray:=by
  rw [KBc.picked_eq];simp [cut]
section
variable {X:Cx} {ρ:Nat→Addr} {st:St} {s:Shared} {k:SV→St→Prop}
theorem part_ok (O:X.Ok) {e:Option Expr} (h:partK X e st k) (R:SRep X ρ st s):wpR X.M X.A (valueOrNone (evalOpt e X.env)) (EvP X ρ st.objs.length k) X.E s:=by
  cases e with
  | none=>exact wpR_pure (.one (sv:=.none) R rfl h)
  | some e=>exact (wpE_ok O _ _ _ _ h).go ρ s R
theorem SRep.push (R:SRep X ρ st s) (o:Obj):SRep X ρ st { s with heap:=s.heap.push o }:=R.grown fun b o' e=>Heap.get?_push_of_some _ e
theorem j_slice (O:X.Ok) {v:Expr} {lo hi:Option Expr} {sp p:Pos} (h:wpE X 40 v st fun o st1=>partK X lo st1 fun l st2=>partK X hi st2 fun u st3=>sliceK X o l u st3 k):Ev X (eval (.Subscript v (.Slice lo hi none sp) p) X.env) st k:=by
  constructor
  intro ρ s R
  refine r_Sub ?_
  refine bindV (α:=Unit) ((wpE_ok O _ _ _ _ h).go ρ s R) fun ρ1 o st1 vo s1 x1 l1 R1 r1 k1=>?_
  rw [arm_eval_Slice]
  refine wpR_bind (bindV (α:=Unit) (part_ok O k1 R1) fun ρ2 l st2 vl s2 x2 l2 R2 r2 k2=>?_)
  refine wpR_bind (wpR_holding (bindV (α:=Unit) (part_ok O k2 R2) fun ρ3 u st3 vu s3 x3 l3 R3 r3 k3=>?_))
  refine wpR_bind (wpR_holding (wpR_pure ?_))
  refine wpR.of (wpAny_newObj_type ?_)
  have ro:=(r1.ext x2 l2).ext x3 l3
  have rl:=r2.ext x3 l3
  have up:∀ {Q:PySem.Value} {t:Shared},EvP X ρ3 st3.objs.length k Q t→EvP X ρ st.objs.length k Q t:=fun q=>((q.up x3 l3).up x2 l2).up x1 l1
  obtain ⟨lo',pl,k3⟩:=partQ_of rl k3
  obtain ⟨hi',pu,k3⟩:=partQ_of r3 k3
  · · cases o with
      | bytes b =>
        obtain ⟨t,rfl⟩:=ro
        refine wpR.of (PyProof.Rows.tail_any (typeIs_bytes _ _ _) FB.slot_bytes_getitem.lookup ?_ rfl)
        refine getItem_meets (typeIs_bytes _ _ _) (by decide) FB.slot_bytes_getitem FB.entry_bytes_getitem (FB.args_bytes_getitem_2 _ _) (KBc.meets_slice2 _ t _ pl pu) ⟨Heap.IsSliceOf.new _ _ _ _,Nat.le_trans (KBc.size_picked_le _ lo' hi') (by simp [sizeLine_eq];lia),fun t' tk=>?_⟩
        rw [picked_cut]
        exact up (one_bytes ((R3.push _).tok _) k3.2)
      | ref i =>
        obtain ⟨hi2,rfl⟩:=ro
        have go:∀ {ws:List PySem.Value} {n:Nat} {o:SObj},s3.heap.get? (ρ3 i) = some (PySem.W.listOf ws.toArray n)→ws.length ≤ 1000000→(∀ ρ':Nat→Addr,(∀ i,i < st3.objs.length→ρ' i = ρ3 i)→∀ a,ORep ρ' (st3.objs.length + 1) a o [(a,PySem.W.listOf (cut ws lo' hi').toArray 0)])→k (.ref st3.objs.length) (st3.addObj o) →
            wpR X.M X.A (subscriptTail v (.Slice lo hi none sp) (.ref (ρ3 i)) (.ref s3.heap.objs.size)) (EvP X ρ st.objs.length k) X.E { s3 with heap := s3.heap.push { cls := .type "slice", data := .fields #[vl, vu, .none] } } := fun {ws n o} hg hz y hk => by
          have hl : (s3.heap.push { cls := .type "slice", data := .fields #[vl, vu, .none] }).IsList (ρ3 i) ws.toArray := (isList_of hg).push _
          refine wpR.of (PyProof.Rows.tail_any (Heap.IsList.typeIs (s := { s3 with heap := s3.heap.push { cls := .type "slice", data := .fields #[vl, vu, .none] } }) hl) list_getitem_lookup (wpAny_getItem_list_slice hl (Heap.IsSliceOf.new ..) pl pu .none (by simp) ?_ (by simp [sizeLine_eq]; lia)) rfl)
          rw [slicePick_cut]
          exact up (new_end (tk:=s3.toks) (R3.push _) rfl (fun ρ' e1 e2=>by rw [← e2];exact y ρ' e1 _) hk)
        replace k3:sliceL st3.objs[i]? lo' hi' st3 k:=k3
        cases ho:st3.objs[i]? with
        | none=>rw [ho] at k3;exact k3.elim
        | some o' =>
        rw [ho] at k3
        cases o' with
        | list xs =>
          obtain ⟨ws,n,hg,ra⟩:=list_at R3 (.inl ho)
          exact go (o:=.list (cut xs lo' hi')) hg (by rw [← ra.length];exact k3.1) (fun ρ' e1 a=>⟨_,0,rfl,(all2_cut ra lo' hi').mono fun _ _ q=>q.ext e1 (Nat.le_add_right _ _)⟩) k3.2
        | pl xs =>
          obtain ⟨ws,n,hg,ra⟩:=list_at R3 (.inr ⟨_,ho,rfl⟩)
          refine go (o:=.pl (cut xs lo' hi')) hg (by rw [← ra.length,List.length_map];exact k3.1) (fun ρ' e1 a=>⟨_,0,rfl,?_⟩) k3.2
          rw [← map_cut]
          exact (all2_cut ra lo' hi').mono fun _ _ q=>q.ext e1 (Nat.le_add_right _ _)
        | _=>exact k3.elim
      | _=>exact k3.elim
theorem j_itemL {v sl:Expr} {i:Nat} {n:Int} {xs:List SV} {x:SV} (ho:st.objs[i]? = some (.list xs) ∨ ∃ ps,st.objs[i]? = some (.pl ps)∧xs = ps.map PV.sv) (h0:0 ≤ n) (hx:xs[n.toNat]? = some x) (hz:xs.length ≤ 1000000) (h:k x st)
    (hs:∀ o i:PySem.Value,subscripted sl false o i = operate [o,i] (getItem o i):=by intro _ _;rfl):OpJ X (fun vs=>subscriptTail v sl (vs.getD 0 .none) (vs.getD 1 .none)) [.ref i,.int n] st k:=by
  constructor
  intro ρ s vs R r
  obtain ⟨a,c,rfl,⟨hi,rfl⟩,t',rfl⟩:=all2_two' r
  obtain ⟨ws,m,hg,ra⟩:=list_at R ho
  obtain ⟨w,hw,rw'⟩:=ra.get hx
  have hlt:=lt_of_some hx
  have hl:=isList_of hg
  exact wpR.of (PyProof.Rows.tail_any hl.typeIs F.slot_list_getitem.lookup (wpAny_getItem_list hl h0 (by lia) (by simpa using hw) (.one R rw' h)) (hs _ _))
theorem j_itemP {v sl:Expr} {i:Nat} {n:Int} {ps:List PV} {x:PV} (ho:st.objs[i]? = some (.pl ps)) (h0:0 ≤ n) (hx:ps[n.toNat]? = some x) (hz:ps.length ≤ 1000000) (h:k x.sv st)
    (hs:∀ o i:PySem.Value,subscripted sl false o i = operate [o,i] (getItem o i):=by intro _ _;rfl):OpJ X (fun vs=>subscriptTail v sl (vs.getD 0 .none) (vs.getD 1 .none)) [.ref i,.int n] st k :=
  j_itemL (.inr ⟨ps,ho,rfl⟩) h0 (by rw [List.getElem?_map,hx];rfl) (by simpa using hz) h hs
theorem j_itemT {v sl:Expr} {i:Nat} {n:Int} {xs:List SV} {x:SV} (ho:st.objs[i]? = some (.tup xs)) (h0:0 ≤ n) (hx:xs[n.toNat]? = some x) (hz:xs.length ≤ 1000000) (h:k x st)
    (hs:∀ o i:PySem.Value,subscripted sl false o i = operate [o,i] (getItem o i):=by intro _ _;rfl):OpJ X (fun vs=>subscriptTail v sl (vs.getD 0 .none) (vs.getD 1 .none)) [.ref i,.int n] st k:=by
  constructor
  intro ρ s vs R r
  obtain ⟨a,c,rfl,⟨hi,rfl⟩,t',rfl⟩:=all2_two' r
  obtain ⟨ws,m,hg,ra⟩:=tup_at R ho
  obtain ⟨w,hw,rw'⟩:=ra.get hx
  have hlt:=lt_of_some hx
  have hl:=ra.length
  have ht:IsTup s.heap (ρ i) ws.toArray:=⟨_,hg,rfl,_,rfl⟩
  have hj:seqIndex? n ws.toArray.size = some n.toNat:=by
    have hn:¬ n < 0:=by lia
    simp [seqIndex?,hn,h0];lia
  exact wpR.of (PyProof.Rows.tail_any ht.typeIs F.slot_tuple_getitem.lookup (getItem_tuple ht (by lia) (by lia) hj (by simpa using hw) (.one R rw' h)) (hs _ _))
theorem j_itemBa {v sl:Expr} {j:Nat} {b:List UInt8} {i:Int} (ho:st.objs[j]? = some (.ba b)) (h0:0 ≤ i) (h1:i < b.length) (hz:b.length ≤ 1000000) (h:k (.int (octet b i)) st)
    (hs:∀ o i:PySem.Value,subscripted sl false o i = operate [o,i] (getItem o i):=by intro _ _;rfl):OpJ X (fun vs=>subscriptTail v sl (vs.getD 0 .none) (vs.getD 1 .none)) [.ref j,.int i] st k:=by
  constructor
  intro ρ s vs R r
  obtain ⟨a,c,rfl,⟨hi,rfl⟩,t',rfl⟩:=all2_two' r
  have hg:=ba_at R ho
  have hT : s.TypeIs (.ref (ρ j)) "bytearray" := ⟨_, hg, rfl⟩
  refine wpR.of (PyProof.Rows.tail_any hT look_ba_getitem ?_ (hs _ _))
  unfold getItem
  try with_reducible refine wpAny_holding ?_
  first | refine wpAny_bind (wpAny_pure ?_) | skip
  refine wpAny_bind (wpAny_sequenceKey hT (by decide) ?_)
  refine wpAny_bind (wpAny_callSpecial?_slot (name := PySem.Str.ofString "__getitem__") hT slot_ba_getitem (wpAny_call_entry slot_ba_getitem hT entry_ba_getitem ?_ (args_ba_getitem _ _)))
  have hf:Builtin.Bytes.fitsIndex i = true:=by simp only [Builtin.Bytes.fitsIndex,Bool.and_eq_true,decide_eq_true_eq];lia
  have hsq:seqIndex? i b.toArray.size = some i.toNat:=by
    have hn:¬ i < 0:=by lia
    simp [seqIndex?,hn,h0,h1]
  show wpAny _ _ (Builtin.Bytes.subscript? (.int i t') >>= fun r=>_) _ _ s
  refine wpAny_bind ?_
  unfold Builtin.Bytes.subscript?
  refine wpAny_bind (wpAny_specialOf (typeIs_int s i t') F.slot_int_index.lookup ?_)
  show wpAny _ _ (if (!Builtin.Bytes.fitsIndex i) = true then _ else pure (some i)) _ _ s
  rw [hf]
  refine wpAny_pure ?_
  refine wpAny_bind (payload_R hg ?_)
  have hlt:i.toNat < b.length:=by lia
  have hx:(seqIndex? i b.toArray.size).bind (b.toArray[·]?) = some (b.getD i.toNat 0):=by rw [hsq];simp [hlt]
  simp only [hx]
  exact wpAny_bind (wpAny_mkInt (wpAny_pure ⟨_,rfl,wpAny_pure (one_int (R.tok _) h)⟩))
noncomputable def setOct (b:List UInt8) (i n:Int):List UInt8:=b.set i.toNat n.toNat.toUInt8
theorem j_storeBa {j:Nat} {b:List UInt8} {i n:Int} {k:St→Prop} (O:X.Ok) (ho:st.objs[j]? = some (.ba b)) (h0:0 ≤ i) (h1:i < b.length) (hn0:0 ≤ n) (hn1:n < 256) (hz:b.length ≤ 1000000) (h:k (st.setObj j (.ba (setOct b i n)))) :
    OpU X (fun vs=>setItem (vs.getD 1 .none) (vs.getD 2 .none) (vs.getD 0 .none)) [.int n,.ref j,.int i] st k:=by
  constructor
  intro ρ s vs R r
  obtain ⟨a,c,d,rfl,⟨u,rfl⟩,⟨hi,rfl⟩,t',rfl⟩:=all2_three' r
  have hg:=ba_at R ho
  have hT : s.TypeIs (.ref (ρ j)) "bytearray" := ⟨_, hg, rfl⟩
  refine wpR.of ?_
  show wpAny _ _ (setItem (.ref (ρ j)) (.int i t') (.int n u)) _ _ s
  unfold setItem
  try with_reducible refine wpAny_holding ?_
  first | refine wpAny_bind (wpAny_pure ?_) | skip
  refine wpAny_bind (wpAny_sequenceKey hT (by decide) ?_)
  refine wpAny_bind (wpAny_callSpecial?_slot (name := PySem.Str.ofString "__setitem__") hT slot_ba_setitem (wpAny_call_entry slot_ba_setitem hT entry_ba_setitem ?_ (args_ba_setitem _ _ _)))
  have hf:Builtin.Bytes.fitsIndex i = true:=by simp only [Builtin.Bytes.fitsIndex,Bool.and_eq_true,decide_eq_true_eq];lia
  have hsq:seqIndex? i b.toArray.size = some i.toNat:=by
    have hn:¬ i < 0:=by lia
    simp [seqIndex?,hn,h0,h1]
  show wpAny _ _ (Builtin.Bytes.subscript? (.int i t') >>= fun r=>_) _ _ s
  refine wpAny_bind ?_
  unfold Builtin.Bytes.subscript?
  refine wpAny_bind (wpAny_specialOf (typeIs_int s i t') F.slot_int_index.lookup ?_)
  show wpAny _ _ (if (!Builtin.Bytes.fitsIndex i) = true then _ else pure (some i)) _ _ s
  rw [hf]
  refine wpAny_pure ?_
  show wpAny _ _ (Builtin.Bytes.byteValue (.int n u) >>= fun r=>_) _ _ s
  unfold Builtin.Bytes.byteValue
  refine wpAny_bind (wpAny_bind (wpAny_of_eq asIndex_int ?_))
  refine ifA_f (by simp;lia) (wpAny_pure ?_)
  refine wpAny_bind (payload_R hg ?_)
  rw [hsq]
  refine wpAny_bind (write_R (b':=setOct b i n) hg (by simp [setOct]) (by simp [setOct,sizeLine_eq];lia) (fun hh=>?_))
  refine wpAny_pure ⟨_,rfl,wpAny_pure ⟨ρ,_,fun _ _=>rfl,set_len,ba_turn (tk:=s.toks) R ho (Heap.SameBut.update ..) hh,h⟩⟩
end
end Mine
end
section
namespace Mine
noncomputable abbrev NoE:PySem.Value→Shared→Prop:=fun _ _=>False
section
variable {α:Type} {M:Model} {A:Around} {E:PySem.Value→Shared→Prop} {s:Shared}
theorem wpR_noE {t:Sem α} {Q:α→Shared→Prop} (h:wpR M A t Q NoE s):wpR M A t Q E s:=wpR_mono h (fun _ _ x=>x) fun _ _ x=>x.elim
theorem wpR_onRaise0 {m:Sem α} {k:PySem.Value→Sem Unit} {Q:α→Shared→Prop} (h:wpR M A m Q NoE s):wpR M A (m.onRaise k) Q E s:=wpR_onRaise (wpR_mono h (fun _ _ x=>x) fun _ _ x=>x.elim)
theorem codeR_loop' {c:Code} {R:Result→Shared→Prop} (hq:c.quiet = true) (hb:bad c = false) (I:Nat→Shared→Prop)
    (turn:∀ n s,I n s→wpR M (A.under c) (M.den c)
      (fun fin s'=>match fin with
        | .done f=>R (.ok f) s'
        | .again c'=>(c' = c∧∃ m,m < n∧I m s') ∨ (c'.quiet = true∧codeR M A c' R s')) (fun e s'=>R (.error e) s') s)
    (n:Nat) (h:I n s):codeR M A c R s:=by
  induction n using Nat.strongRecOn generalizing s with
  | ind n ih =>
    refine codeR_of_tree hb (wpR_mono (turn n s h) (fun fin s' hf=>?_) fun _ _ h'=>h')
    cases fin with
    | done f=>exact hf
    | again c' =>
      rcases hf with ⟨rfl,m,hm,hI⟩ | hf
      · exact ⟨hq,ih m hm hI⟩
      · exact hf
noncomputable def LoopQ (I:Nat→Shared→Prop) (n:Nat) (R:Flow→Shared→Prop) (f:Flow) (s:Shared):Prop:=match f with
  | .next | .cont=>∃ m,m < n∧I m s
  | .brk=>R .next s
  | .ret v=>R (.ret v) s
noncomputable def OkR (Q:Flow→Shared→Prop) (r:Result) (s:Shared):Prop:=match r with
  | .ok f=>Q f s
  | .error _=>False
theorem r_runOwn {c:Code} {env:Env} {Q:Flow→Shared→Prop} (hc:codeR M A c (OkR Q) s):wpR M A (runOwn c env none) Q E s:=by
  unfold runOwn
  refine wpR_onRaise0 (wpR_run (codeR_mono hc fun r s' q=>?_) (by intro x;cases x))
  cases r <;> exact q
end
section
variable {prog:Program} {w:World} {A:Around} {E:PySem.Value→Shared→Prop} {s:Shared} {env:Env}
theorem r_While {test:Expr} {body:List Stmt} {pos:Pos} {Q:Flow→Shared→Prop} (I:Nat→Shared→Prop)
    (turn:∀ n s,I n s→wpR (model prog w) A (isTrue test env (eval test env)) (fun b s₂ =>
      if b then wpR (model prog w) A (execs body env) (LoopQ I n Q) NoE s₂ else Q .next s₂) NoE s) (n:Nat) (h:I n s) :
    wpR (model prog w) A (exec (.While test body [] pos) env) Q E s:=by
  rw [exec_While]
  refine stand (r_runOwn (codeR_loop' rfl rfl I (fun n s hI=>?_) n h))
  show wpR _ A ((whileTurn test body [] env).onRaise (fun x=>do noteFrame x env;theTreesLotGoes x)) _ _ s
  refine wpR_onRaise0 ?_
  simp only [whileTurn]
  refine wpR_bind (wpR_mono (turn n s hI) (fun b s₂ h₂=>?_) fun _ _ h'=>h')
  cases b with
  | false=>exact wpR_bind (r_execs_nil (wpR_pure h₂))
  | true =>
    refine wpR_bind (wpR_mono h₂ (fun f s₃ h₃=>?_) fun _ _ h'=>h')
    cases f with
    | next=>exact wpR_pure (.inl ⟨rfl,h₃⟩)
    | cont=>exact wpR_pure (.inl ⟨rfl,h₃⟩)
    | brk=>exact wpR_pure h₃
    | ret v=>exact wpR_pure h₃
theorem r_For {target iter:Expr} {body:List Stmt} {pos:Pos} {Q:Flow→Shared→Prop}
    (h:wpR (model prog w) A (eval iter env) (fun x s₁=>wpR (model prog w) A (pyIter x) (fun it s₂=>∃ (I:Nat→Shared→Prop) (n:Nat),I n s₂ ∧
      ∀ n s,I n s→wpR (model prog w) A (pyNext it) (fun r s₁=>match r with
        | none=>Q .next s₁
        | some v=>wpR (model prog w) A (letOwnedTupleGo target it v) (fun _ s₂=>wpR (model prog w) A (assign target env v) (fun _ s₃=>wpR (model prog w) A (execs body env) (LoopQ I n Q) NoE s₃) NoE s₂) NoE s₁) NoE s) E s₁) E s)
    (hs:∀ x,foldedSetIterable iter env x = pure x):wpR (model prog w) A (exec (.For target iter body [] pos) env) Q E s:=by
  rw [exec_For]
  refine stand (wpR_bind (wpR_mono h (fun x s₁ h₁=>wpR_bind (wpR_of_eq (hs x) (stand (wpR_bind (wpR_holding (wpR_mono h₁ (fun it s₂ h₂=>?_) fun _ _ x=>x)))))) fun _ _ x=>x))
  obtain ⟨I,n,hI,turn⟩:=h₂
  refine r_runOwn (codeR_loop' rfl rfl I (fun n s hI=>?_) n hI)
  show wpR _ A ((forTurn target it body [] env).onRaise (fun x=>do noteFrame x env;theTreesLotGoes x)) _ _ s
  refine wpR_onRaise0 ?_
  simp only [forTurn]
  refine stand (wpR_bind (wpR_onRaise0 (wpR_mono (turn n s hI) (fun r s₁ h₁=>?_) fun _ _ h'=>h')))
  cases r with
  | none =>
    refine wpR_pure (.inr ⟨rfl,codeR_of_tree rfl ?_⟩)
    show wpR _ A (do return Fin.done (← (execs [] env).onRaise (fun x=>do noteFrame x env;theTreesLotGoes x))) _ _ s₁
    exact wpR_bind (wpR_onRaise0 (r_execs_nil (wpR_pure h₁)))
  | some v =>
    refine wpR_bind (wpR_noE (wpR_mono h₁ (fun _ s₂ h₂=>wpR_bind (wpR_noE (wpR_mono h₂ (fun _ s₃ h₃=>wpR_bind (wpR_noE (wpR_mono h₃ (fun f s₄ h₄=>?_) fun _ _ h'=>h'))) fun _ _ h'=>h'))) fun _ _ h'=>h'))
    cases f with
    | next=>exact wpR_pure (.inl ⟨rfl,h₄⟩)
    | cont=>exact wpR_pure (.inl ⟨rfl,h₄⟩)
    | brk=>exact wpR_pure h₄
    | ret v=>exact wpR_pure h₄
end
end Mine
end
section
open PySem PySem.W PyProof.Rows PySem.F
namespace Mine
noncomputable abbrev Cx.inner (X:Cx) (n:Nat) (r:Nat→Addr):Cx:={ X with E:=NoE,n0:=n,r0:=r }
theorem Cx.Ok.inner {X:Cx} (O:X.Ok) {n:Nat} (hn:X.n0 ≤ n) (r:Nat→Addr):(X.inner n r).Ok:=⟨O.W,O.kind,O.K,O.T,O.room,fun q hq=>Nat.lt_of_lt_of_le (O.cell q hq) hn⟩
theorem Cx.Ok.env {X:Cx} (O:X.Ok) {n:Nat} {r:Nat→Addr} (hr:∀ i,i < X.n0→r i = X.r0 i):(X.inner n r).env = X.env:=by
  have e:(X.cl.map fun p=>(p.1,r p.2)) = X.cl.map fun p=>(p.1,X.r0 p.2):=List.map_congr_left fun q hq=>by rw [hr _ (O.cell q hq)]
  show ({ scope:=_,locals:=_,globals:=_,cells:=X.cl.map fun p=>(p.1,r p.2),qual:=_,func:=_,code:=_,frame:=_,builtins:=_ }:Env) = _
  rw [e]
noncomputable def locSel (κ:Nat→Nat) (n:Nat) (loc l:List (PySem.Str × SV)):Prop:=(l.map fun p=>getS p.1 loc) = (l.map fun p=>some (p.2.ren κ))∧(l.all fun p=>p.2.clo n) = true
theorem locSel_at {κ:Nat→Nat} {n:Nat} {loc l:List (PySem.Str × SV)} {x:PySem.Str} {v:SV} (h:locSel κ n loc l) (e:getS x l = some v):getS x loc = some (v.ren κ)∧v.clo n = true:=by
  obtain ⟨h1,h2⟩:=h
  induction l with
  | nil=>cases e
  | cons p r ih =>
    obtain ⟨h3,h4⟩:=List.cons.inj h1
    rw [List.all_cons,Bool.and_eq_true] at h2
    unfold getS at e
    split at e
    · rename_i q;cases e;have:=strB_iff.mp q;subst this;exact ⟨h3,h2.1⟩
    · exact ih e h4 h2.2
structure ReSelW (ι:List Nat) (n0:Nat) (st st':St):Prop where
  k:∀ j,j < n0→kap ι 0 j = j
  l:st'.objs.length = ι.length
  m:n0 ≤ ι.length
  nd:nodupN ι = true
  s:selG (kap ι 0) st.objs st'.objs.length 0 st'.objs
  c:locSel (kap ι 0) st'.objs.length st.loc st'.loc
noncomputable def ReSel (n0:Nat) (st st':St):Prop:=∃ ι,ReSelW ι n0 st st'
theorem SRep.reselW {X:Cx} {ρ:Nat→Addr} {st st':St} {s:Shared} (R:SRep X ρ st s) {ι:List Nat} (h:ReSelW ι X.n0 st st'):SRep X (fun i=>ρ (kap ι 0 i)) st' s:=by
  obtain ⟨h1,h2,h3,h4,h5,h6⟩:=h
  obtain ⟨⟨m,chs,F,N,nd,LR,OR⟩,g1,g2,g3,pn⟩:=R
  have inj:∀ i j,i < st'.objs.length→j < st'.objs.length→i ≠ j→kap ι 0 i ≠ kap ι 0 j:=fun i j hi hj hij q=>by
    rw [h2] at hi hj
    exact hij (nodupN_inj h4 (kap_lt hi) (by rw [q];exact kap_lt hj))
  obtain ⟨chs2,OR2,nd2,at2⟩:=reps_sel OR (nd_iff.mp nd) h5 inj
  refine ⟨⟨m,chs2,F,fun p hp=>?_,nd_iff.mpr nd2,fun x sv e=>?_,OR2⟩,g1,g2,g3,fun i hi=>?_,by rw [h2];exact h3⟩
  · obtain ⟨q,hq,hpq⟩:=List.mem_flatten.mp hp
    obtain ⟨j,hj⟩:=List.mem_iff_getElem?.mp hq
    rcases (at2 j q hj).2.2 with rfl | w
    · cases hpq
    · exact N p (mem_at w hpq)
  · obtain ⟨e1,e2⟩:=locSel_at h6 e
    obtain ⟨v,hv,r⟩:=LR x _ e1
    exact ⟨v,hv,r.sel e2⟩
  · show ρ (kap ι 0 i) = _
    rw [h1 i hi];exact pn.1 i hi
theorem SRep.resel {X:Cx} {ρ:Nat→Addr} {st st':St} {s:Shared} (R:SRep X ρ st s) (h:ReSel X.n0 st st'):∃ ρ',SRep X ρ' st' s:=let ⟨_,h⟩:=h;⟨_,R.reselW h⟩
noncomputable def Into (n0:Nat) (J:St→Prop) (st:St):Prop:=J st ∨ ∃ st',ReSel n0 st st'∧J st'
theorem SRep.into {X:Cx} {ρ:Nat→Addr} {st:St} {s:Shared} {J:St→Prop} (R:SRep X ρ st s) (h:Into X.n0 J st):StP X J s:=by
  rcases h with h | ⟨st',h1,h2⟩
  · exact ⟨ρ,st,R,h⟩
  · obtain ⟨ρ',R'⟩:=R.resel h1;exact ⟨ρ',st',R',h2⟩
theorem SRep.out {X:Cx} {n:Nat} {r:Nat→Addr} {ρ:Nat→Addr} {st:St} {s:Shared} (R:SRep (X.inner n r) ρ st s) (hn:X.n0 ≤ n) (hr:∀ i,i < X.n0→r i = X.r0 i):SRep X ρ st s :=
  ⟨R.ex,R.gn,R.dr,R.os,fun i hi=>(R.pin.1 i (Nat.lt_of_lt_of_le hi hn)).trans (hr i hi),Nat.le_trans hn R.pin.2⟩
theorem SRep.inn {X:Cx} {n:Nat} {r:Nat→Addr} {ρ:Nat→Addr} {st:St} {s:Shared} (R:SRep X ρ st s) (hn:n ≤ st.objs.length) (hr:∀ i,i < n→ρ i = r i):SRep (X.inner n r) ρ st s :=
  ⟨R.ex,R.gn,R.dr,R.os,hr,hn⟩
noncomputable def TurnK (n0:Nat) (J:Nat→St→Prop) (n:Nat) (k:Fl→St→Prop) (f:Fl) (st:St):Prop:=match f with
  | .next | .cont=>∃ m,m < n∧Into n0 (J m) st
  | .brk=>k .next st
  | .ret v=>k (.ret v) st
section
variable {X:Cx} {st:St} {k:Fl→St→Prop}
theorem j_while (O:X.Ok) {test:Expr} {body:List Stmt} {pos:Pos} (J:Nat→St→Prop)
    (turn:∀ n st,J n st→wpT (X.inner X.n0 X.r0) 40 test st (kIf (seqK (wpS (X.inner X.n0 X.r0) 40) body (TurnK X.n0 J n k)) (kNx k)))
    (n:Nat) (h:Into X.n0 (J n) st):ExJ X (.While test body [] pos) st k:=by
  constructor
  intro ρ s R
  have O':=O.inner (Nat.le_refl X.n0) X.r0
  refine r_While (fun n s=>StP X (J n) s) (fun n s q=>?_) n (R.into h)
  obtain ⟨ρ,st,R,hJ⟩:=q
  have R':SRep (X.inner X.n0 X.r0) ρ st s:=R.inn R.pin.2 R.pin.1
  refine bindB (X:=X.inner X.n0 X.r0) (α:=Unit) (wpT_ok O' _ _ _ _ (turn n st hJ) ρ s R') fun ρ1 b st1 s1 x l R1 k1=>?_
  cases b with
  | false=>exact ⟨ρ1,.next,st1,R1.out (Nat.le_refl _) fun _ _=>rfl,rfl,k1.2 rfl⟩
  | true =>
    refine wpR_mono (sss_ok (wpS_ok O' 40) _ _ _ (k1.1 rfl) ρ1 s1 R1) (fun f s2 q=>?_) fun _ _ x=>x
    obtain ⟨ρ2,fl,st2,R2,r2,k2⟩:=q
    have R2:=R2.out (X:=X) (Nat.le_refl _) fun _ _=>rfl
    cases fl with
    | next=>cases r2;obtain ⟨m,hm,hi⟩:=k2;exact ⟨m,hm,R2.into hi⟩
    | cont=>cases r2;obtain ⟨m,hm,hi⟩:=k2;exact ⟨m,hm,R2.into hi⟩
    | brk=>cases r2;exact ⟨ρ2,.next,st2,R2,rfl,k2⟩
    | ret v=>obtain ⟨w,rfl,rw'⟩:=r2;exact ⟨ρ2,.ret v,st2,R2,⟨w,rfl,rw'⟩,k2⟩
noncomputable def isNameK (e:Expr) (P:PySem.Str→Prop):Prop:=match e with
  | .Name x _=>P x
  | _=>False
theorem isName_of {e:Expr} {P:PySem.Str→Prop} (h:isNameK e P):∃ x p,e = .Name x p∧P x:=by cases e <;> first | exact h.elim | exact ⟨_,_,rfl,h⟩
noncomputable def names2K (es:List Expr) (P:PySem.Str→PySem.Str→Prop):Prop:=match es with
  | [a,b]=>isNameK a fun x=>isNameK b fun y=>P x y
  | _=>False
theorem names2_of {es:List Expr} {P:PySem.Str→PySem.Str→Prop} (h:names2K es P):∃ a pa b pb,es = [.Name a pa,.Name b pb]∧P a b:=by
  cases es with
  | nil=>exact h.elim
  | cons x es =>
    cases es with
    | nil=>exact h.elim
    | cons y es =>
      cases es with
      | cons _ _=>exact h.elim
      | nil =>
        obtain ⟨a,pa,rfl,h⟩:=isName_of h
        obtain ⟨b,pb,rfl,h⟩:=isName_of h
        exact ⟨a,pa,b,pb,rfl,h⟩
noncomputable def pairL (xs:List SV) (P:SV→SV→Prop):Prop:=match xs with
  | [a,b]=>P a b
  | _=>False
noncomputable def pairK (o:Option SObj) (P:SV→SV→Prop):Prop:=match o with
  | some (.tup xs)=>pairL xs P
  | _=>False
theorem pair_of {o:Option SObj} {P:SV→SV→Prop} (h:pairK o P):∃ a b,o = some (.tup [a,b])∧P a b:=by
  cases o with
  | none=>exact h.elim
  | some o =>
    cases o with
    | tup xs =>
      cases xs with
      | nil=>exact h.elim
      | cons x xs =>
        cases xs with
        | nil=>exact h.elim
        | cons y xs =>
          cases xs with
          | nil=>exact ⟨x,y,rfl,h⟩
          | cons _ _=>exact h.elim
    | _=>exact h.elim
noncomputable def kThen (X:Cx) (b:PySem.Str) (v:SV) (k:St→Prop):St→Prop:=fun st=>storeK X b v st k
noncomputable def targetK (X:Cx) (t:Expr) (v:SV) (st:St) (k:St→Prop):Prop:=match t with
  | .Name x _=>storeK X x v st k
  | .Tuple es _ _=>names2K es fun a b=>refK v fun j=>pairK st.objs[j]? fun va vb=>storeK X a va st (kThen X b vb k)
  | _=>False
theorem storeK_with {x:PySem.Str} {v:SV} {st:St} {k:St→Prop} (h:storeK X x v st k):storeK X x v st fun st'=>k st'∧st'.objs.length = st.objs.length:=by
  have h:storeW X x v st k (kindS x X.cs.names):=h
  show storeW X x v st _ (kindS x X.cs.names)
  cases hk:kindS x X.cs.names with
  | none=>rw [hk] at h;exact h.elim
  | some m =>
    rw [hk] at h
    cases m with
    | «local»=>exact And.intro h rfl
    | cell =>
      obtain ⟨i,hl,h⟩:=optK_of h
      obtain ⟨hi,h⟩:=gate_of h
      obtain ⟨o,ho,h⟩:=cellK_of h
      show optK (lookC x X.cl) _
      rw [hl]
      show gateK (Nat.blt i X.n0) _
      rw [hi]
      show cellK st.objs[i]? _
      rw [ho]
      exact ⟨h,by show (List.set _ _ _).length = _;rw [List.length_set]⟩
    | _=>exact h.elim
theorem assignName_ok (O:X.Ok) {x:PySem.Str} {p:Pos} {v:SV} {vv:PySem.Value} {ρ:Nat→Addr} {s:Shared} {k:St→Prop} (h:storeK X x v st k) (R:SRep X ρ st s) (rv:VRep ρ st.objs.length v vv) :
    wpR X.M X.A (assign (.Name x p) X.env vv) (fun _ s'=>SsP X ρ k s') X.E s:=by
  rw [PySem.assign_Name]
  exact stand (r_bindName (storeK_ok O h R rv))
theorem assignInOrder2 {t1 t2:PySem.Value→Sem Unit} {a b:PySem.Value}:assignInOrder [t1,t2] [a,b] = (do holding [b] (t1 a);holding [] (t2 b);pure ()):=rfl
theorem target_ok (O:X.Ok) {t:Expr} {v:SV} {vv:PySem.Value} {ρ:Nat→Addr} {s:Shared} {k:St→Prop} (h:targetK X t v st k) (R:SRep X ρ st s) (rv:VRep ρ st.objs.length v vv) :
    wpR X.M X.A (assign t X.env vv) (fun _ s'=>SsP X ρ k s') X.E s:=by
  cases t with
  | Name x p=>exact assignName_ok O h R rv
  | Tuple es p q =>
    obtain ⟨a,pa,b,pb,rfl,h⟩:=names2_of h
    obtain ⟨j,rfl,h⟩:=refK_of h
    obtain ⟨va,vb,ho,h⟩:=pair_of h
    obtain ⟨hj,rfl⟩:=rv
    obtain ⟨ws,n,hg,ra⟩:=tup_at R ho
    obtain ⟨wa,wb,rfl,r1,r2⟩:=all2_two' ra
    rw [assign_Tuple]
    refine stand ?_
    unfold unpack
    refine wpR_bind (wpR_holding (.of (unpackItems_tuple (items:=[wa,wb].toArray) O.room.hh ⟨_,hg,rfl,n,rfl⟩ fun h' hk=>?_)))
    refine wpR_eq (t':=assignInOrder [assign (.Name a pa) X.env,assign (.Name b pb) X.env] [wa,wb]) rfl ?_
    rw [assignInOrder2]
    refine wpR_bind (wpR_holding (wpR_mono (assignName_ok O (storeK_with h) (R.grown fun b o e=>hk b o (Nat.ne_of_lt (Heap.lt_size e)) e) r1) (fun _ s1 q=>?_) fun _ _ x=>x))
    obtain ⟨st1,R1,h1,e1⟩:=q
    exact wpR_bind (wpR_holding (wpR_mono (assignName_ok O h1 R1 (by rw [e1];exact r2)) (fun _ s2 q=>wpR_pure q) fun _ _ x=>x))
  | _=>exact h.elim
end
end Mine
end
section
open PySem PySem.W PyProof.Rows PySem.F
namespace Mine
noncomputable def isL (st:St) (h:Nat) (xs:List SV):Prop:=st.objs[h]? = some (.list xs) ∨ ∃ ps,st.objs[h]? = some (.pl ps)∧xs = ps.map PV.sv
noncomputable def rngP (a b : Int) (o : Obj) : Prop := ∃ t u v, o = { cls := .type "range", dict := none, data := .fields #[.int a t, .int b u, .int 1 v], slots := #[] }
noncomputable def ritP (x left : Int) (o : Obj) : Prop := o = { cls := .type "range_iterator", dict := none, data := .fields #[rawInt x, rawInt left, rawInt 1], slots := #[] }
noncomputable def ForK (n0:Nat) (J:St→Prop) (k:Fl→St→Prop) (f:Fl) (st:St):Prop:=match f with
  | .next | .cont=>Into n0 J st
  | .brk=>k .next st
  | .ret v=>k (.ret v) st
section
variable {X:Cx} {ρ:Nat→Addr} {st:St} {s:Shared}
theorem SRep.drop (R:SRep X ρ st s) {i:Nat} {o:SObj} {h':Heap} {tk:Tok} (ho:st.objs[i]? = some o) (h1:∀ c,ORep ρ st.objs.length (ρ i) o c→∃ ob,c = [(ρ i,ob)]) (hs:Heap.ExtBut (ρ i) s.heap h') :
    SRep X ρ (st.setObj i .gone) { s with heap:=h',toks:=tk }:=by
  obtain ⟨⟨m,chs,F,N,nd,LR,OR⟩,g1,g2,g3,pn⟩:=R
  obtain ⟨c,hc,rc⟩:=OR.at_ i _ ho
  obtain ⟨ob,rfl⟩:=h1 c rc
  have hlt:=lt_of_some ho
  obtain ⟨A,B,e1,e2⟩:=flatten_at hc
  have hme:=N _ (mem_at hc (.head _))
  have e3:=e2 []
  rw [List.nil_append] at e3
  rw [e1] at nd
  have nd':=nd
  rw [List.map_append,List.nodup_append] at nd
  obtain ⟨n1,n2,n3⟩:=nd
  rw [List.cons_append,List.nil_append,List.map_cons,List.nodup_cons] at n2
  refine ⟨⟨m,chs.set i [],⟨?_,fun b o e=>hs b o (fun q=>by rw [q,hme.2.2] at e;cases e) (F.keep b o e),F.above⟩,?_,?_,?_,OR.put hlt rfl⟩,g1,g2,g3,pn.set _ _⟩
  · exact F.ns.extBut hs (fun q=>hme.2.1 q.symm)
  · intro p hp
    rw [e3] at hp
    have hin:p ∈ chs.flatten:=by
      rw [e1]
      rcases List.mem_append.mp hp with q | q
      · exact List.mem_append_left _ q
      · exact List.mem_append_right _ (.tail _ q)
    refine ⟨hs _ _ ?_ (N p hin).1,(N p hin).2⟩
    intro q
    rcases List.mem_append.mp hp with z | z
    · exact n3 _ (List.mem_map_of_mem (f:=(·.1)) z) _ (.head _) q
    · exact n2.1 (by rw [← q];exact List.mem_map_of_mem (f:=(·.1)) z)
  · rw [e3,List.map_append,List.nodup_append]
    exact ⟨n1,n2.2,fun a ha b hb=>n3 a ha b (.tail _ hb)⟩
  · show LRep ρ (st.objs.set i _).length m st.loc
    rw [List.length_set];exact LR
theorem SRep.alloc1 (R:SRep X ρ st s) {o:SObj} {ob:Obj} {tk:Tok} (hf:ob.isFreed = false)
    (y:∀ ρ':Nat→Addr,(∀ i,i < st.objs.length→ρ' i = ρ i)→ρ' st.objs.length = s.heap.objs.size→ORep ρ' (st.objs.length + 1) s.heap.objs.size o [(s.heap.objs.size,ob)]) :
    ∃ ρ',(∀ i,i < st.objs.length→ρ' i = ρ i)∧ρ' st.objs.length = s.heap.objs.size∧SRep X ρ' (st.addObj o) { s with heap:=s.heap.push ob,toks:=tk } :=
  R.alloc (c:=[(s.heap.objs.size,ob)]) (fun m F=>F.push _) (fun news N p hp=>by
    rcases List.mem_cons.mp hp with q | q
    · subst q
      exact News.push R.fr.choose_spec N ob hf _ (List.mem_cons_self ..)
    · exact ⟨Heap.get?_push_of_some _ (N p q).1,(N p q).2⟩) (by simp) (fun news N p hp q hq=>by
      cases List.mem_singleton.mp hp
      exact (Nat.ne_of_lt (Heap.lt_size (N q hq).1)).symm) y
theorem isL_at (R:SRep X ρ st s) {h:Nat} {xs:List SV} (hl:isL st h xs):∃ vs,s.heap.IsList (ρ h) vs.toArray∧All2 (VRep ρ st.objs.length) xs vs:=by
  obtain ⟨vs,k,hg,r⟩:=list_at R hl
  exact ⟨vs,isList_of hg,r⟩
theorem lit_at (R:SRep X ρ st s) {p h i:Nat} (ho:st.objs[p]? = some (.lit h i)):s.heap.IsListIter (ρ p) (ρ h) i:=by
  obtain ⟨⟨m,chs,F,N,nd,LR,OR⟩,g1,g2,g3,pn⟩:=R
  obtain ⟨c,hc,_,o,rfl,x1,x2⟩:=OR.at_ p _ ho
  exact ⟨o,(N _ (mem_at hc (.head _))).1,x1,x2⟩
theorem raw_at (R:SRep X ρ st s) {p:Nat} {P:Obj→Prop} (ho:st.objs[p]? = some (.raw P)):∃ o,s.heap.get? (ρ p) = some o∧P o:=by
  obtain ⟨⟨m,chs,F,N,nd,LR,OR⟩,g1,g2,g3,pn⟩:=R
  obtain ⟨c,hc,o,rfl,hp⟩:=OR.at_ p _ ho
  exact ⟨o,(N _ (mem_at hc (.head _))).1,hp⟩
theorem SRep.turn1 (R:SRep X ρ st s) {i:Nat} {o o2:SObj} {ob':Obj} {h':Heap} {tk:Tok} (ho:st.objs[i]? = some o) (h1:∀ c,ORep ρ st.objs.length (ρ i) o c→∃ ob,c = [(ρ i,ob)])
    (hs:Heap.SameBut (ρ i) s.heap h') (hg':h'.get? (ρ i) = some ob') (h2:ORep ρ st.objs.length (ρ i) o2 [(ρ i,ob')]):SRep X ρ (st.setObj i o2) { s with heap:=h',toks:=tk }:=by
  obtain ⟨⟨m,chs,F,N,nd,LR,OR⟩,g1,g2,g3,pn⟩:=R
  obtain ⟨c,hc,rc⟩:=OR.at_ i _ ho
  obtain ⟨ob,rfl⟩:=h1 c rc
  exact turnC F N nd LR OR g1 g2 g3 pn (lt_of_some ho) hc hs hg' h2
noncomputable def isLs (st:St) (h:Nat) (xs:List SV):Prop:=isL st h xs ∨ ∃ m i j l,st.objs[h]? = some (.tl m i j l)∧xs = ([.ref i,.ref j,.ref l]:List SV).take m
theorem isLs_at (R:SRep X ρ st s) {h:Nat} {xs:List SV} (hl:isLs st h xs):∃ vs,s.heap.IsList (ρ h) vs.toArray∧All2 (VRep ρ st.objs.length) xs vs:=by
  rcases hl with hl | ⟨m,i,j,l,ho,rfl⟩
  · exact isL_at R hl
  · obtain ⟨⟨m',chs,F,N,nd,LR,OR⟩,g1,g2,g3,pn⟩:=R
    obtain ⟨c,hc,h1,h2,h3,k,rfl⟩:=OR.at_ h _ ho
    exact ⟨_,isList_of (N _ (mem_at hc (.head _))).1,all2_take (.cons ⟨h1,rfl⟩ (.cons ⟨h2,rfl⟩ (.cons ⟨h3,rfl⟩ .nil))) m⟩
theorem isLs_lt {h:Nat} {xs:List SV} (hl:isLs st h xs):h < st.objs.length:=by
  rcases hl with (q | ⟨_,q,_⟩) | ⟨_,_,_,_,q,_⟩ <;> exact lt_of_some q
noncomputable def okTgt:Expr→SV→Bool
  | .Name ..,_=>true
  | .Tuple ..,.ref _=>true
  | _,_=>false
structure AsJ (X:Cx) (t:Expr) (x:SV) (st:St) (k:St→Prop):Prop where
  go:∀ ρ s vv,SRep X ρ st s→VRep ρ st.objs.length x vv→wpR X.M X.A (assign t X.env vv) (fun _ s'=>SsP X ρ k s') X.E s
  lg:okTgt t x = true
theorem AsJ.of (O:X.Ok) {t:Expr} {x:SV} {k:St→Prop} (h:targetK X t x st k):AsJ X t x st k:=by
  refine ⟨fun ρ s vv R r=>target_ok O h R r,?_⟩
  cases t with
  | Name x p=>rfl
  | Tuple es p q =>
    obtain ⟨a,pa,b,pb,_,h⟩:=names2_of h
    obtain ⟨j,rfl,h⟩:=refK_of h
    rfl
  | _=>exact h.elim
theorem AsJ.mono {t:Expr} {x:SV} {k k':St→Prop} (h:AsJ X t x st k) (m:∀ st',k st'→k' st'):AsJ X t x st k' :=
  ⟨fun ρ s vv R r=>wpR_mono (h.go ρ s vv R r) (fun _ _ q=>by obtain ⟨st',R',q⟩:=q;exact ⟨st',R',m _ q⟩) fun _ _ x=>x,h.lg⟩
structure Src (xs:List SV) (itO:Nat→SObj) (ok:St→Prop):Prop where
  one:∀ {ρ:Nat→Addr} {n i:Nat} {a:Addr} {c:List (Addr × Obj)},ORep ρ n a (itO i) c→∃ ob,c = [(a,ob)]
  item:∀ {X:Cx} {ρ:Nat→Addr} {st:St} {s:Shared} {h i:Nat} {x:SV} {Q:Option PySem.Value→Shared→Prop} {E:PySem.Value→Shared→Prop},SRep X ρ st s→ok st→st.objs[h]? = some (itO i)→xs[i]? = some x →
    (∀ v s',VRep ρ st.objs.length x v→SRep X ρ (st.setObj h (itO (i + 1))) s'→Q (some v) s')→wpAny X.M X.A (pyNext (.ref (ρ h))) Q E s
  stop:∀ {X:Cx} {ρ:Nat→Addr} {st:St} {s:Shared} {h i:Nat} {Q:Option PySem.Value→Shared→Prop} {E:PySem.Value→Shared→Prop},X.A.handled = none→SRep X ρ st s→ok st→st.objs[h]? = some (itO i)→i ≤ xs.length→xs[i]? = none →
    (∀ s',SRep X ρ (st.setObj h .gone) s'→Q none s')→wpAny X.M X.A (pyNext (.ref (ρ h))) Q E s
  self:∀ {X:Cx} {ρ:Nat→Addr} {st:St} {s:Shared} {h i:Nat} {Q:PySem.Value→Shared→Prop} {E:PySem.Value→Shared→Prop},SRep X ρ st s→st.objs[h]? = some (itO i)→Q (.ref (ρ h)) s→wpAny X.M X.A (pyIter (.ref (ρ h))) Q E s
  lgo:∀ {X:Cx} {ρ:Nat→Addr} {st:St} {s:Shared} {h i n:Nat} {t:Expr} {x:SV} {vv:PySem.Value} {Q:Unit→Shared→Prop} {E:PySem.Value→Shared→Prop},SRep X ρ st s→st.objs[h]? = some (itO i)→okTgt t x = true→VRep ρ n x vv→Q () s →
    wpAny X.M X.A (letOwnedTupleGo t (.ref (ρ h)) vv) Q E s
structure SrcOf (v:SV) (o0:SObj) (st:St):Prop where
  start:∀ {X:Cx} {ρ:Nat→Addr} {s:Shared} {vv:PySem.Value} {Q:PySem.Value→Shared→Prop} {E:PySem.Value→Shared→Prop},SRep X ρ st s→VRep ρ st.objs.length v vv →
    (∀ ρ' s',(∀ i,i < st.objs.length→ρ' i = ρ i)→SRep X ρ' (st.addObj o0) s'→Q (.ref (ρ' st.objs.length)) s')→wpAny X.M X.A (pyIter vv) Q E s
theorem srcL (h:Nat) (xs:List SV):Src xs (fun i=>.lit h i) (fun st=>isLs st h xs) where
  one:=fun ⟨_,o,e,_⟩=>⟨o,e⟩
  item:=fun {X ρ st s p i x Q E} R hl ho hx k=>by
    obtain ⟨vs,hlist,ra⟩:=isLs_at R hl
    obtain ⟨y,hy,ry⟩:=ra.get hx
    refine wpAny_pyNext_list_item (lit_at R ho) hlist (by simpa using hy) fun h' hit' hs'=>?_
    obtain ⟨ob',hob,hc1,hd1⟩:=hit'
    exact k y _ ry (R.turn1 (tk:=s.toks) (o2:=.lit h (i + 1)) ho (fun c ⟨_,o,e,_⟩=>⟨o,e⟩) hs' hob ⟨isLs_lt hl,ob',rfl,hc1,hd1⟩)
  stop:=fun {X ρ st s p i Q E} hh R hl ho hle hx k=>by
    obtain ⟨vs,hlist,ra⟩:=isLs_at R hl
    have hv:vs.toArray[i]? = none:=by
      have:=List.getElem?_eq_none_iff.mp hx
      rw [ra.length] at this
      simpa using this
    exact wpAny_pyNext_list_end hh (lit_at R ho) hlist hv fun h' hs'=>k _ (R.drop (tk:=s.toks) ho (fun c ⟨_,o,e,_⟩=>⟨o,e⟩) hs')
  self:=fun R ho q=>wpAny_pyIter_listiter (lit_at R ho) q
  lgo:=fun {X ρ st s p i n t x vv Q E} R ho ht r q=>by
    cases t with
    | Name a b=>exact wpAny_of_eq (a:=()) rfl q
    | Tuple es a b =>
      cases x with
      | ref l =>
        obtain ⟨_,rfl⟩:=r
        exact wpAny_letOwnedTupleGo_listiter (lit_at R ho) q
      | _=>cases ht
    | _=>cases ht
theorem srcOfL {h:Nat} {xs:List SV} (hl:isLs st h xs):SrcOf (.ref h) (.lit h 0) st where
  start:=fun {X ρ s vv Q E} R r k=>by
    obtain ⟨hlt,rfl⟩:=r
    obtain ⟨vs,hls,ra⟩:=isLs_at R hl
    refine wpAny_pyIter_list hls ?_
    obtain ⟨ρ2, e1, e2, R2⟩ := R.alloc1 (o := .lit h 0) (ob := { cls := .type "list_iterator", data := .fields #[.ref (ρ h), .int 0 0] }) (tk := s.toks) rfl
      (fun ρ' e1 e2=>⟨Nat.lt_succ_of_lt hlt,_,rfl,rfl,by rw [e1 _ hlt];rfl⟩)
    rw [← e2]
    exact k ρ2 _ e1 R2
inductive ForIt (n0:Nat) (J:St→Prop) (v:SV) (st1:St):Prop
  | mk (o0:SObj) (ι:List Nat) (st2:St) (src:SrcOf v o0 st1) (sel:ReSelW ι n0 (st1.addObj o0) st2) (hκ:kap ι 0 n0 = st1.objs.length) (j:J st2)
inductive ForIn (X:Cx) (xs:List SV) (J:Nat→St→Prop) (n:Nat) (s:Shared):Prop
  | mk (i:Nat) (ρ:Nat→Addr) (st:St) (e:n = xs.length + 1 - i) (l:i ≤ xs.length) (R:SRep X ρ st s) (j:J i st)
noncomputable def forT (xs:List SV) (i:Nat) (P:Prop) (Q:SV→Prop):Prop:=match xs[i]? with
  | none=>P
  | some x=>Q x
theorem forT_none {xs:List SV} {i:Nat} {P:Prop} {Q:SV→Prop} (h:xs[i]? = none) (t:forT xs i P Q):P:=by unfold forT at t;rw [h] at t;exact t
theorem forT_some {xs:List SV} {i:Nat} {P:Prop} {Q:SV→Prop} {x:SV} (h:xs[i]? = some x) (t:forT xs i P Q):Q x:=by unfold forT at t;rw [h] at t;exact t
theorem forE {xs:List SV} {i:Nat} {P:Prop} {Q:SV→Prop} (h:xs[i]? = none) (p:P):forT xs i P Q:=by unfold forT;rw [h];exact p
theorem forI {xs:List SV} {i:Nat} {P:Prop} {Q:SV→Prop} {x:SV} (h:xs[i]? = some x) (q:Q x):forT xs i P Q:=by unfold forT;rw [h];exact q
theorem j_forG (O:X.Ok) {t iter:Expr} {body:List Stmt} {pos:Pos} {k:Fl→St→Prop} (xs:List SV) (itO:Nat→SObj) (ok:St→Prop) (S:Src xs itO ok) (J:Nat→St→Prop)
    (it:Ev X (eval iter X.env) st (ForIt X.n0 (J 0)))
    (hJ:∀ i st,J i st→st.objs[X.n0]? = some (itO i)∧ok st)
    (turn:∀ r i st,(∀ j,j < X.n0→r j = X.r0 j)→J i st→i ≤ xs.length→forT xs i (k .next (st.setObj X.n0 .gone)) fun x =>
      AsJ (X.inner (X.n0 + 1) r) t x (st.setObj X.n0 (itO (i + 1))) fun st1=>Ss (X.inner (X.n0 + 1) r) body st1 (ForK (X.n0 + 1) (J (i + 1)) k))
    (hs:∀ x:PySem.Value,foldedSetIterable iter X.env x = pure x):ExJ X (.For t iter body [] pos) st k:=by
  constructor
  intro ρ s R
  refine r_For (bindV (α:=Unit) (it.go ρ s R) fun ρ1 v st1 vv s1 x1 l1 R1 r1 k1=>?_) hs
  obtain ⟨o0,ι,st2,src,sel,hκ,j0⟩:=k1
  refine wpR.of (src.start R1 r1 fun ρ2 s2 e1 R2=>?_)
  have R3:=R2.reselW sel
  generalize hr:(fun i=>ρ2 (kap ι 0 i)) = ρ3 at R3
  have hI:ρ3 X.n0 = ρ2 st1.objs.length:=by rw [← hr];show ρ2 (kap ι 0 X.n0) = _;rw [hκ]
  have hX:∀ i,i < X.n0 + 1→(if i < X.n0 then X.r0 i else ρ2 st1.objs.length) = ρ3 i:=fun i hi=>by
    by_cases q:i < X.n0
    · rw [if_pos q];exact (R3.pin.1 i q).symm
    · rw [if_neg q,show i = X.n0 by lia,hI]
  generalize hrr:(fun i=>if i < X.n0 then X.r0 i else ρ2 st1.objs.length) = r
  have hr1:∀ i,i < X.n0→r i = X.r0 i:=fun i hi=>by rw [← hrr];simp [hi]
  have hr2:r X.n0 = ρ2 st1.objs.length:=by rw [← hrr];simp
  have O':=O.inner (Nat.le_succ X.n0) r
  have henv:(X.inner (X.n0 + 1) r).env = X.env:=O.env hr1
  refine ⟨ForIn (X.inner (X.n0 + 1) r) xs J,xs.length + 1,⟨0,ρ3,st2,rfl,Nat.zero_le _,R3.inn ?_ fun i hi=>?_,j0⟩,?_⟩
  · exact lt_of_some (hJ 0 st2 j0).1
  · rw [← hX i hi,← hrr]
  · rintro _ sA ⟨i,ρA,stA,rfl,hle,RA,jA⟩
    obtain ⟨hp,hlA⟩:=hJ i stA jA
    have hIA:ρA X.n0 = ρ2 st1.objs.length:=(RA.pin.1 _ (Nat.lt_succ_self _)).trans hr2
    have tn:=turn r i stA hr1 jA hle
    rw [← hIA]
    cases hx:xs[i]? with
    | none =>
      have tn:=forT_none hx tn
      refine wpR.of (S.stop (X:=X.inner (X.n0 + 1) r) O.room.hh RA hlA hp hle hx fun s' R'=>?_)
      exact ⟨ρA,.next,_,R'.out (Nat.le_succ _) hr1,rfl,tn⟩
    | some x =>
      have tn:=forT_some hx tn
      refine wpR.of (S.item (X:=X.inner (X.n0 + 1) r) RA hlA hp hx fun y sB ry RB=>?_)
      have hpB:(stA.setObj X.n0 (itO (i + 1))).objs[X.n0]? = some (itO (i + 1)):=by
        show (stA.objs.set _ _)[_]? = _
        rw [List.getElem?_set_self (lt_of_some hp)]
      refine wpR.of (S.lgo (X:=X.inner (X.n0 + 1) r) RB hpB tn.lg ry ?_)
      rw [← henv]
      refine wpR_mono (tn.go ρA sB y RB (by show VRep ρA (stA.objs.set _ _).length x y;rw [List.length_set];exact ry)) (fun _ sC q=>?_) fun _ _ x=>x
      obtain ⟨stC,RC,kC⟩:=q
      refine wpR_mono (kC ρA sC RC) (fun f sD q=>?_) fun _ _ x=>x
      obtain ⟨ρD,fl,stD,RD,rD,kD⟩:=q
      have hlt':i < xs.length:=lt_of_some hx
      have again:Into (X.n0 + 1) (J (i + 1)) stD→∃ m,m < xs.length + 1 - i∧ForIn (X.inner (X.n0 + 1) r) xs J m sD:=fun hin=>by
        obtain ⟨ρE,stE,RE,jE⟩:=RD.into hin
        exact ⟨xs.length + 1 - (i + 1),sub_lt2 (Nat.lt_succ_of_lt hlt') (Nat.lt_succ_self i),i + 1,ρE,stE,rfl,hlt',RE,jE⟩
      cases fl with
      | next=>cases rD;exact again kD
      | cont=>cases rD;exact again kD
      | brk=>cases rD;exact ⟨ρD,.next,stD,RD.out (Nat.le_succ _) hr1,rfl,kD⟩
      | ret v=>obtain ⟨w,rfl,rw'⟩:=rD;exact ⟨ρD,.ret v,stD,RD.out (Nat.le_succ _) hr1,⟨w,rfl,rw'⟩,kD⟩
inductive ForL (h:Nat) (xs:List SV) (n0:Nat) (J:St→Prop) (v:SV) (st1:St):Prop
  | mk (h0:Nat) (ι:List Nat) (st2:St) (e:v = .ref h0) (l:isL st1 h0 xs) (sel:ReSelW ι n0 (st1.addObj (.lit h0 0)) st2) (hκ:kap ι 0 n0 = st1.objs.length) (j:J st2)
theorem j_forL (O:X.Ok) {t iter:Expr} {body:List Stmt} {pos:Pos} {k:Fl→St→Prop} (h:Nat) (xs:List SV) (J:Nat→St→Prop)
    (it:wpE X 40 iter st (ForL h xs X.n0 (J 0)))
    (hJ:∀ i st,J i st→st.objs[X.n0]? = some (.lit h i)∧isL st h xs)
    (turn:∀ r i st,J i st→i ≤ xs.length→forT xs i (k .next (st.setObj X.n0 .gone)) fun x =>
      targetK (X.inner (X.n0 + 1) r) t x (st.setObj X.n0 (.lit h (i + 1))) (seqK (wpS (X.inner (X.n0 + 1) r) 40) body (ForK (X.n0 + 1) (J (i + 1)) k)))
    (hs:∀ x:PySem.Value,foldedSetIterable iter X.env x = pure x:=by intro _;rfl):ExJ X (.For t iter body [] pos) st k:=by
  have it':Ev X (eval iter X.env) st (ForIt X.n0 (J 0)):=(wpE_ok O _ _ _ _ it).mono fun v st1 q=>by
    obtain ⟨h0,ι,st2,e,hl,r1,r2,r3⟩:=q
    subst e
    exact ⟨.lit h0 0,ι,st2,srcOfL (.inl hl),r1,r2,r3⟩
  refine j_forG O xs _ _ (srcL h xs) J it' (fun i st j=>⟨(hJ i st j).1,.inl (hJ i st j).2⟩) (fun r i st _ j hi=>?_) hs
  have tn:=turn r i st j hi
  unfold forT at tn ⊢
  cases hx:xs[i]? with
  | none=>rw [hx] at tn;exact tn
  | some x =>
    rw [hx] at tn
    have O':=O.inner (Nat.le_succ X.n0) r
    exact (AsJ.of O' tn).mono fun st1 q=>sss_ok (wpS_ok O' 40) _ _ _ q
end
end Mine
end
section
open PySem PySem.W PyProof.Rows PySem.F
namespace Mine
section
variable {X:Cx} {ρ:Nat→Addr} {st:St} {s:Shared}
theorem j_range1 {n:Int} {k:SV→St→Prop} (h:k (.ref st.objs.length) (st.addObj (.raw (rngP 0 n)))):OpJ X (fun vs=>call BI.range.val vs) [.int n] st k:=by
  constructor
  intro ρ s vs R r
  obtain ⟨v,rfl,t,rfl⟩:=all2_one r
  exact wpR.of (call_range_1 (new_end (o:=.raw (rngP 0 n)) (tk:=s.toks + 1 + 1) R rfl (fun _ _ _=>⟨_,rfl,_,_,_,rfl⟩) h))
theorem rangeSize1 (a:Int) (n:Nat):Builtin.Range.rangeSize a (a + n) 1 = n:=by
  unfold Builtin.Range.rangeSize
  rw [if_pos (by decide)]
  split
  · rw [Int.ediv_one];lia
  · lia
theorem range_small (a:Int) (n:Nat) (h0:0 ≤ a) (h1:a + n ≤ 1000000):Builtin.Range.small a (a + n) 1 = true:=by
  unfold Builtin.Range.small Builtin.Range.rangeFitsLong
  rw [rangeSize1]
  simp
  lia
noncomputable def rngL (a:Int) (n:Nat):List SV:=(List.range n).map fun i=>.int (a + (i:Nat))
theorem rngL_len (a:Int) (n:Nat):(rngL a n).length = n:=by simp [rngL]
theorem rngL_at (a:Int) {n i:Nat} (h:i < n):(rngL a n)[i]? = some (.int (a + (i:Nat))):=by simp [rngL,h]
theorem rngL_no (a:Int) {n i:Nat} (h:n ≤ i):(rngL a n)[i]? = none:=by simp [rngL,h]
theorem rit_at (R : SRep X ρ st s) {p : Nat} {x l : Int} (ho : st.objs[p]? = some (.raw (ritP x l))) : s.heap.get? (ρ p) = some { cls := .type "range_iterator", dict := none, data := .fields #[rawInt x, rawInt l, rawInt 1], slots := #[] } := by
  obtain ⟨o,h1,h2⟩:=raw_at R ho
  rw [show o = _ from h2] at h1
  exact h1
theorem srcR (a:Int) (n:Nat):Src (rngL a n) (fun i=>.raw (ritP (a + (i:Nat)) ((n:Int) - (i:Nat)))) (fun _=>True) where
  one:=fun ⟨o,e,_⟩=>⟨o,e⟩
  item:=fun {X ρ st s p i x Q E} R _ ho hx k=>by
    have hi:i < n:=by have:=lt_of_some hx;rwa [rngL_len] at this
    rw [rngL_at a hi] at hx
    cases hx
    refine wpAny_pyNext_range_item (rit_at R ho) (by lia) fun h' hit' hs'=>?_
    exact k _ _ ⟨_,rfl⟩ (R.turn1 (tk:=s.toks + 1) (o2:=.raw (ritP (a + ((i + 1:Nat):Int)) ((n:Int) - ((i + 1:Nat):Int)))) ho (fun c ⟨o,e,_⟩=>⟨o,e⟩) hs' hit' ⟨_,rfl,by
      unfold ritP
      rw [show a + (i:Nat) + 1 = a + ((i + 1:Nat):Int) by lia,show (n:Int) - (i:Nat) - 1 = (n:Int) - ((i + 1:Nat):Int) by lia]⟩)
  stop:=fun {X ρ st s p i Q E} hh R _ ho hle hx k=>by
    rw [rngL_len] at hle
    have hi:i = n:=by
      have:=List.getElem?_eq_none_iff.mp hx
      rw [rngL_len] at this
      lia
    exact wpAny_pyNext_range_end hh (rit_at R ho) (by lia) fun h' hs'=>k _ (R.drop (tk:=s.toks) ho (fun c ⟨o,e,_⟩=>⟨o,e⟩) hs')
  self:=fun R ho q=>wpAny_pyIter_rangeiter (rit_at R ho) q
  lgo:=fun {X ρ st s p i n t x vv Q E} R ho ht r q=>by
    cases t with
    | Name a b=>exact wpAny_of_eq (a:=()) rfl q
    | Tuple es a b =>
      cases x with
      | ref l =>
        obtain ⟨_,rfl⟩:=r
        have ho:=rit_at R ho
        unfold letOwnedTupleGo
        refine wpAny_bind (wpAny_load ho ?_)
        exact wpAny_pure q
      | _=>cases ht
    | _=>cases ht
theorem srcOfR {h:Nat} {a:Int} {n:Nat} (ha:0 ≤ a) (hb:a + n ≤ 1000000) (ho:st.objs[h]? = some (.raw (rngP a (a + n)))):SrcOf (.ref h) (.raw (ritP a n)) st where
  start:=fun {X ρ s vv Q E} R r k=>by
    obtain ⟨hlt,rfl⟩:=r
    obtain ⟨ob,hob,t1,u1,v1,rfl⟩:=raw_at R ho
    refine wpAny_pyIter_range hob (range_small a n ha hb) ?_
    rw [rangeSize1]
    obtain ⟨ρ2, e1, e2, R2⟩ := R.alloc1 (o := .raw (ritP a n)) (ob := { cls := .type "range_iterator", data := .fields #[rawInt a, rawInt n, rawInt 1] }) (tk := s.toks) rfl (fun ρ' e1 e2 => ⟨_, rfl, rfl⟩)
    rw [← e2]
    exact k ρ2 _ e1 R2
inductive ForR (a b:Int) (m:Int) (n0:Nat) (J:St→Prop) (v:SV) (st1:St):Prop
  | mk (h0:Nat) (ι:List Nat) (st2:St) (e:v = .ref h0) (l:st1.objs[h0]? = some (.raw (rngP a b))) (sel:ReSelW ι n0 (st1.addObj (.raw (ritP a m))) st2) (hκ:kap ι 0 n0 = st1.objs.length) (j:J st2)
theorem j_forR (O:X.Ok) {t iter:Expr} {body:List Stmt} {pos:Pos} {k:Fl→St→Prop} (a:Int) (n:Nat) (ha:0 ≤ a) (hb:a + n ≤ 1000000) (J:Nat→St→Prop)
    (it:wpE X 40 iter st (ForR a (a + n) n X.n0 (J 0)))
    (hJ:∀ i st,J i st→st.objs[X.n0]? = some (.raw (ritP (a + (i:Nat)) ((n:Int) - (i:Nat)))))
    (turn:∀ r i st,J i st→i ≤ n→(i = n→k .next (st.setObj X.n0 .gone))∧(i < n →
      targetK (X.inner (X.n0 + 1) r) t (.int (a + (i:Nat))) (st.setObj X.n0 (.raw (ritP (a + ((i + 1:Nat):Int)) ((n:Int) - ((i + 1:Nat):Int))))) (seqK (wpS (X.inner (X.n0 + 1) r) 40) body (ForK (X.n0 + 1) (J (i + 1)) k))))
    (hs:∀ x:PySem.Value,foldedSetIterable iter X.env x = pure x:=by intro _;rfl):ExJ X (.For t iter body [] pos) st k:=by
  have it':Ev X (eval iter X.env) st (ForIt X.n0 (J 0)):=(wpE_ok O _ _ _ _ it).mono fun v st1 q=>by
    obtain ⟨h0,ι,st2,e,hl,r1,r2,r3⟩:=q
    subst e
    exact ⟨.raw (ritP a n),ι,st2,srcOfR ha hb hl,r1,r2,r3⟩
  refine j_forG O (rngL a n) _ _ (srcR a n) J it' (fun i st j=>⟨hJ i st j,trivial⟩) (fun r i st _ j hi=>?_) hs
  rw [rngL_len] at hi
  have tn:=turn r i st j hi
  unfold forT
  by_cases q:i < n
  · rw [rngL_at a q]
    have O':=O.inner (Nat.le_succ X.n0) r
    exact (AsJ.of O' (tn.2 q)).mono fun st1 q=>sss_ok (wpS_ok O' 40) _ _ _ q
  · rw [rngL_no a (by lia)]
    exact tn.1 (by lia)
end
end Mine
end
section
namespace Mine
theorem br_t {t:Bool} {A B:Prop} (c:t = true) (h:A):(t = true→A)∧(t = false→B):=⟨fun _=>h,fun e=>by rw [c] at e;cases e⟩
theorem br_f {t:Bool} {A B:Prop} (c:t = false) (h:B):(t = true→A)∧(t = false→B):=⟨fun e=>by (rw [c] at e;cases e),fun _=>h⟩
noncomputable def idB:Nat→Nat→List Nat→Bool
  | 0,_,_=>true
  | n + 1,j,k :: r=>match Nat.beq k j with
    | true=>idB n (j + 1) r
    | false=>false
  | _ + 1,_,[]=>false
theorem idB_at:∀ {n j:Nat} {l:List Nat},idB n j l = true→n ≤ l.length∧∀ i,i < n→l[i]? = some (j + i)
  | 0,_,_,_=>⟨Nat.zero_le _,fun i h=>absurd h (Nat.not_lt_zero _)⟩
  | n + 1,j,k :: r,h=>by
    unfold idB at h
    split at h
    · rename_i q
      have:=Nat.eq_of_beq_eq_true q
      subst this
      obtain ⟨h1,h2⟩:=idB_at h
      refine ⟨Nat.succ_le_succ h1,fun i hi=>?_⟩
      cases i with
      | zero=>rfl
      | succ i=>rw [List.getElem?_cons_succ,h2 i (by omega),show k + 1 + i = k + (i + 1) by omega]
    · cases h
  | _ + 1,_,[],h=>by cases h
theorem idB_kap {n:Nat} {ι:List Nat} (h:idB n 0 ι = true):∀ j,j < n→kap ι 0 j = j:=fun j hj=>by
  have:=(idB_at h).2 j hj
  unfold kap
  rw [this,Nat.zero_add]
theorem fin_of (ι:List Nat) {n:Nat} {P:SV→List SObj→Prop} {res:SV} {objs':List SObj} {fl:Fl} {st:St} (hb:idB n 0 ι = true) (hl:objs'.length = ι.length) (hn:nodupN ι = true) (sel:selL (kap ι 0) st.objs objs'.length 0 objs')
    (hr:retV fl = res.ren (kap ι 0)) (hc:res.clo objs'.length = true) (hp:P res objs'):Fin n P fl st:=⟨ι,res,objs',fun j hj _=>idB_kap hb j hj,hl,(idB_at hb).1,hn,selG_of sel,hr,hc,hp⟩
theorem fin_det (ι:List Nat) {n:Nat} {res:SV} {objs':List SObj} {fl:Fl} {st:St} (hb:idB n 0 ι = true) (hl:objs'.length = ι.length) (hn:nodupN ι = true) (sel:selL (kap ι 0) st.objs objs'.length 0 objs')
    (hr:retV fl = res.ren (kap ι 0)) (hc:res.clo objs'.length = true):Fin n (Det res objs') fl st:=fin_of ι hb hl hn sel hr hc ⟨rfl,rfl⟩
noncomputable def idM (mv:List Nat):Nat→Nat→List Nat→Bool
  | 0,_,_=>true
  | n + 1,j,k :: r=>(inU mv j || Nat.beq k j) && idM mv n (j + 1) r
  | _ + 1,_,[]=>false
theorem idM_at {mv:List Nat}:∀ {n j:Nat} {l:List Nat},idM mv n j l = true→n ≤ l.length∧∀ i,i < n→inU mv (j + i) = false→l[i]? = some (j + i)
  | 0,_,_,_=>⟨Nat.zero_le _,fun i h=>absurd h (Nat.not_lt_zero _)⟩
  | n + 1,j,k :: r,h=>by
    obtain ⟨h0,h3⟩:=Bool.and_eq_true_iff.mp h
    obtain ⟨h1,h2⟩:=idM_at h3
    refine ⟨Nat.succ_le_succ h1,fun i hi hm=>?_⟩
    cases i with
    | zero =>
      rw [Nat.add_zero] at hm
      rw [hm,Bool.false_or] at h0
      rw [Nat.eq_of_beq_eq_true h0];rfl
    | succ i=>rw [List.getElem?_cons_succ,h2 i (by omega) (by rw [show j + 1 + i = j + (i + 1) by omega];exact hm),show j + 1 + i = j + (i + 1) by omega]
  | _ + 1,_,[],h=>by cases h
theorem fin_mv (ι:List Nat) {n:Nat} {mv:List Nat} {P:SV→List SObj→Prop} {res:SV} {objs':List SObj} {fl:Fl} {st:St} (hb:idM mv n 0 ι = true) (hl:objs'.length = ι.length) (hn:nodupN ι = true) (sel:selG (kap ι 0) st.objs objs'.length 0 objs')
    (hr:retV fl = res.ren (kap ι 0)) (hc:res.clo objs'.length = true) (hp:P res objs'):FinM n mv P fl st:=⟨ι,res,objs',fun j hj hm=>by
      have:=(idM_at hb).2 j hj (by rw [Nat.zero_add];exact hm)
      unfold kap
      rw [this,Nat.zero_add],hl,(idM_at hb).1,hn,sel,hr,hc,hp⟩
noncomputable def fix32 (n:Int):List UInt8:=rowB [Builtin.bitAnd n 255,Builtin.bitAnd (n.fdiv (2 ^ 8)) 255,Builtin.bitAnd (n.fdiv (2 ^ 16)) 255,n.fdiv (2 ^ 24)]
section
variable {V:Vs}
theorem f_put_fixed32 (n:Int) (h0:0 ≤ n) (h1:n ≤ 4294967295):FnC (WK V) 1 122 [.int n] [] (Det (.bytes (fix32 n)) []):=by
  refine enter [x_n] (WK_holds ..) (lk_put_fixed32 _) (cd_put_fixed32 _) (fun _=>rfl) rfl (by decide +kernel) (by decide +kernel) rfl rfl rfl (fun Z O=>body_ok O (n:=40) ?_)
  refine br_f (decide_eq_false (by omega)) ?_
  refine br_f (decide_eq_false (by omega)) ?_
  refine br_f rfl ?_
  refine ⟨by decide,by decide,by decide,?_⟩
  refine j_bytesL (l:=[Builtin.bitAnd n 255,Builtin.bitAnd (n.fdiv (2 ^ 8)) 255,Builtin.bitAnd (n.fdiv (2 ^ 16)) 255,n.fdiv (2 ^ 24)]) O rfl ?_ (by simp) ?_
  · simp only [List.forall_mem_cons,bitAnd_m8]
    rw [Int.fdiv_eq_ediv_of_nonneg _ (by decide),Int.fdiv_eq_ediv_of_nonneg _ (by decide),Int.fdiv_eq_ediv_of_nonneg _ (by decide)]
    refine ⟨⟨by omega,by omega⟩,⟨by omega,by omega⟩,⟨by omega,by omega⟩,⟨by omega,by omega⟩,fun _ h=>nomatch h⟩
  · exact fin_det [] rfl rfl rfl ⟨rfl,rfl⟩ rfl rfl
theorem f_put_fixed64 (n:Int) (h0:0 ≤ n) (h1:n ≤ 18446744073709551615):FnC (WK V) 2 129 [.int n] [] (Det (.bytes (fix32 (Builtin.bitAnd n 4294967295)++fix32 (n.fdiv (2 ^ 32)))) []):=by
  refine enter [x_n] (WK_holds ..) (lk_put_fixed64 _) (cd_put_fixed64 _) (fun _=>rfl) rfl (by decide +kernel) (by decide +kernel) rfl rfl rfl (fun Z O=>body_ok O (n:=40) ?_)
  refine br_f (decide_eq_false (by omega)) ?_
  refine br_f (decide_eq_false (by omega)) ?_
  refine br_f rfl ?_
  refine call_of (args2:=[.int (Builtin.bitAnd n 4294967295)]) [] (f_put_fixed32 _ (by rw [bitAnd_m32];omega) (by rw [bitAnd_m32];omega)).toR O rfl rfl rfl ⟨rfl,rfl⟩ rfl rfl ?_
  refine ⟨by decide,?_⟩
  refine call_of (args2:=[.int (n.fdiv (2 ^ 32))]) [] (f_put_fixed32 _ (by rw [Int.fdiv_eq_ediv_of_nonneg _ (by decide)];omega) (by rw [Int.fdiv_eq_ediv_of_nonneg _ (by decide)];omega)).toR O rfl rfl rfl ⟨rfl,rfl⟩ rfl rfl ?_
  refine j_addB (by simp [fix32,rowB]) ?_
  exact fin_det [] rfl rfl rfl ⟨rfl,rfl⟩ rfl rfl
end
end Mine
end
section
namespace Mine
noncomputable def vint (n:Int):List UInt8:=if n < 128 then rowB [n] else rowB [Builtin.bitOr (Builtin.bitAnd n 127) 128,n.fdiv (2 ^ 7)]
theorem bitOr_128:∀ x:Int,0 ≤ x→x < 128→Builtin.bitOr x 128 = x + 128:=by
  intro x h0 h1
  obtain ⟨n,rfl⟩:=Int.eq_ofNat_of_zero_le h0
  have:n < 128:=by lia
  have all:∀ n:_root_.Fin 128,Builtin.bitOr (n.val:Int) 128 = (n.val:Int) + 128:=by decide +kernel
  exact all ⟨n,this⟩
section
variable {V:Vs}
theorem f_write_groups (n M:Int) (h0:128 ≤ n) (h1:n < 16384) (hM:16384 ≤ M):FnC (WK V) 1 101 [.int n,.int M] [] (Det (.bytes (vint n)) []):=by
  refine enter [x_n,x_most] (WK_holds ..) (lk_write_groups _) (cd_write_groups _) (fun _ _=>rfl) rfl (by decide +kernel) (by decide +kernel) rfl rfl rfl (fun Z O=>body_ok O (n:=40) ?_)
  refine br_f (decide_eq_false (by lia)) ?_
  refine br_f (decide_eq_false (by lia)) ?_
  refine br_f rfl ?_
  refine j_bytearray0 O ?_
  have e7:n.fdiv (2 ^ 7) = n / 128:=Int.fdiv_eq_ediv_of_nonneg _ (by decide)
  have ea:Builtin.bitAnd n 127 = n % 128:=bitAnd_m7 n
  have eo:=bitOr_128 (n % 128) (by lia) (by lia)
  refine j_while O (fun m st=>(m = 1∧st = ⟨[(x_most,.int M),(x_n,.int n),(x_out,.ref 0)],[.ba []]⟩) ∨ (m = 0∧st = ⟨[(x_most,.int M),(x_n,.int (n.fdiv (2 ^ 7))),(x_out,.ref 0)],[.ba (rowB [Builtin.bitOr (Builtin.bitAnd n 127) 128])]⟩)) ?_ 1 (Or.inl (Or.inl ⟨rfl,rfl⟩))
  have O':=O.inner (Nat.le_refl _) Z.r0
  rintro m st (⟨rfl,rfl⟩ | ⟨rfl,rfl⟩)
  · refine br_t (decide_eq_true (by lia)) ?_
    refine OpS.of ?_
    refine j_baAppend O' rfl (by rw [ea,eo];lia) (by rw [ea,eo];lia) (by simp) ?_
    refine ⟨by decide,?_⟩
    exact ⟨0,by decide,Or.inl (Or.inr ⟨rfl,rfl⟩)⟩
  · refine br_f (decide_eq_false (by rw [e7];lia)) ?_
    refine OpS.of ?_
    refine j_baAppend O rfl (by rw [e7];lia) (by rw [e7];lia) (by simp [rowB]) ?_
    refine j_bytesBa O rfl (by simp [rowB]) ?_
    refine fin_det [] rfl rfl rfl ⟨rfl,rfl⟩ ?_ rfl
    show SV.bytes _ = SV.bytes _
    rw [vint,if_neg (by lia)];rfl
theorem f_put_varint (n:Int) (h0:0 ≤ n) (h1:n < 16384):FnC (WK V) 2 108 [.int n] [] (Det (.bytes (vint n)) []):=by
  refine enter [x_n] (WK_holds ..) (lk_put_varint _) (cd_put_varint _) (fun _=>rfl) rfl (by decide +kernel) (by decide +kernel) rfl rfl rfl (fun Z O=>body_ok O (n:=40) ?_)
  refine br_t (decide_eq_true (by lia)) ?_
  by_cases h:n < 128
  · refine br_t (decide_eq_true h) ?_
    refine br_t rfl ?_
    refine j_bytesL (l:=[n]) O rfl (by simp;lia) (by simp) ?_
    refine fin_det [] rfl rfl rfl ⟨rfl,rfl⟩ ?_ rfl
    show SV.bytes _ = SV.bytes _
    rw [vint,if_pos h]
  · refine br_f (decide_eq_false h) ?_
    refine br_f rfl ?_
    refine call_of (args2:=[.int n,.int 18446744073709551615]) [] (f_write_groups n _ (by lia) h1 (by decide)).toR O rfl rfl rfl ⟨rfl,rfl⟩ rfl rfl ?_
    exact fin_det [] rfl rfl rfl ⟨rfl,rfl⟩ rfl rfl
theorem f_put_varint32 (n:Int) (h0:0 ≤ n) (h1:n < 128):FnC (WK V) 2 115 [.int n] [] (Det (.bytes (rowB [n])) []):=by
  refine enter [x_n] (WK_holds ..) (lk_put_varint32 _) (cd_put_varint32 _) (fun _=>rfl) rfl (by decide +kernel) (by decide +kernel) rfl rfl rfl (fun Z O=>body_ok O (n:=40) ?_)
  refine br_t (decide_eq_true (by lia)) ?_
  refine br_t (decide_eq_true h1) ?_
  refine br_t rfl ?_
  refine j_bytesL (l:=[n]) O rfl (by simp;lia) (by simp) ?_
  exact fin_det [] rfl rfl rfl ⟨rfl,rfl⟩ rfl rfl
end
end Mine
end
section
namespace Mine
theorem shl_ok {a b:Int} (h1:-(2 ^ 64) < a) (h2:a < 2 ^ 64) (h3:b ≤ 64):(Builtin.Int.intBits a:Int) + b ≤ 2 ^ 27:=by
  have:=intBits_le_64 h1 h2
  lia
theorem octet_lt (b:List UInt8) (i:Int):0 ≤ octet b i∧octet b i < 256:=by
  unfold octet
  have:=(b.getD i.toNat 0).toNat_lt
  lia
theorem bitOr_nn {x y:Int} (hx:0 ≤ x) (hy:0 ≤ y):0 ≤ Builtin.bitOr x y∧Builtin.bitOr x y ≤ x + y:=by
  rw [bitOr_and]
  have:=bitAnd_range x hy
  lia
noncomputable def rd32 (b:List UInt8) (i:Int):Int :=
  Builtin.bitOr (Builtin.bitOr (Builtin.bitOr (octet b i) (octet b (i + 1) * 2 ^ 8)) (octet b (i + 2) * 2 ^ 16)) (octet b (i + 3) * 2 ^ 24)
theorem rd32_lt (b:List UInt8) (i:Int):0 ≤ rd32 b i∧rd32 b i < 2 ^ 32:=by
  have h0:=octet_lt b i
  have h1:=octet_lt b (i + 1)
  have h2:=octet_lt b (i + 2)
  have h3:=octet_lt b (i + 3)
  have a1:=bitOr_nn (x:=octet b i) (y:=octet b (i + 1) * 2 ^ 8) (by lia) (by lia)
  have a2:=bitOr_nn (x:=Builtin.bitOr (octet b i) (octet b (i + 1) * 2 ^ 8)) (y:=octet b (i + 2) * 2 ^ 16) (by lia) (by lia)
  have a3:=bitOr_nn (x:=Builtin.bitOr (Builtin.bitOr (octet b i) (octet b (i + 1) * 2 ^ 8)) (octet b (i + 2) * 2 ^ 16)) (y:=octet b (i + 3) * 2 ^ 24) (by lia) (by lia)
  exact rd_ar h0 h1 h2 h3 a1 a2 a3
noncomputable def rd64 (b:List UInt8) (i:Int):Int:=Builtin.bitOr (rd32 b i) (rd32 b (i + 4) * 2 ^ 32)
noncomputable def csum (b:List UInt8):Int:=Builtin.bitAnd ((b.map fun c=>(c.toNat:Int)).sum * 251 + b.length * 65537 + 7) 4294967295
noncomputable def sealB (c:List UInt8):List UInt8:=(c++rowB [0])++fix32 (csum (c++rowB [0]))
noncomputable def userOf (ik:List UInt8):List UInt8:=cut ik none (some ((ik.length:Int) - 8))
noncomputable def tagOf (ik:List UInt8):Int:=rd64 ik ((ik.length:Int) - 8)
section
variable {V:Vs}
theorem f_read_fixed32 (b:List UInt8) (i:Int) (h0:0 ≤ i) (h1:i + 4 ≤ b.length) (hz:b.length ≤ 1000000):FnC (WK V) 1 136 [.bytes b,.int i] [] (Det (.int (rd32 b i)) []):=by
  refine enter [x_data,x_at] (WK_holds ..) (lk_read_fixed32 _) (cd_read_fixed32 _) (fun _ _=>rfl) rfl (by decide +kernel) (by decide +kernel) rfl rfl rfl (fun Z O=>body_ok O (n:=40) ?_)
  refine br_f (decide_eq_false (by lia)) ?_
  refine j_lenB hz ?_
  refine br_f (decide_eq_false (by lia)) ?_
  refine br_f rfl ?_
  have a0:=octet_lt b i
  have a1:=octet_lt b (i + 1)
  have a2:=octet_lt b (i + 2)
  have a3:=octet_lt b (i + 3)
  refine j_itemB h0 (by lia) hz ?_
  refine j_itemB (i:=i + 1) (by lia) (by lia) hz ?_
  refine ⟨by decide,shl_ok (by lia) (by lia) (by decide),?_⟩
  refine j_itemB (i:=i + 2) (by lia) (by lia) hz ?_
  refine ⟨by decide,shl_ok (by lia) (by lia) (by decide),?_⟩
  refine j_itemB (i:=i + 3) (by lia) (by lia) hz ?_
  refine ⟨by decide,shl_ok (by lia) (by lia) (by decide),?_⟩
  exact fin_det [] rfl rfl rfl ⟨rfl,rfl⟩ rfl rfl
theorem f_read_fixed64 (b:List UInt8) (i:Int) (h0:0 ≤ i) (h1:i + 8 ≤ b.length) (hz:b.length ≤ 1000000):FnC (WK V) 2 143 [.bytes b,.int i] [] (Det (.int (rd64 b i)) []):=by
  refine enter [x_data,x_at] (WK_holds ..) (lk_read_fixed64 _) (cd_read_fixed64 _) (fun _ _=>rfl) rfl (by decide +kernel) (by decide +kernel) rfl rfl rfl (fun Z O=>body_ok O (n:=40) ?_)
  refine br_f (decide_eq_false (by lia)) ?_
  refine j_lenB hz ?_
  refine br_f (decide_eq_false (by lia)) ?_
  refine br_f rfl ?_
  refine call_of (args2:=[.bytes b,.int i]) [] (f_read_fixed32 b i h0 (by lia) hz).toR O rfl rfl rfl ⟨rfl,rfl⟩ rfl rfl ?_
  refine call_of (args2:=[.bytes b,.int (i + 4)]) [] (f_read_fixed32 b (i + 4) (by lia) (by lia) hz).toR O rfl rfl rfl ⟨rfl,rfl⟩ rfl rfl ?_
  have:=rd32_lt b (i + 4)
  refine ⟨by decide,shl_ok (by lia) (by lia) (by decide),?_⟩
  exact fin_det [] rfl rfl rfl ⟨rfl,rfl⟩ rfl rfl
theorem f_checksum (b:List UInt8) (hz:b.length ≤ 1000000):FnC (WK V) 1 172 [.int 2,.bytes b] [] (Det (.int (csum b)) []):=by
  refine enter [x_kind,x_data] (WK_holds ..) (lk_checksum _) (cd_checksum _) (fun _ _=>rfl) rfl (by decide +kernel) (by decide +kernel) rfl rfl rfl (fun Z O=>body_ok O (n:=40) ?_)
  refine br_f rfl ?_
  refine br_t rfl ?_
  refine j_sumB O hz ?_
  refine ⟨IntMulOk.of_right (by decide),?_⟩
  refine j_lenB hz ?_
  refine ⟨IntMulOk.of_right (by decide),?_⟩
  exact fin_det [] rfl rfl rfl ⟨rfl,rfl⟩ rfl rfl
theorem f_seal_block (c:List UInt8) (hz:c.length ≤ 100000):FnC (WK V) 2 469 [.bytes c,.int 2] [] (Det (.bytes (sealB c)) []):=by
  refine enter [x_content,x_check] (WK_holds ..) (lk_seal_block _) (cd_seal_block _) (fun _ _=>rfl) rfl (by decide +kernel) (by decide +kernel) rfl rfl rfl (fun Z O=>body_ok O (n:=40) ?_)
  refine j_bytesB ?_
  refine j_bytesL (l:=[0]) O rfl (by simp) (by simp) ?_
  have hl:(c++rowB [0]).length ≤ 100001:=by simp [rowB];lia
  refine j_addB (by simp [rowB];lia) ?_
  refine call_of (args2:=[.int 2,.bytes (c++rowB [0])]) [] (f_checksum _ (by lia)).toR O rfl rfl rfl ⟨rfl,rfl⟩ rfl rfl ?_
  refine call_of (args2:=[.int (csum (c++rowB [0]))]) [] (f_put_fixed32 _ (by rw [csum,bitAnd_m32];lia) (by rw [csum,bitAnd_m32];lia)).toR O rfl rfl rfl ⟨rfl,rfl⟩ rfl rfl ?_
  refine j_addB (by simp [rowB,fix32];lia) ?_
  exact fin_det [] rfl rfl rfl ⟨rfl,rfl⟩ rfl rfl
theorem f_pack_tag:FnC (WK V) 1 186 [.int 72057594037927935,.int 1] [] (Det (.int 18446744073709551361) []):=by
  refine enter [x_seq,x_kind] (WK_holds ..) (lk_pack_tag _) (cd_pack_tag _) (fun _ _=>rfl) rfl (by decide +kernel) (by decide +kernel) rfl rfl rfl (fun Z O=>body_ok O (n:=40) ?_)
  refine br_f rfl ?_
  refine br_f rfl ?_
  refine br_f rfl ?_
  refine br_t rfl ?_
  refine br_f rfl ?_
  refine br_f rfl ?_
  refine ⟨by decide,shl_ok (by decide) (by decide) (by decide),?_⟩
  exact fin_det [] rfl rfl rfl ⟨rfl,rfl⟩ rfl rfl
theorem f_user_of (ik:List UInt8) (h:8 ≤ ik.length) (hz:ik.length ≤ 1000000):FnC (WK V) 1 193 [.bytes ik] [] (Det (.bytes (userOf ik)) []):=by
  refine enter [x_ik] (WK_holds ..) (lk_user_of _) (cd_user_of _) (fun _=>rfl) rfl (by decide +kernel) (by decide +kernel) rfl rfl rfl (fun Z O=>body_ok O (n:=40) ?_)
  refine j_lenB hz ?_
  refine br_f (decide_eq_false (by lia)) ?_
  refine j_slice O ?_
  refine j_lenB hz ?_
  refine ⟨hz,?_⟩
  refine j_bytesB ?_
  exact fin_det [] rfl rfl rfl ⟨rfl,rfl⟩ rfl rfl
theorem f_tag_of (ik:List UInt8) (h:8 ≤ ik.length) (hz:ik.length ≤ 1000000):FnC (WK V) 3 200 [.bytes ik] [] (Det (.int (tagOf ik)) []):=by
  refine enter [x_ik] (WK_holds ..) (lk_tag_of _) (cd_tag_of _) (fun _=>rfl) rfl (by decide +kernel) (by decide +kernel) rfl rfl rfl (fun Z O=>body_ok O (n:=40) ?_)
  refine j_lenB hz ?_
  refine br_f (decide_eq_false (by lia)) ?_
  refine j_lenB hz ?_
  refine call_of (args2:=[.bytes ik,.int ((ik.length:Int) - 8)]) [] (f_read_fixed64 _ _ (by lia) (by lia) hz).toR O rfl rfl rfl ⟨rfl,rfl⟩ rfl rfl ?_
  exact fin_det [] rfl rfl rfl ⟨rfl,rfl⟩ rfl rfl
end
end Mine
end
section
namespace Mine
theorem makeC0 {W : Wd} {lvl : Nat} {C : Addr} {objs : List SObj} (hm : makesIn W.K C = true) (hi : findIn W.K (.ref C) "__init__" = some (some (.builtin "object.__init__"))) : FnC W (lvl + 1) C [] objs (Det (.ref objs.length) (objs ++ [.inst C []])) := by
  intro A g u ρ s vs hr hK hT R r
  cases r
  obtain ⟨hh,gn,d,t,os⟩:=s
  have KS:W.K.In hh:=by obtain ⟨⟨chs,a,_⟩,_⟩:=R;exact hK.keeps a
  refine r_make (makes_of KS hm) (looks_findIn KS hi) (fun self=>Looks.of_pure (oi_bind self)) (.inr ⟨rfl,rfl⟩) ?_
  obtain ⟨ρ1,e1,e2,R1⟩:=R.push2 (C:=C)
  have hx:((hh.push emptyDict).push (instObj C hh.objs.size)).get? (hh.objs.size + 1) = some (instObj C hh.objs.size):=by heap_get
  have t1:Looks (model W.prog W.w) ((hh.push emptyDict).push (instObj C hh.objs.size)) (typeOf (.ref (hh.objs.size + 1))) (.ref C):=(Looks.ld hx).andThen .now
  have t2 : Looks (model W.prog W.w) ((hh.push emptyDict).push (instObj C hh.objs.size)) (isInstance (.ref (hh.objs.size + 1)) (.type "object")) true := t1.andThen ((makes_of (M := model W.prog W.w) KS hm).top.keeps fun b o e => Heap.get?_push_of_some _ (Heap.get?_push_of_some _ e))
  refine codeR.of (codeAny_call_builtin oi_plain entry_oi (@check_slot (model W.prog W.w) _ _ _ "object.__init__" "object" "__init__" (.ref (hh.objs.size + 1)) [] [] _ oi_kind oi_split t2 (oi_args (.ref (hh.objs.size + 1))) ?_))
  rw [oi_run]
  refine wpAny_pure (And.intro rfl ?_)
  refine ⟨ρ1,.ref objs.length,_,fun i q _=>e1 i q,by simp,R1,⟨by simp,?_⟩,rfl,rfl⟩
  rw [e2]
theorem cut_le {α:Type} (l:List α) (lo hi:Option Int):(cut l lo hi).length ≤ l.length:=by unfold cut;rw [List.length_take,List.length_drop];exact Nat.le_trans (Nat.min_le_right _ _) (Nat.sub_le _ _)
noncomputable def cpl:List UInt8→List UInt8→Nat
  | x :: a,y :: b=>if x = y then cpl a b + 1 else 0
  | _,_=>0
theorem cpl_le:∀ a b:List UInt8,cpl a b ≤ a.length∧cpl a b ≤ b.length
  | [],b=>by simp [cpl]
  | x :: a,[]=>by simp [cpl]
  | x :: a,y :: b=>by
    unfold cpl
    have:=cpl_le a b
    split <;> simp <;> lia
theorem cpl_eq:∀ (a b:List UInt8) (i:Nat),i < cpl a b→a.getD i 0 = b.getD i 0
  | [],b,i,h=>by simp [cpl] at h
  | x :: a,[],i,h=>by simp [cpl] at h
  | x :: a,y :: b,i,h=>by
    unfold cpl at h
    split at h
    · rename_i e
      cases i with
      | zero=>simpa using e
      | succ i=>simpa using cpl_eq a b i (by lia)
    · lia
theorem cpl_ne:∀ (a b:List UInt8),cpl a b < a.length→cpl a b < b.length→a.getD (cpl a b) 0 ≠ b.getD (cpl a b) 0
  | [],b,h,_=>by simp [cpl] at h
  | x :: a,[],_,h=>by simp [cpl] at h
  | x :: a,y :: b,h1,h2=>by
    unfold cpl at h1 h2 ⊢
    split
    · rename_i e
      rw [if_pos e] at h1 h2
      simpa using cpl_ne a b (by simpa using h1) (by simpa using h2)
    · rename_i e
      simpa using e
theorem octet_at (b:List UInt8) (i:Nat):octet b (i:Int) = (b.getD i 0).toNat:=by unfold octet;simp
theorem octet_cpl {a b:List UInt8} {i:Nat} (h:i < cpl a b):octet a i = octet b i:=by rw [octet_at,octet_at,cpl_eq a b i h]
theorem octet_cpl_ne {a b:List UInt8} (h1:cpl a b < a.length) (h2:cpl a b < b.length):octet a (cpl a b:Nat) ≠ octet b (cpl a b:Nat):=by
  rw [octet_at,octet_at]
  intro e
  exact cpl_ne a b h1 h2 (UInt8.toNat_inj.mp (by lia))
noncomputable def cmpB (a b:List UInt8):Int:=if ltB a b then -1 else if gtB a b then 1 else 0
noncomputable def sepB (a b:List UInt8):List UInt8 :=
  if cpl a b = min a.length b.length then a
  else if octet a (cpl a b:Nat) < 255∧octet a (cpl a b:Nat) + 1 < octet b (cpl a b:Nat) then cut a none (some (cpl a b:Nat))++rowB [octet a (cpl a b:Nat) + 1] else a
section
variable {V:Vs}
theorem f_compareB (a b:List UInt8):FnC (WK V) 1 214 [.ref 0,.bytes a,.bytes b] [.inst c_BytesOrder []] (Det (.int (cmpB a b)) [.inst c_BytesOrder []]):=by
  refine enter [x_self,x_a,x_b] (WK_holds ..) (lk_Order_compare _) (cd_Order_compare _) (fun _ _ _=>rfl) rfl (by decide +kernel) (by decide +kernel) rfl rfl rfl (fun Z O=>body_ok O (n:=40) ?_)
  refine j_ltB ?_
  by_cases h1:ltB a b = true
  · refine br_t h1 ?_
    refine fin_det [0] rfl rfl rfl ⟨rfl,rfl⟩ ?_ rfl
    show SV.int _ = SV.int _
    rw [cmpB,if_pos h1]
  · have h1:=eq_false_of_ne_true h1
    refine br_f h1 ?_
    refine j_gtB ?_
    by_cases h2:gtB a b = true
    · refine br_t h2 ?_
      refine fin_det [0] rfl rfl rfl ⟨rfl,rfl⟩ ?_ rfl
      show SV.int _ = SV.int _
      simp [cmpB,h1,h2]
    · have h2:=eq_false_of_ne_true h2
      refine br_f h2 ?_
      refine fin_det [0] rfl rfl rfl ⟨rfl,rfl⟩ ?_ rfl
      show SV.int _ = SV.int _
      simp [cmpB,h1,h2]
theorem f_separatorB (a b:List UInt8) (hza:a.length ≤ 100000) (hzb:b.length ≤ 100000):FnC (WK V) 1 256 [.ref 0,.bytes a,.bytes b] [.inst c_BytesOrder []] (Det (.bytes (sepB a b)) [.inst c_BytesOrder []]):=by
  refine enter [x_self,x_a,x_b] (WK_holds ..) (lk_BytesOrder_separator _) (cd_BytesOrder_separator _) (fun _ _ _=>rfl) rfl (by decide +kernel) (by decide +kernel) rfl rfl rfl (fun Z O=>body_ok O (n:=40) ?_)
  have O':=O.inner (Nat.le_refl _) Z.r0
  have hc:=cpl_le a b
  refine j_lenB (by lia) ?_
  refine j_lenB (by lia) ?_
  refine j_min2 O ?_
  have hm:(if (b.length:Int) < a.length then (b.length:Int) else a.length) = (min a.length b.length:Nat):=(ite_min _ _).trans (congrArg Nat.cast (Nat.min_comm _ _))
  rw [hm]
  refine j_while O (fun m st=>∃ i:Nat,i ≤ cpl a b∧m = cpl a b - i∧st = ⟨[(x_b,.bytes b),(x_a,.bytes a),(x_self,.ref 0),(x_least,.int (min a.length b.length:Nat)),(x_at,.int (i:Nat))],[.inst c_BytesOrder []]⟩) ?_ (cpl a b) (Or.inl ⟨0,Nat.zero_le _,rfl,rfl⟩)
  rintro m st ⟨i,hi,rfl,rfl⟩
  by_cases hlt:i < cpl a b
  · refine br_t (decide_eq_true (by lia)) ?_
    refine j_itemB (by lia) (by lia) (by lia) ?_
    refine j_itemB (by lia) (by lia) (by lia) ?_
    refine br_t (by simpa using octet_cpl hlt) ?_
    refine br_t rfl ?_
    exact ⟨cpl a b - (i + 1),sub_lt2 hlt (Nat.lt_succ_self i),Or.inl ⟨i + 1,hlt,rfl,rfl⟩⟩
  · have:i = cpl a b:=by lia
    subst this
    by_cases hmin:cpl a b = min a.length b.length
    · refine br_f (decide_eq_false (by lia)) ?_
      refine br_f rfl ?_
      refine br_t (by simp;lia) ?_
      refine j_bytesB ?_
      refine fin_det [0] rfl rfl rfl ⟨rfl,rfl⟩ ?_ rfl
      show SV.bytes _ = SV.bytes _
      rw [sepB,if_pos hmin]
    · have q1:cpl a b < a.length:=by lia
      have q2:cpl a b < b.length:=by lia
      have hne:=octet_cpl_ne q1 q2
      refine br_t (decide_eq_true (by lia)) ?_
      refine j_itemB (by lia) (by lia) (by lia) ?_
      refine j_itemB (by lia) (by lia) (by lia) ?_
      refine br_f (by simpa using hne) ?_
      refine br_f rfl ?_
      refine br_f (by simp;lia) ?_
      refine j_itemB (by lia) (by lia) (by lia) ?_
      have ho:=octet_lt a (cpl a b:Nat)
      by_cases c1:octet a (cpl a b:Nat) < 255
      · refine br_t (decide_eq_true c1) ?_
        refine j_itemB (by lia) (by lia) (by lia) ?_
        refine j_itemB (by lia) (by lia) (by lia) ?_
        by_cases c2:octet a (cpl a b:Nat) + 1 < octet b (cpl a b:Nat)
        · refine br_t (decide_eq_true c2) ?_
          refine br_t rfl ?_
          refine j_slice O ?_
          refine ⟨by lia,?_⟩
          refine j_bytesB ?_
          refine j_itemB (by lia) (by lia) (by lia) ?_
          refine j_bytesL (l:=[octet a (cpl a b:Nat) + 1]) O rfl (by simp;lia) (by simp) ?_
          refine j_addB (by have:=cut_le a none (some (cpl a b:Nat));simp [rowB];lia) ?_
          refine fin_det [0] rfl rfl rfl ⟨rfl,rfl⟩ ?_ rfl
          show SV.bytes _ = SV.bytes _
          rw [sepB,if_neg hmin,if_pos ⟨c1,c2⟩]
        · refine br_f (decide_eq_false c2) ?_
          refine br_f rfl ?_
          refine j_bytesB ?_
          refine fin_det [0] rfl rfl rfl ⟨rfl,rfl⟩ ?_ rfl
          show SV.bytes _ = SV.bytes _
          rw [sepB,if_neg hmin,if_neg (fun q=>c2 q.2)]
      · refine br_f (decide_eq_false c1) ?_
        refine br_f rfl ?_
        refine j_bytesB ?_
        refine fin_det [0] rfl rfl rfl ⟨rfl,rfl⟩ ?_ rfl
        show SV.bytes _ = SV.bytes _
        rw [sepB,if_neg hmin,if_neg (fun q=>c1 q.1)]
end
end Mine
end
section
namespace Mine
theorem resel_of (ι:List Nat) {n0:Nat} {st st':St} (hb:idB n0 0 ι = true) (hl:st'.objs.length = ι.length) (hn:nodupN ι = true) (sel:selL (kap ι 0) st.objs st'.objs.length 0 st'.objs) (loc:locSel (kap ι 0) st'.objs.length st.loc st'.loc):ReSelW ι n0 st st' :=
  ⟨idB_kap hb,hl,(idB_at hb).1,hn,selG_of sel,loc⟩
noncomputable def n255:List UInt8→Nat
  | x :: r=>if x = 255 then n255 r + 1 else 0
  | []=>0
theorem n255_le:∀ a:List UInt8,n255 a ≤ a.length
  | []=>by simp [n255]
  | x :: r=>by unfold n255;have:=n255_le r;split <;> simp <;> lia
theorem n255_eq:∀ (a:List UInt8) (i:Nat),i < n255 a→a.getD i 0 = 255
  | [],i,h=>by simp [n255] at h
  | x :: r,i,h=>by
    unfold n255 at h
    split at h
    · rename_i e
      cases i with
      | zero=>simpa using e
      | succ i=>simpa using n255_eq r i (by lia)
    · lia
theorem n255_ne:∀ a:List UInt8,n255 a < a.length→a.getD (n255 a) 0 ≠ 255
  | [],h=>by simp [n255] at h
  | x :: r,h=>by
    unfold n255 at h ⊢
    split
    · rename_i e
      rw [if_pos e] at h
      simpa using n255_ne r (by simpa using h)
    · rename_i e
      simpa using e
theorem oct255 {a:List UInt8} {i:Nat} (h:i < n255 a):octet a (i:Nat) = 255:=by rw [octet_at,n255_eq a i h];rfl
theorem oct255_ne {a:List UInt8} (h:n255 a < a.length):octet a (n255 a:Nat) < 255:=by
  have h1:=octet_lt a (n255 a:Nat)
  have h2:octet a (n255 a:Nat) ≠ 255:=by
    rw [octet_at]
    intro e
    exact n255_ne a h (UInt8.toNat_inj.mp (by rw [show (255:UInt8).toNat = 255 from rfl];lia))
  lia
noncomputable def sucB (a:List UInt8):List UInt8:=if n255 a = a.length then a else cut a none (some (n255 a:Nat))++rowB [octet a (n255 a:Nat) + 1]
noncomputable def cmpI (a b:List UInt8):Int:=if cmpB (userOf a) (userOf b) = 0 then (if tagOf b < tagOf a then -1 else if tagOf a < tagOf b then 1 else 0) else cmpB (userOf a) (userOf b)
noncomputable def tagMax:List UInt8:=fix32 (Builtin.bitAnd 18446744073709551361 4294967295)++fix32 ((18446744073709551361:Int).fdiv (2 ^ 32))
noncomputable def dressI (a u sh:List UInt8):List UInt8:=if sh.length < u.length∧cmpB u sh < 0 then sh++tagMax else a
noncomputable def sepI (a b:List UInt8):List UInt8:=dressI a (userOf a) (sepB (userOf a) (userOf b))
noncomputable def sucI (a:List UInt8):List UInt8:=dressI a (userOf a) (sucB (userOf a))
theorem userOf_le (a:List UInt8):(userOf a).length ≤ a.length:=cut_le _ _ _
@[reducible] noncomputable def ordO (i:Nat):List SObj:=[.inst c_InternalOrder [(x_user_order,.ref i)],.inst c_BytesOrder []]
section
variable {V:Vs}
theorem f_successorB (a:List UInt8) (hza:a.length ≤ 100000):FnC (WK V) 1 263 [.ref 0,.bytes a] [.inst c_BytesOrder []] (Det (.bytes (sucB a)) [.inst c_BytesOrder []]):=by
  refine enter [x_self,x_a] (WK_holds ..) (lk_BytesOrder_successor _) (cd_BytesOrder_successor _) (fun _ _=>rfl) rfl (by decide +kernel) (by decide +kernel) rfl rfl rfl (fun Z O=>body_ok O (n:=40) ?_)
  have hn:=n255_le a
  refine j_forR O 0 a.length (by decide) (by lia) (fun i st=>i ≤ n255 a∧st = ⟨[(x_a,.bytes a),(x_self,.ref 0)],[.inst c_BytesOrder [],.raw (ritP (0 + (i:Nat)) ((a.length:Nat) - (i:Nat)))]⟩) ?_ ?_ ?_
  · refine j_lenB (by lia) ?_
    refine j_range1 ?_
    refine ⟨1,[0,2],_,rfl,by rw [Int.zero_add];rfl,?_,rfl,Nat.zero_le _,rfl⟩
    exact resel_of _ rfl rfl rfl ⟨rfl,rfl⟩ ⟨rfl,rfl⟩
  · rintro i st ⟨_,rfl⟩;rfl
  · rintro r i st ⟨hi,rfl⟩ hle
    refine ⟨fun e=>?_,fun hlt=>?_⟩
    · subst e
      refine j_bytesB ?_
      refine fin_det [0] rfl rfl rfl ⟨rfl,rfl⟩ ?_ rfl
      show SV.bytes _ = SV.bytes _
      rw [sucB,if_pos (by lia)]
    · have O':=O.inner (Nat.le_succ _) r
      refine j_itemB (by lia) (by lia) (by lia) ?_
      by_cases hc:i < n255 a
      · refine br_f (by rw [Int.zero_add,oct255 hc];rfl) ?_
        refine Or.inr ⟨_,⟨[0,1],?_⟩,by lia,rfl⟩
        exact resel_of _ rfl rfl rfl ⟨rfl,rfl⟩ ⟨rfl,rfl⟩
      · have:i = n255 a:=by lia
        subst this
        have ho:=oct255_ne (a:=a) (by lia)
        have ho2:=octet_lt a (n255 a:Nat)
        refine br_t (by rw [Int.zero_add];simp;lia) ?_
        refine j_slice O' ?_
        refine ⟨by lia,?_⟩
        refine j_bytesB ?_
        refine j_itemB (by lia) (by lia) (by lia) ?_
        rw [Int.zero_add]
        refine j_bytesL (l:=[octet a (n255 a:Nat) + 1]) O' rfl (by simp;lia) (by simp) ?_
        refine j_addB (by have:=cut_le a none (some (n255 a:Nat));simp [rowB];lia) ?_
        refine fin_det [0] rfl rfl rfl ⟨rfl,rfl⟩ ?_ rfl
        show SV.bytes _ = SV.bytes _
        rw [sucB,if_neg (by lia)]
theorem f_InternalOrder_init:FnC (WK V) 2 289 [.ref 0] [.inst c_InternalOrder []] (Det .none (ordO 1)):=by
  refine enter [x_self] (WK_holds ..) (lk_InternalOrder___init__ _) (cd_InternalOrder___init__ _) (fun _=>rfl) rfl (by decide +kernel) (by decide +kernel) rfl rfl rfl (fun Z O=>body_ok O (n:=40) ?_)
  refine call_of (args2:=[]) (objs2:=[]) [] (makeC0 (lvl:=0) (by kernel_rfl) (by kernel_rfl)).toR O rfl rfl rfl ⟨rfl,rfl⟩ rfl rfl ?_
  exact fin_det [0,1] rfl rfl rfl ⟨rfl,rfl⟩ rfl rfl
theorem f_compareI (a b:List UInt8) (ha:8 ≤ a.length) (hb:8 ≤ b.length) (hza:a.length ≤ 100000) (hzb:b.length ≤ 100000):FnC (WK V) 4 296 [.ref 0,.bytes a,.bytes b] (ordO 1) (Det (.int (cmpI a b)) (ordO 1)):=by
  refine enter [x_self,x_a,x_b] (WK_holds ..) (lk_InternalOrder_compare _) (cd_InternalOrder_compare _) (fun _ _ _=>rfl) rfl (by decide +kernel) (by decide +kernel) rfl rfl rfl (fun Z O=>body_ok O (n:=40) ?_)
  refine call_of (args2:=[.bytes a]) [] (f_user_of a ha (by lia)).toR O rfl rfl rfl ⟨rfl,rfl⟩ rfl rfl ?_
  refine call_of (args2:=[.bytes b]) [] (f_user_of b hb (by lia)).toR O rfl rfl rfl ⟨rfl,rfl⟩ rfl rfl ?_
  refine call_of (args2:=[.ref 0,.bytes (userOf a),.bytes (userOf b)]) [1] (f_compareB _ _).toR O rfl rfl rfl ⟨rfl,rfl⟩ rfl rfl ?_
  by_cases h0:cmpB (userOf a) (userOf b) = 0
  · refine br_f (by rw [h0];rfl) ?_
    refine call_of (args2:=[.bytes a]) [] (f_tag_of a ha (by lia)).toR O rfl rfl rfl ⟨rfl,rfl⟩ rfl rfl ?_
    refine call_of (args2:=[.bytes b]) [] (f_tag_of b hb (by lia)).toR O rfl rfl rfl ⟨rfl,rfl⟩ rfl rfl ?_
    by_cases h1:tagOf b < tagOf a
    · refine br_t (decide_eq_true h1) ?_
      refine fin_det [0,1] rfl rfl rfl ⟨rfl,rfl⟩ ?_ rfl
      show SV.int _ = SV.int _
      rw [cmpI,if_pos h0,if_pos h1]
    · refine br_f (decide_eq_false h1) ?_
      by_cases h2:tagOf a < tagOf b
      · refine br_t (decide_eq_true h2) ?_
        refine fin_det [0,1] rfl rfl rfl ⟨rfl,rfl⟩ ?_ rfl
        show SV.int _ = SV.int _
        rw [cmpI,if_pos h0,if_neg h1,if_pos h2]
      · refine br_f (decide_eq_false h2) ?_
        refine fin_det [0,1] rfl rfl rfl ⟨rfl,rfl⟩ ?_ rfl
        show SV.int _ = SV.int _
        rw [cmpI,if_pos h0,if_neg h1,if_neg h2]
  · refine br_t (by simpa using h0) ?_
    refine fin_det [0,1] rfl rfl rfl ⟨rfl,rfl⟩ ?_ rfl
    show SV.int _ = SV.int _
    rw [cmpI,if_neg h0]
theorem f_dressI (a u sh:List UInt8) (hza:a.length ≤ 100000) (hzu:u.length ≤ 100000) (hzs:sh.length ≤ 200000):FnC (WK V) 3 303 [.ref 0,.bytes a,.bytes u,.bytes sh] (ordO 1) (Det (.bytes (dressI a u sh)) (ordO 1)):=by
  refine enter [x_self,x_a,x_user,x_short] (WK_holds ..) (lk_InternalOrder_dress _) (cd_InternalOrder_dress _) (fun _ _ _ _=>rfl) rfl (by decide +kernel) (by decide +kernel) rfl rfl rfl (fun Z O=>body_ok O (n:=40) ?_)
  refine j_lenB (by lia) ?_
  refine j_lenB (by lia) ?_
  by_cases h1:sh.length < u.length
  · refine br_t (decide_eq_true (by lia)) ?_
    refine call_of (args2:=[.ref 0,.bytes u,.bytes sh]) [1] (f_compareB _ _).toR O rfl rfl rfl ⟨rfl,rfl⟩ rfl rfl ?_
    by_cases h2:cmpB u sh < 0
    · refine br_t (decide_eq_true h2) ?_
      refine br_t rfl ?_
      refine call_of (args2:=[.int 72057594037927935,.int 1]) [] f_pack_tag.toR O rfl rfl rfl ⟨rfl,rfl⟩ rfl rfl ?_
      refine call_of (args2:=[.int 18446744073709551361]) [] (f_put_fixed64 _ (by decide) (by decide)).toR O rfl rfl rfl ⟨rfl,rfl⟩ rfl rfl ?_
      refine j_addB (by simp [fix32,rowB];lia) ?_
      refine fin_det [0,1] rfl rfl rfl ⟨rfl,rfl⟩ ?_ rfl
      show SV.bytes _ = SV.bytes _
      rw [dressI,if_pos ⟨h1,h2⟩];rfl
    · refine br_f (decide_eq_false h2) ?_
      refine br_f rfl ?_
      refine j_bytesB ?_
      refine fin_det [0,1] rfl rfl rfl ⟨rfl,rfl⟩ ?_ rfl
      show SV.bytes _ = SV.bytes _
      rw [dressI,if_neg (fun q=>h2 q.2)]
  · refine br_f (decide_eq_false (by lia)) ?_
    refine br_f rfl ?_
    refine j_bytesB ?_
    refine fin_det [0,1] rfl rfl rfl ⟨rfl,rfl⟩ ?_ rfl
    show SV.bytes _ = SV.bytes _
    rw [dressI,if_neg (fun q=>h1 q.1)]
theorem sepB_le (a b:List UInt8):(sepB a b).length ≤ a.length + 1:=by
  unfold sepB
  split
  · lia
  · split
    · have:=cut_le a none (some ((cpl a b:Nat):Int))
      simp [rowB];lia
    · lia
theorem sucB_le (a:List UInt8):(sucB a).length ≤ a.length + 1:=by
  unfold sucB
  split
  · lia
  · have:=cut_le a none (some ((n255 a:Nat):Int))
    simp [rowB];lia
theorem f_separatorI (a b:List UInt8) (ha:8 ≤ a.length) (hb:8 ≤ b.length) (hza:a.length ≤ 90000) (hzb:b.length ≤ 90000):FnC (WK V) 4 310 [.ref 0,.bytes a,.bytes b] (ordO 1) (Det (.bytes (sepI a b)) (ordO 1)):=by
  have u1:=userOf_le a
  have u2:=userOf_le b
  have u3:=sepB_le (userOf a) (userOf b)
  refine enter [x_self,x_a,x_b] (WK_holds ..) (lk_InternalOrder_separator _) (cd_InternalOrder_separator _) (fun _ _ _=>rfl) rfl (by decide +kernel) (by decide +kernel) rfl rfl rfl (fun Z O=>body_ok O (n:=40) ?_)
  refine call_of (args2:=[.bytes a]) [] (f_user_of a ha (by lia)).toR O rfl rfl rfl ⟨rfl,rfl⟩ rfl rfl ?_
  refine call_of (args2:=[.bytes b]) [] (f_user_of b hb (by lia)).toR O rfl rfl rfl ⟨rfl,rfl⟩ rfl rfl ?_
  refine call_of (args2:=[.ref 0,.bytes (userOf a),.bytes (userOf b)]) [1] (f_separatorB _ _ (by lia) (by lia)).toR O rfl rfl rfl ⟨rfl,rfl⟩ rfl rfl ?_
  refine call_of (args2:=[.ref 0,.bytes a,.bytes (userOf a),.bytes (sepB (userOf a) (userOf b))]) [0,1] (f_dressI _ _ _ (by lia) (by lia) (by lia)).toR O rfl rfl rfl ⟨rfl,rfl⟩ rfl rfl ?_
  exact fin_det [0,1] rfl rfl rfl ⟨rfl,rfl⟩ rfl rfl
theorem f_successorI (a:List UInt8) (ha:8 ≤ a.length) (hza:a.length ≤ 90000):FnC (WK V) 4 317 [.ref 0,.bytes a] (ordO 1) (Det (.bytes (sucI a)) (ordO 1)):=by
  have u1:=userOf_le a
  have u3:=sucB_le (userOf a)
  refine enter [x_self,x_a] (WK_holds ..) (lk_InternalOrder_successor _) (cd_InternalOrder_successor _) (fun _ _=>rfl) rfl (by decide +kernel) (by decide +kernel) rfl rfl rfl (fun Z O=>body_ok O (n:=40) ?_)
  refine call_of (args2:=[.bytes a]) [] (f_user_of a ha (by lia)).toR O rfl rfl rfl ⟨rfl,rfl⟩ rfl rfl ?_
  refine call_of (args2:=[.ref 0,.bytes (userOf a)]) [1] (f_successorB _ (by lia)).toR O rfl rfl rfl ⟨rfl,rfl⟩ rfl rfl ?_
  refine call_of (args2:=[.ref 0,.bytes a,.bytes (userOf a),.bytes (sucB (userOf a))]) [0,1] (f_dressI _ _ _ (by lia) (by lia) (by lia)).toR O rfl rfl rfl ⟨rfl,rfl⟩ rfl rfl ?_
  exact fin_det [0,1] rfl rfl rfl ⟨rfl,rfl⟩ rfl rfl
end
end Mine
end
section
namespace Mine
structure Blk where
  iv:Int
  buf:List UInt8
  rs:List Int
  since:Int
  ents:Int
  fin:Bool
  last:List UInt8
@[reducible] noncomputable def blkO (b:Blk) (o bu rs:Nat):SObj:=.inst c_BlockBuilder [(x_interval,.int b.iv),(x_order,.ref o),(x_buffer,.ref bu),(x_restarts,.ref rs),(x_since,.int b.since),(x_entries,.int b.ents),(x_finished,.bool b.fin),(x_last_key,.bytes b.last)]
noncomputable def blk0 (iv:Int):Blk:=⟨iv,[],[0],0,0,false,[]⟩
noncomputable def blkNew (b:Blk) (key value:List UInt8) (sh:Int) (rs:List Int) (si:Int):Blk :=
  { iv:=b.iv,buf:=((((b.buf++rowB [sh])++rowB [(key.length:Int) - sh])++rowB [(value.length:Int)])++cut key (some sh) none)++value,rs:=rs,since:=si + 1,ents:=b.ents + 1,fin:=b.fin,last:=key }
noncomputable def blkAdd (b:Blk) (key value:List UInt8):Blk:=if b.since < b.iv then blkNew b key value (cpl b.last key:Nat) b.rs b.since else blkNew b key value 0 (b.rs++[(b.buf.length:Int)]) 0
noncomputable def blkEst (b:Blk):Int:=b.buf.length + 4 * b.rs.length + 4
noncomputable def blkFin (b:Blk):List UInt8:=(b.buf++b.rs.flatMap fix32)++fix32 b.rs.length
structure BlkOk (b:Blk):Prop where
  buf:b.buf.length ≤ 50000
  rs:b.rs.length ≤ 1000
  pl:∀ x ∈ b.rs,0 ≤ x∧x ≤ 4294967295
  last:b.last.length ≤ 120
@[reducible] noncomputable def blkL (b:Blk):List SObj:=[blkO b 3 1 2,.ba b.buf,.pl (ipl b.rs)]
@[reducible] noncomputable def bO:List SObj:=[.inst c_BytesOrder []]
theorem cpl_nil (b:List UInt8):cpl [] b = 0:=by simp [cpl]
section
variable {V:Vs}
theorem f_shared_prefix (a b:List UInt8) (hza:a.length ≤ 100000) (hzb:b.length ≤ 100000):FnC (WK V) 1 371 [.bytes a,.bytes b] [] (Det (.int (cpl a b:Nat)) []):=by
  refine enter [x_a,x_b] (WK_holds ..) (lk_shared_prefix _) (cd_shared_prefix _) (fun _ _=>rfl) rfl (by decide +kernel) (by decide +kernel) rfl rfl rfl (fun Z O=>body_ok O (n:=40) ?_)
  have O':=O.inner (Nat.le_refl _) Z.r0
  have hc:=cpl_le a b
  refine j_lenB (by lia) ?_
  refine j_lenB (by lia) ?_
  by_cases h:b.length < a.length
  · refine br_t (decide_eq_true (by lia)) ?_
    refine j_lenB (by lia) ?_
    refine j_while O (fun m st=>∃ (i:Nat) (M:Int),M = (min a.length b.length:Nat)∧i ≤ cpl a b∧m = cpl a b - i∧st = ⟨[(x_b,.bytes b),(x_a,.bytes a),(x_most,.int M),(x_at,.int (i:Nat))],[]⟩) ?_ (cpl a b) (Or.inl ⟨0,_,by lia,Nat.zero_le _,rfl,rfl⟩)
    rintro m st ⟨i,M,rfl,hi,rfl,rfl⟩
    by_cases hlt:i < cpl a b
    · refine br_t (decide_eq_true (by lia)) ?_
      refine j_itemB (by lia) (by lia) (by lia) ?_
      refine j_itemB (by lia) (by lia) (by lia) ?_
      refine br_t (by simpa using octet_cpl hlt) ?_
      refine br_t rfl ?_
      exact ⟨cpl a b - (i + 1),sub_lt2 hlt (Nat.lt_succ_self i),Or.inl ⟨i + 1,_,rfl,hlt,rfl,rfl⟩⟩
    · have:i = cpl a b:=by lia
      subst this
      by_cases hmin:cpl a b = min a.length b.length
      · refine br_f (decide_eq_false (by lia)) ?_
        refine br_f rfl ?_
        exact fin_det [] rfl rfl rfl ⟨rfl,rfl⟩ rfl rfl
      · have hne:=octet_cpl_ne (a:=a) (b:=b) (by lia) (by lia)
        refine br_t (decide_eq_true (by lia)) ?_
        refine j_itemB (by lia) (by lia) (by lia) ?_
        refine j_itemB (by lia) (by lia) (by lia) ?_
        refine br_f (by simpa using hne) ?_
        refine br_f rfl ?_
        exact fin_det [] rfl rfl rfl ⟨rfl,rfl⟩ rfl rfl
  · refine br_f (decide_eq_false (by lia)) ?_
    refine j_while O (fun m st=>∃ (i:Nat) (M:Int),M = (min a.length b.length:Nat)∧i ≤ cpl a b∧m = cpl a b - i∧st = ⟨[(x_b,.bytes b),(x_a,.bytes a),(x_most,.int M),(x_at,.int (i:Nat))],[]⟩) ?_ (cpl a b) (Or.inl ⟨0,_,by lia,Nat.zero_le _,rfl,rfl⟩)
    rintro m st ⟨i,M,rfl,hi,rfl,rfl⟩
    by_cases hlt:i < cpl a b
    · refine br_t (decide_eq_true (by lia)) ?_
      refine j_itemB (by lia) (by lia) (by lia) ?_
      refine j_itemB (by lia) (by lia) (by lia) ?_
      refine br_t (by simpa using octet_cpl hlt) ?_
      refine br_t rfl ?_
      exact ⟨cpl a b - (i + 1),sub_lt2 hlt (Nat.lt_succ_self i),Or.inl ⟨i + 1,_,rfl,hlt,rfl,rfl⟩⟩
    · have:i = cpl a b:=by lia
      subst this
      by_cases hmin:cpl a b = min a.length b.length
      · refine br_f (decide_eq_false (by lia)) ?_
        refine br_f rfl ?_
        exact fin_det [] rfl rfl rfl ⟨rfl,rfl⟩ rfl rfl
      · have hne:=octet_cpl_ne (a:=a) (b:=b) (by lia) (by lia)
        refine br_t (decide_eq_true (by lia)) ?_
        refine j_itemB (by lia) (by lia) (by lia) ?_
        refine j_itemB (by lia) (by lia) (by lia) ?_
        refine br_f (by simpa using hne) ?_
        refine br_f rfl ?_
        exact fin_det [] rfl rfl rfl ⟨rfl,rfl⟩ rfl rfl
theorem f_Handle_init (off sz:Int):FnC (WK V) 1 441 [.ref 0,.int off,.int sz] [.inst c_Handle []] (Det .none [.inst c_Handle [(x_offset,.int off),(x_size,.int sz)]]):=by
  refine enter [x_self,x_offset,x_size] (WK_holds ..) (lk_Handle___init__ _) (cd_Handle___init__ _) (fun _ _ _=>rfl) rfl (by decide +kernel) (by decide +kernel) rfl rfl rfl (fun Z O=>body_ok O (n:=40) ?_)
  exact fin_det [0] rfl rfl rfl ⟨rfl,rfl⟩ rfl rfl
theorem f_Handle_encode (off sz:Int) (h0:0 ≤ off) (h1:off < 16384) (h2:0 ≤ sz) (h3:sz < 16384):FnC (WK V) 3 448 [.ref 0] [.inst c_Handle [(x_offset,.int off),(x_size,.int sz)]] (Det (.bytes (vint off++vint sz)) [.inst c_Handle [(x_offset,.int off),(x_size,.int sz)]]):=by
  refine enter [x_self] (WK_holds ..) (lk_Handle_encode _) (cd_Handle_encode _) (fun _=>rfl) rfl (by decide +kernel) (by decide +kernel) rfl rfl rfl (fun Z O=>body_ok O (n:=40) ?_)
  have l1:∀ n:Int,(vint n).length ≤ 2:=fun n=>by unfold vint;split <;> simp [rowB]
  refine call_of (args2:=[.int off]) [] (f_put_varint off h0 h1).toR O rfl rfl rfl ⟨rfl,rfl⟩ rfl rfl ?_
  refine call_of (args2:=[.int sz]) [] (f_put_varint sz h2 h3).toR O rfl rfl rfl ⟨rfl,rfl⟩ rfl rfl ?_
  refine j_addB (by have:=l1 off;have:=l1 sz;lia) ?_
  exact fin_det [0] rfl rfl rfl ⟨rfl,rfl⟩ rfl rfl
theorem f_BB_init (iv:Int) (h:1 ≤ iv) {OO:List SObj} (hO:OO = ordO 1 ∨ OO = bO):FnC (WK V) 1 385 [.ref OO.length,.int iv,.ref 0] (OO++[.inst c_BlockBuilder []])
    (Det .none (OO++[blkO (blk0 iv) 0 (OO.length + 1) (OO.length + 2),.ba [],.pl (ipl [0])])):=by
  rcases hO with rfl | rfl <;>
  · refine enter [x_self,x_interval,x_order] (WK_holds ..) (lk_BlockBuilder___init__ _) (cd_BlockBuilder___init__ _) (fun _ _ _=>rfl) rfl (by decide +kernel) (by decide +kernel) rfl rfl rfl (fun Z O=>body_ok O (n:=40) ?_)
    refine br_f (decide_eq_false (by lia)) ?_
    refine j_bytearray0 O ?_
    first
      | exact fin_det [0,1,2,3,4] rfl rfl rfl ⟨rfl,rfl⟩ rfl rfl
      | exact fin_det [0,1,2,3] rfl rfl rfl ⟨rfl,rfl⟩ rfl rfl
theorem f_BB_reset (b:Blk):FnM (WK V) 1 392 [.ref 0] (blkL b++ordO 4) [1,2] (Det .none (blkL (blk0 b.iv)++ordO 4)):=by
  refine enter [x_self] (WK_holds ..) (lk_BlockBuilder_reset _) (cd_BlockBuilder_reset _) (fun _=>rfl) rfl (by decide +kernel) (by decide +kernel) rfl rfl rfl (fun Z O=>body_ok O (n:=40) ?_)
  refine j_bytearray0 O ?_
  exact fin_mv [0,5,6,3,4] rfl rfl rfl (selG_of ⟨rfl,rfl⟩) rfl rfl ⟨rfl,rfl⟩
theorem f_BB_empty (b:Blk):FnC (WK V) 1 399 [.ref 0] (blkL b++ordO 4) (Det (.bool (b.ents == 0)) (blkL b++ordO 4)):=by
  refine enter [x_self] (WK_holds ..) (lk_BlockBuilder_empty _) (cd_BlockBuilder_empty _) (fun _=>rfl) rfl (by decide +kernel) (by decide +kernel) rfl rfl rfl (fun Z O=>body_ok O (n:=40) ?_)
  exact fin_det [0,1,2,3,4] rfl rfl rfl ⟨rfl,rfl⟩ rfl rfl
theorem f_BB_estimate (b:Blk) (hb:BlkOk b):FnC (WK V) 1 406 [.ref 0] (blkL b++ordO 4) (Det (.int (blkEst b)) (blkL b++ordO 4)):=by
  have:=hb.buf
  have:=hb.rs
  refine enter [x_self] (WK_holds ..) (lk_BlockBuilder_estimate _) (cd_BlockBuilder_estimate _) (fun _=>rfl) rfl (by decide +kernel) (by decide +kernel) rfl rfl rfl (fun Z O=>body_ok O (n:=40) ?_)
  refine j_lenBa rfl (by lia) ?_
  refine j_lenP rfl (by simp [ipl];lia) ?_
  refine ⟨IntMulOk.of_left (by decide),?_⟩
  refine fin_det [0,1,2,3,4] rfl rfl rfl ⟨rfl,rfl⟩ ?_ rfl
  show SV.int _ = SV.int _
  simp [blkEst,ipl]
end
end Mine
end
section
namespace Mine
theorem ipl_snoc (l:List Int) (x:Int):ipl l++[PV.int x] = ipl (l++[x]):=by simp [ipl]
section
variable {V:Vs}
theorem f_BB_addI (b:Blk) (hb:BlkOk b) (hf:b.fin = false) (key value:List UInt8) (hk2:key.length ≤ 120) (hv:value.length ≤ 120) (hk1:8 ≤ key.length) (hc:0 < b.ents→8 ≤ b.last.length∧0 < cmpI key b.last) :
    FnC (WK V) 5 413 [.ref 0,.bytes key,.bytes value] (blkL b++ordO 4) (Det .none (blkL (blkAdd b key value)++ordO 4)):=by
  have hb1:=hb.buf
  have hb2:=hb.rs
  have hb3:=hb.last
  have hcp:=cpl_le b.last key
  by_cases he:0 < b.ents
  · by_cases hs:b.since < b.iv
    · skip
      simp only [blkAdd,if_pos hs]
      refine enter [x_self,x_key,x_value] (WK_holds ..) (lk_BlockBuilder_add _) (cd_BlockBuilder_add _) (fun _ _ _=>rfl) rfl (by decide +kernel) (by decide +kernel) rfl rfl rfl (fun Z O=>body_ok O (n:=40) ?_)
      refine br_f hf ?_
      refine br_t (decide_eq_true he) ?_
      refine callS (args2:=[.ref 0,.bytes key,.bytes b.last]) [3,4] (f_compareI _ _ hk1 (hc he).1 (by lia) (by lia)).toR O rfl rfl rfl ⟨rfl,rfl⟩ rfl rfl rfl ?_
      refine br_f (decide_eq_false (by have:=(hc he).2;lia)) ?_
      refine br_f rfl ?_
      refine br_t (decide_eq_true hs) ?_
      refine call0 (f_shared_prefix _ _ (by lia) (by lia)).toR O rfl rfl rfl ?_
      refine call0 (f_put_varint32 _ (by lia) (by lia)).toR O rfl rfl rfl ?_
      refine OpS.of ?_
      refine j_extend O rfl (by simp [rowB];lia) ?_
      refine j_lenB (by lia) ?_
      refine call0 (f_put_varint32 _ (by lia) (by lia)).toR O rfl rfl rfl ?_
      refine OpS.of ?_
      refine j_extend O rfl (by simp [rowB];lia) ?_
      refine j_lenB (by lia) ?_
      refine call0 (f_put_varint32 _ (by lia) (by lia)).toR O rfl rfl rfl ?_
      refine OpS.of ?_
      refine j_extend O rfl (by simp [rowB];lia) ?_
      refine j_slice O ?_
      refine ⟨by lia,?_⟩
      have hcut:=cut_le key (some (((cpl b.last key:Nat):Int))) none
      refine OpS.of ?_
      refine j_extend O rfl (by simp [rowB];lia) ?_
      refine OpS.of ?_
      refine j_extend O rfl (by simp [rowB];lia) ?_
      refine j_bytesB ?_
      exact fin_det [0,1,2,3,4] rfl rfl rfl ⟨rfl,rfl⟩ rfl rfl
    · skip
      simp only [blkAdd,if_neg hs]
      refine enter [x_self,x_key,x_value] (WK_holds ..) (lk_BlockBuilder_add _) (cd_BlockBuilder_add _) (fun _ _ _=>rfl) rfl (by decide +kernel) (by decide +kernel) rfl rfl rfl (fun Z O=>body_ok O (n:=40) ?_)
      refine br_f hf ?_
      refine br_t (decide_eq_true he) ?_
      refine callS (args2:=[.ref 0,.bytes key,.bytes b.last]) [3,4] (f_compareI _ _ hk1 (hc he).1 (by lia) (by lia)).toR O rfl rfl rfl ⟨rfl,rfl⟩ rfl rfl rfl ?_
      refine br_f (decide_eq_false (by have:=(hc he).2;lia)) ?_
      refine br_f rfl ?_
      refine br_f (decide_eq_false hs) ?_
      refine j_lenBa rfl (by lia) ?_
      refine OpS.of ?_
      refine j_lsAppendP (x:=.int _) rfl (by simp [ipl];lia) ?_
      rw [ipl_snoc]
      refine call0 (f_put_varint32 _ (by lia) (by lia)).toR O rfl rfl rfl ?_
      refine OpS.of ?_
      refine j_extend O rfl (by simp [rowB];lia) ?_
      refine j_lenB (by lia) ?_
      refine call0 (f_put_varint32 _ (by lia) (by lia)).toR O rfl rfl rfl ?_
      refine OpS.of ?_
      refine j_extend O rfl (by simp [rowB];lia) ?_
      refine j_lenB (by lia) ?_
      refine call0 (f_put_varint32 _ (by lia) (by lia)).toR O rfl rfl rfl ?_
      refine OpS.of ?_
      refine j_extend O rfl (by simp [rowB];lia) ?_
      refine j_slice O ?_
      refine ⟨by lia,?_⟩
      have hcut:=cut_le key (some (0)) none
      refine OpS.of ?_
      refine j_extend O rfl (by simp [rowB];lia) ?_
      refine OpS.of ?_
      refine j_extend O rfl (by simp [rowB];lia) ?_
      refine j_bytesB ?_
      exact fin_det [0,1,2,3,4] rfl rfl rfl ⟨rfl,rfl⟩ rfl rfl
  · by_cases hs:b.since < b.iv
    · skip
      simp only [blkAdd,if_pos hs]
      refine enter [x_self,x_key,x_value] (WK_holds ..) (lk_BlockBuilder_add _) (cd_BlockBuilder_add _) (fun _ _ _=>rfl) rfl (by decide +kernel) (by decide +kernel) rfl rfl rfl (fun Z O=>body_ok O (n:=40) ?_)
      refine br_f hf ?_
      refine br_f (decide_eq_false he) ?_
      refine br_f rfl ?_
      refine br_t (decide_eq_true hs) ?_
      refine call0 (f_shared_prefix _ _ (by lia) (by lia)).toR O rfl rfl rfl ?_
      refine call0 (f_put_varint32 _ (by lia) (by lia)).toR O rfl rfl rfl ?_
      refine OpS.of ?_
      refine j_extend O rfl (by simp [rowB];lia) ?_
      refine j_lenB (by lia) ?_
      refine call0 (f_put_varint32 _ (by lia) (by lia)).toR O rfl rfl rfl ?_
      refine OpS.of ?_
      refine j_extend O rfl (by simp [rowB];lia) ?_
      refine j_lenB (by lia) ?_
      refine call0 (f_put_varint32 _ (by lia) (by lia)).toR O rfl rfl rfl ?_
      refine OpS.of ?_
      refine j_extend O rfl (by simp [rowB];lia) ?_
      refine j_slice O ?_
      refine ⟨by lia,?_⟩
      have hcut:=cut_le key (some (((cpl b.last key:Nat):Int))) none
      refine OpS.of ?_
      refine j_extend O rfl (by simp [rowB];lia) ?_
      refine OpS.of ?_
      refine j_extend O rfl (by simp [rowB];lia) ?_
      refine j_bytesB ?_
      exact fin_det [0,1,2,3,4] rfl rfl rfl ⟨rfl,rfl⟩ rfl rfl
    · skip
      simp only [blkAdd,if_neg hs]
      refine enter [x_self,x_key,x_value] (WK_holds ..) (lk_BlockBuilder_add _) (cd_BlockBuilder_add _) (fun _ _ _=>rfl) rfl (by decide +kernel) (by decide +kernel) rfl rfl rfl (fun Z O=>body_ok O (n:=40) ?_)
      refine br_f hf ?_
      refine br_f (decide_eq_false he) ?_
      refine br_f rfl ?_
      refine br_f (decide_eq_false hs) ?_
      refine j_lenBa rfl (by lia) ?_
      refine OpS.of ?_
      refine j_lsAppendP (x:=.int _) rfl (by simp [ipl];lia) ?_
      rw [ipl_snoc]
      refine call0 (f_put_varint32 _ (by lia) (by lia)).toR O rfl rfl rfl ?_
      refine OpS.of ?_
      refine j_extend O rfl (by simp [rowB];lia) ?_
      refine j_lenB (by lia) ?_
      refine call0 (f_put_varint32 _ (by lia) (by lia)).toR O rfl rfl rfl ?_
      refine OpS.of ?_
      refine j_extend O rfl (by simp [rowB];lia) ?_
      refine j_lenB (by lia) ?_
      refine call0 (f_put_varint32 _ (by lia) (by lia)).toR O rfl rfl rfl ?_
      refine OpS.of ?_
      refine j_extend O rfl (by simp [rowB];lia) ?_
      refine j_slice O ?_
      refine ⟨by lia,?_⟩
      have hcut:=cut_le key (some (0)) none
      refine OpS.of ?_
      refine j_extend O rfl (by simp [rowB];lia) ?_
      refine OpS.of ?_
      refine j_extend O rfl (by simp [rowB];lia) ?_
      refine j_bytesB ?_
      exact fin_det [0,1,2,3,4] rfl rfl rfl ⟨rfl,rfl⟩ rfl rfl
theorem f_BB_addM (b:Blk) (hb:BlkOk b) (hf:b.fin = false) (key value:List UInt8) (hk2:key.length ≤ 120) (hv:value.length ≤ 120) (he:b.ents = 0) :
    FnC (WK V) 5 413 [.ref 0,.bytes key,.bytes value] (blkL b++bO) (Det .none (blkL (blkAdd b key value)++bO)):=by
  have hb1:=hb.buf
  have hb2:=hb.rs
  have hb3:=hb.last
  have hcp:=cpl_le b.last key
  by_cases hs:b.since < b.iv
  · skip
    simp only [blkAdd,if_pos hs]
    refine enter [x_self,x_key,x_value] (WK_holds ..) (lk_BlockBuilder_add _) (cd_BlockBuilder_add _) (fun _ _ _=>rfl) rfl (by decide +kernel) (by decide +kernel) rfl rfl rfl (fun Z O=>body_ok O (n:=40) ?_)
    refine br_f hf ?_
    refine br_f (decide_eq_false (by lia)) ?_
    refine br_f rfl ?_
    refine br_t (decide_eq_true hs) ?_
    refine call0 (f_shared_prefix _ _ (by lia) (by lia)).toR O rfl rfl rfl ?_
    refine call0 (f_put_varint32 _ (by lia) (by lia)).toR O rfl rfl rfl ?_
    refine OpS.of ?_
    refine j_extend O rfl (by simp [rowB];lia) ?_
    refine j_lenB (by lia) ?_
    refine call0 (f_put_varint32 _ (by lia) (by lia)).toR O rfl rfl rfl ?_
    refine OpS.of ?_
    refine j_extend O rfl (by simp [rowB];lia) ?_
    refine j_lenB (by lia) ?_
    refine call0 (f_put_varint32 _ (by lia) (by lia)).toR O rfl rfl rfl ?_
    refine OpS.of ?_
    refine j_extend O rfl (by simp [rowB];lia) ?_
    refine j_slice O ?_
    refine ⟨by lia,?_⟩
    have hcut:=cut_le key (some (((cpl b.last key:Nat):Int))) none
    refine OpS.of ?_
    refine j_extend O rfl (by simp [rowB];lia) ?_
    refine OpS.of ?_
    refine j_extend O rfl (by simp [rowB];lia) ?_
    refine j_bytesB ?_
    exact fin_det [0,1,2,3] rfl rfl rfl ⟨rfl,rfl⟩ rfl rfl
  · skip
    simp only [blkAdd,if_neg hs]
    refine enter [x_self,x_key,x_value] (WK_holds ..) (lk_BlockBuilder_add _) (cd_BlockBuilder_add _) (fun _ _ _=>rfl) rfl (by decide +kernel) (by decide +kernel) rfl rfl rfl (fun Z O=>body_ok O (n:=40) ?_)
    refine br_f hf ?_
    refine br_f (decide_eq_false (by lia)) ?_
    refine br_f rfl ?_
    refine br_f (decide_eq_false hs) ?_
    refine j_lenBa rfl (by lia) ?_
    refine OpS.of ?_
    refine j_lsAppendP (x:=.int _) rfl (by simp [ipl];lia) ?_
    rw [ipl_snoc]
    refine call0 (f_put_varint32 _ (by lia) (by lia)).toR O rfl rfl rfl ?_
    refine OpS.of ?_
    refine j_extend O rfl (by simp [rowB];lia) ?_
    refine j_lenB (by lia) ?_
    refine call0 (f_put_varint32 _ (by lia) (by lia)).toR O rfl rfl rfl ?_
    refine OpS.of ?_
    refine j_extend O rfl (by simp [rowB];lia) ?_
    refine j_lenB (by lia) ?_
    refine call0 (f_put_varint32 _ (by lia) (by lia)).toR O rfl rfl rfl ?_
    refine OpS.of ?_
    refine j_extend O rfl (by simp [rowB];lia) ?_
    refine j_slice O ?_
    refine ⟨by lia,?_⟩
    have hcut:=cut_le key (some (0)) none
    refine OpS.of ?_
    refine j_extend O rfl (by simp [rowB];lia) ?_
    refine OpS.of ?_
    refine j_extend O rfl (by simp [rowB];lia) ?_
    refine j_bytesB ?_
    exact fin_det [0,1,2,3] rfl rfl rfl ⟨rfl,rfl⟩ rfl rfl
theorem f_BB_finish (b:Blk) (hb:BlkOk b) (hf:b.fin = false) {OO:List SObj} (hO:OO = ordO 4 ∨ OO = bO):FnC (WK V) 2 420 [.ref 0] (blkL b++OO) (Det (.bytes (blkFin b)) (blkL { b with fin:=true }++OO)):=by
  have hb1:=hb.buf
  have hb2:=hb.rs
  have fl:∀ l:List Int,(l.flatMap fix32).length = 4 * l.length:=fun l=>by
    induction l with
    | nil=>rfl
    | cons x r ih=>rw [List.flatMap_cons,List.length_append,ih];simp [fix32,rowB];lia
  rcases hO with rfl | rfl
  · refine enter [x_self] (WK_holds ..) (lk_BlockBuilder_finish _) (cd_BlockBuilder_finish _) (fun _=>rfl) rfl (by decide +kernel) (by decide +kernel) rfl rfl rfl (fun Z O=>body_ok O (n:=40) ?_)
    refine br_f hf ?_
    refine j_bytearrayB O rfl (by lia) ?_
    refine j_forL O 2 (b.rs.map .int) (fun i st=>st = ⟨[(x_self,.ref 0),(x_out,.ref 6)],[blkO { b with fin:=true } 3 1 2,.ba b.buf,.pl (ipl b.rs)]++ordO 4++[.lit 2 i,.ba (b.buf++(b.rs.take i).flatMap fix32)]⟩) ?_ ?_ ?_
    · refine ⟨2,[0,1,2,3,4,6,5],_,rfl,Or.inr ⟨_,rfl,by simp [ipl,PV.sv]⟩,?_,rfl,rfl⟩
      simp only [List.take_zero,List.flatMap_nil,List.append_nil]
      exact resel_of _ rfl rfl rfl ⟨rfl,rfl⟩ ⟨rfl,rfl⟩
    · rintro i st rfl
      exact ⟨rfl,Or.inr ⟨_,rfl,by simp [ipl,PV.sv]⟩⟩
    · rintro r i st rfl hle
      cases hx:(b.rs.map SV.int)[i]? with
      | none =>
        refine forE hx ?_
        have hge:b.rs.length ≤ i:=by simpa using hx
        simp only [List.take_of_length_le hge]
        refine j_lenP rfl (by simp [ipl];lia) ?_
        refine call0 (f_put_fixed32 _ (by lia) (by simp [ipl];lia)).toR O rfl rfl rfl ?_
        refine OpS.of ?_
        refine j_extend O rfl (by rw [List.length_append,fl];simp [fix32,rowB];lia) ?_
        refine j_bytesBa O rfl (by rw [List.length_append,List.length_append,fl];simp [fix32,rowB];lia) ?_
        refine fin_det [0,1,2,3,4] rfl rfl rfl ⟨rfl,rfl⟩ ?_ rfl
        show SV.bytes _ = SV.bytes _
        simp [blkFin,ipl]
      | some x =>
        refine forI hx ?_
        have hlt:i < b.rs.length:=by have:=lt_of_some hx;simpa using this
        have ex:x = .int b.rs[i]:=by simp [hlt] at hx;exact hx.symm
        subst ex
        have O':=O.inner (Nat.le_succ _) r
        have hp:=hb.pl b.rs[i] (List.getElem_mem hlt)
        refine call0 (f_put_fixed32 _ hp.1 hp.2).toR O' rfl rfl rfl ?_
        have hft:=fl (b.rs.take i)
        have htk:(b.rs.take i).length ≤ i:=by rw [List.length_take];lia
        refine OpS.of ?_
        refine j_extend O' rfl (by rw [List.length_append,fl];simp [fix32,rowB];lia) ?_
        refine Or.inr ⟨_,⟨[0,1,2,3,4,5,6],?_⟩,rfl⟩
        simp only [List.take_succ_eq_append_getElem hlt,List.flatMap_append,List.flatMap_cons,List.flatMap_nil,List.append_nil,← List.append_assoc]
        exact resel_of _ rfl rfl rfl ⟨rfl,rfl⟩ ⟨rfl,rfl⟩
  · refine enter [x_self] (WK_holds ..) (lk_BlockBuilder_finish _) (cd_BlockBuilder_finish _) (fun _=>rfl) rfl (by decide +kernel) (by decide +kernel) rfl rfl rfl (fun Z O=>body_ok O (n:=40) ?_)
    refine br_f hf ?_
    refine j_bytearrayB O rfl (by lia) ?_
    refine j_forL O 2 (b.rs.map .int) (fun i st=>st = ⟨[(x_self,.ref 0),(x_out,.ref 5)],[blkO { b with fin:=true } 3 1 2,.ba b.buf,.pl (ipl b.rs)]++bO++[.lit 2 i,.ba (b.buf++(b.rs.take i).flatMap fix32)]⟩) ?_ ?_ ?_
    · refine ⟨2,[0,1,2,3,5,4],_,rfl,Or.inr ⟨_,rfl,by simp [ipl,PV.sv]⟩,?_,rfl,rfl⟩
      simp only [List.take_zero,List.flatMap_nil,List.append_nil]
      exact resel_of _ rfl rfl rfl ⟨rfl,rfl⟩ ⟨rfl,rfl⟩
    · rintro i st rfl
      exact ⟨rfl,Or.inr ⟨_,rfl,by simp [ipl,PV.sv]⟩⟩
    · rintro r i st rfl hle
      cases hx:(b.rs.map SV.int)[i]? with
      | none =>
        refine forE hx ?_
        have hge:b.rs.length ≤ i:=by simpa using hx
        simp only [List.take_of_length_le hge]
        refine j_lenP rfl (by simp [ipl];lia) ?_
        refine call0 (f_put_fixed32 _ (by lia) (by simp [ipl];lia)).toR O rfl rfl rfl ?_
        refine OpS.of ?_
        refine j_extend O rfl (by rw [List.length_append,fl];simp [fix32,rowB];lia) ?_
        refine j_bytesBa O rfl (by rw [List.length_append,List.length_append,fl];simp [fix32,rowB];lia) ?_
        refine fin_det [0,1,2,3] rfl rfl rfl ⟨rfl,rfl⟩ ?_ rfl
        show SV.bytes _ = SV.bytes _
        simp [blkFin,ipl]
      | some x =>
        refine forI hx ?_
        have hlt:i < b.rs.length:=by have:=lt_of_some hx;simpa using this
        have ex:x = .int b.rs[i]:=by simp [hlt] at hx;exact hx.symm
        subst ex
        have O':=O.inner (Nat.le_succ _) r
        have hp:=hb.pl b.rs[i] (List.getElem_mem hlt)
        refine call0 (f_put_fixed32 _ hp.1 hp.2).toR O' rfl rfl rfl ?_
        have hft:=fl (b.rs.take i)
        have htk:(b.rs.take i).length ≤ i:=by rw [List.length_take];lia
        refine OpS.of ?_
        refine j_extend O' rfl (by rw [List.length_append,fl];simp [fix32,rowB];lia) ?_
        refine Or.inr ⟨_,⟨[0,1,2,3,4,5],?_⟩,rfl⟩
        simp only [List.take_succ_eq_append_getElem hlt,List.flatMap_append,List.flatMap_cons,List.flatMap_nil,List.append_nil,← List.append_assoc]
        exact resel_of _ rfl rfl rfl ⟨rfl,rfl⟩ ⟨rfl,rfl⟩
end
end Mine
end
section
namespace Mine
theorem execs_append {env:Env}:∀ (l1 l2:List Stmt),execs (l1++l2) env = (execs l1 env >>= fun f=>match f with
  | .next=>execs l2 env
  | f=>pure f)
  | [],l2=>by
    show execs l2 env = (pure Flow.next >>= _)
    rw [pure_bind]
  | s :: r,l2=>by
    rw [List.cons_append,execs_cons,execs_cons,bind_assoc]
    congr 1
    funext f
    cases f with
    | next=>exact execs_append r l2
    | _=>simp
theorem Ss_cutP {X:Cx} (O:X.Ok) (n:Nat) {l:List Stmt} {st:St} (Q:St→Prop) {k:Fl→St→Prop} (h1:sss (wpS X 40) (l.take n) st (doneK Q)) (h2:∀ st1,Q st1→Ss X (l.drop n) st1 k):Ss X l st k:=by
  intro ρ s R
  rw [← List.take_append_drop n l,execs_append]
  refine wpR_bind (wpR_mono (body_ok O h1 ρ s R) (fun f s1 q=>?_) fun _ _ x=>x)
  obtain ⟨ρ1,fl,st',R1,r1,e,e'⟩:=q
  subst e
  cases r1
  exact h2 st' e' ρ1 s1 R1
theorem Ss_cut {X:Cx} (O:X.Ok) (n:Nat) {l:List Stmt} {st st1:St} {k:Fl→St→Prop} (h1:sss (wpS X 40) (l.take n) st (doneK (atK st1))) (h2:Ss X (l.drop n) st1 k):Ss X l st k :=
  Ss_cutP O n (atK st1) h1 fun _ e=>by cases e;exact h2
theorem Ss_into {X:Cx} {l:List Stmt} {st:St} {k:Fl→St→Prop} (h:Into X.n0 (fun st'=>Ss X l st' k) st):Ss X l st k:=fun ρ s R=>by
  obtain ⟨ρ',st',R',q⟩:=R.into h
  exact q ρ' s R'
theorem Into.mono {n:Nat} {P Q:St→Prop} {st:St} (h:Into n P st) (m:∀ st,P st→Q st):Into n Q st:=by
  rcases h with h | ⟨st',h1,h2⟩
  · exact .inl (m _ h)
  · exact .inr ⟨st',h1,m _ h2⟩
theorem Ss_cutI {X:Cx} (O:X.Ok) (n:Nat) {l:List Stmt} {st:St} (Q:St→Prop) {k:Fl→St→Prop} (h1:sss (wpS X 40) (l.take n) st (doneK (Into X.n0 Q))) (h2:∀ st1,Q st1→Ss X (l.drop n) st1 k):Ss X l st k :=
  Ss_cutP O n _ h1 fun _ q=>Ss_into (q.mono h2)
theorem Ss_cons {X:Cx} {t:Stmt} {r:List Stmt} {st:St} {k:Fl→St→Prop} (Q:St→Prop) (h:ExJ X t st (doneK Q)) (h2:∀ st',Q st'→Ss X r st' k):Ss X (t :: r) st k:=fun ρ s R =>
  r_execs_cons (wpR_mono (h.go ρ s R) (fun f s1 q=>by obtain ⟨ρ1,fl,st1,R1,r1,e,q⟩:=q;subst e;cases r1;exact h2 st1 q ρ1 s1 R1) fun _ _ x=>x)
theorem Ss_consI {X:Cx} {t:Stmt} {r:List Stmt} {st:St} {k:Fl→St→Prop} (Q:St→Prop) (h:ExJ X t st (doneK (Into X.n0 Q))) (h2:∀ st',Q st'→Ss X r st' k):Ss X (t :: r) st k :=
  Ss_cons _ h fun _ q=>Ss_into (q.mono h2)
end Mine
end
section
namespace Mine
@[reducible] noncomputable def optO (h:Nat) (check bs ri fb fl:Int):SObj:=.inst c_Options [(x_check,.int check),(x_log_block,.int 32768),(x_sync_writes,.bool true),(x_create_missing,.bool true),(x_paranoid,.bool false),(x_write_buffer,.int 4194304),(x_max_height,.int 12),(x_heights,.ref h),(x_block_size,.int bs),(x_restart_interval,.int ri),(x_filter_bits,.int fb),(x_filter_base_lg,.int fl),(x_max_file_size,.int 2097152),(x_num_levels,.int 7),(x_l0_trigger,.int 4),(x_l0_stop,.int 12),(x_base_bytes,.int 10485760),(x_level_factor,.int 10),(x_max_mem_level,.int 2),(x_grandparent_factor,.int 10),(x_expand_factor,.int 25)]
@[reducible] noncomputable def hgtO:SObj:=.tup [.int 1,.int 2,.int 1,.int 3,.int 1,.int 2,.int 1,.int 4]
theorem bitXor_nn {x y:Int} (hx:0 ≤ x) (hy:0 ≤ y):0 ≤ Builtin.bitXor x y∧Builtin.bitXor x y ≤ x + y:=by
  rw [bitXor_and]
  have h1:=bitAnd_range x hy
  have h2:=bitAnd_range y hx
  rw [bitAnd_comm] at h2
  lia
theorem m32_lt (x:Int):0 ≤ Builtin.bitAnd x 4294967295∧Builtin.bitAnd x 4294967295 < 4294967296:=by rw [bitAnd_m32];lia
theorem fdiv_lt {x:Int} (n:Nat) (h0:0 ≤ x):0 ≤ x.fdiv (2 ^ n)∧x.fdiv (2 ^ n) ≤ x:=by
  have hp:(0:Int) < 2 ^ n:=Int.pow_pos (by decide)
  rw [Int.fdiv_eq_ediv_of_nonneg _ (by lia)]
  exact ⟨Int.ediv_nonneg h0 (by lia),Int.ediv_le_self _ h0⟩
inductive HashP:SV→List SObj→Prop
  | mk (h:Int) (a:0 ≤ h) (b:h < 2 ^ 34):HashP (.int h) []
theorem HashP.el {K:SV→List SObj→Prop} (h:∀ h:Int,0 ≤ h→h < 2 ^ 34→K (.int h) []):∀ r o,HashP r o→K r o:=fun _ _ q=>by cases q with | mk x a b=>exact h x a b
section
variable {V:Vs}
theorem f_Options_init:FnC (WK V) 1 343 [.ref 0] [.inst c_Options []] (Det .none [optO 1 1 4096 16 10 11,hgtO]):=by
  refine enter [x_self] (WK_holds ..) (lk_Options___init__ _) (cd_Options___init__ _) (fun _=>rfl) rfl (by decide +kernel) (by decide +kernel) rfl rfl rfl (fun Z O=>?_)
  refine Ss_cut O 7 (st1:=⟨[(x_self,.ref 0)],[.inst c_Options [(x_check,.int 1),(x_log_block,.int 32768),(x_sync_writes,.bool true),(x_create_missing,.bool true),(x_paranoid,.bool false),(x_write_buffer,.int 4194304),(x_max_height,.int 12)]]⟩) ⟨rfl,rfl⟩ ?_
  refine Ss_cut O 5 (st1:=⟨[(x_self,.ref 0)],[.inst c_Options [(x_check,.int 1),(x_log_block,.int 32768),(x_sync_writes,.bool true),(x_create_missing,.bool true),(x_paranoid,.bool false),(x_write_buffer,.int 4194304),(x_max_height,.int 12),(x_heights,.ref 1),(x_block_size,.int 4096),(x_restart_interval,.int 16),(x_filter_bits,.int 10),(x_filter_base_lg,.int 11)],hgtO]⟩) ⟨rfl,rfl⟩ ?_
  refine Ss_cut O 5 (st1:=⟨[(x_self,.ref 0)],[.inst c_Options [(x_check,.int 1),(x_log_block,.int 32768),(x_sync_writes,.bool true),(x_create_missing,.bool true),(x_paranoid,.bool false),(x_write_buffer,.int 4194304),(x_max_height,.int 12),(x_heights,.ref 1),(x_block_size,.int 4096),(x_restart_interval,.int 16),(x_filter_bits,.int 10),(x_filter_base_lg,.int 11),(x_max_file_size,.int 2097152),(x_num_levels,.int 7),(x_l0_trigger,.int 4),(x_l0_stop,.int 12),(x_base_bytes,.int 10485760)],hgtO]⟩) ⟨rfl,rfl⟩ ?_
  refine body_ok O (n:=40) ?_
  exact fin_det [0,1] rfl rfl rfl ⟨rfl,rfl⟩ rfl rfl
theorem f_bloom_hash (b:List UInt8) (hz:b.length ≤ 1000):FnC (WK V) 2 179 [.bytes b] [] HashP:=by
  refine enter [x_data] (WK_holds ..) (lk_bloom_hash _) (cd_bloom_hash _) (fun _=>rfl) rfl (by decide +kernel) (by decide +kernel) rfl rfl rfl (fun Z O=>body_ok O (n:=40) ?_)
  have O':=O.inner (Nat.le_refl _) Z.r0
  refine j_lenB (by lia) ?_
  refine ⟨IntMulOk.of_right (by decide),?_⟩
  have k0:=m32_lt ((b.length:Int) * 3332679571)
  have x0:=bitXor_nn (x:=3164544308) (y:=Builtin.bitAnd ((b.length:Int) * 3332679571) 4294967295) (by decide) k0.1
  refine j_while O (fun m st=>∃ (i:Nat) (h:Int),4 * i ≤ b.length∧m = b.length - 4 * i∧0 ≤ h∧h < 2 ^ 33∧st = ⟨[(x_data,.bytes b),(x_size,.int b.length),(x_h,.int h),(x_at,.int (4 * (i:Nat)))],[]⟩) ?_ b.length (Or.inl ⟨0,_,by lia,rfl,x0.1,by lia,rfl⟩)
  rintro m st ⟨i,h,hi,rfl,h0,h1,rfl⟩
  by_cases hlt:4 * i + 4 ≤ b.length
  · refine br_t (decide_eq_true (by lia)) ?_
    refine call0 (f_read_fixed32 b (4 * (i:Nat)) (by lia) (by lia) (by lia)).toR O' rfl rfl rfl ?_
    have hr:=rd32_lt b (4 * (i:Nat))
    refine ⟨IntMulOk.of_right (by decide),?_⟩
    have k1:=m32_lt ((h + rd32 b (4 * (i:Nat))) * 3332679571)
    refine ⟨by decide,?_⟩
    have f1:=fdiv_lt 16 k1.1
    have x1:=bitXor_nn (x:=Builtin.bitAnd ((h + rd32 b (4 * (i:Nat))) * 3332679571) 4294967295) (y:=(Builtin.bitAnd ((h + rd32 b (4 * (i:Nat))) * 3332679571) 4294967295).fdiv (2 ^ 16)) k1.1 f1.1
    refine ⟨b.length - 4 * (i + 1),sub_lt2 (Nat.lt_of_lt_of_le (Nat.lt_add_of_pos_right (by decide)) hlt) (Nat.lt_add_of_pos_right (k:=4) (by decide)),Or.inl ⟨i + 1,_,hlt,rfl,x1.1,?_,?_⟩⟩
    · exact Int.lt_of_le_of_lt (Int.le_trans x1.2 (Int.add_le_add_left f1.2 _)) (twice k1.2)
    · rw [show (4 * ((i + 1:Nat):Int)) = 4 * (i:Nat) + 4 by lia];rfl
  · refine br_f (decide_eq_false (by lia)) ?_
    have done:∀ (h:Int) (st:St),0 ≤ h→h < 2 ^ 34→Fin 0 HashP (.ret (.int h)) st:=fun h st a c=>fin_of [] rfl rfl rfl ⟨rfl,rfl⟩ (res:=.int h) (objs':=[]) rfl rfl ⟨h,a,c⟩
    by_cases hr:(b.length:Int) - 4 * (i:Nat) > 0
    · refine br_t (decide_eq_true hr) ?_
      have fin:∀ h2:Int,0 ≤ Builtin.bitXor (Builtin.bitAnd h2 4294967295) ((Builtin.bitAnd h2 4294967295).fdiv (2 ^ 24))∧Builtin.bitXor (Builtin.bitAnd h2 4294967295) ((Builtin.bitAnd h2 4294967295).fdiv (2 ^ 24)) < 2 ^ 34:=fun h2=>by
        have k1:=m32_lt h2
        have f1:=fdiv_lt 24 k1.1
        have x1:=bitXor_nn k1.1 f1.1
        lia
      have o0:=octet_lt b (4 * (i:Nat))
      have o1:=octet_lt b (4 * (i:Nat) + 1)
      have o2:=octet_lt b (4 * (i:Nat) + 2)
      by_cases r3:(b.length:Int) - 4 * (i:Nat) = 3
      · refine br_t (by simpa using r3) ?_
        refine j_itemB (by lia) (by lia) (by lia) ?_
        refine ⟨by decide,shl_ok (by lia) (by lia) (by decide),?_⟩
        refine br_t (decide_eq_true (by lia)) ?_
        refine j_itemB (by lia) (by lia) (by lia) ?_
        refine ⟨by decide,shl_ok (by lia) (by lia) (by decide),?_⟩
        refine j_itemB (by lia) (by lia) (by lia) ?_
        refine ⟨IntMulOk.of_right (by decide),?_⟩
        refine ⟨by decide,?_⟩
        exact done _ _ (fin _).1 (fin _).2
      · refine br_f (by simpa using r3) ?_
        by_cases r2:(b.length:Int) - 4 * (i:Nat) ≥ 2
        · refine br_t (decide_eq_true r2) ?_
          refine j_itemB (by lia) (by lia) (by lia) ?_
          refine ⟨by decide,shl_ok (by lia) (by lia) (by decide),?_⟩
          refine j_itemB (by lia) (by lia) (by lia) ?_
          refine ⟨IntMulOk.of_right (by decide),?_⟩
          refine ⟨by decide,?_⟩
          exact done _ _ (fin _).1 (fin _).2
        · refine br_f (decide_eq_false r2) ?_
          refine j_itemB (by lia) (by lia) (by lia) ?_
          refine ⟨IntMulOk.of_right (by decide),?_⟩
          refine ⟨by decide,?_⟩
          exact done _ _ (fin _).1 (fin _).2
    · refine br_f (decide_eq_false hr) ?_
      exact done _ _ h0 (by lia)
end
end Mine
end
section
namespace Mine
noncomputable def prb (bits:Int):Int:=if 30 < (if ((bits * 69).fdiv 100) < 1 then 1 else (bits * 69).fdiv 100) then 30 else (if ((bits * 69).fdiv 100) < 1 then 1 else (bits * 69).fdiv 100)
@[reducible] noncomputable def bloomO (bits pr:Int):SObj:=.inst c_Bloom [(x_bits,.int bits),(x_probes,.int pr)]
noncomputable def bpl (l:List (List UInt8)):List PV:=l.map PV.bytes
theorem bpl_sv (l:List (List UInt8)):(bpl l).map PV.sv = l.map SV.bytes:=by simp [bpl,PV.sv]
theorem or_bit (x k:Int) (hx0:0 ≤ x) (hx1:x < 256) (hk0:0 ≤ k) (hk1:k < 8):0 ≤ Builtin.bitOr x (1 * 2 ^ k.toNat)∧Builtin.bitOr x (1 * 2 ^ k.toNat) < 256:=by
  obtain ⟨n,rfl⟩:=Int.eq_ofNat_of_zero_le hx0
  obtain ⟨m,rfl⟩:=Int.eq_ofNat_of_zero_le hk0
  have all:∀ (n:_root_.Fin 256) (m:_root_.Fin 8),0 ≤ Builtin.bitOr (n.val:Int) (1 * 2 ^ ((m.val:Int)).toNat)∧Builtin.bitOr (n.val:Int) (1 * 2 ^ ((m.val:Int)).toNat) < 256:=by decide +kernel
  exact all ⟨n,by lia⟩ ⟨m,by lia⟩
noncomputable def bloomW (n:Nat) (bits:Int):Nat:=((if (n:Int) * bits < 64 then 64 else (n:Int) * bits) + 7).toNat / 8
inductive MakeP (W:Nat) (objs:List SObj):SV→List SObj→Prop
  | mk (c:List UInt8) (h:c.length = W + 1):MakeP W objs (.bytes c) objs
theorem MakeP.el {W:Nat} {objs:List SObj} {K:SV→List SObj→Prop} (h:∀ c:List UInt8,c.length = W + 1→K (.bytes c) objs):∀ r o,MakeP W objs r o→K r o:=fun _ _ q=>by cases q with | mk c a=>exact h c a
section
variable {V:Vs}
theorem f_Bloom_init (bits:Int) (h0:1 ≤ bits) (h1:bits ≤ 100):FnC (WK V) 1 483 [.ref 0,.int bits] [.inst c_Bloom []] (Det .none [bloomO bits (prb bits)]):=by
  refine enter [x_self,x_bits] (WK_holds ..) (lk_Bloom___init__ _) (cd_Bloom___init__ _) (fun _ _=>rfl) rfl (by decide +kernel) (by decide +kernel) rfl rfl rfl (fun Z O=>body_ok O (n:=40) ?_)
  have hd:(bits * 69).fdiv 100 = bits * 69 / 100:=Int.fdiv_eq_ediv_of_nonneg _ (by decide)
  refine br_f (decide_eq_false (by lia)) ?_
  refine ⟨IntMulOk.of_right (by decide),by decide,PyProof.noPylong_small (by decide),?_⟩
  by_cases c1:(bits * 69).fdiv 100 < 1
  · refine br_t (decide_eq_true c1) ?_
    refine br_f rfl ?_
    have e:prb bits = 1:=by unfold prb;rw [if_pos c1];rfl
    rw [e]
    exact fin_det [0] rfl rfl rfl ⟨rfl,rfl⟩ rfl rfl
  · refine br_f (decide_eq_false c1) ?_
    by_cases c2:30 < (bits * 69).fdiv 100
    · refine br_t (decide_eq_true c2) ?_
      have e:prb bits = 30:=by unfold prb;rw [if_neg c1,if_pos c2]
      rw [e]
      exact fin_det [0] rfl rfl rfl ⟨rfl,rfl⟩ rfl rfl
    · refine br_f (decide_eq_false c2) ?_
      have e:prb bits = (bits * 69).fdiv 100:=by unfold prb;rw [if_neg c1,if_neg c2]
      rw [e]
      exact fin_det [0] rfl rfl rfl ⟨rfl,rfl⟩ rfl rfl
theorem f_Bloom_make (bits:Int) (pr:Int) (kl:List (List UInt8)) (h0:1 ≤ bits) (h1:bits ≤ 100) (hp0:1 ≤ pr) (hp1:pr ≤ 30) (hk:kl.length ≤ 100) (hl:∀ x ∈ kl,x.length ≤ 1000) :
    FnC (WK V) 3 490 [.ref 0,.ref 1] [bloomO bits pr,.pl (bpl kl)] (MakeP (bloomW kl.length bits) [bloomO bits pr,.pl (bpl kl)]):=by
  obtain ⟨q,rfl⟩:=Int.eq_ofNat_of_zero_le (show 0 ≤ pr by lia)
  refine enter [x_self,x_keys] (WK_holds ..) (lk_Bloom_make _) (cd_Bloom_make _) (fun _ _=>rfl) rfl (by decide +kernel) (by decide +kernel) rfl rfl rfl (fun Z O=>?_)
  have hkb:(bpl kl).length = kl.length:=by simp [bpl]
  have hnb:0 ≤ (kl.length:Int) * bits:=Int.mul_nonneg (by lia) (by lia)
  have hnb2:(kl.length:Int) * bits ≤ 100 * 100:=Int.mul_le_mul (by lia) h1 (by lia) (by lia)
  obtain ⟨N,hN⟩:∃ N:Int,N = (if (kl.length:Int) * bits < 64 then 64 else (kl.length:Int) * bits):=⟨_,rfl⟩
  have hNb:64 ≤ N∧N ≤ 10000:=by rw [hN];split <;> lia
  refine Ss_cut O 2 (st1:=⟨[(x_keys,.ref 1),(x_self,.ref 0),(x_wanted,.int N)],[bloomO bits q,.pl (bpl kl)]⟩) ?_ ?_
  · refine j_lenP rfl (by lia) ?_
    refine ⟨IntMulOk.of_right (intBits_le_64 (by lia) (by lia)),?_⟩
    rw [hkb]
    by_cases c:(kl.length:Int) * bits < 64
    · refine br_t (decide_eq_true c) ?_
      rw [hN,if_pos c]
      exact ⟨rfl,rfl⟩
    · refine br_f (decide_eq_false c) ?_
      rw [hN,if_neg c]
      exact ⟨rfl,rfl⟩
  refine body_ok O (n:=40) ?_
  refine ⟨by decide,PyProof.noPylong_small (by decide),?_⟩
  obtain ⟨W,hW⟩:∃ W:Nat,(W:Int) = (N + 7).fdiv 8:=⟨((N + 7).fdiv 8).toNat,by rw [Int.fdiv_eq_ediv_of_nonneg _ (by decide)];lia⟩
  have hWb:8 ≤ W∧W ≤ 2000:=by rw [Int.fdiv_eq_ediv_of_nonneg _ (by decide)] at hW;lia
  have hWW:bloomW kl.length bits = W:=by
    rw [Int.fdiv_eq_ediv_of_nonneg _ (by decide)] at hW
    unfold bloomW
    rw [← hN]
    lia
  rw [hWW,← hW]
  refine ⟨IntMulOk.of_right (by decide),?_⟩
  refine j_bytearrayN O (by lia) (by lia) ?_
  rw [Int.toNat_natCast]
  refine j_forL O 1 (kl.map .bytes) (fun i st=>∃ c:List UInt8,c.length = W∧st = ⟨[(x_keys,.ref 1),(x_self,.ref 0),(x_wide,.int ((W:Int) * 8)),(x_out,.ref 3)],[bloomO bits q,.pl (bpl kl),.lit 1 i,.ba c]⟩) ?_ ?_ ?_
  · refine ⟨1,[0,1,3,2],_,rfl,Or.inr ⟨_,rfl,(bpl_sv kl).symm⟩,?_,rfl,List.replicate W 0,by simp,rfl⟩
    exact resel_of _ rfl rfl rfl ⟨rfl,rfl⟩ ⟨rfl,rfl⟩
  · rintro i st ⟨c,hc,rfl⟩
    exact ⟨rfl,Or.inr ⟨_,rfl,(bpl_sv kl).symm⟩⟩
  · rintro r i st ⟨c,hc,rfl⟩ hle
    cases hx:(kl.map SV.bytes)[i]? with
    | none =>
      refine forE hx ?_
      refine OpS.of ?_
      refine j_baAppend O rfl (by lia) (by lia) (by lia) ?_
      refine j_bytesBa O rfl (by simp;lia) ?_
      exact fin_of [0,1] rfl rfl rfl ⟨rfl,rfl⟩ (res:=.bytes _) rfl rfl ⟨_,by simp;lia⟩
    | some x =>
      refine forI hx ?_
      have hlt:i < kl.length:=by have:=lt_of_some hx;simpa using this
      have ex:x = .bytes kl[i]:=by simp [hlt] at hx;exact hx.symm
      subst ex
      have O':=O.inner (Nat.le_succ _) r
      refine call_ofP (args2:=[.bytes kl[i]]) [] (f_bloom_hash _ (hl _ (List.getElem_mem hlt))).toR O' rfl rfl rfl ⟨rfl,rfl⟩ rfl rfl ?_
      refine HashP.el fun h a0 a1=>?_
      refine ⟨by decide,by decide,shl_ok (by lia) (by lia) (by decide),?_⟩
      refine j_forR O' 0 q (by decide) (by lia) (fun j st=>∃ (c:List UInt8) (h d:Int),c.length = W∧0 ≤ h∧h < 2 ^ 34∧0 ≤ d∧d < 2 ^ 34∧st = ⟨[(x_keys,.ref 1),(x_self,.ref 0),(x_wide,.int ((W:Int) * 8)),(x_out,.ref 4),(x_h,.int h),(x_delta,.int d)],[bloomO bits q,.pl (bpl kl),.lit 1 (i + 1),.raw (ritP (0 + (j:Nat)) ((q:Nat) - (j:Nat))),.ba c]⟩) ?_ ?_ ?_
      · refine j_range1 ?_
        have d0:=m32_lt (Builtin.bitOr (h.fdiv (2 ^ 17)) (h * 2 ^ 15))
        refine ⟨4,[0,1,2,5,3],_,rfl,by rw [Int.zero_add];rfl,?_,rfl,c,h,_,hc,a0,a1,d0.1,by have:=d0.2;lia,rfl⟩
        exact resel_of _ rfl rfl rfl ⟨rfl,rfl⟩ ⟨rfl,rfl⟩
      · rintro j st ⟨c,h,d,_,_,_,_,_,rfl⟩;rfl
      · rintro r' j st ⟨c,h,d,hc,a0,a1,d0,d1,rfl⟩ hj
        refine ⟨fun e=>?_,fun hj=>?_⟩
        · refine Or.inr ⟨_,⟨[0,1,2,4],?_⟩,c,hc,rfl⟩
          exact resel_of _ rfl rfl rfl ⟨rfl,rfl⟩ ⟨rfl,rfl⟩
        · have O2:=O'.inner (Nat.le_succ _) r'
          refine ⟨by lia,?_⟩
          have hm:h.fmod ((W:Int) * 8) = h % ((W:Int) * 8):=Int.fmod_eq_emod_of_nonneg _ (by lia)
          have hm1:=Int.emod_nonneg h (show ((W:Int) * 8) ≠ 0 by lia)
          have hm2:=Int.emod_lt_of_pos h (show 0 < ((W:Int) * 8) by lia)
          generalize hP:h.fmod ((W:Int) * 8) = P
          have hP0:0 ≤ P∧P < (W:Int) * 8:=by rw [← hP,hm];exact ⟨hm1,hm2⟩
          have q0:0 ≤ P.fdiv 8:=Int.fdiv_nonneg hP0.1 (by decide)
          have q1:P.fdiv 8 < (W:Int):=fdlt (by decide) hP0.2
          have q2:0 ≤ P.fmod 8:=Int.fmod_nonneg_of_pos P (by decide)
          have q3:P.fmod 8 < 8:=Int.fmod_lt_of_pos P (by decide)
          clear hP hm hm1 hm2
          refine ⟨by decide,PyProof.noPylong_small (by decide),?_⟩
          refine j_itemBa rfl (by lia) (by lia) (by lia) ?_
          refine ⟨by decide,?_⟩
          refine ⟨by lia,by rw [show Builtin.Int.intBits 1 = 1 from rfl];lia,?_⟩
          refine ⟨by decide,PyProof.noPylong_small (by decide),?_⟩
          have ho:=octet_lt c (P.fdiv 8)
          have hb:=or_bit (octet c (P.fdiv 8)) (P.fmod 8) ho.1 ho.2 (by lia) (by lia)
          refine j_storeBa O2 rfl (by lia) (by lia) hb.1 hb.2 (by lia) ?_
          have k1:=m32_lt (h + d)
          refine Or.inr ⟨_,⟨[0,1,2,3,4],?_⟩,setOct c (P.fdiv 8) (Builtin.bitOr (octet c (P.fdiv 8)) (1 * 2 ^ (P.fmod 8).toNat)),_,d,?_,k1.1,by have:=k1.2;lia,d0,d1,rfl⟩
          · exact resel_of _ rfl rfl rfl ⟨rfl,rfl⟩ ⟨rfl,rfl⟩
          · simp [setOct];exact hc
end
end Mine
end
section
namespace Mine
structure Flt where
  keys:List (List UInt8)
  offs:List Int
  fil:List UInt8
structure FltOk (f:Flt):Prop where
  fil:f.fil.length ≤ 9 * f.offs.length
  offs:f.offs.length ≤ 1000
  vals:∀ x ∈ f.offs,0 ≤ x∧x ≤ 9000
  many:f.keys.length ≤ 3
  keys:∀ x ∈ f.keys,x.length ≤ 1000
@[reducible] noncomputable def fltO (lg:Int) (fin:Bool) (b k o f:Nat):SObj:=.inst c_FilterBuilder [(x_bloom,.ref b),(x_base_lg,.int lg),(x_keys,.ref k),(x_offsets,.ref o),(x_filters,.ref f),(x_finished,.bool fin)]
@[reducible] noncomputable def fltL (bits lg:Int) (fin:Bool) (f:Flt):List SObj:=[fltO lg fin 1 4 2 3,bloomO bits (prb bits),.pl (ipl f.offs),.ba f.fil,.pl (bpl f.keys)]
noncomputable def flt0:Flt:=⟨[],[],[]⟩
theorem flt0_ok:FltOk flt0:=⟨by decide,by decide,(fun _ h=>nomatch h),by decide,(fun _ h=>nomatch h)⟩
theorem prb_in (bits:Int):1 ≤ prb bits∧prb bits ≤ 30:=by unfold prb;split <;> split <;> lia
inductive SpanP (bits lg:Int) (fin:Bool) (n m:Nat):SV→List SObj→Prop
  | mk (f:Flt) (a:FltOk f) (b:f.offs.length = n) (c:f.keys.length ≤ m):SpanP bits lg fin n m .none (fltL bits lg fin f)
theorem SpanP.el {bits lg:Int} {fin:Bool} {n m:Nat} {K:SV→List SObj→Prop} (h:∀ f,FltOk f→f.offs.length = n→f.keys.length ≤ m→K .none (fltL bits lg fin f)):∀ r o,SpanP bits lg fin n m r o→K r o:=fun _ _ q=>by cases q with | mk f a b c=>exact h f a b c
@[reducible] noncomputable def fltM (bits lg:Int) (fin:Bool) (f:Flt):List SObj:=[fltO lg fin 1 5 2 3,bloomO bits (prb bits),.pl (ipl f.offs),.ba f.fil,.gone,.pl (bpl f.keys)]
inductive FltFin (bits lg:Int) (n:Nat):SV→List SObj→Prop
  | l (f:Flt) (c:List UInt8) (h:c.length ≤ 13 * n + 20):FltFin bits lg n (.bytes c) (fltL bits lg true f)
  | m (f:Flt) (c:List UInt8) (h:c.length ≤ 13 * n + 20):FltFin bits lg n (.bytes c) (fltM bits lg true f)
inductive SpanM (bits lg:Int) (n:Nat):SV→List SObj→Prop
  | mk (f:Flt) (a:FltOk f) (b:f.offs.length = n):SpanM bits lg n .none (fltM bits lg false f)
theorem SpanM.el {bits lg:Int} {n:Nat} {K:SV→List SObj→Prop} (h:∀ f,FltOk f→f.offs.length = n→K .none (fltM bits lg false f)):∀ r o,SpanM bits lg n r o→K r o:=fun _ _ q=>by cases q with | mk f a b=>exact h f a b
theorem bloomW_small {n:Nat} {bits:Int} (hn:n ≤ 3) (h0:1 ≤ bits) (h1:bits ≤ 4):bloomW n bits = 8:=by
  have:(n:Int) * bits ≤ 3 * 4:=Int.mul_le_mul (by lia) h1 (by lia) (by lia)
  unfold bloomW
  rw [if_pos (by lia)]
  rfl
theorem fix32_len:∀ l:List Int,(l.flatMap fix32).length = 4 * l.length:=fun l=>by
  induction l with
  | nil=>rfl
  | cons x r ih=>rw [List.flatMap_cons,List.length_append,ih];simp [fix32,rowB];lia
section
variable {V:Vs}
theorem f_Flt_init (bits lg:Int) (h0:0 ≤ lg) (h1:lg ≤ 31):FnC (WK V) 1 518 [.ref 1,.ref 0,.int lg] [bloomO bits (prb bits),.inst c_FilterBuilder []]
    (Det .none [bloomO bits (prb bits),fltO lg false 0 2 3 4,.pl [],.pl [],.ba []]):=by
  refine enter [x_self,x_bloom,x_base_lg] (WK_holds ..) (lk_FilterBuilder___init__ _) (cd_FilterBuilder___init__ _) (fun _ _ _=>rfl) rfl (by decide +kernel) (by decide +kernel) rfl rfl rfl (fun Z O=>body_ok O (n:=40) ?_)
  refine br_f (decide_eq_false (by lia)) ?_
  refine br_f (decide_eq_false (by lia)) ?_
  refine br_f rfl ?_
  refine j_bytearray0 O ?_
  exact fin_det [0,1,2,3,4] rfl rfl rfl ⟨rfl,rfl⟩ rfl rfl
theorem f_Flt_add_key (bits lg:Int) (f:Flt) (hf:FltOk f) (k:List UInt8) (hk:k.length ≤ 1000):FnC (WK V) 1 532 [.ref 0,.bytes k] (fltL bits lg false f) (Det .none (fltL bits lg false { f with keys:=f.keys++[k] })):=by
  have:=hf.many
  refine enter [x_self,x_key] (WK_holds ..) (lk_FilterBuilder_add_key _) (cd_FilterBuilder_add_key _) (fun _ _=>rfl) rfl (by decide +kernel) (by decide +kernel) rfl rfl rfl (fun Z O=>body_ok O (n:=40) ?_)
  refine br_f rfl ?_
  refine j_bytesB ?_
  refine OpS.of ?_
  refine j_lsAppendP (x:=.bytes _) rfl (by simp [bpl];lia) ?_
  have e:bpl f.keys++[PV.bytes k] = bpl (f.keys++[k]):=by simp [bpl]
  rw [e]
  exact fin_det [0,1,2,3,4] rfl rfl rfl ⟨rfl,rfl⟩ rfl rfl
theorem f_Flt_close_span (bits lg:Int) (h0:1 ≤ bits) (h1:bits ≤ 4) (f:Flt) (hf:FltOk f) (hn:f.offs.length < 1000):FnM (WK V) 4 539 [.ref 0] (fltL bits lg false f) [4] (SpanP bits lg false (f.offs.length + 1) 0):=by
  have hf1:=hf.fil
  have hf2:=hf.offs
  have hf3:=hf.many
  refine enterN 4 rfl rfl [x_self] (WK_holds ..) (lk_FilterBuilder_close_span _) (cd_FilterBuilder_close_span _) (fun _=>rfl) rfl (by decide +kernel) (by decide +kernel) rfl rfl rfl (fun Z O=>body_ok O (n:=40) ?_)
  refine j_lenBa rfl (by lia) ?_
  refine OpS.of ?_
  refine j_lsAppendP (x:=.int _) rfl (by simp [ipl];lia) ?_
  rw [ipl_snoc]
  refine j_lenP rfl (by simp [bpl];lia) ?_
  have hv:∀ x ∈ f.offs++[(f.fil.length:Int)],0 ≤ x∧x ≤ 9000:=fun x hx=>by
    rcases List.mem_append.mp hx with h | h
    · exact hf.vals x h
    · have:=List.mem_singleton.mp h
      lia
  have hkb:(bpl f.keys).length = f.keys.length:=by simp [bpl]
  by_cases hk:f.keys.length = 0
  · refine br_f (decide_eq_false (by lia)) ?_
    have e:f.keys = []:=List.eq_nil_of_length_eq_zero hk
    refine fin_mv [0,1,2,3,4] rfl rfl rfl (selG_of ⟨rfl,rfl⟩) (res:=.none) rfl rfl ⟨⟨f.keys,f.offs++[(f.fil.length:Int)],f.fil⟩,⟨?_,?_,hv,hf3,hf.keys⟩,?_,?_⟩
    · simp;lia
    · simp;lia
    · simp
    · show f.keys.length ≤ 0;lia
  · refine br_t (decide_eq_true (by lia)) ?_
    have pp:=prb_in bits
    refine call_ofP (args2:=[.ref 0,.ref 1]) [1,4] (f_Bloom_make bits (prb bits) f.keys h0 (by lia) pp.1 pp.2 (by lia) hf.keys).toR O rfl rfl rfl ⟨rfl,rfl⟩ rfl rfl ?_
    refine MakeP.el fun c hc=>?_
    rw [bloomW_small hf3 h0 h1] at hc
    refine OpS.of ?_
    refine j_extend O rfl (by lia) ?_
    refine fin_mv [0,1,2,3,5] rfl rfl rfl (selG_of ⟨rfl,rfl⟩) (res:=.none) rfl rfl ⟨⟨[],f.offs++[(f.fil.length:Int)],f.fil++c⟩,⟨?_,?_,hv,by simp,(fun _ h=>nomatch h)⟩,?_,?_⟩
    · simp;lia
    · simp;lia
    · simp
    · simp
theorem f_Flt_start_block (bits lg off:Int) (h0:1 ≤ bits) (h1:bits ≤ 4) (hl0:0 ≤ lg) (hl1:lg ≤ 31) (ho:0 ≤ off) (f:Flt) (hf:FltOk f) (hn:(f.offs.length:Int) ≤ off.fdiv (2 ^ lg.toNat)) (hm:off.fdiv (2 ^ lg.toNat) ≤ 1000) :
    FnM (WK V) 5 525 [.ref 0,.int off] (fltL bits lg false f) [4] (SpanP bits lg false (off.fdiv (2 ^ lg.toNat)).toNat f.keys.length):=by
  refine enterN 4 rfl rfl [x_self,x_offset] (WK_holds ..) (lk_FilterBuilder_start_block _) (cd_FilterBuilder_start_block _) (fun _ _=>rfl) rfl (by decide +kernel) (by decide +kernel) rfl rfl rfl (fun Z O=>body_ok O (n:=40) ?_)
  have hf2:=hf.offs
  refine br_f rfl ?_
  refine ⟨hl0,?_⟩
  generalize off.fdiv (2 ^ lg.toNat) = S at hn hm ⊢
  refine j_lenP rfl (by simp [ipl];lia) ?_
  refine br_f (decide_eq_false (by simp [ipl];lia)) ?_
  refine j_while O (fun m st=>∃ f':Flt,FltOk f'∧(f'.offs.length:Int) ≤ S∧f'.keys.length ≤ f.keys.length∧m = S.toNat - f'.offs.length∧st = ⟨[(x_offset,.int off),(x_self,.ref 0),(x_span,.int S)],fltL bits lg false f'⟩) ?_ (S.toNat - f.offs.length) (Or.inl ⟨f,hf,hn,Nat.le_refl _,rfl,rfl⟩)
  rintro m st ⟨f',hf',hn',hk',rfl,rfl⟩
  refine j_lenP rfl (by simp [ipl];lia) ?_
  by_cases hlt:(f'.offs.length:Int) < S
  · refine br_t (decide_eq_true (by simp [ipl];lia)) ?_
    refine call_ofM (args2:=[.ref 0]) [0,1,2,3,4] (f_Flt_close_span bits lg h0 h1 f' hf' (by lia)).toM O rfl rfl rfl (selG_of ⟨rfl,rfl⟩) rfl rfl rfl ?_
    refine SpanP.el fun f2 hf2 hn2 hk2=>?_
    exact ⟨S.toNat - f2.offs.length,by lia,Or.inl ⟨f2,hf2,by lia,by lia,rfl,rfl⟩⟩
  · refine br_f (decide_eq_false (by simp [ipl];lia)) ?_
    exact fin_mv [0,1,2,3,4] rfl rfl rfl (selG_of ⟨rfl,rfl⟩) (res:=.none) rfl rfl ⟨f',hf',by lia,hk'⟩
theorem f_Flt_close_spanM (bits lg:Int) (h0:1 ≤ bits) (h1:bits ≤ 4) (f:Flt) (hf:FltOk f) (hn:f.offs.length < 1000) (hk:f.keys.length ≠ 0):FnC (WK V) 4 539 [.ref 0] (fltL bits lg false f) (SpanM bits lg (f.offs.length + 1)):=by
  have hf1:=hf.fil
  have hf2:=hf.offs
  have hf3:=hf.many
  refine enter [x_self] (WK_holds ..) (lk_FilterBuilder_close_span _) (cd_FilterBuilder_close_span _) (fun _=>rfl) rfl (by decide +kernel) (by decide +kernel) rfl rfl rfl (fun Z O=>body_ok O (n:=40) ?_)
  refine j_lenBa rfl (by lia) ?_
  refine OpS.of ?_
  refine j_lsAppendP (x:=.int _) rfl (by simp [ipl];lia) ?_
  rw [ipl_snoc]
  refine j_lenP rfl (by simp [bpl];lia) ?_
  have hv:∀ x ∈ f.offs++[(f.fil.length:Int)],0 ≤ x∧x ≤ 9000:=fun x hx=>by
    rcases List.mem_append.mp hx with h | h
    · exact hf.vals x h
    · have:=List.mem_singleton.mp h
      lia
  have hkb:(bpl f.keys).length = f.keys.length:=by simp [bpl]
  refine br_t (decide_eq_true (by lia)) ?_
  have pp:=prb_in bits
  refine call_ofP (args2:=[.ref 0,.ref 1]) [1,4] (f_Bloom_make bits (prb bits) f.keys h0 (by lia) pp.1 pp.2 (by lia) hf.keys).toR O rfl rfl rfl ⟨rfl,rfl⟩ rfl rfl ?_
  refine MakeP.el fun c hc=>?_
  rw [bloomW_small hf3 h0 h1] at hc
  refine OpS.of ?_
  refine j_extend O rfl (by lia) ?_
  refine ⟨[0,1,2,3,4,5],.none,fltM bits lg false ⟨[],f.offs++[(f.fil.length:Int)],f.fil++c⟩,fun j hj _=>idB_kap (by rfl) j hj,rfl,(by show (5:Nat) ≤ 6;decide),rfl,⟨rfl,rfl⟩,rfl,rfl,⟨[],f.offs++[(f.fil.length:Int)],f.fil++c⟩,⟨?_,?_,hv,by simp,(fun _ h=>nomatch h)⟩,?_⟩
  · simp;lia
  · simp;lia
  · simp
theorem f_Flt_finish (bits lg:Int) (h0:1 ≤ bits) (h1:bits ≤ 4) (hl0:0 ≤ lg) (hl1:lg ≤ 31) (f:Flt) (hf:FltOk f) (hn:f.offs.length < 1000):FnC (WK V) 5 546 [.ref 0] (fltL bits lg false f) (FltFin bits lg (f.offs.length + 1)):=by
  refine enter [x_self] (WK_holds ..) (lk_FilterBuilder_finish _) (cd_FilterBuilder_finish _) (fun _=>rfl) rfl (by decide +kernel) (by decide +kernel) rfl rfl rfl (fun Z O=>?_)
  refine Ss_cutP O 3 (fun st=>∃ f':Flt,FltOk f'∧f'.offs.length ≤ f.offs.length + 1∧(st = ⟨[(x_self,.ref 0)],fltL bits lg true f'⟩ ∨ st = ⟨[(x_self,.ref 0)],fltM bits lg true f'⟩)) ?_ ?_
  · have hf2:=hf.offs
    have hf3:=hf.many
    refine br_f rfl ?_
    refine j_lenP rfl (by simp [bpl];lia) ?_
    have hkb:(bpl f.keys).length = f.keys.length:=by simp [bpl]
    by_cases hk:f.keys.length = 0
    · refine br_f (decide_eq_false (by lia)) ?_
      exact ⟨rfl,f,hf,by lia,Or.inl rfl⟩
    · refine br_t (decide_eq_true (by lia)) ?_
      refine OpS.of ?_
      refine call_ofP (args2:=[.ref 0]) [0,1,2,3,4] (f_Flt_close_spanM bits lg h0 h1 f hf hn hk).toR O rfl rfl rfl ⟨rfl,rfl⟩ rfl rfl ?_
      refine SpanM.el fun f2 hf2 hn2=>?_
      exact ⟨rfl,f2,hf2,by lia,Or.inr rfl⟩
  rintro st1 ⟨f,hf,hn,st⟩
  have hf1:=hf.fil
  have hf2:=hf.offs
  rcases st with rfl | rfl
  · refine body_ok O (n:=40) ?_
    refine j_bytearrayB O rfl (by lia) ?_
    refine j_forL O 2 (f.offs.map .int) (fun i st=>st = ⟨[(x_self,.ref 0),(x_out,.ref 6)],[fltO lg true 1 4 2 3,bloomO bits (prb bits),.pl (ipl f.offs),.ba f.fil,.pl (bpl f.keys),.lit 2 i,.ba (f.fil++(f.offs.take i).flatMap fix32)]⟩) ?_ ?_ ?_
    · refine ⟨2,[0,1,2,3,4,6,5],_,rfl,Or.inr ⟨_,rfl,by simp [ipl,PV.sv]⟩,?_,rfl,rfl⟩
      simp only [List.take_zero,List.flatMap_nil,List.append_nil]
      exact resel_of _ rfl rfl rfl ⟨rfl,rfl⟩ ⟨rfl,rfl⟩
    · rintro i st rfl
      exact ⟨rfl,Or.inr ⟨_,rfl,by simp [ipl,PV.sv]⟩⟩
    · rintro r i st rfl hle
      cases hx:(f.offs.map SV.int)[i]? with
      | none =>
        refine forE hx ?_
        have hge:f.offs.length ≤ i:=by simpa using hx
        simp only [List.take_of_length_le hge]
        refine j_lenBa rfl (by lia) ?_
        refine call0 (f_put_fixed32 _ (by lia) (by lia)).toR O rfl rfl rfl ?_
        refine OpS.of ?_
        refine j_extend O rfl (by rw [List.length_append,fix32_len];simp [fix32,rowB];lia) ?_
        refine OpS.of ?_
        refine j_baAppend O rfl (by lia) (by lia) (by rw [List.length_append,List.length_append,fix32_len];simp [fix32,rowB];lia) ?_
        refine j_bytesBa O rfl (by rw [List.length_append,List.length_append,List.length_append,fix32_len];simp [fix32,rowB];lia) ?_
        refine fin_of [0,1,2,3,4] rfl rfl rfl ⟨rfl,rfl⟩ (res:=.bytes _) rfl rfl (.l f _ ?_)
        rw [List.length_append,List.length_append,List.length_append,fix32_len];simp [fix32,rowB];lia
      | some x =>
        refine forI hx ?_
        have hlt:i < f.offs.length:=by have:=lt_of_some hx;simpa using this
        have ex:x = .int f.offs[i]:=by simp [hlt] at hx;exact hx.symm
        subst ex
        have O':=O.inner (Nat.le_succ _) r
        have hp:=hf.vals f.offs[i] (List.getElem_mem hlt)
        refine call0 (f_put_fixed32 _ hp.1 (by lia)).toR O' rfl rfl rfl ?_
        have hft:=fix32_len (f.offs.take i)
        have htk:(f.offs.take i).length ≤ i:=by rw [List.length_take];lia
        refine OpS.of ?_
        refine j_extend O' rfl (by rw [List.length_append,fix32_len];simp [fix32,rowB];lia) ?_
        refine Or.inr ⟨_,⟨[0,1,2,3,4,5,6],?_⟩,rfl⟩
        simp only [List.take_succ_eq_append_getElem hlt,List.flatMap_append,List.flatMap_cons,List.flatMap_nil,List.append_nil,← List.append_assoc]
        exact resel_of _ rfl rfl rfl ⟨rfl,rfl⟩ ⟨rfl,rfl⟩
  · refine body_ok O (n:=40) ?_
    refine j_bytearrayB O rfl (by lia) ?_
    refine j_forL O 2 (f.offs.map .int) (fun i st=>st = ⟨[(x_self,.ref 0),(x_out,.ref 7)],[fltO lg true 1 6 2 3,bloomO bits (prb bits),.pl (ipl f.offs),.ba f.fil,.gone,.lit 2 i,.pl (bpl f.keys),.ba (f.fil++(f.offs.take i).flatMap fix32)]⟩) ?_ ?_ ?_
    · refine ⟨2,[0,1,2,3,4,7,5,6],_,rfl,Or.inr ⟨_,rfl,by simp [ipl,PV.sv]⟩,?_,rfl,rfl⟩
      simp only [List.take_zero,List.flatMap_nil,List.append_nil]
      exact resel_of _ rfl rfl rfl ⟨rfl,rfl⟩ ⟨rfl,rfl⟩
    · rintro i st rfl
      exact ⟨rfl,Or.inr ⟨_,rfl,by simp [ipl,PV.sv]⟩⟩
    · rintro r i st rfl hle
      cases hx:(f.offs.map SV.int)[i]? with
      | none =>
        refine forE hx ?_
        have hge:f.offs.length ≤ i:=by simpa using hx
        simp only [List.take_of_length_le hge]
        refine j_lenBa rfl (by lia) ?_
        refine call0 (f_put_fixed32 _ (by lia) (by lia)).toR O rfl rfl rfl ?_
        refine OpS.of ?_
        refine j_extend O rfl (by rw [List.length_append,fix32_len];simp [fix32,rowB];lia) ?_
        refine OpS.of ?_
        refine j_baAppend O rfl (by lia) (by lia) (by rw [List.length_append,List.length_append,fix32_len];simp [fix32,rowB];lia) ?_
        refine j_bytesBa O rfl (by rw [List.length_append,List.length_append,List.length_append,fix32_len];simp [fix32,rowB];lia) ?_
        refine fin_of [0,1,2,3,4,6] rfl rfl rfl ⟨rfl,rfl⟩ (res:=.bytes _) rfl rfl (.m f _ ?_)
        rw [List.length_append,List.length_append,List.length_append,fix32_len];simp [fix32,rowB];lia
      | some x =>
        refine forI hx ?_
        have hlt:i < f.offs.length:=by have:=lt_of_some hx;simpa using this
        have ex:x = .int f.offs[i]:=by simp [hlt] at hx;exact hx.symm
        subst ex
        have O':=O.inner (Nat.le_succ _) r
        have hp:=hf.vals f.offs[i] (List.getElem_mem hlt)
        refine call0 (f_put_fixed32 _ hp.1 (by lia)).toR O' rfl rfl rfl ?_
        have hft:=fix32_len (f.offs.take i)
        have htk:(f.offs.take i).length ≤ i:=by rw [List.length_take];lia
        refine OpS.of ?_
        refine j_extend O' rfl (by rw [List.length_append,fix32_len];simp [fix32,rowB];lia) ?_
        refine Or.inr ⟨_,⟨[0,1,2,3,4,5,6,7],?_⟩,rfl⟩
        simp only [List.take_succ_eq_append_getElem hlt,List.flatMap_append,List.flatMap_cons,List.flatMap_nil,List.append_nil,← List.append_assoc]
        exact resel_of _ rfl rfl rfl ⟨rfl,rfl⟩ ⟨rfl,rfl⟩
end
end Mine
end
section
namespace Mine
theorem Ss_gone {X:Cx} {l:List Stmt} {loc:List (PySem.Str × SV)} {objs:List SObj} {K:Fl→St→Prop} (h:Ss X l ⟨loc,objs++[.gone]⟩ K):Ss X l ⟨loc,objs⟩ K:=by
  intro ρ s R
  obtain ⟨⟨m,chs,F,N,nd,LR,OR⟩,g1,g2,g3,pn⟩:=R
  obtain ⟨ρ',e1,e2,OR'⟩:=OR.add (a:=0) (o:=.gone) (c:=[]) (fun ρ' _ _=>rfl)
  refine h ρ' s ⟨⟨m,chs++[[]],F,by simpa using N,by simpa using nd,?_,OR'⟩,g1,g2,g3,pn.ext e1 (by simp)⟩
  show LRep ρ' (objs++[SObj.gone]).length m loc
  rw [List.length_append]
  exact LR.ext e1 (Nat.le_add_right _ _)
@[reducible] noncomputable def hO (off sz:Int):SObj:=.inst c_Handle [(x_offset,.int off),(x_size,.int sz)]
@[reducible] noncomputable def ftO (a b:Nat):SObj:=.inst c_Footer [(x_meta,.ref a),(x_index,.ref b)]
structure Tab where
  bs:Int
  ri:Int
  bits:Int
  lg:Int
  out:List UInt8
  blk:Blk
  idx:Blk
  flt:Option Flt
  wait:Option (Int × Int)
  last:List UInt8
  ents:Int
  closed:Bool
  ffin:Bool
noncomputable def fltV (f:Option Flt) (n:Nat):SV:=match f with
  | none=>.none
  | some _=>.ref n
noncomputable def waitV (f:Option (Int × Int)) (n:Nat):SV:=match f with
  | none=>.none
  | some _=>.ref n
@[reducible] noncomputable def tbO (T:Tab):SObj:=.inst c_TableBuilder [(x_options,.ref 0),(x_order,.ref 2),(x_out,.ref 5),(x_block,.ref 6),(x_index,.ref 7),(x_filters,fltV T.flt 10),(x_waiting,waitV T.wait 17),(x_last_key,.bytes T.last),(x_entries,.int T.ents),(x_closed,.bool T.closed)]
noncomputable def ifF (f:Option Flt) (k:Flt→SObj):SObj:=match f with
  | none=>.gone
  | some f=>k f
noncomputable def ifW (f:Option (Int × Int)):SObj:=match f with
  | none=>.gone
  | some p=>hO p.1 p.2
@[reducible] noncomputable def tabL (T:Tab):List SObj:=[optO 1 2 T.bs T.ri T.bits T.lg,hgtO,.inst c_InternalOrder [(x_user_order,.ref 3)],.inst c_BytesOrder [],tbO T,.ba T.out,blkO T.blk 2 14 15,blkO T.idx 2 8 9,.ba T.idx.buf,.pl (ipl T.idx.rs),
  ifF T.flt fun _=>fltO T.lg T.ffin 11 16 12 13,ifF T.flt fun _=>bloomO T.bits (prb T.bits),ifF T.flt fun f=>.pl (ipl f.offs),ifF T.flt fun f=>.ba f.fil,.ba T.blk.buf,.pl (ipl T.blk.rs),ifF T.flt fun f=>.pl (bpl f.keys),ifW T.wait]
section
variable {V:Vs}
theorem mk_Handle (off sz:Int):FnC (WK V) 2 c_Handle [.int off,.int sz] [] (Det (.ref 0) [hO off sz]):=makeC (P:=fun o=>o = _) (by kernel_rfl) (by kernel_rfl) (by kernel_rfl) (f_Handle_init off sz)
theorem mk_Bloom (bits:Int) (h0:1 ≤ bits) (h1:bits ≤ 100):FnC (WK V) 2 c_Bloom [.int bits] [] (Det (.ref 0) [bloomO bits (prb bits)]):=makeC (P:=fun o=>o = _) (by kernel_rfl) (by kernel_rfl) (by kernel_rfl) (f_Bloom_init bits h0 h1)
theorem mk_Order:FnC (WK V) 3 c_InternalOrder [] [] (Det (.ref 0) (ordO 1)):=makeC (P:=fun o=>o = _) (by kernel_rfl) (by kernel_rfl) (by kernel_rfl) f_InternalOrder_init
theorem mk_Options:FnC (WK V) 2 c_Options [] [] (Det (.ref 0) [optO 1 1 4096 16 10 11,hgtO]):=makeC (P:=fun o=>o = _) (by kernel_rfl) (by kernel_rfl) (by kernel_rfl) f_Options_init
theorem mk_BB (iv:Int) (h:1 ≤ iv) {OO:List SObj} (hO:OO = ordO 1 ∨ OO = bO):FnC (WK V) 2 c_BlockBuilder [.int iv,.ref 0] OO (Det (.ref OO.length) (OO++[blkO (blk0 iv) 0 (OO.length + 1) (OO.length + 2),.ba [],.pl (ipl [0])])):=makeC (P:=fun o=>o = _) (by kernel_rfl) (by kernel_rfl) (by kernel_rfl) (f_BB_init iv h hO)
theorem mk_Flt (bits lg:Int) (h0:0 ≤ lg) (h1:lg ≤ 31):FnC (WK V) 2 c_FilterBuilder [.ref 0,.int lg] [bloomO bits (prb bits)] (Det (.ref 1) [bloomO bits (prb bits),fltO lg false 0 2 3 4,.pl [],.pl [],.ba []]):=makeC (P:=fun o=>o = _) (by kernel_rfl) (by kernel_rfl) (by kernel_rfl) (f_Flt_init bits lg h0 h1)
theorem f_Footer_init (a b c d:Int):FnC (WK V) 1 567 [.ref 2,.ref 0,.ref 1] [hO a b,hO c d,.inst c_Footer []] (Det .none [hO a b,hO c d,ftO 0 1]):=by
  refine enter [x_self,x_meta,x_index] (WK_holds ..) (lk_Footer___init__ _) (cd_Footer___init__ _) (fun _ _ _=>rfl) rfl (by decide +kernel) (by decide +kernel) rfl rfl rfl (fun Z O=>body_ok O (n:=40) ?_)
  exact fin_det [0,1,2] rfl rfl rfl ⟨rfl,rfl⟩ rfl rfl
theorem mk_Footer (a b c d:Int):FnC (WK V) 2 c_Footer [.ref 0,.ref 1] [hO a b,hO c d] (Det (.ref 2) [hO a b,hO c d,ftO 0 1]):=makeC (P:=fun o=>o = _) (by kernel_rfl) (by kernel_rfl) (by kernel_rfl) (f_Footer_init a b c d)
noncomputable def ftB (a b c d:Int):List UInt8:=((vint a++vint b)++(vint c++vint d))++List.replicate (40 - ((vint a++vint b)++(vint c++vint d)).length) 0++(fix32 (Builtin.bitAnd 15800726617472432983 4294967295)++fix32 ((15800726617472432983:Int).fdiv (2 ^ 32)))
theorem vint_len (n:Int):(vint n).length ≤ 2:=by unfold vint;split <;> simp [rowB]
theorem fix32_l (n:Int):(fix32 n).length = 4:=rfl
theorem ftB_len (a b c d:Int):(ftB a b c d).length = 48:=by
  have h1:=vint_len a
  have h2:=vint_len b
  have h3:=vint_len c
  have h4:=vint_len d
  unfold ftB
  simp only [List.length_append,List.length_replicate,fix32_l]
  exact pad48 (Nat.le_trans (Nat.add_le_add (Nat.add_le_add h1 h2) (Nat.add_le_add h3 h4)) (by decide))
theorem f_Footer_encode (a b c d:Int) (ha:0 ≤ a∧a < 16384) (hb:0 ≤ b∧b < 16384) (hc:0 ≤ c∧c < 16384) (hd:0 ≤ d∧d < 16384):FnC (WK V) 4 574 [.ref 2] [hO a b,hO c d,ftO 0 1] (Det (.bytes (ftB a b c d)) [hO a b,hO c d,ftO 0 1]):=by
  have l1:=vint_len a
  have l2:=vint_len b
  have l3:=vint_len c
  have l4:=vint_len d
  refine enter [x_self] (WK_holds ..) (lk_Footer_encode _) (cd_Footer_encode _) (fun _=>rfl) rfl (by decide +kernel) (by decide +kernel) rfl rfl rfl (fun Z O=>body_ok O (n:=40) ?_)
  refine callS (args2:=[.ref 0]) [0] (f_Handle_encode a b ha.1 ha.2 hb.1 hb.2).toR O rfl rfl rfl ⟨rfl,rfl⟩ rfl rfl rfl ?_
  refine callS (args2:=[.ref 0]) [1] (f_Handle_encode c d hc.1 hc.2 hd.1 hd.2).toR O rfl rfl rfl ⟨rfl,rfl⟩ rfl rfl rfl ?_
  have h8:=four_le l1 l2 l3 l4
  refine j_addB (by simp only [List.length_append,Nat.add_assoc];exact Nat.le_trans h8 (by decide)) ?_
  refine j_lenB (by simp only [List.length_append,Nat.add_assoc];exact Nat.le_trans h8 (by decide)) ?_
  refine j_bytesN (by simp;lia) (by simp;lia) ?_
  refine j_addB (by simp;first | (rw [pad4,pad_le h8];decide) | (rw [pad4,padE l1 l2 l3 l4];decide)) ?_
  refine call0 (f_put_fixed64 _ (by decide) (by decide)).toR O rfl rfl rfl ?_
  refine j_addB (by simp [fix32,rowB];first | (rw [pad4,pad_le h8];decide) | (rw [pad4,padE l1 l2 l3 l4];decide)) ?_
  refine fin_det [0,1,2] rfl rfl rfl ⟨rfl,rfl⟩ ?_ rfl
  show SV.bytes _ = SV.bytes _
  rw [ftB]
  congr 4
  simp;exact pad4 _ _ _ _
end
end Mine
end
section
namespace Mine
theorem SV.ren_congr {v:SV} {n:Nat} {κ κ':Nat→Nat} (hκ:∀ i,i < n→κ i = κ' i) (h:v.clo n = true):v.ren κ = v.ren κ':=by
  cases v <;> try rfl
  show SV.ref _ = SV.ref _
  rw [hκ _ (Nat.le_of_ble_eq_true h)]
theorem SObj.ren_congr {o:SObj} {n:Nat} {κ κ':Nat→Nat} (hκ:∀ i,i < n→κ i = κ' i) (h:o.clo n = true):o.ren κ = o.ren κ':=by
  have l:∀ xs:List SV,xs.all (SV.clo n) = true→xs.map (SV.ren κ) = xs.map (SV.ren κ'):=fun xs hx=>List.map_congr_left fun v hv=>SV.ren_congr hκ (List.all_eq_true.mp hx v hv)
  cases o with
  | inst C fs =>
    show SObj.inst C _ = SObj.inst C _
    congr 1
    exact List.map_congr_left fun f hf=>by rw [SV.ren_congr hκ (List.all_eq_true.mp h f hf)]
  | list xs=>show SObj.list _ = SObj.list _;rw [l xs h]
  | tup xs=>show SObj.tup _ = SObj.tup _;rw [l xs h]
  | lit j i=>show SObj.lit _ _ = SObj.lit _ _;rw [hκ _ (Nat.le_of_ble_eq_true h)]
  | cell v =>
    cases v with
    | none=>rfl
    | some v=>show SObj.cell (some _) = SObj.cell (some _);rw [SV.ren_congr hκ h]
  | tl m i j l =>
    obtain ⟨c1,c2⟩:=Bool.and_eq_true_iff.mp h
    obtain ⟨c2,c3⟩:=Bool.and_eq_true_iff.mp c2
    show SObj.tl _ _ _ _ = SObj.tl _ _ _ _
    rw [hκ _ (Nat.le_of_ble_eq_true c1),hκ _ (Nat.le_of_ble_eq_true c2),hκ _ (Nat.le_of_ble_eq_true c3)]
  | _=>rfl
theorem lift_more {ι:List Nat} {objs objs2:List SObj} (new:List SObj) (hl:objs2.length = ι.length) (hnd:nodupN ι = true) (hsel:selL (kap ι objs.length) objs objs2.length 0 objs2):lift ι objs (objs2++new) = objs++liftB (kap ι objs.length) new:=by
  have e:=lift_same hl hnd hsel
  have key:∀ (x:List SObj) (i:Nat),liftA (kap ι objs.length) ι (objs2++new) i x = liftA (kap ι objs.length) ι objs2 i x:=fun x=>by
    induction x with
    | nil=>exact fun _=>rfl
    | cons o r ih =>
      intro i
      unfold liftA
      rw [ih]
      congr 1
      cases hp:posN i ι 0 with
      | none=>rfl
      | some j =>
        have hj:=lt_of_some (posN_some hp).2
        rw [Nat.sub_zero] at hj
        show ((objs2++new).getD j .gone).ren _ = (objs2.getD j .gone).ren _
        rw [List.getD_eq_getElem?_getD,List.getD_eq_getElem?_getD,List.getElem?_append_left (by rw [hl];exact hj)]
  unfold lift at e ⊢
  rw [← hl,List.drop_length] at e
  have e:liftA (kap ι objs.length) ι objs2 0 objs++[] = objs:=e
  rw [List.append_nil] at e
  rw [key,e,← hl,List.drop_append_of_le_length (Nat.le_refl _),List.drop_length,List.nil_append]
theorem SV.ren_av {v:SV} {n:Nat} {U:List Nat} {κ:Nat→Nat} (hκ:∀ i,i < n→inU U i = false→κ i = i) (h:v.clo n = true) (a:v.av U = true):v.ren κ = v:=by
  cases v with
  | ref i=>exact congrArg SV.ref (hκ i (Nat.le_of_ble_eq_true h) (not_of a))
  | _=>rfl
theorem SObj.ren_av {o:SObj} {n:Nat} {U:List Nat} {κ:Nat→Nat} (hκ:∀ i,i < n→inU U i = false→κ i = i) (h:o.clo n = true) (a:o.av U = true):o.ren κ = o:=by
  have l:∀ xs:List SV,xs.all (SV.clo n) = true→xs.all (SV.av U) = true→xs.map (SV.ren κ) = xs:=fun xs hx hy =>
    (List.map_congr_left (g:=id) fun v hv=>SV.ren_av hκ (List.all_eq_true.mp hx v hv) (List.all_eq_true.mp hy v hv)).trans (List.map_id xs)
  cases o with
  | inst C fs=>exact congrArg (SObj.inst C) ((List.map_congr_left (g:=id) fun f hf=>by rw [SV.ren_av hκ (List.all_eq_true.mp h f hf) (List.all_eq_true.mp a f hf)];rfl).trans (List.map_id fs))
  | list xs=>exact congrArg SObj.list (l xs h a)
  | tup xs=>exact congrArg SObj.tup (l xs h a)
  | lit j i=>exact congrArg (SObj.lit · i) (hκ _ (Nat.le_of_ble_eq_true h) (not_of a))
  | cell v=>cases v with
    | none=>rfl
    | some v=>exact congrArg (fun v=>SObj.cell (some v)) (SV.ren_av hκ h a)
  | tl m i j l =>
    obtain ⟨c1,c2⟩:=Bool.and_eq_true_iff.mp h
    obtain ⟨c2,c3⟩:=Bool.and_eq_true_iff.mp c2
    obtain ⟨a1,a2⟩:=Bool.and_eq_true_iff.mp a
    obtain ⟨a2,a3⟩:=Bool.and_eq_true_iff.mp a2
    show SObj.tl _ _ _ _ = SObj.tl _ _ _ _
    rw [hκ _ (Nat.le_of_ble_eq_true c1) (not_of a1),hκ _ (Nat.le_of_ble_eq_true c2) (not_of a2),hκ _ (Nat.le_of_ble_eq_true c3) (not_of a3)]
  | _=>rfl
noncomputable def tgtM (κ:Nat→Nat) (mask:List Nat):Nat→List SObj→List (Option SObj)
  | _,[]=>[]
  | j,o :: r=>(match inU mask j with
    | true=>some o
    | false=>some (o.ren κ)) :: tgtM κ mask (j + 1) r
noncomputable def avM (mask U:List Nat) (n:Nat):Nat→List SObj→Bool
  | _,[]=>true
  | j,o :: r=>(match inU mask j with
    | true=>o.clo n && o.av U
    | false=>true) && avM mask U n (j + 1) r
theorem avM_at {mask U:List Nat} {n:Nat} {κ:Nat→Nat} (hκ:∀ i,i < n→inU U i = false→κ i = i):∀ {l:List SObj} {j i:Nat} {o:SObj},avM mask U n j l = true→l[i]? = some o→inU mask (j + i) = true→o.ren κ = o:=fun {l}=>by
  induction l with
  | nil=>exact fun _ e=>by simp at e
  | cons x r ih =>
    intro j i o h e q
    obtain ⟨h1,h2⟩:=Bool.and_eq_true_iff.mp h
    cases i with
    | zero =>
      cases e
      rw [Nat.add_zero] at q
      rw [q] at h1
      obtain ⟨h3,h4⟩:=Bool.and_eq_true_iff.mp h1
      exact SObj.ren_av hκ h3 h4
    | succ i=>exact ih h2 (by simpa using e) (by rw [show j + 1 + i = j + (i + 1) by lia];exact q)
theorem tgtM_eq {κ:Nat→Nat} {mask U:List Nat} {n:Nat} (hκ:∀ i,i < n→inU U i = false→κ i = i):∀ {l:List SObj} {j:Nat},avM mask U n j l = true→tgtM κ mask j l = l.map fun o=>some (o.ren κ):=fun {l}=>by
  induction l with
  | nil=>exact fun _=>rfl
  | cons o r ih =>
    intro j h
    unfold tgtM
    rw [ih (Bool.and_eq_true_iff.mp h).2,List.map_cons]
    congr 1
    cases q:inU mask j with
    | false=>rfl
    | true=>exact congrArg some (avM_at hκ h (i:=0) rfl q).symm
noncomputable def liftAm (κ:Nat→Nat) (mask ι:List Nat) (objs2:List SObj):Nat→List SObj→List SObj
  | _,[]=>[]
  | i,o :: r=>(match posN i ι 0 with
    | some j=>(match inU mask j with
      | true=>objs2.getD j .gone
      | false=>(objs2.getD j .gone).ren κ)
    | none=>o) :: liftAm κ mask ι objs2 (i + 1) r
noncomputable def liftM (mask ι:List Nat) (objs objs2:List SObj):List SObj:=liftAm (kap ι objs.length) mask ι objs2 0 objs++liftB (kap ι objs.length) (objs2.drop ι.length)
theorem lift_m {mask U ι:List Nat} {n:Nat} {L l:List SObj} (hκ:∀ i,i < n→inU U i = false→kap ι L.length i = i) (h:avM mask U n 0 l = true):lift ι L l = liftM mask ι L l:=by
  have key:∀ (x:List SObj) (i:Nat),liftA (kap ι L.length) ι l i x = liftAm (kap ι L.length) mask ι l i x:=fun x=>by
    induction x with
    | nil=>exact fun _=>rfl
    | cons o r ih =>
      intro i
      unfold liftA liftAm
      rw [ih]
      congr 1
      cases posN i ι 0 with
      | none=>rfl
      | some j =>
        show _ = match inU mask j with | true=>_ | false=>_
        cases q:inU mask j with
        | false=>rfl
        | true =>
          show (l.getD j .gone).ren _ = l.getD j .gone
          rw [List.getD_eq_getElem?_getD]
          cases ho:l[j]? with
          | none=>rfl
          | some o=>exact avM_at hκ h ho (by rw [Nat.zero_add];exact q)
  unfold lift liftM
  rw [key]
end Mine
end
section
namespace Mine
theorem idM_kap {U:List Nat} {n N:Nat} {ι:List Nat} (h:idM U n 0 ι = true):∀ j,j < n→inU U j = false→kap ι N j = j:=fun j hj hm=>by
  have:=(idM_at h).2 j hj (by rw [Nat.zero_add];exact hm)
  unfold kap
  rw [this,Nat.zero_add]
theorem selL_m {ι mask U:List Nat} {n N:Nat} {L l:List SObj} (hid:idM U n 0 ι = true) (hm:avM mask U n 0 l = true) (hp:pickL (kap ι N) L 0 l = tgtM (kap ι N) mask 0 l) (hc:l.all (SObj.clo l.length) = true):selL (kap ι N) L l.length 0 l :=
  ⟨hp.trans (tgtM_eq (idM_kap hid) hm),hc⟩
theorem call_m {X:Cx} {lvl n:Nat} {t:List PySem.Value→Sem PySem.Value} {args args2:List SV} {st:St} {objs2 objs3:List SObj} {res:SV} {k:SV→St→Prop} (ι mask U:List Nat) (F:FnR X.W lvl t args2 objs2 (Det res objs3)) (O:X.Ok) (hle:Nat.ble lvl X.lvl = true)
    (hm2:avM mask U n 0 objs2 = true) (hm3:avM mask U n 0 objs3 = true) (hl:objs2.length = ι.length) (hnd:nodupN ι = true) (hid:idM U n 0 ι = true) (hp:pickL (kap ι st.objs.length) st.objs 0 objs2 = tgtM (kap ι st.objs.length) mask 0 objs2) (hc2:objs2.all (SObj.clo objs2.length) = true)
    (ha:args = args2.map (SV.ren (kap ι st.objs.length))) (hc:args2.all (SV.clo objs2.length) = true) (h:k (res.ren (kap ι st.objs.length)) ⟨st.loc,liftM mask ι st.objs objs3⟩):OpJ X t args st k :=
  call_of ι F O hle hl hnd (selL_m hid hm2 hp hc2) ha hc (by rw [lift_m (idM_kap hid) hm3];exact h)
theorem call_mM {X:Cx} {lvl n:Nat} {t:List PySem.Value→Sem PySem.Value} {args args2:List SV} {st:St} {objs2:List SObj} {mv:List Nat} {P:SV→List SObj→Prop} {k:St→Prop} (ι mask U:List Nat) (F:FnRM X.W lvl t args2 objs2 mv P) (O:X.Ok) (hle:Nat.ble lvl X.lvl = true)
    (hm2:avM mask U n 0 objs2 = true) (hl:objs2.length = ι.length) (hnd:nodupN ι = true) (hid:idM U n 0 ι = true) (hp:pickL (kap ι st.objs.length) st.objs 0 objs2 = tgtM (kap ι st.objs.length) mask 0 objs2) (hc2:objs2.all (SObj.clo objs2.length) = true)
    (ha:args = args2.map (SV.ren (kap ι st.objs.length))) (hc:args2.all (SV.clo objs2.length) = true) (hin:indep (mv.map (kap ι st.objs.length)) ι X.n0 st = true)
    (h:∀ res objs3,P res objs3→avM mask U n 0 objs3 = true∧k ⟨st.loc,liftM mask ι st.objs objs3⟩):OpS X t args st k :=
  call_ofM ι F O hle hl hnd (selG_of (selL_m hid hm2 hp hc2)) ha hc hin fun res o p=>by
    obtain ⟨q1,q2⟩:=h res o p
    rw [lift_m (idM_kap hid) q1];exact q2
theorem fin_m (ι mask U:List Nat) {n n':Nat} {res:SV} {objs':List SObj} {fl:Fl} {st:St} (hm:avM mask U n' 0 objs' = true) (hc2:objs'.all (SObj.clo objs'.length) = true) (hb:idB n 0 ι = true) (hl:objs'.length = ι.length) (hn:nodupN ι = true) (hid:idM U n' 0 ι = true) (hp:pickL (kap ι 0) st.objs 0 objs' = tgtM (kap ι 0) mask 0 objs')
    (hr:retV fl = res.ren (kap ι 0)) (hc:res.clo objs'.length = true):Fin n (Det res objs') fl st:=fin_det ι hb hl hn (selL_m hid hm hp hc2) hr hc
theorem fin_mvm (ι mask U:List Nat) {n n':Nat} {mv:List Nat} {P:SV→List SObj→Prop} {res:SV} {objs':List SObj} {fl:Fl} {st:St} (hm:avM mask U n' 0 objs' = true) (hc2:objs'.all (SObj.clo objs'.length) = true) (hb:idM mv n 0 ι = true) (hl:objs'.length = ι.length) (hn:nodupN ι = true) (hid:idM U n' 0 ι = true) (hp:pickL (kap ι 0) st.objs 0 objs' = tgtM (kap ι 0) mask 0 objs')
    (hr:retV fl = res.ren (kap ι 0)) (hc:res.clo objs'.length = true) (hp':P res objs'):FinM n mv P fl st:=fin_mv ι hb hl hn (selG_of (selL_m hid hm hp hc2)) hr hc hp'
@[reducible] noncomputable def id18:List Nat:=[0,1,2,3,4,5,6,7,8,9,10,11,12,13,14,15,16,17]
@[reducible] noncomputable def mkT:List Nat:=[4,10,11,12,13,16,17]
theorem avM_far {mask U:List Nat} {n:Nat} {l:List SObj} {m:Nat} (hm:mask.all (fun k=>Nat.blt k m) = true):∀ j,m ≤ j→avM mask U n j l = true:=by
  induction l with
  | nil=>exact fun _ _=>rfl
  | cons o r ih =>
    intro j hj
    have e:inU mask j = false:=by
      cases q:inU mask j with
      | false=>rfl
      | true =>
        obtain ⟨k,hk,e⟩:=List.any_eq_true.mp q
        have h1:=Nat.le_of_ble_eq_true (List.all_eq_true.mp hm k hk)
        rw [Nat.eq_of_beq_eq_true e] at h1
        exact absurd (Nat.lt_of_lt_of_le h1 hj) (Nat.lt_irrefl _)
    unfold avM
    rw [e,ih _ (Nat.le_succ_of_le hj)];rfl
theorem tab_m (T:Tab) {l:List SObj}:avM mkT [] 18 0 (tabL T++l) = true:=by
  have h:avM mkT [] 18 18 l = true:=avM_far (m:=18) rfl 18 (Nat.le_refl _)
  obtain ⟨bs,ri,bits,lg,out,blk,idx,flt,wait,last,ents,closed,ffin⟩:=T
  cases flt <;> cases wait <;> exact h
theorem tab_c (T:Tab):(tabL T).all (SObj.clo 18) = true:=by
  obtain ⟨bs,ri,bits,lg,out,blk,idx,flt,wait,last,ents,closed,ffin⟩:=T
  cases flt <;> cases wait <;> rfl
theorem into_of (ι:List Nat) {n0:Nat} {Q:St→Prop} {st:St} (st':St) (hb:idB n0 0 ι = true) (hl:st'.objs.length = ι.length) (hn:nodupN ι = true) (sel:selG (kap ι 0) st.objs st'.objs.length 0 st'.objs) (loc:locSel (kap ι 0) st'.objs.length st.loc st'.loc) (q:Q st'):Into n0 Q st :=
  .inr ⟨st',⟨ι,idB_kap hb,hl,(idB_at hb).1,hn,sel,loc⟩,q⟩
theorem tab_h (T:Tab) (a b:Int):(tabL T++[hO a b]).all (SObj.clo 19) = true:=by
  obtain ⟨bs,ri,bits,lg,out,blk,idx,flt,wait,last,ents,closed,ffin⟩:=T
  cases flt <;> cases wait <;> rfl
end Mine
end
section
namespace Mine
section
variable {V:Vs}
theorem f_TB_size (T:Tab) (h:T.out.length ≤ 100000):FnC (WK V) 1 609 [.ref 4] (tabL T) (Det (.int T.out.length) (tabL T)):=by
  refine enter [x_self] (WK_holds ..) (lk_TableBuilder_size _) (cd_TableBuilder_size _) (fun _=>rfl) rfl (by decide +kernel) (by decide +kernel) rfl rfl rfl (fun Z O=>body_ok O (n:=40) ?_)
  refine j_lenBa rfl (by lia) ?_
  exact fin_m id18 mkT [] (tab_m T (l:=[])) (tab_c T) rfl rfl rfl rfl rfl rfl rfl
theorem f_TB_count (T:Tab):FnC (WK V) 1 616 [.ref 4] (tabL T) (Det (.int T.ents) (tabL T)):=by
  refine enter [x_self] (WK_holds ..) (lk_TableBuilder_count _) (cd_TableBuilder_count _) (fun _=>rfl) rfl (by decide +kernel) (by decide +kernel) rfl rfl rfl (fun Z O=>body_ok O (n:=40) ?_)
  exact fin_m id18 mkT [] (tab_m T (l:=[])) (tab_c T) rfl rfl rfl rfl rfl rfl rfl
theorem f_TB_write_block (T:Tab) (c:List UInt8) (h:T.out.length ≤ 100000) (hc:c.length ≤ 100000):FnC (WK V) 3 630 [.ref 4,.bytes c] (tabL T) (Det (.ref 18) (tabL { T with out:=T.out++sealB c }++[hO T.out.length c.length])):=by
  refine enter [x_self,x_content] (WK_holds ..) (lk_TableBuilder_write_block _) (cd_TableBuilder_write_block _) (fun _ _=>rfl) rfl (by decide +kernel) (by decide +kernel) rfl rfl rfl (fun Z O=>body_ok O (n:=40) ?_)
  refine j_lenBa rfl (by lia) ?_
  refine j_lenB (by lia) ?_
  refine call_of (args2:=[.int T.out.length,.int c.length]) [] (mk_Handle _ _).toR O rfl rfl rfl ⟨rfl,rfl⟩ rfl rfl ?_
  refine call0 (f_seal_block c hc).toR O rfl rfl rfl ?_
  refine OpS.of ?_
  refine j_extend O rfl (by simp [sealB,fix32,rowB];lia) ?_
  exact fin_m [0,1,2,3,4,5,6,7,8,9,10,11,12,13,14,15,16,17,18] mkT [] (tab_m _) (tab_h _ _ _) rfl rfl rfl rfl rfl rfl rfl
end
end Mine
end
section
namespace Mine
noncomputable def FltI (lg:Int) (n:Nat) (m:Int) (f:Option Flt):Prop:=∀ x,f = some x→FltOk x∧(x.offs.length:Int) ≤ (n:Int).fdiv (2 ^ lg.toNat)∧(x.keys.length:Int) ≤ m
noncomputable def tabC (T:Tab) (g:Option Flt):Tab:={ T with out:=T.out++sealB (blkFin T.blk),wait:=some (T.out.length,(blkFin T.blk).length),blk:=blk0 T.blk.iv,flt:=g }
inductive CloseP (T:Tab) (m:Int):SV→List SObj→Prop
  | mk (g:Option Flt) (h:g.isSome = T.flt.isSome) (i:FltI T.lg (tabC T g).out.length m g):CloseP T m .none (tabL (tabC T g))
theorem CloseP.el {T:Tab} {m:Int} {K:SV→List SObj→Prop} (h:∀ g,g.isSome = T.flt.isSome→FltI T.lg (tabC T g).out.length m g→K .none (tabL (tabC T g))):∀ r o,CloseP T m r o→K r o:=fun _ _ q=>by cases q with | mk g a b=>exact h g a b
theorem Det.el {res:SV} {objs:List SObj} {K:SV→List SObj→Prop} (h:K res objs):∀ r o,Det res objs r o→K r o:=fun _ _ q=>by obtain ⟨rfl,rfl⟩:=q;exact h
structure CfgOk (T:Tab):Prop where
  bits:T.flt.isSome = true→1 ≤ T.bits∧T.bits ≤ 4
  lg:0 ≤ T.lg∧T.lg ≤ 31
theorem fdiv_mono {a b:Int} (n:Nat) (h:a ≤ b) (h0:0 ≤ a):a.fdiv (2 ^ n) ≤ b.fdiv (2 ^ n):=by
  have hp:(0:Int) < 2 ^ n:=Int.pow_pos (by decide)
  rw [Int.fdiv_eq_ediv_of_nonneg _ (by lia),Int.fdiv_eq_ediv_of_nonneg _ (by lia)]
  exact Int.ediv_le_ediv hp h
theorem sealB_len (c:List UInt8):(sealB c).length = c.length + 5:=by simp [sealB,fix32,rowB]
theorem blkFin_len (b:Blk):(blkFin b).length = b.buf.length + 4 * b.rs.length + 4:=by
  rw [blkFin,List.length_append,List.length_append,fix32_len];simp [fix32,rowB]
section
variable {V:Vs}
theorem f_TB_close_empty (T:Tab) (h:T.blk.ents = 0):FnM (WK V) 6 637 [.ref 4] (tabL T) [14,15,16,17] (Det .none (tabL T)):=by
  refine enterN 14 rfl rfl [x_self] (WK_holds ..) (lk_TableBuilder_close_block _) (cd_TableBuilder_close_block _) (fun _=>rfl) rfl (by decide +kernel) (by decide +kernel) rfl rfl rfl (fun Z O=>body_ok O (n:=40) ?_)
  refine callS (args2:=[.ref 0]) [6,14,15,2,3] (f_BB_empty T.blk).toR O rfl rfl rfl ⟨rfl,rfl⟩ rfl rfl rfl ?_
  refine br_t (by rw [h];rfl) ?_
  exact fin_mvm id18 mkT [] (tab_m T (l:=[])) (tab_c T) rfl rfl rfl rfl rfl rfl rfl ⟨rfl,rfl⟩
theorem f_TB_close_block (T:Tab) (m:Int) (hc:CfgOk T) (hF:FltI T.lg T.out.length m T.flt) (h:T.blk.ents ≠ 0) (hb:BlkOk T.blk) (hf:T.blk.fin = false) (hff:T.ffin = false) (hw:T.wait = none) (hl:T.out.length + (blkFin T.blk).length ≤ 900) :
    FnM (WK V) 6 637 [.ref 4] (tabL T) [14,15,16,17] (CloseP T m):=by
  have hsl:=sealB_len (blkFin T.blk)
  refine enterN 14 rfl rfl [x_self] (WK_holds ..) (lk_TableBuilder_close_block _) (cd_TableBuilder_close_block _) (fun _=>rfl) rfl (by decide +kernel) (by decide +kernel) rfl rfl rfl (fun Z O=>?_)
  refine Ss_cutI O 3 (atK ⟨[(x_self,.ref 4)],tabL (tabC T T.flt)⟩) ?_ ?_
  · refine callS (args2:=[.ref 0]) [6,14,15,2,3] (f_BB_empty T.blk).toR O rfl rfl rfl ⟨rfl,rfl⟩ rfl rfl rfl ?_
    refine br_f (by simpa using h) ?_
    refine call_of (args2:=[.ref 0]) [6,14,15,2,3] (f_BB_finish T.blk hb hf (.inl rfl)).toR O rfl rfl rfl ⟨rfl,rfl⟩ rfl rfl ?_
    refine call_m (args2:=[.ref 4,.bytes (blkFin T.blk)]) id18 mkT [] (f_TB_write_block { T with blk:={ T.blk with fin:=true } } (blkFin T.blk) (show T.out.length ≤ 100000 by lia) (by lia)).toR O rfl (tab_m _ (l:=[])) (tab_m _) rfl rfl rfl rfl (tab_c _) rfl rfl ?_
    refine call_ofM (args2:=[.ref 0]) [6,14,15,2,3] (f_BB_reset { T.blk with fin:=true }).toM O rfl rfl rfl (selG_of ⟨rfl,rfl⟩) rfl rfl (by clear hc hF h hb hf hff hw hl hsl;obtain ⟨bs,ri,bits,lg,out,blk,idx,flt,wait,last,ents,closed,ffin⟩:=T;cases flt <;> cases wait <;> rfl) ?_
    refine Det.el ?_
    exact ⟨rfl,into_of [0,1,2,3,4,5,6,7,8,9,10,11,12,13,14,15,16,18] _ rfl rfl rfl (selG_of ⟨by clear hc hF h hb hf hff hw hl hsl;obtain ⟨bs,ri,bits,lg,out,blk,idx,flt,wait,last,ents,closed,ffin⟩:=T;cases flt <;> rfl,tab_c _⟩) ⟨rfl,rfl⟩ rfl⟩
  rintro _ rfl
  clear h hb hf hw
  obtain ⟨bs,ri,bits,lg,out,blk,idx,flt,wait,last,ents,closed,ffin⟩:=T
  have hl:out.length + (blkFin blk).length ≤ 900:=hl
  have hsl:(sealB (blkFin blk)).length = (blkFin blk).length + 5:=hsl
  have hff:ffin = false:=hff
  subst hff
  have hF:FltI lg out.length m flt:=hF
  cases flt with
  | none =>
    refine body_ok O (n:=40) ?_
    refine br_f rfl ?_
    exact fin_mv id18 rfl rfl rfl (selG_of ⟨rfl,rfl⟩) (res:=.none) rfl rfl ⟨none,rfl,fun _ e=>nomatch e⟩
  | some f =>
    obtain ⟨hF1,hF2,hF3⟩:FltOk f∧(f.offs.length:Int) ≤ (out.length:Int).fdiv (2 ^ lg.toNat)∧(f.keys.length:Int) ≤ m:=hF f rfl
    obtain ⟨hb0,hb1⟩:1 ≤ bits∧bits ≤ 4:=hc.bits rfl
    obtain ⟨hg0,hg1⟩:0 ≤ lg∧lg ≤ 31:=hc.lg
    have hm:(out.length:Int).fdiv (2 ^ lg.toNat) ≤ ((out++sealB (blkFin blk)).length:Int).fdiv (2 ^ lg.toNat):=fdiv_mono _ (by rw [List.length_append];lia) (by lia)
    have hm2:=fdiv_lt lg.toNat (show (0:Int) ≤ ((out++sealB (blkFin blk)).length:Int) by lia)
    have hm3:((out++sealB (blkFin blk)).length:Int) ≤ 1000:=by rw [List.length_append];lia
    refine body_ok O (n:=40) ?_
    refine br_t rfl ?_
    refine j_lenBa rfl (show (out++sealB (blkFin blk)).length ≤ 1000000 by lia) ?_
    refine call_ofM (args2:=[.ref 0,.int _]) [10,11,12,13,16] (f_Flt_start_block bits lg ((out++sealB (blkFin blk)).length:Nat) hb0 hb1 hg0 hg1 (by lia) f hF1 (by lia) (by lia)).toM O rfl rfl rfl (selG_of ⟨rfl,rfl⟩) rfl rfl rfl ?_
    refine SpanP.el fun f2 hf2 hn2 hk2=>?_
    exact fin_mv id18 rfl rfl rfl (selG_of ⟨rfl,rfl⟩) (res:=.none) rfl rfl ⟨some f2,rfl,fun x e=>by cases e;exact ⟨hf2,by show (f2.offs.length:Int) ≤ ((out++sealB (blkFin blk)).length:Int).fdiv (2 ^ lg.toNat);lia,Int.le_trans (by lia) hF3⟩⟩
end
end Mine
end
section
namespace Mine
noncomputable def tabW (T:Tab) (k:List UInt8):Tab:=match T.wait with
  | none=>T
  | some p=>{ T with idx:=blkAdd T.idx (sepI T.last k) (vint p.1++vint p.2),wait:=none }
noncomputable def tabB (T:Tab) (k v:List UInt8):Tab:={ T with blk:=blkAdd T.blk k v,last:=k,ents:=T.ents + 1 }
noncomputable def tabAdd (T:Tab) (k v:List UInt8) (g:Option Flt):Tab:=if T.bs ≤ blkEst (blkAdd T.blk k v) then tabC (tabB (tabW T k) k v) g else { tabB (tabW T k) k v with flt:=g }
inductive AddP (T:Tab) (k v:List UInt8) (m:Int):SV→List SObj→Prop
  | mk (g:Option Flt) (h:g.isSome = T.flt.isSome) (i:FltI T.lg (tabAdd T k v g).out.length m g):AddP T k v m .none (tabL (tabAdd T k v g))
theorem AddP.el {T:Tab} {k v:List UInt8} {m:Int} {K:SV→List SObj→Prop} (h:∀ g,g.isSome = T.flt.isSome→FltI T.lg (tabAdd T k v g).out.length m g→K .none (tabL (tabAdd T k v g))):∀ r o,AddP T k v m r o→K r o:=fun _ _ q=>by cases q with | mk g a b=>exact h g a b
inductive AddQ (T:Tab) (k v:List UInt8) (m:Int) (ix:Blk):St→Prop
  | mk (g:Option Flt) (h:g.isSome = T.flt.isSome) (i:FltI T.lg T.out.length (m + 1) g):AddQ T k v m ix ⟨[(x_value,.bytes v),(x_ikey,.bytes k),(x_self,.ref 4),(x_user,.bytes (userOf k))],tabL { T with idx:=ix,wait:=none,blk:=blkAdd T.blk k v,flt:=g }⟩
theorem AddQ.el {T:Tab} {k v:List UInt8} {m:Int} {ix:Blk} {K:St→Prop} (h:∀ g,g.isSome = T.flt.isSome→FltI T.lg T.out.length (m + 1) g→K ⟨[(x_value,.bytes v),(x_ikey,.bytes k),(x_self,.ref 4),(x_user,.bytes (userOf k))],tabL { T with idx:=ix,wait:=none,blk:=blkAdd T.blk k v,flt:=g }⟩):∀ st,AddQ T k v m ix st→K st:=fun _ q=>by cases q with | mk g a b=>exact h g a b
structure WaitOk (T:Tab) (k:List UInt8) (p:Int × Int):Prop where
  h1:0 ≤ p.1∧p.1 < 16384
  h2:0 ≤ p.2∧p.2 < 16384
  last:8 ≤ T.last.length∧T.last.length ≤ 120
  up:0 < cmpI k T.last
  idx:BlkOk T.idx
  fin:T.idx.fin = false
  sep:8 ≤ (sepI T.last k).length∧(sepI T.last k).length ≤ 120
  ix:0 < T.idx.ents→8 ≤ T.idx.last.length∧0 < cmpI (sepI T.last k) T.idx.last
section
variable {V:Vs}
theorem f_TB_add (T:Tab) (k v:List UInt8) (m:Int) (hc:CfgOk T) (hF:FltI T.lg T.out.length m T.flt) (hm:m ≤ 2) (hcl:T.closed = false) (hff:T.ffin = false) (hk:8 ≤ k.length∧k.length ≤ 120) (hv:v.length ≤ 120) (hw:∀ p,T.wait = some p→WaitOk T k p)
    (hb:BlkOk T.blk) (hbf:T.blk.fin = false) (hbo:0 < T.blk.ents→8 ≤ T.blk.last.length∧0 < cmpI k T.blk.last) (hb2:BlkOk (blkAdd T.blk k v)) (hbe:0 ≤ T.blk.ents) (hl:T.out.length + (blkFin (blkAdd T.blk k v)).length ≤ 900) :
    FnM (WK V) 7 623 [.ref 4,.bytes k,.bytes v] (tabL T) [14,15,16,17] (AddP T k v (m + 1)):=by
  have hne:(blkAdd T.blk k v).ents ≠ 0:=by
    have:(blkAdd T.blk k v).ents = T.blk.ents + 1:=by unfold blkAdd;split <;> rfl
    lia
  have hfe:(blkAdd T.blk k v).fin = T.blk.fin:=by unfold blkAdd;split <;> rfl
  have hul:=userOf_le k
  refine enterN 14 rfl rfl [x_self,x_ikey,x_value] (WK_holds ..) (lk_TableBuilder_add _) (cd_TableBuilder_add _) (fun _ _ _=>rfl) rfl (by decide +kernel) (by decide +kernel) rfl rfl rfl (fun Z O=>?_)
  refine Ss_cutI O 3 (atK ⟨[(x_value,.bytes v),(x_ikey,.bytes k),(x_self,.ref 4),(x_user,.bytes (userOf k))],tabL (tabW T k)⟩) ?_ ?_
  · clear hc hF hff hb hbf hbo hb2 hbe hl hne hfe hm hv hul
    obtain ⟨bs,ri,bits,lg,out,blk,idx,flt,wait,last,ents,closed,ffin⟩:=T
    refine br_f hcl ?_
    refine call0 (f_user_of k hk.1 (by lia)).toR O rfl rfl rfl ?_
    cases wait with
    | none =>
      refine br_f rfl ?_
      exact ⟨rfl,.inl rfl⟩
    | some q =>
      obtain ⟨W1,W2,W3,W4,W5,W6,W7,W8⟩:=hw q rfl
      clear hw
      refine br_t rfl ?_
      refine callS (args2:=[.ref 0,.bytes k,.bytes last]) [2,3] (f_compareI k last hk.1 W3.1 (by lia) (Nat.le_trans W3.2 (by decide))).toR O rfl rfl rfl ⟨rfl,rfl⟩ rfl rfl rfl ?_
      refine br_f (decide_eq_false (Int.not_le.mpr W4)) ?_
      refine callS (args2:=[.ref 0,.bytes last,.bytes k]) [2,3] (f_separatorI last k W3.1 hk.1 (Nat.le_trans W3.2 (by decide)) (by lia)).toR O rfl rfl rfl ⟨rfl,rfl⟩ rfl rfl rfl ?_
      refine callS (args2:=[.ref 0]) [17] (f_Handle_encode q.1 q.2 W1.1 W1.2 W2.1 W2.2).toR O rfl rfl rfl ⟨rfl,rfl⟩ rfl rfl rfl ?_
      refine OpS.of ?_
      refine call_of (args2:=[.ref 0,.bytes (sepI last k),.bytes (vint q.1++vint q.2)]) [7,8,9,2,3] (f_BB_addI idx W5 W6 _ _ W7.2 (by have:=vint_len q.1;have:=vint_len q.2;simp;lia) W7.1 W8).toR O rfl rfl rfl ⟨rfl,rfl⟩ rfl rfl ?_
      clear W1 W2 W3 W4 W5 W6 W7 W8 hcl
      cases flt <;> exact ⟨rfl,into_of id18 _ rfl rfl rfl ⟨rfl,rfl⟩ ⟨rfl,rfl⟩ rfl⟩
  rintro _ rfl
  obtain ⟨ix,hix⟩:∃ ix,tabW T k = { T with idx:=ix,wait:=none }:=by
    clear hc hF hff hb hbf hbo hb2 hbe hl hne hfe hm hv hul hcl hw
    obtain ⟨bs,ri,bits,lg,out,blk,idx,flt,wait,last,ents,closed,ffin⟩:=T
    cases wait <;> exact ⟨_,rfl⟩
  rw [hix]
  refine Ss_cut O 1 (st1:=⟨[(x_value,.bytes v),(x_ikey,.bytes k),(x_self,.ref 4),(x_user,.bytes (userOf k))],tabL { T with idx:=ix,wait:=none,blk:=blkAdd T.blk k v }⟩) ?_ ?_
  · refine OpS.of ?_
    refine call_of (args2:=[.ref 0,.bytes k,.bytes v]) [6,14,15,2,3] (f_BB_addI T.blk hb hbf k v hk.2 hv hk.1 hbo).toR O rfl rfl rfl ⟨rfl,rfl⟩ rfl rfl ?_
    exact ⟨rfl,rfl⟩
  refine Ss_cutP O 1 (AddQ T k v m ix) ?_ ?_
  · clear hix hw hb hbf hbo hbe hl hne hfe hcl hb2 hc
    obtain ⟨bs,ri,bits,lg,out,blk,idx,flt,wait,last,ents,closed,ffin⟩:=T
    have hff:ffin = false:=hff
    subst hff
    cases flt with
    | none =>
      refine br_f rfl ?_
      exact ⟨rfl,none,rfl,fun _ e=>nomatch e⟩
    | some f =>
      obtain ⟨hF1,hF2,hF3⟩:FltOk f∧(f.offs.length:Int) ≤ (out.length:Int).fdiv (2 ^ lg.toNat)∧(f.keys.length:Int) ≤ m:=hF f rfl
      refine br_t rfl ?_
      refine OpS.of ?_
      refine call_of (args2:=[.ref 0,.bytes (userOf k)]) [10,11,12,13,16] (f_Flt_add_key bits lg f hF1 (userOf k) (by lia)).toR O rfl rfl rfl ⟨rfl,rfl⟩ rfl rfl ?_
      exact ⟨rfl,some { f with keys:=f.keys++[userOf k] },rfl,fun x e=>by
        cases e
        exact ⟨⟨hF1.fil,hF1.offs,hF1.vals,by simp;lia,fun x hx=>by
          rcases List.mem_append.mp hx with h | h
          · exact hF1.keys x h
          · rw [List.mem_singleton.mp h];lia⟩,hF2,by simp;lia⟩⟩
  refine AddQ.el fun g hg hFg=>?_
  refine body_ok O (n:=40) ?_
  refine j_bytesB ?_
  refine callS (args2:=[.ref 0]) [6,14,15,2,3] (f_BB_estimate (blkAdd T.blk k v) hb2).toR O rfl rfl rfl ⟨rfl,rfl⟩ rfl rfl rfl ?_
  by_cases he:T.bs ≤ blkEst (blkAdd T.blk k v)
  · refine br_t (decide_eq_true he) ?_
    refine call_mM (args2:=[.ref 4]) id18 mkT [] (f_TB_close_block { T with idx:=ix,wait:=none,blk:=blkAdd T.blk k v,flt:=g,last:=k,ents:=T.ents + 1 } (m + 1) ⟨fun e=>hc.bits (hg.symm.trans e),hc.lg⟩ hFg hne hb2 (hfe.trans hbf) hff rfl hl).toM O rfl (tab_m _ (l:=[])) rfl rfl rfl rfl (tab_c _) rfl rfl rfl (CloseP.el fun g' hg1 hg2=>?_)
    have e:tabAdd T k v g' = tabC { T with idx:=ix,wait:=none,blk:=blkAdd T.blk k v,flt:=g,last:=k,ents:=T.ents + 1 } g':=by rw [tabAdd,if_pos he,hix];rfl
    have p:=AddP.mk (T:=T) (k:=k) (v:=v) (m:=m + 1) g' (hg1.trans hg) (by rw [e];exact hg2)
    rw [e] at p
    exact ⟨tab_m _ (l:=[]),fin_mvm id18 mkT [] (tab_m _ (l:=[])) (tab_c _) rfl rfl rfl rfl rfl (res:=.none) rfl rfl p⟩
  · refine br_f (decide_eq_false he) ?_
    have e:tabAdd T k v g = { T with idx:=ix,wait:=none,blk:=blkAdd T.blk k v,flt:=g,last:=k,ents:=T.ents + 1 }:=by rw [tabAdd,if_neg he,hix];rfl
    have p:=AddP.mk (T:=T) (k:=k) (v:=v) (m:=m + 1) g hg (by rw [e];exact hFg)
    rw [e] at p
    exact fin_mvm id18 mkT [] (tab_m _ (l:=[])) (tab_c _) rfl rfl rfl rfl rfl (res:=.none) rfl rfl p
end
end Mine
end
section
namespace Mine
noncomputable def tab0 (bs ri bits lg:Int) (g:Option Flt):Tab:=⟨bs,ri,bits,lg,[],blk0 ri,blk0 1,g,none,[],0,false,false⟩
noncomputable def InitP (bs ri bits lg:Int) (b:Bool) (v:SV) (r:SV) (o:List SObj):Prop:=r = v∧∃ g,g.isSome = b∧FltI lg 0 0 g∧o = tabL (tab0 bs ri bits lg g)
section
variable {V:Vs}
theorem f_TB_init0 (bs ri lg:Int) (hr:1 ≤ ri):FnC (WK V) 6 602 [.ref 4,.ref 0,.ref 2] ([optO 1 2 bs ri 0 lg,hgtO]++ordO 3++[.inst c_TableBuilder []]) (InitP bs ri 0 lg false .none):=by
  refine enter [x_self,x_options,x_order] (WK_holds ..) (lk_TableBuilder___init__ _) (cd_TableBuilder___init__ _) (fun _ _ _=>rfl) rfl (by decide +kernel) (by decide +kernel) rfl rfl rfl (fun Z O=>Ss_gone (Ss_gone (Ss_gone (Ss_gone (Ss_gone (Ss_gone ?_))))))
  show Ss _ _ ⟨[(x_order,.ref 2),(x_options,.ref 0),(x_self,.ref 4)],[optO 1 2 bs ri 0 lg,hgtO,.inst c_InternalOrder [(x_user_order,.ref 3)],.inst c_BytesOrder [],.inst c_TableBuilder [],.gone,.gone,.gone,.gone,.gone,.gone]⟩ _
  refine Ss_cut O 3 (st1:=⟨[(x_order,.ref 2),(x_options,.ref 0),(x_self,.ref 4)],[optO 1 2 bs ri 0 lg,hgtO,.inst c_InternalOrder [(x_user_order,.ref 3)],.inst c_BytesOrder [],.inst c_TableBuilder [(x_options,.ref 0),(x_order,.ref 2),(x_out,.ref 11)],.gone,.gone,.gone,.gone,.gone,.gone,.ba []]⟩) ?_ ?_
  · refine j_bytearray0 O ?_
    exact ⟨rfl,rfl⟩
  refine Ss_cut O 1 (st1:=⟨[(x_order,.ref 2),(x_options,.ref 0),(x_self,.ref 4)],[optO 1 2 bs ri 0 lg,hgtO,.inst c_InternalOrder [(x_user_order,.ref 3)],.inst c_BytesOrder [],.inst c_TableBuilder [(x_options,.ref 0),(x_order,.ref 2),(x_out,.ref 11),(x_block,.ref 12)],.gone,.gone,.gone,.gone,.gone,.gone,.ba [],blkO (blk0 ri) 2 13 14,.ba [],.pl (ipl [0])]⟩) ?_ ?_
  · refine call_of (args2:=[.int ri,.ref 0]) (objs2:=ordO 1) [2,3] (mk_BB ri hr (.inl rfl)).toR O rfl rfl rfl ⟨rfl,rfl⟩ rfl rfl ?_
    exact ⟨rfl,rfl⟩
  refine Ss_cut O 1 (st1:=⟨[(x_order,.ref 2),(x_options,.ref 0),(x_self,.ref 4)],[optO 1 2 bs ri 0 lg,hgtO,.inst c_InternalOrder [(x_user_order,.ref 3)],.inst c_BytesOrder [],.inst c_TableBuilder [(x_options,.ref 0),(x_order,.ref 2),(x_out,.ref 11),(x_block,.ref 12),(x_index,.ref 15)],.gone,.gone,.gone,.gone,.gone,.gone,.ba [],blkO (blk0 ri) 2 13 14,.ba [],.pl (ipl [0]),blkO (blk0 1) 2 16 17,.ba [],.pl (ipl [0])]⟩) ?_ ?_
  · refine call_of (args2:=[.int 1,.ref 0]) (objs2:=ordO 1) [2,3] (mk_BB 1 (by decide) (.inl rfl)).toR O rfl rfl rfl ⟨rfl,rfl⟩ rfl rfl ?_
    exact ⟨rfl,rfl⟩
  refine body_ok O (n:=40) ?_
  refine br_f rfl ?_
  exact fin_of [0,1,2,3,4,11,12,15,16,17,5,6,7,8,13,14,9,10] rfl rfl rfl ⟨rfl,rfl⟩ (res:=.none) (objs':=tabL (tab0 bs ri 0 lg none)) rfl rfl ⟨rfl,none,rfl,(fun x e=>by cases e),rfl⟩
theorem f_TB_init1 (bs ri bits lg:Int) (hr:1 ≤ ri) (h0:1 ≤ bits) (h1:bits ≤ 4) (hl0:0 ≤ lg) (hl1:lg ≤ 31):FnC (WK V) 6 602 [.ref 4,.ref 0,.ref 2] ([optO 1 2 bs ri bits lg,hgtO]++ordO 3++[.inst c_TableBuilder []]) (InitP bs ri bits lg true .none):=by
  refine enter [x_self,x_options,x_order] (WK_holds ..) (lk_TableBuilder___init__ _) (cd_TableBuilder___init__ _) (fun _ _ _=>rfl) rfl (by decide +kernel) (by decide +kernel) rfl rfl rfl (fun Z O=>Ss_gone ?_)
  show Ss _ _ ⟨[(x_order,.ref 2),(x_options,.ref 0),(x_self,.ref 4)],[optO 1 2 bs ri bits lg,hgtO,.inst c_InternalOrder [(x_user_order,.ref 3)],.inst c_BytesOrder [],.inst c_TableBuilder [],.gone]⟩ _
  refine Ss_cut O 3 (st1:=⟨[(x_order,.ref 2),(x_options,.ref 0),(x_self,.ref 4)],[optO 1 2 bs ri bits lg,hgtO,.inst c_InternalOrder [(x_user_order,.ref 3)],.inst c_BytesOrder [],.inst c_TableBuilder [(x_options,.ref 0),(x_order,.ref 2),(x_out,.ref 6)],.gone,.ba []]⟩) ?_ ?_
  · refine j_bytearray0 O ?_
    exact ⟨rfl,rfl⟩
  refine Ss_cut O 1 (st1:=⟨[(x_order,.ref 2),(x_options,.ref 0),(x_self,.ref 4)],[optO 1 2 bs ri bits lg,hgtO,.inst c_InternalOrder [(x_user_order,.ref 3)],.inst c_BytesOrder [],.inst c_TableBuilder [(x_options,.ref 0),(x_order,.ref 2),(x_out,.ref 6),(x_block,.ref 7)],.gone,.ba [],blkO (blk0 ri) 2 8 9,.ba [],.pl (ipl [0])]⟩) ?_ ?_
  · refine call_of (args2:=[.int ri,.ref 0]) (objs2:=ordO 1) [2,3] (mk_BB ri hr (.inl rfl)).toR O rfl rfl rfl ⟨rfl,rfl⟩ rfl rfl ?_
    exact ⟨rfl,rfl⟩
  refine Ss_cut O 1 (st1:=⟨[(x_order,.ref 2),(x_options,.ref 0),(x_self,.ref 4)],[optO 1 2 bs ri bits lg,hgtO,.inst c_InternalOrder [(x_user_order,.ref 3)],.inst c_BytesOrder [],.inst c_TableBuilder [(x_options,.ref 0),(x_order,.ref 2),(x_out,.ref 6),(x_block,.ref 7),(x_index,.ref 10)],.gone,.ba [],blkO (blk0 ri) 2 8 9,.ba [],.pl (ipl [0]),blkO (blk0 1) 2 11 12,.ba [],.pl (ipl [0])]⟩) ?_ ?_
  · refine call_of (args2:=[.int 1,.ref 0]) (objs2:=ordO 1) [2,3] (mk_BB 1 (by decide) (.inl rfl)).toR O rfl rfl rfl ⟨rfl,rfl⟩ rfl rfl ?_
    exact ⟨rfl,rfl⟩
  have hz:(0:Int).fdiv (2 ^ lg.toNat) = 0:=Int.zero_fdiv _
  refine Ss_cutP O 2 (fun st=>∃ f:Flt,FltOk f∧f.offs.length = 0∧f.keys.length ≤ 0∧st = ⟨[(x_order,.ref 2),(x_options,.ref 0),(x_self,.ref 4),(x_bloom,.ref 13)],[optO 1 2 bs ri bits lg,hgtO,.inst c_InternalOrder [(x_user_order,.ref 3)],.inst c_BytesOrder [],.inst c_TableBuilder [(x_options,.ref 0),(x_order,.ref 2),(x_out,.ref 6),(x_block,.ref 7),(x_index,.ref 10),(x_filters,.ref 14)],.gone,.ba [],blkO (blk0 ri) 2 8 9,.ba [],.pl (ipl [0]),blkO (blk0 1) 2 11 12,.ba [],.pl (ipl [0]),bloomO bits (prb bits),fltO lg false 13 15 16 17,.pl (bpl f.keys),.pl (ipl f.offs),.ba f.fil]⟩) ?_ ?_
  · refine br_t (decide_eq_true (by lia)) ?_
    refine call_of (args2:=[.int bits]) [] (mk_Bloom bits h0 (by lia)).toR O rfl rfl rfl ⟨rfl,rfl⟩ rfl rfl ?_
    refine call_of (args2:=[.ref 0,.int lg]) [13] (mk_Flt bits lg hl0 hl1).toR O rfl rfl rfl ⟨rfl,rfl⟩ rfl rfl ?_
    refine call_ofM (args2:=[.ref 0,.int 0]) [14,13,16,17,15] (f_Flt_start_block bits lg 0 h0 h1 hl0 hl1 (Int.le_refl _) flt0 flt0_ok (by rw [hz];decide) (by rw [hz];decide)).toM O rfl rfl rfl (selG_of ⟨rfl,rfl⟩) rfl rfl rfl ?_
    refine SpanP.el fun f2 hf2 hn2 hk2=>?_
    rw [hz] at hn2
    exact ⟨rfl,f2,hf2,hn2,hk2,rfl⟩
  rintro _ ⟨f2,hf2,hn2,hk2,rfl⟩
  refine body_ok O (n:=40) ?_
  exact fin_of [0,1,2,3,4,6,7,10,11,12,14,13,16,17,8,9,15,5] rfl rfl rfl ⟨rfl,rfl⟩ (res:=.none) (objs':=tabL (tab0 bs ri bits lg (some f2))) rfl rfl ⟨rfl,some f2,rfl,(fun x e=>by
    cases e
    exact ⟨hf2,by rw [hn2];show (0:Int) ≤ (0:Int).fdiv _;rw [hz];decide,by lia⟩),rfl⟩
theorem mk_TB0 (bs ri lg:Int) (hr:1 ≤ ri):FnC (WK V) 7 c_TableBuilder [.ref 0,.ref 2] ([optO 1 2 bs ri 0 lg,hgtO]++ordO 3) (InitP bs ri 0 lg false (.ref 4)):=makeC (P:=fun o=>∃ g,g.isSome = false∧FltI lg 0 0 g∧o = tabL (tab0 bs ri 0 lg g)) (by kernel_rfl) (by kernel_rfl) (by kernel_rfl) (f_TB_init0 bs ri lg hr)
theorem mk_TB1 (bs ri bits lg:Int) (hr:1 ≤ ri) (h0:1 ≤ bits) (h1:bits ≤ 4) (hl0:0 ≤ lg) (hl1:lg ≤ 31):FnC (WK V) 7 c_TableBuilder [.ref 0,.ref 2] ([optO 1 2 bs ri bits lg,hgtO]++ordO 3) (InitP bs ri bits lg true (.ref 4)):=makeC (P:=fun o=>∃ g,g.isSome = true∧FltI lg 0 0 g∧o = tabL (tab0 bs ri bits lg g)) (by kernel_rfl) (by kernel_rfl) (by kernel_rfl) (f_TB_init1 bs ri bits lg hr h0 h1 hl0 hl1)
end
end Mine
end
section
namespace Mine
noncomputable def tabF (T:Tab) (g:Option Flt):Tab:=if T.blk.ents = 0 then { T with flt:=g } else tabC T g
noncomputable def tabS (T:Tab):Blk:=match T.wait with
  | none=>T.idx
  | some p=>blkAdd T.idx (sucI T.last) (vint p.1++vint p.2)
noncomputable def finB (T:Tab) (Z:List UInt8) (mb:Blk):List UInt8 :=
  (((T.out++Z)++sealB (blkFin mb))++sealB (blkFin (tabS T)))++ftB (T.out++Z).length (blkFin mb).length ((T.out++Z)++sealB (blkFin mb)).length (blkFin (tabS T)).length
structure SucOk (T:Tab) (p:Int × Int):Prop where
  h1:0 ≤ p.1∧p.1 < 16384
  h2:0 ≤ p.2∧p.2 < 16384
  last:8 ≤ T.last.length∧T.last.length ≤ 120
  suc:8 ≤ (sucI T.last).length∧(sucI T.last).length ≤ 120
  ix:0 < T.idx.ents→8 ≤ T.idx.last.length∧0 < cmpI (sucI T.last) T.idx.last
structure FinOk (T:Tab) (m:Int):Prop where
  cfg:CfgOk T
  fi:FltI T.lg T.out.length m T.flt
  many:m ≤ 3
  ol:T.out.length ≤ 905
  ri:1 ≤ T.ri
  ffin:T.ffin = false
  wait:∀ p,T.wait = some p→SucOk T p
  idx:BlkOk T.idx
  ifin:T.idx.fin = false
  suc:BlkOk (tabS T)
  il:(blkFin (tabS T)).length ≤ 1000
inductive FinP1 (T:Tab):SV→List SObj→Prop
  | mk (Z:List UInt8) (mb:Blk) (T':Tab) (h:T.flt = none→Z = []∧mb = blk0 T.ri) (l:(T.out++Z).length + (blkFin mb).length ≤ 14000) (c:T'.closed = true) (cfg:T'.bs = T.bs∧T'.ri = T.ri∧T'.bits = T.bits∧T'.lg = T.lg):FinP1 T (.bytes (finB T Z mb)) (tabL T')
theorem FinP1.el {T:Tab} {K:SV→List SObj→Prop} (h:∀ Z mb T',(T.flt = none→Z = []∧mb = blk0 T.ri)→(T.out++Z).length + (blkFin mb).length ≤ 14000→T'.closed = true→(T'.bs = T.bs∧T'.ri = T.ri∧T'.bits = T.bits∧T'.lg = T.lg)→K (.bytes (finB T Z mb)) (tabL T')):∀ r o,FinP1 T r o→K r o:=fun _ _ q=>by cases q with | mk a b c d e f g=>exact h a b c d e f g
inductive FinP (T:Tab):SV→List SObj→Prop
  | mk (g:Option Flt) (Z:List UInt8) (mb:Blk) (T':Tab) (h:T.flt = none→Z = []∧mb = blk0 T.ri) (l:((tabF T g).out++Z).length + (blkFin mb).length ≤ 14000) (c:T'.closed = true) (cfg:T'.bs = T.bs∧T'.ri = T.ri∧T'.bits = T.bits∧T'.lg = T.lg):FinP T (.bytes (finB (tabF T g) Z mb)) (tabL T')
theorem FinP.el {T:Tab} {K:SV→List SObj→Prop} (h:∀ g Z mb T',(T.flt = none→Z = []∧mb = blk0 T.ri)→((tabF T g).out++Z).length + (blkFin mb).length ≤ 14000→T'.closed = true→(T'.bs = T.bs∧T'.ri = T.ri∧T'.bits = T.bits∧T'.lg = T.lg)→K (.bytes (finB (tabF T g) Z mb)) (tabL T')):∀ r o,FinP T r o→K r o:=fun _ _ q=>by cases q with | mk a b c d e f g i=>exact h a b c d e f g i
inductive FinA (T:Tab) (m:Int):St→Prop
  | mk (g:Option Flt) (h:g.isSome = T.flt.isSome) (ok:FinOk (tabF T g) m):FinA T m ⟨[(x_self,.ref 4)],tabL { tabF T g with closed:=true }⟩
theorem FinA.el {T:Tab} {m:Int} {K:St→Prop} (h:∀ g,g.isSome = T.flt.isSome→FinOk (tabF T g) m→K ⟨[(x_self,.ref 4)],tabL { tabF T g with closed:=true }⟩):∀ st,FinA T m st→K st:=fun _ q=>by cases q with | mk g a b=>exact h g a b
@[reducible] noncomputable def metaS (T:Tab) (mb:Blk):St:=⟨[(x_self,.ref 4),(x_metas,.ref 19)],tabL T++[.inst c_BytesOrder [],blkO mb 18 20 21,.ba mb.buf,.pl (ipl mb.rs)]⟩
inductive MetaQ (T:Tab):St→Prop
  | mk (Z:List UInt8) (mb:Blk) (F:Option Flt) (b:Bool) (h2:T.flt = none→Z = []∧mb = blk0 T.ri) (h3:BlkOk mb) (h4:mb.fin = false) (h5:(blkFin mb).length ≤ 100) (h6:Z.length ≤ 12500):MetaQ T (metaS { T with closed:=true,out:=T.out++Z,flt:=F,ffin:=b } mb)
theorem MetaQ.el {T:Tab} {K:St→Prop} (h:∀ Z mb F b,(T.flt = none→Z = []∧mb = blk0 T.ri)→BlkOk mb→mb.fin = false→(blkFin mb).length ≤ 100→Z.length ≤ 12500→K (metaS { T with closed:=true,out:=T.out++Z,flt:=F,ffin:=b } mb)):∀ st,MetaQ T st→K st:=fun _ q=>by cases q with | mk a b c d e f g i j=>exact h a b c d e f g i j
theorem optc {α:Type} {P:Option α→Prop} (a:P none) (b:∀ x,P (some x)) (o:Option α):P o:=by
  cases o with
  | none=>exact a
  | some x=>exact b x
theorem FinM.mono {n:Nat} {mv:List Nat} {P P':SV→List SObj→Prop} {fl:Fl} {st:St} (h:FinM n mv P fl st) (m:∀ r o,P r o→P' r o):FinM n mv P' fl st:=by
  obtain ⟨ι,res,objs',a,b,c,d,e,f,g,p⟩:=h
  exact ⟨ι,res,objs',a,b,c,d,e,f,g,m _ _ p⟩
theorem Ss_mono {X:Cx} {l:List Stmt} {st:St} {k k':Fl→St→Prop} (h:Ss X l st k) (m:∀ f st,k f st→k' f st):Ss X l st k':=fun ρ s R =>
  wpR_mono (h ρ s R) (fun f s' q=>by obtain ⟨ρ',fl,st',R',r,q⟩:=q;exact ⟨ρ',fl,st',R',r,m _ _ q⟩) fun _ _ x=>x
theorem blkNew_len (b:Blk) (key value:List UInt8) (sh:Int) (rs:List Int) (si:Int):(blkNew b key value sh rs si).buf.length ≤ b.buf.length + 3 + key.length + value.length:=by
  have:=cut_le key (some sh) none
  simp [blkNew,rowB];lia
theorem blk0_ok (iv:Int):BlkOk (blk0 iv):=⟨Nat.zero_le _,(by show 1 ≤ 1000;decide),fun x hx=>by rw [List.mem_singleton.mp hx];decide,Nat.zero_le _⟩
noncomputable def keyB:List UInt8:=[102,105,108,116,101,114,46,114,97,102,116,107,101,101,112,46,98,108,111,111,109]
section
variable {V:Vs}
noncomputable def fX (V:Vs) (Z:Zs):Cx:=nX n141 sc_TableBuilder_finish 644 (.ref 643) 6 14 (WK V) Z
theorem metas_ok {ri:Int} (hri:1 ≤ ri) (v:List UInt8) (hv:v.length ≤ 4):BlkOk (blkAdd (blk0 ri) keyB v)∧(blkAdd (blk0 ri) keyB v).fin = false∧(blkFin (blkAdd (blk0 ri) keyB v)).length ≤ 100:=by
  have h0:blkAdd (blk0 ri) keyB v = blkNew (blk0 ri) keyB v (cpl [] keyB:Nat) [0] 0:=if_pos (show (0:Int) < ri by lia)
  rw [h0]
  have h1:=blkNew_len (blk0 ri) keyB v (cpl [] keyB:Nat) [0] 0
  have e1:(blk0 ri).buf.length = 0:=rfl
  have e2:keyB.length = 21:=rfl
  refine ⟨⟨by lia,(by show 1 ≤ 1000;decide),(fun x hx=>by rw [List.mem_singleton.mp hx];decide),(by show 21 ≤ 120;decide)⟩,rfl,?_⟩
  rw [blkFin_len]
  show _ + 4 * 1 + 4 ≤ 100
  lia
section
variable {Z:Zs} (O:(fX V Z).Ok)
include O
theorem fin_B (T:Tab) {m:Int} (ok:FinOk T m) {k:Fl→St→Prop} (h:∀ st,MetaQ T st→Ss (fX V Z) (b_TableBuilder_finish.drop 5) st k):Ss (fX V Z) (b_TableBuilder_finish.drop 4) (metaS { T with closed:=true } (blk0 T.ri)) k:=by
  refine Ss_cutI O 1 (MetaQ T) ?_ h
  clear h
  have hri:=ok.ri
  cases hz:T.flt with
  | none =>
    refine br_f rfl ?_
    have q:=MetaQ.mk (T:=T) [] (blk0 T.ri) none T.ffin (fun _=>⟨rfl,rfl⟩) (blk0_ok T.ri) rfl (by rw [blkFin_len];show 0 + 4 * 1 + 4 ≤ 100;decide) (Nat.zero_le _)
    rw [List.append_nil] at q
    exact ⟨rfl,.inl q⟩
  | some f =>
    obtain ⟨hF1,hF2,hF3⟩:=ok.fi f hz
    obtain ⟨hb0,hb1⟩:=ok.cfg.bits (by rw [hz];rfl)
    obtain ⟨hg0,hg1⟩:=ok.cfg.lg
    have hol:=ok.ol
    have hff:=ok.ffin
    have hm2:=fdiv_lt T.lg.toNat (show (0:Int) ≤ (T.out.length:Int) by lia)
    clear ok
    obtain ⟨bs,ri,bits,lg,out,blk,idx,flt,wait,last,ents,closed,ffin⟩:=T
    have hz:flt = some f:=hz
    have hff:ffin = false:=hff
    subst hz hff
    have hol:out.length ≤ 905:=hol
    have hri:1 ≤ ri:=hri
    have hoff:f.offs.length ≤ 905:=by lia
    clear hF2 hF3 hm2
    refine br_t rfl ?_
    refine call_ofP (args2:=[.ref 0]) [10,11,12,13,16] (f_Flt_finish bits lg hb0 hb1 hg0 hg1 f hF1 (by lia)).toR O rfl rfl rfl ⟨rfl,rfl⟩ rfl rfl fun r o q=>?_
    have ends:∀ c:List UInt8,c.length ≤ 13 * (f.offs.length + 1) + 20→c.length ≤ 11900∧(vint out.length++vint c.length).length ≤ 4∧(sealB c).length ≤ 12500:=fun c hc=>by
      have l1:=vint_len out.length
      have l2:=vint_len c.length
      rw [List.length_append,sealB_len];lia
    clear hF1
    cases q with
    | l f' c hc =>
      obtain ⟨n1,n2,n3⟩:=ends c hc
      obtain ⟨m1,m2,m3⟩:=metas_ok hri (vint out.length++vint c.length) n2
      refine call_m (args2:=[.ref 4,.bytes c]) id18 mkT [] (f_TB_write_block ⟨bs,ri,bits,lg,out,blk,idx,some f',wait,last,ents,true,true⟩ c (show out.length ≤ 100000 by lia) (by lia)).toR O rfl (tab_m _ (l:=[])) (tab_m _) rfl rfl rfl rfl (tab_c _) rfl rfl ?_
      refine callS (args2:=[.ref 0]) [22] (f_Handle_encode out.length c.length (by lia) (by lia) (by lia) (by lia)).toR O rfl rfl rfl ⟨rfl,rfl⟩ rfl rfl rfl ?_
      refine OpS.of ?_
      refine call_of (args2:=[.ref 0,.bytes keyB,.bytes (vint out.length++vint c.length)]) [19,20,21,18] (f_BB_addM (blk0 ri) (blk0_ok ri) rfl keyB (vint out.length++vint c.length) (by decide) (Nat.le_trans n2 (by decide)) rfl).toR O rfl rfl rfl ⟨rfl,rfl⟩ rfl rfl ?_
      exact ⟨rfl,into_of [0,1,2,3,4,5,6,7,8,9,10,11,12,13,14,15,16,17,18,19,20,21] _ rfl rfl rfl (selG_of (selL_m (mask:=mkT) (U:=[]) (n:=18) rfl (tab_m _) rfl (optc (P:=fun wait=>(metaS ⟨bs,ri,bits,lg,out++sealB c,blk,idx,some f',wait,last,ents,true,true⟩ (blkAdd (blk0 ri) keyB (vint out.length++vint c.length))).objs.all (SObj.clo 22) = true) rfl (fun _=>rfl) wait))) ⟨rfl,rfl⟩ (.mk (sealB c) _ (some f') true (fun e=>nomatch e) m1 m2 m3 n3)⟩
    | m f' c hc =>
      obtain ⟨n1,n2,n3⟩:=ends c hc
      obtain ⟨m1,m2,m3⟩:=metas_ok hri (vint out.length++vint c.length) n2
      have tm:∀ (o2:List UInt8) (l:List SObj),avM [4,17] [16] 18 18 l = true→avM [4,17] [16] 18 0 (tabL ⟨bs,ri,bits,lg,o2,blk,idx,some f',wait,last,ents,true,true⟩++l) = true:=fun o2 l hl=>optc (P:=fun wait=>avM [4,17] [16] 18 0 (tabL ⟨bs,ri,bits,lg,o2,blk,idx,some f',wait,last,ents,true,true⟩++l) = true) hl (fun _=>hl) wait
      refine call_m (args2:=[.ref 4,.bytes c]) [0,1,2,3,4,5,6,7,8,9,10,11,12,13,14,15,22,17] [4,17] [16] (f_TB_write_block ⟨bs,ri,bits,lg,out,blk,idx,some f',wait,last,ents,true,true⟩ c (show out.length ≤ 100000 by lia) (by lia)).toR O rfl (tm _ [] rfl) (tm _ _ rfl) rfl rfl rfl rfl (tab_c _) rfl rfl ?_
      refine callS (args2:=[.ref 0]) [23] (f_Handle_encode out.length c.length (by lia) (by lia) (by lia) (by lia)).toR O rfl rfl rfl ⟨rfl,rfl⟩ rfl rfl rfl ?_
      refine OpS.of ?_
      refine call_of (args2:=[.ref 0,.bytes keyB,.bytes (vint out.length++vint c.length)]) [19,20,21,18] (f_BB_addM (blk0 ri) (blk0_ok ri) rfl keyB (vint out.length++vint c.length) (by decide) (Nat.le_trans n2 (by decide)) rfl).toR O rfl rfl rfl ⟨rfl,rfl⟩ rfl rfl ?_
      exact ⟨rfl,into_of [0,1,2,3,4,5,6,7,8,9,10,11,12,13,14,15,22,17,18,19,20,21] _ rfl rfl rfl (selG_of (selL_m (mask:=[4,17]) (U:=[16]) (n:=18) rfl (tm _ _ rfl) rfl (optc (P:=fun wait=>(metaS ⟨bs,ri,bits,lg,out++sealB c,blk,idx,some f',wait,last,ents,true,true⟩ (blkAdd (blk0 ri) keyB (vint out.length++vint c.length))).objs.all (SObj.clo 22) = true) rfl (fun _=>rfl) wait))) ⟨rfl,rfl⟩ (.mk (sealB c) _ (some f') true (fun e=>nomatch e) m1 m2 m3 n3)⟩
theorem fin_C (T:Tab) (mb:Blk) (h3:BlkOk mb) (h4:mb.fin = false) (h5:(blkFin mb).length ≤ 100) (ho:T.out.length ≤ 100000) {k:Fl→St→Prop} (h:Ss (fX V Z) (b_TableBuilder_finish.drop 6) ⟨[(x_self,.ref 4),(x_meta,.ref 18)],tabL { T with out:=T.out++sealB (blkFin mb) }++[hO T.out.length (blkFin mb).length]⟩ k) :
    Ss (fX V Z) (b_TableBuilder_finish.drop 5) (metaS T mb) k:=by
  refine Ss_cutI O 1 (atK _) ?_ fun _ e=>e ▸ h
  clear h
  refine call_of (args2:=[.ref 0]) [19,20,21,18] (f_BB_finish mb h3 h4 (.inr rfl)).toR O rfl rfl rfl ⟨rfl,rfl⟩ rfl rfl ?_
  refine call_m (args2:=[.ref 4,.bytes (blkFin mb)]) id18 mkT [] (f_TB_write_block T (blkFin mb) ho (by lia)).toR O rfl (tab_m _ (l:=[])) (tab_m _) rfl rfl rfl rfl (tab_c _) rfl rfl ?_
  exact ⟨rfl,into_of [0,1,2,3,4,5,6,7,8,9,10,11,12,13,14,15,16,17,22] _ rfl rfl rfl (selG_of (selL_m (mask:=mkT) (U:=[]) (n:=18) rfl (tab_m _) rfl (tab_h _ _ _))) ⟨rfl,rfl⟩ rfl⟩
theorem fin_D (T:Tab) (a c:Int) (hw:∀ p,T.wait = some p→SucOk T p) (hi:BlkOk T.idx) (hf:T.idx.fin = false) {k:Fl→St→Prop} (h:Ss (fX V Z) (b_TableBuilder_finish.drop 7) ⟨[(x_self,.ref 4),(x_meta,.ref 18)],tabL { T with idx:=tabS T,wait:=none }++[hO a c]⟩ k) :
    Ss (fX V Z) (b_TableBuilder_finish.drop 6) ⟨[(x_self,.ref 4),(x_meta,.ref 18)],tabL T++[hO a c]⟩ k:=by
  refine Ss_cutI O 1 (atK _) ?_ fun _ e=>e ▸ h
  clear h
  obtain ⟨bs,ri,bits,lg,out,blk,idx,flt,wait,last,ents,closed,ffin⟩:=T
  cases wait with
  | none =>
    refine br_f rfl ?_
    exact ⟨rfl,.inl rfl⟩
  | some q =>
    obtain ⟨W1,W2,W3,W4,W5⟩:=hw q rfl
    clear hw
    refine br_t rfl ?_
    refine callS (args2:=[.ref 0,.bytes last]) [2,3] (f_successorI last W3.1 (Nat.le_trans W3.2 (by decide))).toR O rfl rfl rfl ⟨rfl,rfl⟩ rfl rfl rfl ?_
    refine callS (args2:=[.ref 0]) [17] (f_Handle_encode q.1 q.2 W1.1 W1.2 W2.1 W2.2).toR O rfl rfl rfl ⟨rfl,rfl⟩ rfl rfl rfl ?_
    refine OpS.of ?_
    refine call_of (args2:=[.ref 0,.bytes (sucI last),.bytes (vint q.1++vint q.2)]) [7,8,9,2,3] (f_BB_addI idx hi hf _ _ W4.2 (by have:=vint_len q.1;have:=vint_len q.2;simp;lia) W4.1 W5).toR O rfl rfl rfl ⟨rfl,rfl⟩ rfl rfl ?_
    clear W1 W2 W3 W4 W5 hi hf
    cases flt <;> exact ⟨rfl,into_of [0,1,2,3,4,5,6,7,8,9,10,11,12,13,14,15,16,17,18] _ rfl rfl rfl ⟨rfl,rfl⟩ ⟨rfl,rfl⟩ rfl⟩
theorem fin_E (T:Tab) (a c:Int) (ha:0 ≤ a∧a < 16384) (hc:0 ≤ c∧c < 16384) (ho:T.out.length ≤ 13510) (h1:BlkOk T.idx) (h2:T.idx.fin = false) (h3:(blkFin T.idx).length ≤ 1000) {mv:List Nat} {P:SV→List SObj→Prop} (hb:idM mv 18 0 id18 = true)
    (h:P (.bytes ((T.out++sealB (blkFin T.idx))++ftB a c T.out.length (blkFin T.idx).length)) (tabL { T with idx:={ T.idx with fin:=true },out:=(T.out++sealB (blkFin T.idx))++ftB a c T.out.length (blkFin T.idx).length })) :
    Ss (fX V Z) (b_TableBuilder_finish.drop 7) ⟨[(x_self,.ref 4),(x_meta,.ref 18)],tabL T++[hO a c]⟩ (FinM 18 mv P):=by
  have hl1:(ftB a c T.out.length (blkFin T.idx).length).length ≤ 60:=by rw [ftB_len];decide
  have hl2:(T.out++sealB (blkFin T.idx)).length ≤ 14600:=by rw [List.length_append,sealB_len];lia
  refine body_ok O (n:=40) ?_
  refine call_of (args2:=[.ref 0]) [7,8,9,2,3] (f_BB_finish T.idx h1 h2 (.inl rfl)).toR O rfl rfl rfl ⟨rfl,rfl⟩ rfl rfl ?_
  refine call_m (args2:=[.ref 4,.bytes (blkFin T.idx)]) id18 mkT [] (f_TB_write_block { T with idx:={ T.idx with fin:=true } } (blkFin T.idx) (show T.out.length ≤ 100000 by lia) (by lia)).toR O rfl (tab_m _ (l:=[])) (tab_m _) rfl rfl rfl rfl (tab_c _) rfl rfl ?_
  refine call_of (args2:=[.ref 0,.ref 1]) [18,19] (mk_Footer a c T.out.length (blkFin T.idx).length).toR O rfl rfl rfl ⟨rfl,rfl⟩ rfl rfl ?_
  refine callS (args2:=[.ref 2]) [18,19,20] (f_Footer_encode a c T.out.length (blkFin T.idx).length ha hc (by lia) (by lia)).toR O rfl rfl rfl ⟨rfl,rfl⟩ rfl rfl rfl ?_
  refine OpS.of ?_
  refine j_extend O rfl (show (T.out++sealB (blkFin T.idx)).length + (ftB a c T.out.length (blkFin T.idx).length).length ≤ _ by lia) ?_
  refine j_bytesBa O rfl (show ((T.out++sealB (blkFin T.idx))++ftB a c T.out.length (blkFin T.idx).length).length ≤ _ by rw [List.length_append];lia) ?_
  exact fin_mvm id18 mkT [] (tab_m _ (l:=[])) (tab_c _) hb rfl rfl rfl rfl (res:=.bytes _) rfl rfl h
end
theorem tabS_ok (T:Tab) (h:T.idx.fin = false):(tabS T).fin = false:=by
  unfold tabS
  cases T.wait with
  | none=>exact h
  | some q=>show (blkAdd T.idx _ _).fin = false;unfold blkAdd;split <;> exact h
theorem f_TB_finish (T:Tab) (m:Int) (hcl:T.closed = false) (hff:T.ffin = false) (hc:CfgOk T) (hF:FltI T.lg T.out.length m T.flt) (hb:T.blk.ents ≠ 0→BlkOk T.blk∧T.blk.fin = false∧T.wait = none∧T.out.length + (blkFin T.blk).length ≤ 900)
    (hfin:∀ g,g.isSome = T.flt.isSome→FltI T.lg (tabF T g).out.length m g→FinOk (tabF T g) m):FnM (WK V) 7 644 [.ref 4] (tabL T) [14,15,16,17] (FinP T):=by
  refine enterN 14 rfl rfl [x_self] (WK_holds ..) (lk_TableBuilder_finish _) (cd_TableBuilder_finish _) (fun _=>rfl) rfl (by decide +kernel) (by decide +kernel) rfl rfl rfl (fun Z O=>?_)
  refine Ss_cutP O 3 (FinA T m) ?_ ?_
  · refine br_f hcl ?_
    by_cases hz:T.blk.ents = 0
    · refine call_mM (args2:=[.ref 4]) id18 mkT [] (f_TB_close_empty T hz).toM O rfl (tab_m _ (l:=[])) rfl rfl rfl rfl (tab_c _) rfl rfl rfl (Det.el ?_)
      have e:tabF T T.flt = T:=if_pos hz
      have q:=FinA.mk (T:=T) (m:=m) T.flt rfl (hfin T.flt rfl (by rw [e];exact hF))
      rw [e] at q
      exact ⟨tab_m _ (l:=[]),rfl,q⟩
    · obtain ⟨k1,k2,k3,k4⟩:=hb hz
      refine call_mM (args2:=[.ref 4]) id18 mkT [] (f_TB_close_block T m hc hF hz k1 k2 hff k3 k4).toM O rfl (tab_m _ (l:=[])) rfl rfl rfl rfl (tab_c _) rfl rfl rfl (CloseP.el fun g hg1 hg2=>?_)
      have e:tabF T g = tabC T g:=if_neg hz
      have q:=FinA.mk (T:=T) (m:=m) g hg1 (hfin g hg1 (by rw [e];exact hg2))
      rw [e] at q
      exact ⟨tab_m _ (l:=[]),rfl,q⟩
  clear hb hfin hF hc hcl hff
  refine FinA.el fun g hg ok=>?_
  have er:(tabF T g).bs = T.bs∧(tabF T g).ri = T.ri∧(tabF T g).bits = T.bits∧(tabF T g).lg = T.lg∧(tabF T g).flt = g:=by unfold tabF;split <;> exact ⟨rfl,rfl,rfl,rfl,rfl⟩
  refine Ss_mono (k:=FinM 18 [14,15,16,17] (FinP1 (tabF T g))) ?_ fun f st q=>q.mono (FinP1.el fun Z' mb T' a1 a2 a3 a4=>?_)
  rotate_left
  · refine ⟨g,Z',mb,T',fun e=>?_,a2,a3,a4.1.trans er.1,a4.2.1.trans er.2.1,a4.2.2.1.trans er.2.2.1,a4.2.2.2.trans er.2.2.2.1⟩
    have:=a1 (er.2.2.2.2.trans (by
      cases g with
      | none=>rfl
      | some _=>rw [e] at hg;cases hg))
    rw [er.2.1] at this
    exact this
  clear er hg
  generalize tabF T g = T1 at *
  refine Ss_cut O 1 (st1:=metaS { T1 with closed:=true } (blk0 T1.ri)) ?_ ?_
  · refine call_of (args2:=[]) (objs2:=[]) [] (makeC0 (lvl:=0) (by kernel_rfl) (by kernel_rfl)).toR O rfl rfl rfl ⟨rfl,rfl⟩ rfl rfl ?_
    refine call_of (args2:=[.int T1.ri,.ref 0]) (objs2:=bO) [18] (mk_BB T1.ri ok.ri (.inr rfl)).toR O rfl rfl rfl ⟨rfl,rfl⟩ rfl rfl ?_
    exact ⟨rfl,rfl⟩
  refine fin_B O T1 ok (MetaQ.el fun Z' mb F b h2 h3 h4 h5 h6=>?_)
  have hol:=ok.ol
  have ho1:(T1.out++Z').length ≤ 13405:=by rw [List.length_append];lia
  refine fin_C O _ mb h3 h4 h5 (show (T1.out++Z').length ≤ 100000 by lia) ?_
  refine fin_D O { T1 with closed:=true,out:=(T1.out++Z')++sealB (blkFin mb),flt:=F,ffin:=b } (T1.out++Z').length (blkFin mb).length (fun p e=>by obtain ⟨a,b,c,d,e⟩:=ok.wait p e;exact ⟨a,b,c,d,e⟩) ok.idx ok.ifin ?_
  refine fin_E O _ _ _ ⟨by lia,by show ((T1.out++Z').length:Int) < 16384;lia⟩ ⟨by lia,by lia⟩ (show ((T1.out++Z')++sealB (blkFin mb)).length ≤ 13510 by rw [List.length_append,sealB_len];lia) ok.suc (tabS_ok T1 ok.ifin) ok.il rfl ?_
  exact .mk Z' mb _ h2 (by lia) rfl ⟨rfl,rfl,rfl,rfl⟩
end
end Mine
end
section
namespace Mine
theorem ev_str {M:Model} {A:Around} {env:Env} {E:PySem.Value→Shared→Prop} {x:PySem.Str} {n:Nat} {p:Pos} (s:Shared):wpAny M A (eval (.Constant (.str x) n p) env) (fun _ s'=>s'.heap = s.heap∧s'.gens = s.gens∧s'.drawn = s.drawn∧s'.os = s.os) E s :=
  fun _ _ _=>⟨rfl,rfl,rfl,rfl⟩
section
variable {V:Vs}
theorem bo_in:nsIn (WK V).K mainGlobals x_BuildOrder = some (some (.ref c_BuildOrder)):=by kernel_rfl
theorem bo_exc : excIn (WK V).K c_BuildOrder [.type "Exception", .type "BaseException", .type "object"] "Exception.__new__" = true := by kernel_rfl
theorem ra_BB_add (b:Blk) (he:0 < b.ents) (hf:b.fin = false) (key value:List UInt8) (hk1:8 ≤ key.length) (hk2:key.length ≤ 120) (hb:8 ≤ b.last.length) (hb3:b.last.length ≤ 120) (hc:cmpI key b.last ≤ 0) :
    RaX (WK V) 5 413 [.ref 0,.bytes key,.bytes value] (blkL b++ordO 4) c_BuildOrder:=by
  refine enterX [x_self,x_key,x_value] (WK_holds ..) (lk_BlockBuilder_add _) (cd_BlockBuilder_add _) (fun _ _ _=>rfl) rfl (by decide +kernel) (by decide +kernel) rfl rfl rfl (fun outer Z O D hA=>body_ok O (n:=40) ?_)
  refine br_f hf ?_
  refine br_t (decide_eq_true he) ?_
  refine callS (args2:=[.ref 0,.bytes key,.bytes b.last]) [3,4] (f_compareI _ _ hk1 hb (by lia) (by lia)).toR O rfl rfl rfl ⟨rfl,rfl⟩ rfl rfl rfl ?_
  refine br_t (decide_eq_true hc) ?_
  refine br_t rfl ?_
  refine j_raise O ?_ ?_ D ?_ ?_ bo_in bo_exc ?_ ?_ ?_ fun ρ s R=>ev_str s
  all_goals first | rfl | exact fun _ _ x=>x
theorem ra_TB_closed (T:Tab) (k v:List UInt8) (hcl:T.closed = true):RaX (WK V) 7 623 [.ref 4,.bytes k,.bytes v] (tabL T) c_BuildOrder:=by
  refine enterX [x_self,x_ikey,x_value] (WK_holds ..) (lk_TableBuilder_add _) (cd_TableBuilder_add _) (fun _ _ _=>rfl) rfl (by decide +kernel) (by decide +kernel) rfl rfl rfl (fun outer Z O D hA=>body_ok O (n:=40) ?_)
  refine br_t hcl ?_
  refine j_raise O ?_ ?_ D ?_ ?_ bo_in bo_exc ?_ ?_ ?_ fun ρ s R=>ev_str s
  all_goals first | rfl | exact fun _ _ x=>x
theorem ra_TB_wait (T:Tab) (k v:List UInt8) (hcl:T.closed = false) (hw:T.wait.isSome = true) (hk1:8 ≤ k.length) (hk2:k.length ≤ 120) (hl1:8 ≤ T.last.length) (hl2:T.last.length ≤ 120) (hc:cmpI k T.last ≤ 0) :
    RaX (WK V) 7 623 [.ref 4,.bytes k,.bytes v] (tabL T) c_BuildOrder:=by
  obtain ⟨bs,ri,bits,lg,out,blk,idx,flt,wait,last,ents,closed,ffin⟩:=T
  cases wait with
  | none=>cases hw
  | some q =>
  clear hw
  refine enterX [x_self,x_ikey,x_value] (WK_holds ..) (lk_TableBuilder_add _) (cd_TableBuilder_add _) (fun _ _ _=>rfl) rfl (by decide +kernel) (by decide +kernel) rfl rfl rfl (fun outer Z O D hA=>body_ok O (n:=40) ?_)
  refine br_f hcl ?_
  refine call0 (f_user_of k hk1 (by lia)).toR O rfl rfl rfl ?_
  refine br_t rfl ?_
  refine callS (args2:=[.ref 0,.bytes k,.bytes last]) [2,3] (f_compareI k last hk1 hl1 (by lia) (Nat.le_trans hl2 (by decide))).toR O rfl rfl rfl ⟨rfl,rfl⟩ rfl rfl rfl ?_
  refine br_t (decide_eq_true hc) ?_
  refine j_raise O ?_ ?_ D ?_ ?_ bo_in bo_exc ?_ ?_ ?_ fun ρ s R=>ev_str s
  all_goals first | rfl | exact fun _ _ x=>x
theorem ra_TB_block (T:Tab) (k v:List UInt8) (hcl:T.closed = false) (hw:T.wait = none) (he:0 < T.blk.ents) (hf:T.blk.fin = false) (hk1:8 ≤ k.length) (hk2:k.length ≤ 120) (hl1:8 ≤ T.blk.last.length) (hl2:T.blk.last.length ≤ 120) (hc:cmpI k T.blk.last ≤ 0) :
    RaX (WK V) 7 623 [.ref 4,.bytes k,.bytes v] (tabL T) c_BuildOrder:=by
  have ra:=ra_BB_add (V:=V) T.blk he hf k v hk1 hk2 hl1 hl2 hc
  clear he hf hl1 hl2 hc
  obtain ⟨bs,ri,bits,lg,out,blk,idx,flt,wait,last,ents,closed,ffin⟩:=T
  have hw:wait = none:=hw
  subst hw
  refine enterX [x_self,x_ikey,x_value] (WK_holds ..) (lk_TableBuilder_add _) (cd_TableBuilder_add _) (fun _ _ _=>rfl) rfl (by decide +kernel) (by decide +kernel) rfl rfl rfl (fun outer Z O D hA=>body_ok O (n:=40) ?_)
  refine br_f hcl ?_
  refine call0 (f_user_of k hk1 (by lia)).toR O rfl rfl rfl ?_
  refine br_f rfl ?_
  refine j_raCall (args2:=[.ref 0,.bytes k,.bytes v]) [6,14,15,2,3] ra O rfl rfl rfl ⟨rfl,rfl⟩ rfl rfl hA rfl D ?_ ?_
  all_goals first | rfl | exact fun _ _ x=>x
end
end Mine
end
section
namespace Mine
theorem all2_mapR {α β γ:Type} {R:α→γ→Prop} {f:β→γ}:∀ {as:List α} {bs:List β},All2 R as (bs.map f)→All2 (fun a b=>R a (f b)) as bs
  | _,[],h=>by cases h;exact .nil
  | _,_ :: _,h=>by
    cases h with
    | cons a b=>exact .cons a (all2_mapR b)
theorem callT {X:Cx} {lvl:Nat} {f:Addr} {args args2:List SV} {st:St} {objs2:List SObj} {hs hs2:List Nat} {outer:List Env} {P:SV→List SObj→Prop} {k:SV→St→Prop} (ι:List Nat) (F:FnT X.W lvl f args2 objs2 hs2 P) (O:X.Ok) (hle:Nat.ble lvl X.lvl = true)
    (hl:objs2.length = ι.length) (hnd:nodupN ι = true) (hsel:selL (kap ι st.objs.length) st.objs objs2.length 0 objs2) (ha:args = args2.map (SV.ren (kap ι st.objs.length))) (hc:args2.all (SV.clo objs2.length) = true)
    (hA:X.A.frames = some (X.env :: outer)) (hfr:X.fr = none) (ho:Outs X outer hs) (hh:hs2.map (kap ι st.objs.length) = hs) (hh2:∀ i ∈ hs2,i < objs2.length) (h:∀ res objs3,P res objs3→k (res.ren (kap ι st.objs.length)) ⟨st.loc,lift ι st.objs objs3⟩):OpJ X (fun vs=>call (.ref f) vs) args st k:=by
  subst ha
  subst hh
  constructor
  intro ρ s vs R r
  obtain ⟨g',h1,h2,hL,_,h3⟩:=hand2 R [] hl (selG_of hsel) hnd rfl
  have pn:=R.pin
  have nL:X.g.get? X.L = none:=by
    obtain ⟨⟨m,chs,F',_⟩,_⟩:=R
    cases q:X.g.get? X.L with
    | none=>rfl
    | some o=>exact absurd (Nat.lt_of_lt_of_le (Heap.lt_size q) F'.above) (Nat.lt_irrefl _)
  have hO:∀ {outer:List Env} {l:List Nat},All2 (fun env i=>env.scope.kind = .function∧env.frame = some (X.r0 (kap ι st.objs.length i))∧kap ι st.objs.length i < X.n0) outer l→(∀ i ∈ l,i < objs2.length) →
      All2 (fun env i=>env.scope.kind = .function∧env.frame = some (ρ (kap ι st.objs.length i))∧i < objs2.length) outer l:=fun x=>by
    induction x with
    | nil=>exact fun _=>.nil
    | cons q _ ih=>exact fun hm=>.cons ⟨q.1,by rw [q.2.1,pn.1 _ q.2.2],hm _ (.head _)⟩ (ih fun i hi=>hm i (.tail _ hi))
  refine wpR_call (codeR_mono (F X.A X.env outer X.L X.g g' X.u _ s vs (O.room.le (Nat.le_of_ble_eq_true hle)) O.K O.T h1 nL h2 (all2_sel r hc) hA (by show some (frE X.fr X.L) = _;rw [hfr];rfl) O.kind hL (hO (all2_mapR ho) hh2)) fun res s' ⟨g2,T,q⟩=>?_)
  rcases res with x | (v | _ | _ | _) <;> first | exact q.elim | skip
  obtain ⟨ρ',res,objs3,e,l,R',r',p⟩:=q
  obtain ⟨ρ3,e3,l3,R3,b3⟩:=h3 g2 s' ρ' objs3 T R' (fun i hi _=>e i hi rfl) l
  exact ⟨ρ3,_,_,fun i hi=>e3 i hi rfl,l3,R3,b3 _ _ r',h _ _ p⟩
theorem callTS {X:Cx} {lvl:Nat} {f:Addr} {args args2:List SV} {st:St} {objs2:List SObj} {hs hs2:List Nat} {outer:List Env} {res:SV} {k:SV→St→Prop} (ι:List Nat) (F:FnT X.W lvl f args2 objs2 hs2 (Det res objs2)) (O:X.Ok) (hle:Nat.ble lvl X.lvl = true)
    (hl:objs2.length = ι.length) (hnd:nodupN ι = true) (hsel:selL (kap ι st.objs.length) st.objs objs2.length 0 objs2) (ha:args = args2.map (SV.ren (kap ι st.objs.length))) (hc:args2.all (SV.clo objs2.length) = true)
    (hA:X.A.frames = some (X.env :: outer)) (hfr:X.fr = none) (ho:Outs X outer hs) (hh:hs2.map (kap ι st.objs.length) = hs) (hh2:∀ i ∈ hs2,i < objs2.length) (hr:res.flat = true) (h:k res st):OpJ X (fun vs=>call (.ref f) vs) args st k :=
  callT ι F O hle hl hnd hsel ha hc hA hfr ho hh hh2 fun r o ⟨a,b⟩=>by
    subst a b
    rw [SV.flat_ren hr,lift_same hl hnd hsel]
    exact h
theorem SV.clo_ren {v:SV} {n:Nat} {κ:Nat→Nat} (hκ:∀ i,i < n→κ i = i) (h:v.clo n = true):v.ren κ = v:=by
  cases v <;> try rfl
  show SV.ref _ = _
  rw [hκ _ (Nat.le_of_ble_eq_true h)]
theorem SObj.clo_ren {o:SObj} {n:Nat} {κ:Nat→Nat} (hκ:∀ i,i < n→κ i = i) (h:o.clo n = true):o.ren κ = o:=by
  have l:∀ xs:List SV,xs.all (SV.clo n) = true→xs.map (SV.ren κ) = xs:=fun xs hx=>by
    conv=>rhs;rw [← List.map_id xs]
    exact List.map_congr_left fun v hv=>SV.clo_ren hκ (List.all_eq_true.mp hx v hv)
  cases o with
  | inst C fs =>
    show SObj.inst C _ = _
    congr 1
    conv=>rhs;rw [← List.map_id fs]
    exact List.map_congr_left fun f hf=>by rw [SV.clo_ren hκ (List.all_eq_true.mp h f hf)];rfl
  | list xs=>show SObj.list _ = _;rw [l xs h]
  | tup xs=>show SObj.tup _ = _;rw [l xs h]
  | lit j i=>show SObj.lit _ _ = _;rw [hκ _ (Nat.le_of_ble_eq_true h)]
  | cell v =>
    cases v with
    | none=>rfl
    | some v=>show SObj.cell (some _) = _;rw [SV.clo_ren hκ h]
  | tl m i j l =>
    obtain ⟨c1,c2⟩:=Bool.and_eq_true_iff.mp h
    obtain ⟨c2,c3⟩:=Bool.and_eq_true_iff.mp c2
    show SObj.tl _ _ _ _ = _
    rw [hκ _ (Nat.le_of_ble_eq_true c1),hκ _ (Nat.le_of_ble_eq_true c2),hκ _ (Nat.le_of_ble_eq_true c3)]
  | _=>rfl
theorem sel_id {objs rest:List SObj} {κ:Nat→Nat} (hκ:∀ i,i < objs.length→κ i = i) (h:objs.all (SObj.clo objs.length) = true):selL κ (objs++rest) objs.length 0 objs:=by
  have key:∀ (l pre:List SObj),objs = pre++l→pickL κ (objs++rest) pre.length l = l.map fun o=>some (o.ren κ):=fun l=>by
    induction l with
    | nil=>intros;rfl
    | cons o r ih =>
      intro pre e
      have h1:κ pre.length = pre.length:=hκ _ (by rw [e];simp)
      have h2:(objs++rest)[κ pre.length]? = some (o.ren κ):=by
        rw [h1,e,List.append_assoc,List.getElem?_append_right (Nat.le_refl _),Nat.sub_self,SObj.clo_ren hκ (List.all_eq_true.mp h o (by rw [e];simp))]
        rfl
      have h3:=ih (pre++[o]) (by rw [e];simp)
      rw [List.length_append] at h3
      show (_ :: _) = _ :: _
      rw [h2,show pre.length + 1 = pre.length + [o].length from rfl,h3]
  exact ⟨key objs [] rfl,h⟩
theorem idB_kapn {n m:Nat} {ι:List Nat} (h:idB n 0 ι = true):∀ j,j < n→kap ι m j = j:=fun j hj=>by
  have:=(idB_at h).2 j hj
  unfold kap
  rw [this,Nat.zero_add]
theorem tabL_clo (T:Tab):(tabL T).all (SObj.clo 18) = true:=by
  obtain ⟨bs,ri,bits,lg,out,blk,idx,flt,wait,last,ents,closed,ffin⟩:=T
  cases flt <;> cases wait <;> rfl
theorem tabR_clo (T:Tab) (d:Obj→Prop):(tabL T++[SObj.raw d]).all (SObj.clo 19) = true:=by
  obtain ⟨bs,ri,bits,lg,out,blk,idx,flt,wait,last,ents,closed,ffin⟩:=T
  cases flt <;> cases wait <;> rfl
theorem j_raCatch {X:Cx} {lvl:Nat} {f:Addr} {args args2:List SV} {st:St} {objs2:List SObj} {C:Addr} {outer:List Env} {hs:List Nat} {k:St→Prop} (ι:List Nat) (F:RaX X.W lvl f args2 objs2 C) (O:X.Ok) (hle:Nat.ble lvl X.lvl = true)
    (hl:objs2.length = ι.length) (hnd:nodupN ι = true) (hsel:selL (kap ι st.objs.length) st.objs objs2.length 0 objs2) (ha:args = args2.map (SV.ren (kap ι st.objs.length))) (hc:args2.all (SV.clo objs2.length) = true)
    (hA:X.A.frames = some (X.env :: outer)) (hfr:X.fr = none) (ho:Outs X outer hs) (hp:RawAt st hs) (hn:∀ i ∈ hs,posN i ι 0 = none):OpS (X.onErr (CatE X st outer C)) (fun vs=>call (.ref f) vs) args st k:=by
  subst ha
  constructor
  intro ρ s vs R r
  refine call_raP (X:=X.onErr (CatE X st outer C)) ι F O.onErr hle hl hnd hsel hc hA hfr (fun env he=>?_) R r fun e hr ρ3 s' R3 e3 fl=>⟨e,hr,ρ3,rfl,⟨R3.ex,R3.gn,R3.dr,R3.os,R3.pin⟩,fl⟩
  obtain ⟨i,hi,a,b,c⟩:=ho.at_ he
  obtain ⟨P,hP,u⟩:=hp i hi
  exact ⟨a,.inr ⟨i,P,b,c,hP,hn i hi,u.dict⟩⟩
noncomputable def again:List UInt8:=[97,103,97,105,110]
section
variable {V:Vs}
theorem bo_kts : ktsIn (WK V).K c_BuildOrder "BaseException" = true := by kernel_rfl
theorem f_refused (T:Tab) (k:List UInt8) (d:Obj→Prop) (hd:UpP d) (F:RaX (WK V) 7 623 [.ref 4,.bytes k,.bytes again] (tabL T) c_BuildOrder) :
    FnT (WK V) 8 698 [.ref 4,.bytes k] (tabL T++[.raw d]) [18] (Det (.bool true) (tabL T++[.raw d])):=by
  refine enterT [x_builder,x_key] (WK_holds ..) (lk__law_refused _) (cd__law_refused _) (fun _ _=>rfl) rfl (by decide +kernel) (by decide +kernel) rfl rfl rfl (fun outer d' Z hd' O hA ho=>body_ok O (n:=40) ?_)
  have hp:RawAt ⟨([x_builder,x_key].zip [SV.ref 4,SV.bytes k]).reverse,tabL T++[.raw d]++[.raw d']⟩ [19,18]:=fun i hi=>by
    rcases List.mem_cons.mp hi with rfl | hi
    · exact ⟨d',rfl,hd'⟩
    · rcases List.mem_singleton.mp hi with rfl
      exact ⟨d,rfl,hd⟩
  refine j_tryTrue O ?_ ?_ ho hp hA bo_in bo_kts ?_ ?_ (body_ok (n:=40) O.onErr ?_) ?_
  · rfl
  · rfl
  · rfl
  · decide +kernel
  · refine j_raCatch (args2:=[.ref 4,.bytes k,.bytes again]) [0,1,2,3,4,5,6,7,8,9,10,11,12,13,14,15,16,17] F O rfl rfl rfl (by rw [List.append_assoc];exact sel_id (idB_kapn rfl) (tabL_clo T)) rfl rfl hA rfl ho hp (show ∀ i ∈ [19,18],posN i [0,1,2,3,4,5,6,7,8,9,10,11,12,13,14,15,16,17] 0 = none by decide)
  · refine ⟨rfl,[0,1,2,3,4,5,6,7,8,9,10,11,12,13,14,15,16,17,18],.bool true,tabL T++[.raw d],idB_kapn rfl,rfl,Nat.le_refl 19,rfl,show ∀ k ∈ [0,1,2,3,4,5,6,7,8,9,10,11,12,13,14,15,16,17,18],k ≠ 19 by decide,selG_of (sel_id (idB_kapn rfl) (tabR_clo T d)),rfl,rfl,rfl,rfl⟩
end
end Mine
end
section
open PySem PySem.W PyProof.Rows PySem.F
namespace Mine
noncomputable abbrev Cx.comp (X:Cx) (cs:Scope) (cl:List (PySem.Str × Nat)) (g:Heap) (C:Addr) (n:Nat) (r:Nat→Addr):Cx:={ X with cs:=cs,cl:=cl,g:=g,L:=C,E:=NoE,n0:=n,r0:=r,fr:=some (frE X.fr X.L) }
inductive SExC (g:Heap) (L:Addr) (h:Heap) (ρ:Nat→Addr) (st:St) (C:Addr):Prop
  | mk (m:PySem.Str→Option PySem.Value) (chs:List (List (Addr × Obj))) (mc:PySem.Str→Option PySem.Value) (F:Fr g L h m) (N:News g L h chs.flatten) (nd:(chs.flatten.map (·.1)).Nodup) (LR:LRep ρ st.objs.length m st.loc) (OR:OReps ρ st.objs chs) (hC:h.Ns C mc) (hn:∀ p ∈ chs.flatten,p.1 ≠ C)
structure SRepC (X:Cx) (ρ:Nat→Addr) (st:St) (C:Addr) (s:Shared):Prop where
  ex:SExC X.g X.L s.heap ρ st C
  gn:s.gens = X.gn
  dr:s.drawn = X.dr
  os:s.os = X.os
  pin:Pin X ρ st.objs.length
  ne:C ≠ X.L
  out:X.g.get? C = none
theorem SRepC.go {X:Cx} {ρ:Nat→Addr} {st:St} {C:Addr} {s:Shared} {h':Heap} (R:SRepC X ρ st C s) (hs:Heap.SameBut C s.heap h'):SRep X ρ st { s with heap:=h' }:=by
  obtain ⟨⟨m,chs,mc,F,N,nd,LR,OR,hC,hn⟩,g1,g2,g3,pn,ne,out⟩:=R
  exact ⟨⟨m,chs,⟨F.ns.sameBut hs (Ne.symm ne),fun b o e=>(hs.2 b (fun q=>by rw [q,out] at e;cases e)).trans (F.keep b o e),F.above⟩,fun p hp=>⟨(hs.2 _ (hn p hp)).trans (N p hp).1,(N p hp).2⟩,nd,LR,OR⟩,g1,g2,g3,pn⟩
noncomputable def ifsK (Y:Cx):List Expr→St→(Bool→St→Prop)→Prop
  | [],st,k=>k true st
  | [c],st,k=>wpT Y 40 c st k
  | _,_,_=>False
theorem ifs_ok {Y:Cx} (O:Y.Ok) {ifs:List Expr} {st:St} {k:Bool→St→Prop} (h:ifsK Y ifs st k) {ρ:Nat→Addr} {s:Shared} (R:SRep Y ρ st s) :
    wpR Y.M Y.A (forIn ifs true fun c r=>if r = true then do let ok ← isTrue c Y.env (eval c Y.env);pure (ForInStep.yield ok) else pure (ForInStep.yield r)) (BoP Y ρ st.objs.length k) Y.E s:=by
  cases ifs with
  | nil=>exact wpR_pure ⟨ρ,st,fun _ _=>rfl,Nat.le_refl _,R,h⟩
  | cons c r =>
    cases r with
    | nil =>
      simp only [List.forIn_cons,List.forIn_nil,if_true]
      exact wpR_bind (wpR_bind (wpR_mono (wpT_ok O _ _ _ _ h ρ s R) (fun b s' hb=>wpR_pure (wpR_pure hb)) fun _ _ x=>x))
    | cons _ _=>exact h.elim
noncomputable def intoJ (n0:Nat) (J:List SObj→Prop):St→Prop:=Into n0 fun st=>J st.objs
noncomputable def kInto (n0:Nat) (J:List SObj→Prop):SV→St→Prop:=fun _ st=>intoJ n0 J st
noncomputable def kAcc (Y:Cx) (acc:Nat) (J:List SObj→Prop):SV→St→Prop:=fun v st=>OpJ Y (fun vs=>call BI.lsAppend.val vs) [.ref acc,v] st (kInto Y.n0 J)
noncomputable def kElt (Y:Cx) (elt:Expr) (acc:Nat) (J:List SObj→Prop):St→Prop:=fun st=>wpE Y 40 elt st (kAcc Y acc J)
noncomputable def CTurn (Y:Cx) (elt:Expr) (x:PySem.Str) (ifs:List Expr) (v:SV) (acc:Nat) (objs:List SObj) (J:List SObj→Prop):Prop :=
  ifsK Y ifs ⟨[(x,v)],objs⟩ (kIf (kElt Y elt acc J) (intoJ Y.n0 J))
section
variable {X:Cx} {ρ:Nat→Addr} {st:St} {s:Shared}
theorem SRep.noloc (R:SRep X ρ st s):SRep X ρ ⟨[],st.objs⟩ s:=by
  obtain ⟨⟨m,chs,F,N,nd,LR,OR⟩,g1,g2,g3,pn⟩:=R
  exact ⟨⟨m,chs,F,N,nd,(fun y sv e=>nomatch e),OR⟩,g1,g2,g3,pn⟩
inductive CompIn (Y:Cx) (xs:List SV) (p acc:Nat) (ρ:Nat→Addr) (J:Nat→List SObj→Prop) (m:Nat) (s:Shared):Prop
  | mk (i:Nat) (ρ':Nat→Addr) (objs:List SObj) (e:m = xs.length + 1 - i) (l:i ≤ xs.length) (e1:ρ' p = ρ p) (e2:ρ' acc = ρ acc) (R:SRep Y ρ' ⟨[],objs⟩ s) (j:J i objs)
theorem comp_loop (O:X.Ok) {elt iter:Expr} {x:PySem.Str} {px:Pos} {ifs:List Expr} {scope cs:Scope} {pos:Pos} {cl:List (PySem.Str × Nat)} (xs:List SV) (itO:Nat→SObj) (ok:St→Prop) (S:Src xs itO ok) (J:Nat→List SObj→Prop) (p acc n:Nat)
    (hk:cs.kind = .function) (hcl:∀ q ∈ cl,q.2 < n) (hx:kindS x cs.names = some .local) (hz:xs.length ≤ 1000000) (hp:p < n)
    (hJ:∀ i objs,J i objs→objs[p]? = some (itO i)∧ok ⟨[],objs⟩)
    (turn:∀ g C r i objs v,(X.comp cs cl g C n r).Ok→J i objs→xs[i]? = some v→CTurn (X.comp cs cl g C n r) elt x ifs v acc (objs.set p (itO (i + 1))) (J (i + 1)))
    {g:Heap} {C:Addr} {r:Nat→Addr} {R:Result→Shared→Prop} (O':(X.comp cs cl g C n r).Ok) {objs:List SObj} (h0:J 0 objs) {ρ:Nat→Addr} {s:Shared} (Rs:SRep (X.comp cs cl g C n r) ρ ⟨[],objs⟩ s) (hacc:acc < n)
    (he:∀ ρ' objs' s',J xs.length objs'→SRep (X.comp cs cl g C n r) ρ' ⟨[],objs'.set p .gone⟩ s'→R (.ok .next) s') :
    codeR X.M X.A (.compStart (.ListComp elt [⟨.Name x px,iter,ifs,0⟩] scope pos) 0 (.ref (ρ p)) (.ref (ρ acc)) (X.comp cs cl g C n r).env) R s:=by
  have loop:∀ s,SRep (X.comp cs cl g C n r) ρ ⟨[],objs⟩ s→codeR X.M X.A (.compLoop (.ListComp elt [⟨.Name x px,iter,ifs,0⟩] scope pos) 0 (.ref (ρ p)) (.ref (ρ acc)) (X.comp cs cl g C n r).env) R s:=fun s Rs=>by
    refine codeR_loop' rfl rfl (CompIn (X.comp cs cl g C n r) xs p acc ρ J) (fun m s hI=>?_) (xs.length + 1) ⟨0,ρ,objs,rfl,Nat.zero_le _,rfl,rfl,Rs,h0⟩
    obtain ⟨i,ρA,objs,rfl,hle,e1,e2,RA,jA⟩:=hI
    show wpR _ X.A ((compTurn (.ListComp elt [⟨.Name x px,iter,ifs,0⟩] scope pos) 0 (.ref (ρ p)) (.ref (ρ acc)) (X.comp cs cl g C n r).env).onRaise (fun x=>do noteFrame x (X.comp cs cl g C n r).env;theTreesLotGoes x)) _ _ s
    refine wpR_onRaise0 ?_
    rw [compTurn_list,← e1,← e2]
    obtain ⟨hpi,hok⟩:=hJ i objs jA
    cases hv:xs[i]? with
    | none =>
      have hi:i = xs.length:=by have:=List.getElem?_eq_none_iff.mp hv;lia
      subst hi
      exact stand (wpR_bind (.of (S.stop (X:=X.comp cs cl g C n r) O.room.hh RA hok hpi hle hv fun s' R'=>wpR_pure (he ρA objs s' jA R'))))
    | some v =>
      refine stand (wpR_bind (.of (S.item (X:=X.comp cs cl g C n r) RA hok hpi hv fun y sB ry RB=>?_)))
      have hpB:(St.setObj ⟨[],objs⟩ p (itO (i + 1))).objs[p]? = some (itO (i + 1)):=by
        show (objs.set _ _)[_]? = _
        rw [List.getElem?_set_self (lt_of_some hpi)]
      refine wpR_bind (.of (S.lgo (X:=X.comp cs cl g C n r) (t:=.Name x px) RB hpB rfl ry ?_))
      have ryB:VRep ρA (St.setObj ⟨[],objs⟩ p (itO (i + 1))).objs.length v y:=by show VRep ρA (objs.set _ _).length v y;rw [List.length_set];exact ry
      have hst:storeK (X.comp cs cl g C n r) x v (St.setObj ⟨[],objs⟩ p (itO (i + 1))) (fun st'=>st' = ⟨[(x,v)],objs.set p (itO (i + 1))⟩):=by
        show storeW _ _ _ _ _ (kindS x cs.names)
        rw [hx]
        exact rfl
      refine wpR_bind (wpR_mono (assignName_ok O' hst RB ryB) (fun _ sC q=>?_) fun _ _ x=>x)
      obtain ⟨stC,RC,e⟩:=q
      subst e
      have tn:=turn g C r i objs v O' jA hv
      have hlt:i < xs.length:=lt_of_some hv
      have hn:n ≤ (objs.set p (itO (i + 1))).length:=RC.pin.2
      have fin:∀ {ρB:Nat→Addr} {stD:St} {sD:Shared},SRep (X.comp cs cl g C n r) ρB stD sD→intoJ n (J (i + 1)) stD→∃ m,m < xs.length + 1 - i∧CompIn (X.comp cs cl g C n r) xs p acc ρ J m sD:=fun {ρB stD sD} RD hin=>by
        obtain ⟨ρE,stE,RE,jE⟩:=RD.into hin
        exact ⟨xs.length + 1 - (i + 1),sub_lt2 (Nat.lt_succ_of_lt hlt) (Nat.lt_succ_self i),i + 1,ρE,stE.objs,rfl,hlt,(RE.pin.1 p hp).trans ((RA.pin.1 p hp).symm.trans e1),(RE.pin.1 acc hacc).trans ((RA.pin.1 acc hacc).symm.trans e2),RE.noloc,jE⟩
      refine wpR_bind (wpR_mono (ifs_ok O' tn RC) (fun b sD q=>?_) fun _ _ x=>x)
      obtain ⟨ρD,stD,xD,lD,RD,kD⟩:=q
      cases b with
      | false=>exact wpR_pure (.inl ⟨rfl,fin RD (kD.2 rfl)⟩)
      | true =>
        refine wpR_bind (wpR_bind (wpR_mono ((wpE_ok O' _ _ _ _ (kD.1 rfl)).go ρD sD RD) (fun w sE q=>?_) fun _ _ x=>x))
        obtain ⟨ρE,sw,stE,xE,lE,RE,rw',kE⟩:=q
        refine wpR_bind (wpR_mono (kE.go ρE sE [.ref (ρA acc),w] RE (.cons ⟨Nat.lt_of_lt_of_le hacc RE.pin.2,by rw [RE.pin.1 acc hacc,RA.pin.1 acc hacc]⟩ (.cons rw' .nil))) (fun _ sF q=>?_) fun _ _ x=>x)
        obtain ⟨ρF,_,stF,xF,lF,RF,_,kF⟩:=q
        exact wpR_pure (wpR_pure (.inl ⟨rfl,fin RF kF⟩))
  have hself:wpR X.M X.A (pyIter (.ref (ρ p))) (fun it' s'=>codeR X.M X.A (.compLoop (.ListComp elt [⟨.Name x px,iter,ifs,0⟩] scope pos) 0 it' (.ref (ρ acc)) (X.comp cs cl g C n r).env) R s') NoE s :=
    .of (S.self (X:=X.comp cs cl g C n r) Rs (hJ 0 objs h0).1 (loop s Rs))
  refine codeR_of_tree rfl ?_
  show wpR _ X.A ((compStart (.ListComp elt [⟨.Name x px,iter,ifs,0⟩] scope pos) 0 (.ref (ρ p)) (.ref (ρ acc)) (X.comp cs cl g C n r).env).onRaise (fun x=>do noteFrame x (X.comp cs cl g C n r).env;standAt theWindowsPlace)) _ _ s
  refine wpR_onRaise0 ?_
  unfold compStart
  show wpR _ _ (ask >>= _) _ _ s
  refine wpR_step (wpAny_askSetting ?_)
  split
  · exact wpR_bind (wpR_pure (wpR_pure (And.intro rfl (loop s Rs))))
  · refine wpR_step (wpAny_rule ?_)
    show wpR _ _ (standAt iter.pos >>= _) _ _ s
    exact stand (wpR_bind (wpR_mono hself (fun it' s' h'=>wpR_pure (And.intro rfl h')) fun _ _ x=>x))
theorem r_standIf {α:Type} {M:Model} {A:Around} {E:PySem.Value→Shared→Prop} {s:Shared} {c:Prop} [Decidable c] {pos:Pos} {k:PUnit→Sem α} {Q:α→Shared→Prop} (h:wpR M A (k ()) Q E s):wpR M A (if c then (standAt pos >>= k) else k ()) Q E s:=by
  split
  · exact stand h
  · exact h
inductive CSrc (X:Cx) (elt:Expr) (x:PySem.Str) (ifs:List Expr) (cs:Scope) (cl:List (PySem.Str × Nat)) (K:SV→St→Prop) (v:SV) (st1:St):Prop
  | mk (xs:List SV) (itO:Nat→SObj) (ok:St→Prop) (J:Nat→List SObj→Prop) (S:Src xs itO ok) (so:SrcOf v (itO 0) st1) (hz:xs.length ≤ 1000000) (j0:J 0 (st1.objs++[itO 0]++[.pl []])) (hJ:∀ i objs,J i objs→objs[st1.objs.length]? = some (itO i)∧ok ⟨[],objs⟩)
    (turn:∀ g C r i objs v,(X.comp cs cl g C (st1.objs.length + 2) r).Ok→J i objs→xs[i]? = some v→CTurn (X.comp cs cl g C (st1.objs.length + 2) r) elt x ifs v (st1.objs.length + 1) (objs.set st1.objs.length (itO (i + 1))) (J (i + 1))) (fin:∀ objs,J xs.length objs→K (.ref (st1.objs.length + 1)) ⟨st1.loc,objs.set st1.objs.length .gone⟩)
inductive CompR (X:Cx) (n:Nat) (C:Addr) (loc:List (PySem.Str × SV)) (ρ3:Nat→Addr) (K:SV→St→Prop) (r:Result) (s':Shared):Prop
  | mk (f:Flow) (ρ':Nat→Addr) (objs':List SObj) (e:r = .ok f) (b1:∀ i,i < n + 2→ρ' i = ρ3 i) (b0:n + 2 ≤ objs'.length) (b2:SRepC X ρ' ⟨loc,objs'⟩ C s') (k:K (.ref (n + 1)) ⟨loc,objs'⟩)
noncomputable def UseQ (X:Cx) (ρ:Nat→Addr) (n:Nat) (K:SV→St→Prop) (y:Option PySem.Str) (Q:PySem.Value→Shared→Prop):Prop:=match y with
  | none=>∀ v s',EvP X ρ n K v s'→Q v s'
  | some y=>∀ ρ' sv st' s',SRep X ρ' (st'.put y sv) s'→K sv st'→Q .none s'
noncomputable def useOf (X:Cx) (y:Option (PySem.Str × Pos)):Option (PySem.Value→Sem Unit):=y.map fun y=>assign (.Name y.1 y.2) X.env
inductive CompE (X:Cx) (cs:Scope) (cl:List (PySem.Str × Nat)) (n:Nat) (loc:List (PySem.Str × SV)) (objs:List SObj) (C:Addr) (r:Nat→Addr) (s:Shared):Prop
  | mk (g:Heap) (O':(X.comp cs cl g C n r).Ok) (RY:SRep (X.comp cs cl g C n r) r ⟨[],objs⟩ s)
    (back:∀ ρ' objs' s',SRep (X.comp cs cl g C n r) ρ' ⟨[],objs'⟩ s'→(∀ i,i < n→ρ' i = r i)∧n ≤ objs'.length∧SRepC X ρ' ⟨loc,objs'⟩ C s')
theorem comp_env (O:X.Ok) {cs:Scope} {cl:List (PySem.Str × Nat)} (hkc:cs.kind = .function) (hcl:∀ q ∈ cl,q.2 < X.n0) {n tk:Nat} (hle:st.objs.length = n) (R:SRep X ρ st s) {h₁:Heap} {m1:PySem.Str→Option PySem.Value} (hns:h₁.Ns s.heap.objs.size m1)
    (up:∀ b o,s.heap.get? b = some o→h₁.get? b = some o):CompE X cs cl n st.loc st.objs s.heap.objs.size ρ { s with heap:=h₁,toks:=tk }:=by
  obtain ⟨⟨m,chs,F,N,nd,LR,OR⟩,g1,g2,g3,pn⟩:=R
  have hn0:X.n0 ≤ n:=Nat.le_trans pn.2 (Nat.le_of_eq hle)
  have hkn:∀ q ∈ cl,q.2 < n:=fun q hq=>Nat.lt_of_lt_of_le (hcl q hq) hn0
  obtain ⟨oL,es,kk,hL,hLr⟩:=F.ns
  have nch:∀ b,(∀ p ∈ chs.flatten,p.1 ≠ b)→b ∉ chs.flatten.map (·.1):=fun b h q=>by
    obtain ⟨p,hp,e⟩:=List.mem_map.mp q
    exact h p hp e
  have hLg:(hideAll s.heap (chs.flatten.map (·.1))).get? X.L = some oL:=hideAll_get _ hL (nch _ fun p hp=>(N p hp).2.1)
  have gsub:∀ b o,X.g.get? b = some o→(hideAll s.heap (chs.flatten.map (·.1))).get? b = some o:=fun b o e=>hideAll_get _ (F.keep b o e) (nch _ fun p hp q=>by
    have:=(N p hp).2.2;rw [q,e] at this;cases this)
  refine ⟨hideAll s.heap (chs.flatten.map (·.1)),⟨O.W,hkc,O.K.keeps gsub,O.T.keeps gsub,O.room,hkn⟩,
    ⟨⟨_,chs,⟨hns,fun b o e=>up b o (of_hideAll _ e),Nat.le_of_eq (hideAll_size _ _)⟩,fun p hp=>⟨up _ _ (N p hp).1,Nat.ne_of_lt (Heap.lt_size (N p hp).1),hideAll_none _ (List.mem_map_of_mem hp)⟩,nd,(fun z sv e=>by cases e),OR⟩,g1,g2,g3,fun _ _=>rfl,Nat.le_of_eq hle.symm⟩,fun ρ' objs' s' R'=>?_⟩
  obtain ⟨⟨m',chs',F',N',nd',LR',OR'⟩,w1,w2,w3,pn'⟩:=R'
  have hCX:s.heap.objs.size ≠ X.L:=Nat.ne_of_gt (Heap.lt_size hL)
  have hCg:X.g.get? s.heap.objs.size = none:=by
    cases q:X.g.get? s.heap.objs.size with
    | none=>rfl
    | some o=>exact absurd (Heap.lt_size (F.keep _ _ q)) (Nat.lt_irrefl _)
  refine ⟨pn'.1,pn'.2,⟨m,chs',m',⟨⟨oL,es,kk,F'.keep _ _ hLg,hLr⟩,fun b o e=>F'.keep b o (gsub b o e),F.above⟩,fun p hp=>⟨(N' p hp).1,fun q=>?_,?_⟩,nd',fun z sv e=>?_,OR',F'.ns,fun p hp=>(N' p hp).2.1⟩,w1,w2,w3,⟨fun i hi=>?_,Nat.le_trans hn0 pn'.2⟩,hCX,hCg⟩
  · have:=(N' p hp).2.2;rw [q,hLg] at this;cases this
  · cases q:X.g.get? p.1 with
    | none=>rfl
    | some o=>have:=(N' p hp).2.2;rw [gsub _ _ q] at this;cases this
  · obtain ⟨v,hv,r⟩:=LR z sv e
    exact ⟨v,hv,r.ext (fun i hi=>pn'.1 i (Nat.lt_of_lt_of_le hi (Nat.le_of_eq hle))) (Nat.le_trans (Nat.le_of_eq hle) pn'.2)⟩
  · exact (pn'.1 i (Nat.lt_of_lt_of_le hi hn0)).trans (pn.1 i hi)
theorem wpR_bindE {α β:Type} {M:Model} {A:Around} {E:PySem.Value→Shared→Prop} {m:Sem α} {f:α→Sem β} {Q:β→Shared→Prop} (h:∀ F:α→Sem β,(∀ {a:α} {s':Shared},wpR M A (f a) Q E s'→wpR M A (F a) Q E s')→wpR M A m (fun a s'=>wpR M A (F a) Q E s') E s):wpR M A (m >>= f) Q E s:=wpR_bind (h f fun h=>h)
inductive CompF (X:Cx) (elt:Expr) (x:PySem.Str) (ifs:List Expr) (cs:Scope) (cl:List (PySem.Str × Nat)) (K:SV→St→Prop) (ρ:Nat→Addr) (n:Nat) (st1:St) (C:Addr) (ρ3:Nat→Addr) (s:Shared):Prop
  | mk (xs:List SV) (itO:Nat→SObj) (ok:St→Prop) (J:Nat→List SObj→Prop) (S:Src xs itO ok) (hz:xs.length ≤ 1000000) (j0:J 0 (st1.objs++[itO 0]++[.pl []])) (hJ:∀ i objs,J i objs→objs[st1.objs.length]? = some (itO i)∧ok ⟨[],objs⟩)
    (turn:∀ g C r i objs v,(X.comp cs cl g C (st1.objs.length + 2) r).Ok→J i objs→xs[i]? = some v→CTurn (X.comp cs cl g C (st1.objs.length + 2) r) elt x ifs v (st1.objs.length + 1) (objs.set st1.objs.length (itO (i + 1))) (J (i + 1))) (fin:∀ objs,J xs.length objs→K (.ref (st1.objs.length + 1)) ⟨st1.loc,objs.set st1.objs.length .gone⟩)
    (xx:∀ i,i < n→ρ3 i = ρ i) (l1:n ≤ st1.objs.length) (hn0:X.n0 ≤ st1.objs.length) (hc2:(cl.map fun p=>(p.1,X.r0 p.2)) = cl.map fun p=>(p.1,ρ3 p.2)) (E:CompE X cs cl (st1.objs.length + 2) st1.loc (st1.objs++[itO 0]++[.pl []]) C ρ3 s):CompF X elt x ifs cs cl K ρ n st1 C ρ3 s
theorem comp_front (O:X.Ok) {elt iter:Expr} {x:PySem.Str} {ifs:List Expr} {scope cs:Scope} {fp ep:Pos} {cl:List (PySem.Str × Nat)} {K:SV→St→Prop} {Q:PySem.Value→Shared→Prop} {b:Bool} {T:PySem.Value→PySem.Value→Env→Sem PySem.Value}
    (hcs:relabel scope X.env = cs) (hclos:closureFor scope X.env = pure (cl.map fun p=>(p.1,X.r0 p.2))) (hcl:∀ q ∈ cl,q.2 < X.n0) (hcell:∀ z ∈ scope.names,z.2 ≠ .cell) (hk:scope.kind = .function) (hs:∀ x:PySem.Value,foldedSetIterable iter X.env x = pure x)
    (ev:Ev X (eval iter X.env) st (CSrc X elt x ifs cs cl K)) (R:SRep X ρ st s)
    (h:∀ (st1:St) (C:Addr) (ρ3:Nat→Addr) (s':Shared),CompF X elt x ifs cs cl K ρ st.objs.length st1 C ρ3 s'→wpR X.M X.A (T (.ref (ρ3 st1.objs.length)) (.ref (ρ3 (st1.objs.length + 1))) (newEnv scope C X.env.globals (cl.map fun p=>(p.1,X.r0 p.2)) X.env.qual none .none (some X.env) builtinsNs)) Q X.E s') :
    wpR X.M X.A (eval iter X.env >>= fun x=>standAt fp >>= fun _=>foldedSetIterable iter X.env x >>= fun x=>holding [x] (pyIter x) >>= fun it =>
      if b = true then standAt ep >>= fun _=>newList [] >>= fun acc=>closureFor scope X.env >>= fun c=>newFunctionEnv scope X.env.globals c [] X.env.qual none .none (some X.env) >>= T it acc
      else newList [] >>= fun acc=>closureFor scope X.env >>= fun c=>newFunctionEnv scope X.env.globals c [] X.env.qual none .none (some X.env) >>= T it acc) Q X.E s:=by
  refine wpR_bind (wpR_mono (ev.go ρ s R) (fun v s1 q=>?_) fun _ _ x=>x)
  obtain ⟨ρ1,sv,st1,x1,l1,R1,r1,xs,itO,ok,J,S,so,hz,j0,hJ,turn,fin⟩:=q
  refine stand (wpR_bind (wpR_of_eq (hs v) (wpR_bind (wpR_holding (.of (so.start R1 r1 fun ρ2 s2 x2 R2=>?_))))))
  have hle:(((st1.addObj (itO 0)).addObj (.pl [])).objs).length = st1.objs.length + 2:=by show (st1.objs++[itO 0]++[_]).length = _;simp
  have hn2:(st1.addObj (itO 0)).objs.length = st1.objs.length + 1:=by show (st1.objs++[itO 0]).length = _;simp
  have A1 := R2.alloc1 (o := .pl []) (ob := { cls := .type "list", data := .seq ([] : List PySem.Value).toArray }) (tk := s2.toks) rfl (fun ρ' _ _ => ⟨[], 0, rfl, .nil⟩)
  rw [hn2] at A1
  obtain ⟨ρ3,x3,e3,R3⟩:=A1
  have ep:ρ2 st1.objs.length = ρ3 st1.objs.length:=(x3 _ (Nat.lt_succ_self _)).symm
  rw [ep]
  refine r_standIf (k:=fun _=>newList [] >>= fun acc=>closureFor scope X.env >>= fun c=>newFunctionEnv scope X.env.globals c [] X.env.qual none .none (some X.env) >>= T (.ref (ρ3 st1.objs.length)) acc) (wpR_bind (.of (wpAny_newObj_type ?_)))
  generalize hs3 : ({ s2 with heap := s2.heap.push { cls := .type "list", data := .seq ([] : List PySem.Value).toArray }, toks := s2.toks } : Shared) = s3 at R3
  rw [← e3]
  refine wpR_bind (wpR_of_eq hclos (wpR_bind (.of (wpAny_newFunctionEnv hcell (by intro y hy;simp at hy) (fun h₁ hns hsb=>?_) hk))))
  have up:∀ b o,s3.heap.get? b = some o→h₁.get? b = some o:=fun b o e=>hsb.extBut b o (Nat.ne_of_lt (Heap.lt_size e)) (Heap.get?_push_of_some _ e)
  have hkc:cs.kind = .function:=by rw [← hcs];exact hk
  exact h st1 _ ρ3 _ ⟨xs,itO,ok,J,S,hz,j0,hJ,turn,fin,fun i hi=>by rw [x3 i (Nat.lt_succ_of_lt (Nat.lt_of_lt_of_le hi l1)),x2 i (Nat.lt_of_lt_of_le hi l1),x1 i hi],l1,R1.pin.2,List.map_congr_left fun q hq=>by rw [R3.pin.1 _ (hcl q hq)],comp_env O hkc hcl hle R3 hns up⟩
theorem comp_core (O:X.Ok) {elt iter:Expr} {x:PySem.Str} {px:Pos} {ifs:List Expr} {scope cs:Scope} {pos fp:Pos} {cl:List (PySem.Str × Nat)} {K:SV→St→Prop} {Q:PySem.Value→Shared→Prop} (y:Option (PySem.Str × Pos))
    (hcs:relabel scope X.env = cs) (hclos:closureFor scope X.env = pure (cl.map fun p=>(p.1,X.r0 p.2))) (hcl:∀ q ∈ cl,q.2 < X.n0) (hcell:∀ z ∈ scope.names,z.2 ≠ .cell) (hk:scope.kind = .function)
    (hnames:∀ z ∈ scope.names,z.2 = .local→scope.names.lookup z.1 = some .local) (hx:kindS x cs.names = some .local) (hs:∀ x:PySem.Value,foldedSetIterable iter X.env x = pure x) (hy:∀ z,y = some z→kindS z.1 X.cs.names = some .local)
    (ev:Ev X (eval iter X.env) st (CSrc X elt x ifs cs cl K)) (R:SRep X ρ st s) (hQ:UseQ X ρ st.objs.length K (y.map (·.1)) Q) :
    wpR X.M X.A (comprehension (.ListComp elt [⟨.Name x px,iter,ifs,0⟩] scope pos) scope X.env fp (newList []) false (eval iter X.env) (useOf X y)) Q X.E s:=by
  refine comp_front (b:=(useOf X y).isSome) O hcs hclos hcl hcell hk hs ev R fun st1 C ρ3 s3 q=>?_
  obtain ⟨xs,itO,ok,J,S,hz,j0,hJ,turn,fin,xx,l1,hn0,hcell2,G,O',RY,back⟩:=q
  have hkc:cs.kind = .function:=by rw [← hcs];exact hk
  have h4:=comp_loop O (iter:=iter) (px:=px) (scope:=scope) (pos:=pos) xs itO ok S J st1.objs.length (st1.objs.length + 1) (st1.objs.length + 2) hkc (fun q hq=>Nat.lt_of_lt_of_le (hcl q hq) (Nat.le_trans hn0 (Nat.le_add_right _ 2))) hx hz (by lia) hJ turn O' j0 RY (by lia)
    (R:=CompR X st1.objs.length C st1.loc ρ3 K) (fun ρ' objs' s' j R'=>by obtain ⟨b1,b0,b2⟩:=back ρ' _ s' R';exact ⟨_,ρ',_,rfl,b1,b0,b2,fin objs' j⟩)
  have h5:∀ {R:Result→Shared→Prop} {c:Env→Code} {s:Shared},codeR X.M X.A (c (X.comp cs cl G C (st1.objs.length + 2) ρ3).env) R s →
      codeR X.M X.A (c ({ scope:=relabel scope X.env,locals:=C,globals:=X.env.globals,cells:=cl.map fun p=>(p.1,X.r0 p.2),qual:=X.env.qual,func:=none,code:=X.env.code,frame:=X.env.frame,builtins:=X.env.builtins }:Env)) R s:=fun h=>by
    rw [hcs,hcell2];exact h
  refine wpR_holding (wpR_bindE fun F hF=>wpR_attempt (wpR_holding (wpR_run (codeR_mono (h5 (c:=fun env=>.compStart (.ListComp elt [⟨.Name x px,iter,ifs,0⟩] scope pos) 0 (.ref (ρ3 st1.objs.length)) (.ref (ρ3 (st1.objs.length + 1))) env) h4) fun r s' q=>?_) (by intro x;cases x))))
  obtain ⟨f,ρ',objs',e,b1,b0,b2,kf⟩:=q
  subst e
  have hv : ∀ z ∈ (scope.names.filter fun x => (x.2 == .local || x.2 == .cell) && x.1 != (".0" : PySem.Str)).reverse, z.2 = .local → (relabel scope X.env).names.lookup z.1 = some .local := fun z hz hl => lookup_relabel_local (hnames z (List.mem_filter.mp (List.mem_reverse.mp hz)).1 hl)
  obtain ⟨mX,chX,mC,FX,NX,ndX,LX,OX,hC,hCn⟩:=b2.ex
  refine hF ?_
  cases y with
  | none =>
    refine wpR_bind (wpR_holding (.of (wpAny_comp_letGo hk _ s' mC hv hC fun h' m' _ hs'=>wpR_pure (hQ _ _ ?_))))
    exact ⟨ρ',.ref (st1.objs.length + 1),⟨st1.loc,objs'⟩,fun i hi=>(b1 i (by lia)).trans (xx i hi),by show st.objs.length ≤ objs'.length;lia,b2.go hs',⟨by show _ < objs'.length;lia,by rw [b1 _ (by lia)]⟩,kf⟩
  | some y =>
    refine wpR_step (wpAny_rule (wpR_bind (wpR_holding ?_)))
    show wpR X.M X.A (assign (.Name y.1 y.2) X.env (.ref (ρ3 (st1.objs.length + 1)))) _ _ _
    rw [PySem.assign_Name]
    refine stand (r_bindName (.of (wpAny_storeName_local (by show X.cs.names.lookup y.1 = _;rw [← kindS_eq];exact hy y rfl) FX.ns (fun h' hn hs=>?_) (by show (X.cs.kind == .class || (X.cs.kind == .module && X.L != mainGlobals)) = false;rw [O.kind];rfl))))
    have hv' : ∀ z ∈ (scope.names.filter fun x => (x.2 == .local || x.2 == .cell) && x.1 != (".0" : PySem.Str)).reverse.drop 1 ++ (scope.names.filter fun x => (x.2 == .local || x.2 == .cell) && x.1 != (".0" : PySem.Str)).reverse.take 1, z.2 = .local → (relabel scope X.env).names.lookup z.1 = some .local := fun z hz hl => by
      rcases List.mem_append.mp hz with h1 | h1
      · exact hv z (List.mem_of_mem_drop h1) hl
      · exact hv z (List.mem_of_mem_take h1) hl
    refine wpR_bind (.of (wpAny_comp_letGo hk _ _ mC hv' (hC.sameBut hs b2.ne) fun h'' m' _ hs'=>wpR_pure (hQ ρ' (.ref (st1.objs.length + 1)) ⟨st1.loc,objs'⟩ _ ?_ kf)))
    have RP:SRepC X ρ' (St.put ⟨st1.loc,objs'⟩ y.1 (.ref (st1.objs.length + 1))) C { s' with heap:=h',toks:=s'.toks + 1 }:=by
      refine ⟨⟨_,chX,mC,FX.set hn hs,NX.set hs,ndX,fun z sw e=>?_,OX,hC.sameBut hs b2.ne,hCn⟩,b2.gn,b2.dr,b2.os,b2.pin,b2.ne,b2.out⟩
      rw [show (St.put ⟨st1.loc,objs'⟩ y.1 (.ref (st1.objs.length + 1))).loc = putS y.1 (.ref (st1.objs.length + 1)) st1.loc from rfl,getS_put] at e
      by_cases hz:z = y.1
      · rw [if_pos hz] at e;cases e;exact ⟨.ref (ρ3 (st1.objs.length + 1)),by simp [hz],by show _ < objs'.length;lia,by rw [b1 _ (by lia)]⟩
      · rw [if_neg hz] at e;obtain ⟨u,hu,ru⟩:=LX z sw e;exact ⟨u,by simp [hz,hu],ru⟩
    exact RP.go hs'
theorem j_comp (O:X.Ok) {elt iter:Expr} {x:PySem.Str} {px:Pos} {ifs:List Expr} {scope:Scope} {pos:Pos} {k:SV→St→Prop} (cs:Scope) (cl:List (PySem.Str × Nat))
    (hcs:relabel scope X.env = cs) (hclos:closureFor scope X.env = pure (cl.map fun p=>(p.1,X.r0 p.2))) (hcl:∀ q ∈ cl,q.2 < X.n0) (hcell:∀ z ∈ scope.names,z.2 ≠ .cell) (hk:scope.kind = .function)
    (hnames:∀ z ∈ scope.names,z.2 = .local→scope.names.lookup z.1 = some .local) (hx:kindS x cs.names = some .local) (hs:∀ x:PySem.Value,foldedSetIterable iter X.env x = pure x)
    (ev:wpE X 40 iter st (CSrc X elt x ifs cs cl k)):Ev X (eval (.ListComp elt [⟨.Name x px,iter,ifs,0⟩] scope pos) X.env) st k:=⟨fun ρ s R=>by
  rw [eval_ListComp]
  exact comp_core O none hcs hclos hcl hcell hk hnames hx hs (fun z e=>by cases e) (wpE_ok O _ _ _ _ ev) R fun v s' h=>h⟩
theorem j_asComp (O:X.Ok) {elt iter:Expr} {x y:PySem.Str} {px py:Pos} {ifs:List Expr} {scope:Scope} {pos spos:Pos} {k:Fl→St→Prop} (cs:Scope) (cl:List (PySem.Str × Nat))
    (hsw:swapsWith (.ListComp elt [⟨.Name x px,iter,ifs,0⟩] scope pos) (some (.Name y py)) spos.line X.env = pure true)
    (hcs:relabel scope X.env = cs) (hclos:closureFor scope X.env = pure (cl.map fun p=>(p.1,X.r0 p.2))) (hcl:∀ q ∈ cl,q.2 < X.n0) (hcell:∀ z ∈ scope.names,z.2 ≠ .cell) (hk:scope.kind = .function)
    (hnames:∀ z ∈ scope.names,z.2 = .local→scope.names.lookup z.1 = some .local) (hx:kindS x cs.names = some .local) (hs:∀ x:PySem.Value,foldedSetIterable iter X.env x = pure x) (hy:kindS y X.cs.names = some .local)
    (ev:wpE X 40 iter st (CSrc X elt x ifs cs cl (kPut y k))):ExJ X (.Assign [.Name y py] (.ListComp elt [⟨.Name x px,iter,ifs,0⟩] scope pos) spos) st k:=⟨fun ρ s R=>by
  rw [exec_Assign_Name_used _ _ _ _ hsw]
  refine stand (wpR_bind ?_)
  show wpR _ _ (do let _ ← comprehension (.ListComp elt [⟨.Name x px,iter,ifs,0⟩] scope pos) scope X.env _ (newList []) false (eval iter X.env) (useOf X (some (y,py)))) _ _ s
  refine wpR_bind (comp_core O (some (y,py)) hcs hclos hcl hcell hk hnames hx hs (fun z e=>by cases e;exact hy) (wpE_ok O _ _ _ _ ev) R ?_)
  exact fun ρ' sv st' s' R' h=>wpR_pure (wpR_pure ⟨ρ',.next,_,R',rfl,h⟩)⟩
end
end Mine
end
section
namespace Mine
theorem bindL_all {kindOf:PySem.Str→Option NameKind} {y:PySem.Str}:∀ {binds:List (PySem.Str × PySem.Value)} {m:PySem.Str→Option PySem.Value},(∀ x ∈ binds,kindOf x.1 = some .local)→bindL kindOf binds m y = match binds.reverse.lookup y with
    | some v=>some v
    | none=>m y
  | [],m,_=>rfl
  | (n,v) :: r,m,h=>by
    unfold bindL
    rw [if_pos (h _ (.head _)),bindL_all fun x hx=>h x (.tail _ hx),List.reverse_cons,List.lookup_append]
    cases q:r.reverse.lookup y with
    | some w=>rfl
    | none =>
      show _ = match [(n,v)].lookup y with
        | some v=>some v
        | none=>m y
      rw [List.lookup_cons]
      by_cases e:y = n
      · subst e;simp
      · have:(y == n) = false:=by simpa using e
        simp [this,e]
theorem bindC_all {kindOf:PySem.Str→Option NameKind}:∀ {binds:List (PySem.Str × PySem.Value)} {m:PySem.Str→Option PySem.Value},(∀ x ∈ binds,kindOf x.1 = some .local)→bindC kindOf binds m = m
  | [],m,_=>rfl
  | (n,v) :: r,m,h=>by
    unfold bindC
    rw [if_pos (h _ (.head _)),bindC_all fun x hx=>h x (.tail _ hx)]
noncomputable abbrev envC (qual : PySem.Str) (scope : Scope) (f : Addr) (cdv : PySem.Value) (c1 c2 : PySem.Str) (L : Addr) : Env := { scope := scope, locals := L, globals := mainGlobals, cells := [(c2, L + 2), (c1, L + 1)], qual := qual ++ ".<locals>.", func := some f, code := cdv, frame := some L, builtins := builtinsNs }
noncomputable def cX (qual:PySem.Str) (scope:Scope) (f:Addr) (cdv:PySem.Value) (lvl n:Nat) (c1 c2:PySem.Str) (W:Wd) (Z:Zs):Cx :=
  ⟨W,Z.A,qual,scope,f,cdv,Z.g,Z.L,Z.gn,Z.dr,Z.os,fun _ _=>False,lvl,n + 2,Z.r0,[(c2,n + 1),(c1,n)],none⟩
theorem enterC {W:Wd} {lvl:Nat} {f:Addr} {name qual:PySem.Str} {params:Arguments} {body:List Stmt} {scope:Scope} {dV kV doc pm cdv ct oc:PySem.Value} {an od:Option Addr} {osl:Array (Option PySem.Value)}
    {args:List SV} {objs:List SObj} {P:SV→List SObj→Prop} (names:List PySem.Str) (c1 c2:PySem.Str) (hW:W.Holds)
    (ho:W.K.lookup f = some ⟨oc,od,.func (fnOf name qual params body scope dV kV doc pm an cdv ct),osl⟩) (hcd:codeIn W.K cdv qual = true)
    (hbind:fnN names.length fun vs=>bindArgs (fnOf name qual params body scope dV kV doc pm an cdv ct) ⟨vs,[]⟩ = pure (names.zip vs))
    (hlen:args.length = names.length) (hloc:(names.all fun y=>kindS y scope.names == some .local) = true) (hcells:∀ L,cellsFrom (L + 1) scope.names [] = [(c2,L + 2),(c1,L + 1)]) (hne:c1 ≠ c2)
    (hco:scope.isCoroutine = false) (hgen:scope.isGenerator = false) (hk:scope.kind = .function)
    {A:Around} {g:Heap} {u:Out} {ρ:Nat→Addr} {s:Shared} {vs:List PySem.Value} (hr:Room A (lvl + 1)) (hK:W.K.In g) (hT:TopRead W.p W.loose W.mg W.mb g) (R:HRep g u ρ objs s) (r:All2 (VRep ρ objs.length) args vs)
    (h:∀ (L:Addr) (r0:Nat→Addr),r0 objs.length = L + 1→r0 (objs.length + 1) = L + 2→(cX qual scope f cdv lvl objs.length c1 c2 W ⟨A.deeper (envC qual scope f cdv c1 c2 L),g,L,u.gn,u.dr,u.os,r0⟩).Ok →
      Ss (cX qual scope f cdv lvl objs.length c1 c2 W ⟨A.deeper (envC qual scope f cdv c1 c2 L),g,L,u.gn,u.dr,u.os,r0⟩) body ⟨(names.zip args).reverse,objs++[.cell none,.cell none]⟩ (FinM objs.length [] P)) :
    codeR (model W.prog W.w) A (.call (.ref f) ⟨vs,[]⟩) (RetB g u ρ objs [] P) s:=by
  obtain ⟨⟨chs,a,b,c,d,e⟩,w1,w2,w3⟩:=R
  have KS:W.K.In s.heap:=hK.keeps a
  have hloc:∀ y ∈ names,scope.names.lookup y = some .local:=fun y hy=>by rw [← kindS_eq];exact beq_iff_eq.mp (List.all_eq_true.mp hloc y hy)
  have hlz:∀ x ∈ names.zip vs,scope.names.lookup x.1 = some .local:=fun x hx=>hloc _ (List.of_mem_zip hx).1
  have hroom:A.depth < recursionLimit:=by have:=hr.hd;show A.depth < 1000;lia
  refine codeR_of_tree rfl ?_
  show wpR _ A.in1 (callAny (.ref f) ⟨vs,[]⟩) _ _ s
  delta callAny;dsimp only
  refine wpR_step (wpAny_load (KS _ _ ho) ?_)
  obtain ⟨cc,occ,vcs,tq,hc,hoc,hdc,hq⟩:=codeRec_of KS hcd
  delta callFunction;simp only [hco,hgen,fnOf,hc]
  refine wpR_step (m:=field (.ref cc) 1) (wpAny_field hoc hdc hq (wpR_step (wpAny_pure ?_)))
  refine wpR_step ((BindsTo.of_eq (fnN_at hbind (by rw [← r.length,hlen]))) _ _ _ _ ?_)
  refine wpR_step ?_
  rw [← hc]
  refine wpAny_newFunctionEnv_cells hk (fun x hx=>.inl (hlz x hx)) fun env' he s₁ x=>?_
  subst he
  rw [hcells]
  rw [hcells] at x
  have hkx:∀ x ∈ names.zip vs,Env.kindOf (envC qual scope f cdv c1 c2 s.heap.objs.size) x.1 = some .local:=hlz
  obtain ⟨⟨⟨h₁,tk,rfl⟩,hns,hkeep,hfresh⟩,hcell,hap,habove⟩:=x
  refine wpR_step (wpAny_enterFrame ((hT.nolimit.keeps a).keeps hkeep) hroom (wpR_pure (And.intro rfl (r_func ?_))))
  have hne':(c1 == c2) = false:=beq_eq_false_iff_ne.mpr hne
  obtain ⟨o1,ho1,hd1⟩:=hcell c1 (s.heap.objs.size + 1) (by show ([(c2,s.heap.objs.size + 2),(c1,s.heap.objs.size + 1)]:List (PySem.Str × Addr)).lookup c1 = _;simp [List.lookup_cons,hne'])
  obtain ⟨o2,ho2,hd2⟩:=hcell c2 (s.heap.objs.size + 2) (by show ([(c2,s.heap.objs.size + 2),(c1,s.heap.objs.size + 1)]:List (PySem.Str × Addr)).lookup c2 = _;simp [List.lookup_cons])
  replace hd1:o1.data = .cell none:=hd1.trans (congrArg (fun f:PySem.Str→Option PySem.Value=>Data.cell (f c1)) (bindC_all (by exact hlz)))
  replace hd2:o2.data = .cell none:=hd2.trans (congrArg (fun f:PySem.Str→Option PySem.Value=>Data.cell (f c2)) (bindC_all (by exact hlz)))
  obtain ⟨ρ1,a1,b1,OR1⟩:=e.add (a:=s.heap.objs.size + 1) (o:=.cell none) (c:=[(s.heap.objs.size + 1,o1)]) (fun _ _ _=>⟨o1,rfl,hd1⟩)
  have hl1:(objs++[SObj.cell none]).length = objs.length + 1:=by simp
  obtain ⟨ρ2,a2,b2,OR2⟩:=OR1.add (a:=s.heap.objs.size + 2) (o:=.cell none) (c:=[(s.heap.objs.size + 2,o2)]) (fun _ _ _=>⟨o2,rfl,hd2⟩)
  rw [hl1] at a2 b2
  rw [List.append_assoc,List.append_assoc] at OR2
  have hlt:∀ (i:Nat) (q:List (Addr × Obj)),chs[i]? = some q→∀ p ∈ q,p.1 < s.heap.objs.size:=fun i q hq p hp=>Heap.lt_size (c i q hq p hp).1
  have d2:NDx (chs++[[(s.heap.objs.size + 1,o1)]]++[[(s.heap.objs.size + 2,o2)]]):=by
    refine NDx.snoc (NDx.snoc d (by simp) fun i q hq p hp p' hp' w=>?_) (by simp) fun i q hq p hp p' hp' w=>?_
    · rw [List.mem_singleton.mp hp'] at w
      exact absurd (hlt i q hq p hp) (by rw [w];show ¬ (s.heap.objs.size + 1 < s.heap.objs.size);lia)
    · rw [List.mem_singleton.mp hp'] at w
      rcases snoc_at hq with hq | ⟨_,rfl⟩
      · exact absurd (hlt i q hq p hp) (by rw [w];show ¬ (s.heap.objs.size + 2 < s.heap.objs.size);lia)
      · rw [List.mem_singleton.mp hp] at w
        exact absurd w (by show s.heap.objs.size + 1 ≠ s.heap.objs.size + 2;lia)
  rw [List.append_assoc] at d2
  have gnone:∀ x,s.heap.objs.size ≤ x→g.get? x = none:=fun x hx=>by
    cases q:g.get? x with
    | none=>rfl
    | some o=>exact absurd (Heap.lt_size (a _ _ q)) (Nat.not_lt.mpr hx)
  have e1:ρ2 objs.length = s.heap.objs.size + 1:=(a2 _ (Nat.lt_succ_self _)).trans b1
  have O:(cX qual scope f cdv lvl objs.length c1 c2 W ⟨A.deeper (envC qual scope f cdv c1 c2 s.heap.objs.size),g,s.heap.objs.size,u.gn,u.dr,u.os,ρ2⟩).Ok:=⟨hW,hk,hK,hT,hr.down,fun q hq=>by
    rcases List.mem_cons.mp hq with rfl | hq
    · exact Nat.lt_succ_self _
    · rcases List.mem_singleton.mp hq with rfl
      exact Nat.lt_succ_of_lt (Nat.lt_succ_self _)⟩
  have R0:SRep (cX qual scope f cdv lvl objs.length c1 c2 W ⟨A.deeper (envC qual scope f cdv c1 c2 s.heap.objs.size),g,s.heap.objs.size,u.gn,u.dr,u.os,ρ2⟩)
      ρ2 ⟨(names.zip args).reverse,objs++[.cell none,.cell none]⟩ { s with heap:=h₁,toks:=tk }:=by
    refine ⟨⟨_,_,⟨hns,fun b o q=>hkeep b o (a b o q),b⟩,fun p hp=>?_,nd_iff.mpr d2,fun y sv q=>?_,OR2⟩,w1,w2,w3,fun _ _=>rfl,by show objs.length + 2 ≤ (objs++[_,_]).length;simp⟩
    · rw [List.flatten_append] at hp
      rcases List.mem_append.mp hp with hp | hp
      · obtain ⟨q,hq,hpq⟩:=List.mem_flatten.mp hp
        obtain ⟨i,hi⟩:=List.mem_iff_getElem?.mp hq
        obtain ⟨z1,z2⟩:=c i q hi p hpq
        exact ⟨hkeep _ _ z1,Nat.ne_of_lt (Heap.lt_size z1),z2⟩
      · rcases List.mem_cons.mp hp with rfl | hp
        · exact ⟨ho1,Nat.succ_ne_self _,gnone _ (Nat.le_succ _)⟩
        · rcases List.mem_singleton.mp hp with rfl
          exact ⟨ho2,(by show s.heap.objs.size + 2 ≠ s.heap.objs.size;lia),gnone _ (Nat.le_add_right _ 2)⟩
    · obtain ⟨v,q1,q2⟩:=getS_lookup (all2_rev (all2_zip r)) q
      refine ⟨v,?_,q2.ext (fun i hi=>(a2 i (Nat.lt_succ_of_lt hi)).trans (a1 i hi)) (by show _ ≤ (objs++[_,_]).length;simp)⟩
      exact (bindL_all (by exact hlz)).trans (by rw [q1])
  have henv:(cX qual scope f cdv lvl objs.length c1 c2 W ⟨A.deeper (envC qual scope f cdv c1 c2 s.heap.objs.size),g,s.heap.objs.size,u.gn,u.dr,u.os,ρ2⟩).env = envC qual scope f cdv c1 c2 s.heap.objs.size:=by
    show ({ scope := scope, locals := s.heap.objs.size, globals := mainGlobals, cells := [(c2, ρ2 (objs.length + 1)), (c1, ρ2 objs.length)], qual := qual ++ ".<locals>.", func := some f, code := cdv, frame := some s.heap.objs.size, builtins := builtinsNs } : Env) = _
    rw [e1,b2]
  have hh:=h _ ρ2 e1 b2 O ρ2 _ R0
  rw [henv] at hh
  exact wpR_mono hh (fun fl s' q=>fin_back q fun r hr i hi _=>by
    rw [hr i (by show i < objs.length + 2;lia)]
    exact (a2 i (Nat.lt_succ_of_lt hi)).trans (a1 i hi)) fun _ _ x=>x.elim
end Mine
end
section
open PySem PySem.W PyProof.Rows PySem.F
namespace Mine
structure Conv (st st':St):Prop where
  loc:st'.loc = st.loc
  len:st'.objs.length = st.objs.length
  at_:∀ (j:Nat) (o o':SObj),st.objs[j]? = some o→st'.objs[j]? = some o'→∀ (ρ:Nat→Addr) (a:Addr) (ch:List (Addr × Obj)),ORep ρ st.objs.length a o ch→ORep ρ st.objs.length a o' ch
theorem SRep.conv {X:Cx} {ρ:Nat→Addr} {st st':St} {s:Shared} (c:Conv st st') (R:SRep X ρ st s):SRep X ρ st' s:=by
  obtain ⟨⟨m,chs,F,N,nd,LR,OR⟩,g1,g2,g3,pn⟩:=R
  refine ⟨⟨m,chs,F,N,nd,by rw [c.loc,c.len];exact LR,⟨by rw [OR.len,c.len],fun i o' ho'=>?_⟩⟩,g1,g2,g3,by rw [c.len];exact pn⟩
  obtain ⟨o,ho⟩:=some_of_lt (l:=st.objs) (i:=i) (by rw [← c.len];exact lt_of_some ho')
  obtain ⟨ch,hc,r⟩:=OR.at_ i o ho
  exact ⟨ch,hc,by rw [c.len];exact c.at_ i o o' ho ho' ρ _ ch r⟩
theorem OpJ.conv {X:Cx} {t:List PySem.Value→Sem PySem.Value} {svs:List SV} {st st':St} {k:SV→St→Prop} (c:Conv st st') (h:OpJ X t svs st' k):OpJ X t svs st k :=
  ⟨fun ρ s vs R r=>by have:=h.go ρ s vs (R.conv c) (by rw [c.len];exact r);rw [c.len] at this;exact this⟩
theorem Ss_conv {X:Cx} {l:List Stmt} {st st':St} {k:Fl→St→Prop} (c:Conv st st') (h:Ss X l st' k):Ss X l st k:=fun ρ s R=>h ρ s (R.conv c)
theorem tup_pt {ρ:Nat→Addr} {n:Nat} {a:Addr} {ps:List PV} {ch:List (Addr × Obj)} (h:ORep ρ n a (.tup (ps.map PV.sv)) ch):ORep ρ n a (.pt (some ps)) ch:=h
theorem gone_pt {ρ:Nat→Addr} {n:Nat} {a:Addr} {ch:List (Addr × Obj)} (h:ORep ρ n a .gone ch):ORep ρ n a (.pt none) ch:=h
theorem list_tl {ρ:Nat→Addr} {n:Nat} {a:Addr} {m i j l:Nat} {ch:List (Addr × Obj)} (hi:i < n) (hj:j < n) (hl:l < n) (h:ORep ρ n a (.list (([.ref i,.ref j,.ref l]:List SV).take m)) ch):ORep ρ n a (.tl m i j l) ch:=by
  obtain ⟨vs,k,rfl,r⟩:=h
  refine ⟨hi,hj,hl,k,?_⟩
  have key:∀ (xs:List SV) (ws vs:List PySem.Value) (m:Nat),All2 (fun x w=>VRep ρ n x w∧∀ w',VRep ρ n x w'→w' = w) xs ws→All2 (VRep ρ n) (xs.take m) vs→vs = ws.take m:=fun xs=>by
    induction xs with
    | nil=>intro ws vs m h h';cases h;rw [List.take_nil] at h' ⊢;cases h';rfl
    | cons x r ih =>
      intro ws vs m h h'
      cases h with
      | cons h1 h2 =>
        cases m with
        | zero=>cases h';rfl
        | succ m =>
          cases h' with
          | cons p q=>rw [List.take_succ_cons,ih _ _ m h2 q,h1.2 _ p]
  have one:∀ i,i < n→VRep ρ n (.ref i) (.ref (ρ i))∧∀ w',VRep ρ n (.ref i) w'→w' = .ref (ρ i):=fun i hi=>⟨⟨hi,rfl⟩,fun w' h=>h.2⟩
  rw [key _ _ _ m (.cons (one i hi) (.cons (one j hj) (.cons (one l hl) .nil))) r]
noncomputable def isTp (st:St) (h:Nat) (xs:List SV):Prop:=st.objs[h]? = some (.tup xs) ∨ ∃ ps,st.objs[h]? = some (.pt (some ps))∧xs = ps.map PV.sv
section
variable {X:Cx} {ρ:Nat→Addr} {st:St} {s:Shared} {k:SV→St→Prop}
theorem isTp_at (R : SRep X ρ st s) {i : Nat} {xs : List SV} (ho : isTp st i xs) : ∃ vs k, s.heap.get? (ρ i) = some ({ cls := .type "tuple", data := .seq vs.toArray k } : Obj) ∧ All2 (VRep ρ st.objs.length) xs vs := by
  rcases ho with ho | ⟨ps,ho,rfl⟩
  · exact tup_at R ho
  · obtain ⟨⟨m,chs,F,N,nd,LR,OR⟩,g1,g2,g3,pn⟩:=R
    obtain ⟨c,hcc,vs,k,rfl,r⟩:=OR.at_ i _ ho
    exact ⟨vs,k,(N _ (mem_at hcc (.head _))).1,r⟩
theorem j_lenLs {i:Nat} {xs:List SV} (ho:isLs st i xs) (hz:xs.length ≤ 1000000) (h:k (.int xs.length) st):OpJ X (fun vs=>call BI.len.val vs) [.ref i] st k:=by
  constructor
  intro ρ s vs R r
  obtain ⟨v,rfl,hi,rfl⟩:=all2_one r
  obtain ⟨ws,hg,ra⟩:=isLs_at R ho
  have hl:=ra.length
  exact wpR.of (Calls.call_len_list hg (by simp;lia) (one_int (R.tok _) (by simp only [List.size_toArray];rw [← hl];exact h)))
theorem j_itemLs {v sl:Expr} {i:Nat} {n:Int} {xs:List SV} {x:SV} (ho:isLs st i xs) (h0:0 ≤ n) (hx:xs[n.toNat]? = some x) (hz:xs.length ≤ 1000000) (h:k x st)
    (hs:∀ o i:PySem.Value,subscripted sl false o i = operate [o,i] (getItem o i):=by intro _ _;rfl):OpJ X (fun vs=>subscriptTail v sl (vs.getD 0 .none) (vs.getD 1 .none)) [.ref i,.int n] st k:=by
  constructor
  intro ρ s vs R r
  obtain ⟨a,c,rfl,⟨hi,rfl⟩,t',rfl⟩:=all2_two' r
  obtain ⟨ws,hl,ra⟩:=isLs_at R ho
  obtain ⟨w,hw,rw'⟩:=ra.get hx
  have hlt:=lt_of_some hx
  exact wpR.of (PyProof.Rows.tail_any hl.typeIs F.slot_list_getitem.lookup (wpAny_getItem_list hl h0 (by lia) (by simpa using hw) (.one R rw' h)) (hs _ _))
theorem j_itemTp {v sl:Expr} {i:Nat} {n:Int} {xs:List SV} {x:SV} (ho:isTp st i xs) (h0:0 ≤ n) (hx:xs[n.toNat]? = some x) (hz:xs.length ≤ 1000000) (h:k x st)
    (hs:∀ o i:PySem.Value,subscripted sl false o i = operate [o,i] (getItem o i):=by intro _ _;rfl):OpJ X (fun vs=>subscriptTail v sl (vs.getD 0 .none) (vs.getD 1 .none)) [.ref i,.int n] st k:=by
  constructor
  intro ρ s vs R r
  obtain ⟨a,c,rfl,⟨hi,rfl⟩,t',rfl⟩:=all2_two' r
  obtain ⟨ws,m,hg,ra⟩:=isTp_at R ho
  obtain ⟨w,hw,rw'⟩:=ra.get hx
  have hlt:=lt_of_some hx
  have hl:=ra.length
  have ht:IsTup s.heap (ρ i) ws.toArray:=⟨_,hg,rfl,_,rfl⟩
  have hj:seqIndex? n ws.toArray.size = some n.toNat:=by
    have hn:¬ n < 0:=by lia
    simp [seqIndex?,hn,h0];lia
  exact wpR.of (PyProof.Rows.tail_any ht.typeIs F.slot_tuple_getitem.lookup (getItem_tuple ht (by lia) (by lia) hj (by simpa using hw) (.one R rw' h)) (hs _ _))
theorem AsJ_pair (O:X.Ok) {a b:PySem.Str} {pa pb tp:Pos} {kc:Nat} {j:Nat} {va vb:SV} {k:St→Prop} (ho:isTp st j [va,vb]) (h:storeK X a va st fun st1=>storeK X b vb st1 k):AsJ X (.Tuple [.Name a pa,.Name b pb] kc tp) (.ref j) st k:=by
  refine ⟨fun ρ s vv R rv=>?_,rfl⟩
  obtain ⟨hj,rfl⟩:=rv
  obtain ⟨ws,n,hg,ra⟩:=isTp_at R ho
  obtain ⟨wa,wb,rfl,r1,r2⟩:=all2_two' ra
  have ht:IsTup s.heap (ρ j) [wa,wb].toArray:=⟨_,hg,rfl,n,rfl⟩
  rw [assign_Tuple]
  refine stand ?_
  unfold unpack
  refine wpR_bind (wpR_holding (.of (unpackItems_tuple (items:=[wa,wb].toArray) O.room.hh ht fun h' hk=>?_)))
  have R':SRep X ρ st { s with heap:=h' }:=R.grown fun b o e=>hk b o (Nat.ne_of_lt (Heap.lt_size e)) e
  refine wpR_eq (t':=assignInOrder [assign (.Name a pa) X.env,assign (.Name b pb) X.env] [wa,wb]) rfl ?_
  rw [assignInOrder2]
  refine wpR_bind (wpR_holding (wpR_mono (assignName_ok O (storeK_with h) R' r1) (fun _ s1 ⟨st1,R1,h1,e1⟩=>?_) fun _ _ x=>x))
  exact wpR_bind (wpR_holding (wpR_mono (assignName_ok O h1 R1 (by rw [e1];exact r2)) (fun _ s2 q=>wpR_pure q) fun _ _ x=>x))
end
theorem Ss_cons' {X:Cx} {t:Stmt} {r:List Stmt} {st:St} {k:Fl→St→Prop} (h:ExJ X t st (nextK (fun st'=>Ss X r st' k) k)):Ss X (t :: r) st k:=fun ρ s R =>
  r_execs_cons (wpR_mono (h.go ρ s R) (fun f s1 q=>by
    obtain ⟨ρ1,fl,st1,R1,r1,q⟩:=q
    cases fl with
    | next=>cases r1;exact q ρ1 s1 R1
    | brk=>cases r1;exact ⟨ρ1,.brk,st1,R1,rfl,q⟩
    | cont=>cases r1;exact ⟨ρ1,.cont,st1,R1,rfl,q⟩
    | ret v=>obtain ⟨w,rfl,rw'⟩:=r1;exact ⟨ρ1,.ret v,st1,R1,⟨w,rfl,rw'⟩,q⟩) fun _ _ x=>x)
end Mine
end
section
namespace Mine
theorem kap_eq {ι:List Nat} {N i:Nat} (h:i < ι.length):kap ι N i = kap ι 0 i:=by
  have a:=kap_lt (n:=N) h
  have b:=kap_lt (n:=0) h
  rw [a] at b
  exact Option.some.inj b
theorem map_kap {ι:List Nat} {N:Nat} {l:List SObj} (hc:l.all (SObj.clo ι.length) = true):(l.map fun o=>some (o.ren (kap ι N))) = l.map fun o=>some (o.ren (kap ι 0)) :=
  List.map_congr_left fun o ho=>by rw [SObj.ren_congr (fun i hi=>kap_eq hi) (List.all_eq_true.mp hc o ho)]
theorem selL_kap {ι:List Nat} {N:Nat} {L l:List SObj} (hl:l.length = ι.length) (h:pickL (kap ι 0) L 0 l = l.map fun o=>some (o.ren (kap ι 0))) (hc:l.all (SObj.clo ι.length) = true):selL (kap ι N) L l.length 0 l:=by
  refine ⟨?_,by rw [hl];exact hc⟩
  rw [map_kap hc,← h]
  have key:∀ (m:List SObj) (j:Nat),j + m.length ≤ ι.length→pickL (kap ι N) L j m = pickL (kap ι 0) L j m:=fun m=>by
    induction m with
    | nil=>intros;rfl
    | cons o r ih =>
      intro j hj
      rw [List.length_cons] at hj
      show _ :: _ = _ :: _
      rw [ih (j + 1) (by lia),kap_eq (by lia)]
  exact key l 0 (by lia)
theorem lift_kap {ι:List Nat} {L l:List SObj} (hl:l.length = ι.length) (hc:l.all (SObj.clo ι.length) = true):lift ι L l = liftA (kap ι 0) ι l 0 L:=by
  unfold lift
  rw [← hl,List.drop_length]
  show _++[] = _
  rw [List.append_nil]
  have key:∀ (m:List SObj) (i:Nat),liftA (kap ι L.length) ι l i m = liftA (kap ι 0) ι l i m:=fun m=>by
    induction m with
    | nil=>intros;rfl
    | cons o r ih =>
      intro i
      unfold liftA
      rw [ih]
      congr 1
      cases hp:posN i ι 0 with
      | none=>rfl
      | some j =>
        show (l.getD j .gone).ren _ = (l.getD j .gone).ren _
        rw [List.getD_eq_getElem?_getD]
        cases ho:l[j]? with
        | none=>rfl
        | some o=>exact SObj.ren_congr (fun i hi=>kap_eq hi) (all_at hc ho)
  exact key L 0
structure OpM (X:Cx) (t:List PySem.Value→Sem PySem.Value) (svs:List SV) (st:St) (k:SV→St→Prop):Prop where
  go:∀ ρ s vs,SRep X ρ st s→All2 (VRep ρ st.objs.length) svs vs→wpR X.M X.A (t vs) (fun v s'=>∃ ρ' sv st',SRep X ρ' st' s'∧VRep ρ' st'.objs.length sv v∧k sv st') X.E s
theorem call_ofV {X:Cx} {lvl:Nat} {t:List PySem.Value→Sem PySem.Value} {args args2:List SV} {st:St} {objs2:List SObj} {mv:List Nat} {P:SV→List SObj→Prop} {k:SV→St→Prop} (ι:List Nat) (F:FnRM X.W lvl t args2 objs2 mv P) (O:X.Ok) (hle:Nat.ble lvl X.lvl = true)
    (hl:objs2.length = ι.length) (hnd:nodupN ι = true) (hsel:selG (kap ι st.objs.length) st.objs objs2.length 0 objs2) (ha:args = args2.map (SV.ren (kap ι st.objs.length))) (hc:args2.all (SV.clo objs2.length) = true)
    (hin:indep (mv.map (kap ι st.objs.length)) ι X.n0 st = true) (h:∀ res objs3,P res objs3→k (res.ren (kap ι st.objs.length)) ⟨st.loc,lift ι st.objs objs3⟩):OpM X t args st k:=by
  subst ha
  constructor
  intro ρ s vs R r
  exact wpR_mono (call_run ι F O hle hl hnd hsel hc hin R r) (fun v s' q=>by obtain ⟨ρ3,res,objs3,e3,l3,R3,b3,p⟩:=q;exact ⟨ρ3,_,_,R3,b3,h _ _ p⟩) fun _ _ x=>x
noncomputable def callMv (X:Cx) (f:SV) (vs:List SV) (st:St) (k:SV→St→Prop):Prop:=match f with
  | .fn a=>OpM X (fun vs=>call (.ref a) vs) vs st k
  | _=>False
theorem j_asMeth {X:Cx} (O:X.Ok) {st:St} {x name:PySem.Str} {p apos pos q:Pos} {o:Expr} {k:Fl→St→Prop} (hb:okBase o = true) (hp:Nat.beq apos.endLine pos.line = true)
    (h:wpE X 40 o st fun ov st1=>methK X ov name st1 fun f=>callMv X f [ov] st1 fun v st2=>storeK X x v st2 fun st3=>k .next st3):ExJ X (.Assign [.Name x p] (.Call (.Attribute o name apos) [] [] pos) q) st k:=by
  constructor
  intro ρ s R
  refine r_AsName ?_ (swaps_of rfl)
  rw [arm_eval_Call,base_of hb]
  refine wpR_bind (bindV (α:=Unit) ((wpE_ok O _ _ _ _ h).go ρ s R) fun ρ1 sv st1 v s1 x1 l1 R1 r1 k1=>?_)
  refine stand ?_
  unfold methodCall
  rw [form_of (args:=[]) rfl]
  refine wpR_bind (wpR_holding (.of (meth_ok O k1 R1 r1 fun f vf kf rf hk=>?_)))
  refine wpR_bind (wpR_of_eq (cpos_of hp) ?_)
  refine r_callWith (P:=X.W.K.In) rfl (keepF_ok hk rf) ?_
  refine wpR.of (evalArgs_nil3 ⟨K_now O R1,?_⟩)
  cases f <;> first | exact kf.elim | skip
  cases rf
  refine wpR_mono (kf.go ρ1 s1 [v] R1 (.cons r1 .nil)) (fun w s2 ⟨ρ2,sw,st2,R2,r2,k2⟩=>?_) fun _ _ x=>x
  exact wpR_mono (storeK_ok O k2 R2 r2) (fun _ s3 ⟨st3,R3,k3⟩=>⟨ρ2,.next,st3,R3,rfl,k3⟩) fun _ _ x=>x
end Mine
end
section
namespace Mine
noncomputable def users:List (List UInt8):=[[],[97],[97,98],[97,98,99],[98],[255]]
noncomputable def limits:List Int:=[1,24,34,48,64]
noncomputable def draw (l:List Int) (i:Nat):Int:=l.getD (i % l.length) 0 + 31 * ((i / l.length:Nat):Int)
noncomputable def lawEnd (t:List UInt8):Int:=if octet (cut t (some ((t.length:Int) - 48)) none) 0 < 128 then octet (cut t (some ((t.length:Int) - 48)) none) 0 else octet (cut t (some ((t.length:Int) - 48)) none) 0 - 128 + 128 * octet (cut t (some ((t.length:Int) - 48)) none) 1
section
variable {V:Vs}
theorem f_users:FnC (WK V) 1 665 [] [] (Det (.ref 0) [.pl (bpl users)]):=by
  refine enter [] (WK_holds ..) (lk__law_users _) (cd__law_users _) rfl rfl (by decide +kernel) (by decide +kernel) rfl rfl rfl (fun Z O=>body_ok O (n:=40) ?_)
  exact fin_det [0] rfl rfl rfl ⟨rfl,rfl⟩ rfl rfl
theorem f_limits:FnC (WK V) 1 672 [] [] (Det (.ref 0) [.pl (ipl limits)]):=by
  refine enter [] (WK_holds ..) (lk__law_limits _) (cd__law_limits _) rfl rfl (by decide +kernel) (by decide +kernel) rfl rfl rfl (fun Z O=>body_ok O (n:=40) ?_)
  exact fin_det [0] rfl rfl rfl ⟨rfl,rfl⟩ rfl rfl
theorem f_draw (l:List Int) (i:Nat) (h0:0 < l.length) (h1:l.length ≤ 6) (hi:i ≤ 100):FnC (WK V) 1 679 [.ref 0,.int i] [.pl (ipl l)] (Det (.int (draw l i)) [.pl (ipl l)]):=by
  refine enter [x_nums,x_i] (WK_holds ..) (lk__law_draw _) (cd__law_draw _) (fun _ _=>rfl) rfl (by decide +kernel) (by decide +kernel) rfl rfl rfl (fun Z O=>body_ok O (n:=40) ?_)
  have hl:(ipl l).length = l.length:=by simp [ipl]
  have hm:(i:Int).fmod (ipl l).length = ((i % l.length:Nat):Int):=by rw [hl,Int.fmod_eq_emod_of_nonneg _ (Int.natCast_nonneg _)];rfl
  have hd:(i:Int).fdiv (ipl l).length = ((i / l.length:Nat):Int):=by rw [hl,Int.fdiv_eq_ediv_of_nonneg _ (Int.natCast_nonneg _)];rfl
  have hlt:i % l.length < l.length:=Nat.mod_lt _ h0
  have hle:i / l.length ≤ 100:=Nat.le_trans (Nat.div_le_self _ _) hi
  refine j_lenP rfl (by omega) ?_
  refine ⟨by omega,?_⟩
  rw [hm]
  refine j_itemP (x:=.int l[i % l.length]) rfl (by omega) (by rw [Int.toNat_natCast];simp [ipl,hlt]) (by omega) ?_
  refine j_lenP rfl (by omega) ?_
  refine ⟨by omega,PyProof.noPylong_small (by omega),?_⟩
  rw [hd]
  refine ⟨IntMulOk.of_left (by decide),?_⟩
  refine fin_det [0] rfl rfl rfl ⟨rfl,rfl⟩ ?_ rfl
  show SV.int _ = SV.int _
  rw [draw]
  simp [hlt]
theorem f_options (setup bits:Int) (h0:0 ≤ setup) (h1:setup ≤ 100000000) (hb:0 ≤ bits):FnC (WK V) 3 686 [.int setup,.int bits] [] (Det (.ref 0) [optO 1 2 (limits.getD (setup % 5).toNat 0) (1 + setup / 5 % 3) bits (4 + setup / 60 % 3),hgtO]):=by
  refine enter [x_setup,x_bits] (WK_holds ..) (lk__law_options _) (cd__law_options _) (fun _ _=>rfl) rfl (by decide +kernel) (by decide +kernel) rfl rfl rfl (fun Z O=>body_ok O (n:=40) ?_)
  have e1:setup.fmod 5 = setup % 5:=Int.fmod_eq_emod_of_nonneg _ (by decide)
  have e2:(setup.fdiv 5).fmod 3 = setup / 5 % 3:=by rw [Int.fdiv_eq_ediv_of_nonneg _ (by decide),Int.fmod_eq_emod_of_nonneg _ (by decide)]
  have e3:(setup.fdiv 60).fmod 3 = setup / 60 % 3:=by rw [Int.fdiv_eq_ediv_of_nonneg _ (by decide),Int.fmod_eq_emod_of_nonneg _ (by decide)]
  have hlt:(setup % 5).toNat < limits.length:=(Int.toNat_lt (Int.emod_nonneg _ (by decide))).mpr (Int.emod_lt_of_pos setup (by decide))
  refine call_of (args2:=[]) [] mk_Options.toR O rfl rfl rfl ⟨rfl,rfl⟩ rfl rfl ?_
  refine call_of (args2:=[]) [] f_limits.toR O rfl rfl rfl ⟨rfl,rfl⟩ rfl rfl ?_
  refine ⟨by decide,?_⟩
  rw [e1]
  refine j_itemP (x:=.int limits[(setup % 5).toNat]) rfl (Int.emod_nonneg _ (by decide)) (by simp [ipl,hlt]) (by decide) ?_
  refine ⟨by decide,PyProof.noPylong_small (by decide),by decide,?_⟩
  refine ⟨by decide,PyProof.noPylong_small (by decide),by decide,?_⟩
  rw [e2,e3]
  have e4:limits.getD (setup % 5).toNat 0 = limits[(setup % 5).toNat]:=by simp [hlt]
  rw [e4]
  exact fin_det [0,1] rfl rfl rfl ⟨rfl,rfl⟩ rfl rfl
theorem f_law_end (t:List UInt8) (h0:48 ≤ t.length) (h1:t.length ≤ 1000000):FnC (WK V) 1 712 [.bytes t] [] (Det (.int (lawEnd t)) []):=by
  refine enter [x_table] (WK_holds ..) (lk__law_end _) (cd__law_end _) (fun _=>rfl) rfl (by decide +kernel) (by decide +kernel) rfl rfl rfl (fun Z O=>body_ok O (n:=40) ?_)
  refine j_slice O ?_
  refine j_lenB (by omega) ?_
  refine ⟨by omega,?_⟩
  have hl:(cut t (some ((t.length:Int) - 48)) none).length = 48:=by
    rw [show (t.length:Int) - 48 = ((t.length - 48:Nat):Int) from (Int.ofNat_sub h0).symm,cut_drop _ _ (Nat.sub_le _ _),List.length_drop,Nat.sub_sub_self h0]
  refine j_itemB (by omega) (by omega) (by omega) ?_
  by_cases c:octet (cut t (some ((t.length:Int) - 48)) none) 0 < 128
  · refine br_t (decide_eq_true c) ?_
    refine j_itemB (by omega) (by omega) (by omega) ?_
    refine fin_det [] rfl rfl rfl ⟨rfl,rfl⟩ ?_ rfl
    show SV.int _ = SV.int _
    rw [lawEnd,if_pos c]
  · refine br_f (decide_eq_false c) ?_
    refine j_itemB (by omega) (by omega) (by omega) ?_
    refine j_itemB (by omega) (by omega) (by omega) ?_
    refine ⟨IntMulOk.of_left (by decide),?_⟩
    refine fin_det [] rfl rfl rfl ⟨rfl,rfl⟩ ?_ rfl
    show SV.int _ = SV.int _
    rw [lawEnd,if_neg c]
end
end Mine
end
section
namespace Mine
theorem kap_app {ι r:List Nat} {N i:Nat} (h:i < ι.length):kap (ι++r) N i = kap ι 0 i:=by
  have a:=kap_lt (n:=N) (ι:=ι++r) (i:=i) (by rw [List.length_append];lia)
  have b:=kap_lt (n:=0) h
  rw [List.getElem?_append_left h,b] at a
  exact (Option.some.inj a).symm
abbrev Row:=List UInt8 × List UInt8
noncomputable def rowP (r:Row):List PV:=[.bytes r.1,.bytes r.2]
@[reducible] noncomputable def preL (T:Tab) (n:Nat) (q0 q1 q2:Option Row) (d:Obj→Prop):List SObj:=[optO 1 2 T.bs T.ri T.bits T.lg,hgtO,.tl n 3 4 5,.pt (q0.map rowP),.pt (q1.map rowP),.pt (q2.map rowP),.raw d]
@[reducible] noncomputable def ι7:List Nat:=[0,1,7,8,9,10,11,12,13,14,15,16,17,18,19,20,21,22]
@[reducible] noncomputable def ι8:List Nat:=[0,1,8,9,10,11,12,13,14,15,16,17,18,19,20,21,22,23]
noncomputable def κ7:Nat→Nat:=kap ι7 0
noncomputable def κ8:Nat→Nat:=kap ι8 0
@[reducible] noncomputable def tabK (κ:Nat→Nat) (T:Tab):List SObj:=((tabL T).drop 2).map (SObj.ren κ)
noncomputable def stepB (B:Tab) (r:Row):Tab:=tabAdd B r.1 r.2 none
noncomputable def runB (B:Tab) (rows:List Row):Tab:=rows.foldl stepB B
noncomputable def withF (B:Tab) (g:Option Flt):Tab:={ B with flt:=g }
theorem tabAdd_F (B:Tab) (h g:Option Flt) (k v:List UInt8):tabAdd (withF B h) k v g = withF (stepB B (k,v)) g:=by
  obtain ⟨bs,ri,bits,lg,out,blk,idx,flt,wait,last,ents,closed,ffin⟩:=B
  unfold stepB tabAdd
  have e:tabW (withF ⟨bs,ri,bits,lg,out,blk,idx,flt,wait,last,ents,closed,ffin⟩ h) k = withF (tabW ⟨bs,ri,bits,lg,out,blk,idx,flt,wait,last,ents,closed,ffin⟩ k) h:=by cases wait <;> rfl
  rw [e]
  show (if bs ≤ blkEst (blkAdd blk k v) then _ else _) = withF (if bs ≤ blkEst (blkAdd blk k v) then _ else _) g
  split <;> rfl
theorem tabF_F (B:Tab) (h g:Option Flt):tabF (withF B h) g = withF (tabF B none) g:=by
  obtain ⟨bs,ri,bits,lg,out,blk,idx,flt,wait,last,ents,closed,ffin⟩:=B
  show (if blk.ents = 0 then _ else _) = withF (if blk.ents = 0 then _ else _) g
  split <;> rfl
structure AddOk (B:Tab) (k v:List UInt8):Prop where
  closed:B.closed = false
  ffin:B.ffin = false
  hk:8 ≤ k.length∧k.length ≤ 120
  hv:v.length ≤ 120
  hw:∀ p,B.wait = some p→WaitOk B k p
  hb:BlkOk B.blk
  hbf:B.blk.fin = false
  hbo:0 < B.blk.ents→8 ≤ B.blk.last.length∧0 < cmpI k B.blk.last
  hb2:BlkOk (blkAdd B.blk k v)
  hbe:0 ≤ B.blk.ents
  hl:B.out.length + (blkFin (blkAdd B.blk k v)).length ≤ 900
noncomputable def RefOk (B:Tab) (k:List UInt8):Prop:=8 ≤ k.length∧k.length ≤ 120∧B.closed = false ∧
  ((B.wait.isSome = true∧8 ≤ B.last.length∧B.last.length ≤ 120∧cmpI k B.last ≤ 0) ∨ (B.wait = none∧0 < B.blk.ents∧B.blk.fin = false∧8 ≤ B.blk.last.length∧B.blk.last.length ≤ 120∧cmpI k B.blk.last ≤ 0))
structure EndOk (B:Tab):Prop where
  closed:B.closed = false
  ffin:B.ffin = false
  hb:B.blk.ents ≠ 0→BlkOk B.blk∧B.blk.fin = false∧B.wait = none∧B.out.length + (blkFin B.blk).length ≤ 900
  ol:(tabF B none).out.length ≤ 905
  wait:∀ p,(tabF B none).wait = some p→SucOk (tabF B none) p
  idx:BlkOk (tabF B none).idx
  ifin:(tabF B none).idx.fin = false
  suc:BlkOk (tabS (tabF B none))
  il:(blkFin (tabS (tabF B none))).length ≤ 1000
section
variable {V:Vs}
theorem ra_ref (B:Tab) (g:Option Flt) (k:List UInt8) (h:RefOk B k):RaX (WK V) 7 623 [.ref 4,.bytes k,.bytes again] (tabL (withF B g)) c_BuildOrder:=by
  obtain ⟨h1,h2,h3,⟨a,b,c,d⟩ | ⟨a,b,c,d,e,f⟩⟩:=h
  · exact ra_TB_wait (withF B g) k again h3 a h1 h2 b c d
  · exact ra_TB_block (withF B g) k again h3 a b c h1 h2 d e f
end
structure Cfg (bs ri bits lg:Int):Prop where
  ri:1 ≤ ri
  bits:0 ≤ bits∧bits ≤ 4
  lg:0 ≤ lg∧lg ≤ 31
theorem runB_cfg (B:Tab) (rows:List Row):(runB B rows).bs = B.bs∧(runB B rows).ri = B.ri∧(runB B rows).bits = B.bits∧(runB B rows).lg = B.lg:=by
  induction rows generalizing B with
  | nil=>exact ⟨rfl,rfl,rfl,rfl⟩
  | cons r rs ih =>
    have h:=ih (stepB B r)
    have s:(stepB B r).bs = B.bs∧(stepB B r).ri = B.ri∧(stepB B r).bits = B.bits∧(stepB B r).lg = B.lg:=by
      unfold stepB tabAdd
      obtain ⟨bs,ri,bits,lg,out,blk,idx,flt,wait,last,ents,closed,ffin⟩:=B
      cases wait <;> split <;> exact ⟨rfl,rfl,rfl,rfl⟩
    exact ⟨h.1.trans s.1,h.2.1.trans s.2.1,h.2.2.1.trans s.2.2.1,h.2.2.2.trans s.2.2.2⟩
structure Plan (B:Tab) (rows:List Row) (ag:Bool):Prop where
  add:∀ i r,rows[i]? = some r→AddOk (runB B (rows.take i)) r.1 r.2
  ref:ag = true→∀ i r r0,rows[i]? = some r→rows[0]? = some r0→RefOk (runB B (rows.take (i + 1))) r.1∧RefOk (runB B (rows.take (i + 1))) r0.1
  ol:∀ i,i ≤ rows.length→(runB B (rows.take i)).out.length ≤ 100000
  ents:(runB B rows).ents = rows.length
  fin:EndOk (runB B rows)
noncomputable def outsB (B:Tab) (rows:List Row) (n:Nat):List Int:=(List.range n).map fun i=>((runB B (rows.take i)).out.length:Int)
noncomputable def BuiltP (B:Tab) (rows:List Row) (objs:List SObj) (r:SV) (o:List SObj):Prop:=r = .ref objs.length∧∃ (Z:List UInt8) (mb:Blk),(B.bits = 0→Z = []∧mb = blk0 B.ri) ∧
  ((tabF (runB B rows) none).out++Z).length + (blkFin mb).length ≤ 14000∧o = objs++[.tup [.bytes (finB (tabF (runB B rows) none) Z mb),.ref (objs.length + 1)],.pl (ipl (outsB B rows (rows.length + 1)))]
theorem forK_last {n0:Nat} {J:St→Prop} {k:Fl→St→Prop} {st:St} {S:Stmt→St→(Fl→St→Prop)→Prop} (h:Into n0 J st):kNx (nextK (seqK S [] (ForK n0 J k)) (ForK n0 J k)) st:=h
end Mine
end
section
namespace Mine
theorem Ev_same {X:Cx} {t:Sem PySem.Value} {st st':St} {k:SV→St→Prop} (e:st = st') (h:Ev X t st' k):Ev X t st k:=e ▸ h
section
variable {X:Cx} {ρ:Nat→Addr} {st:St} {s:Shared} {k:SV→St→Prop}
theorem j_maxL {i:Nat} {l:List Int} (O:X.Ok) (ho:st.objs[i]? = some (.pl (ipl l))) (hne:0 < l.length) (h:∀ M,M ∈ l→(∀ a,a ∈ l→a ≤ M)→k (.int M) st):OpJ X (fun vs=>call BI.max.val vs) [.ref i] st k:=by
  constructor
  intro ρ s vs R r
  obtain ⟨v,rfl,hi,rfl⟩:=all2_one r
  obtain ⟨ws,n,hg,ra⟩:=list_at R (.inr ⟨_,ho,rfl⟩)
  obtain ⟨m,news,F,N,back⟩:=R.op
  exact wpR.of (max_list_N O.room.hh F N (isList_of hg) (ints_are ra) hne fun h' M t tk F' N' h1 h2=>one_int (back h' tk F' N') (h M h1 h2))
end
theorem take_cpl:∀ (b k:List UInt8) (n:Nat),n ≤ k.length→(b.take n = k.take n ↔ n ≤ cpl b k)
  | b,k,0,_=>by simp
  | [],[],n + 1,h=>by simp at h
  | [],y :: k,n + 1,h=>by simp [cpl]
  | x :: b,[],n + 1,h=>by simp at h
  | x :: b,y :: k,n + 1,h=>by
    rw [List.take_succ_cons,List.take_succ_cons,cpl]
    have ih:=take_cpl b k n (by simpa using h)
    by_cases e:x = y
    · subst e;simp [ih]
    · simp [e]
noncomputable def preN (b k:List UInt8) (n:Nat):List Int:=((List.range n).filter fun i=>b.take i == k.take i).map Int.ofNat
theorem preN_max {b k:List UInt8} {M:Int} (h1:M ∈ preN b k (k.length + 1)) (h2:∀ a,a ∈ preN b k (k.length + 1)→a ≤ M):M = (cpl b k:Nat):=by
  have hc:=cpl_le b k
  have h3:=h2 (Int.ofNat (cpl b k)) (List.mem_map.mpr ⟨_,List.mem_filter.mpr ⟨List.mem_range.mpr (by lia),by rw [beq_iff_eq];exact (take_cpl b k _ hc.2).mpr (Nat.le_refl _)⟩,rfl⟩)
  obtain ⟨i,hi,rfl⟩:=List.mem_map.mp h1
  obtain ⟨hi,he⟩:=List.mem_filter.mp hi
  have hi:=List.mem_range.mp hi
  rw [beq_iff_eq] at he
  have h4:=(take_cpl b k i (by lia)).mp he
  have h5:cpl b k ≤ i:=Int.ofNat_le.mp h3
  have:i = cpl b k:=by lia
  rw [this];rfl
theorem preN_succ (b k:List UInt8) (n:Nat):preN b k (n + 1) = if b.take n = k.take n then preN b k n++[(n:Int)] else preN b k n:=by
  unfold preN
  rw [List.range_succ,List.filter_append,List.map_append]
  by_cases h:b.take n = k.take n
  · rw [if_pos h];simp [h]
  · rw [if_neg h];simp [h]
structure Rk where
  sizes:List Int
  closed:Int
  weight:Int
  many:Int
  block:Int
  before:List UInt8
noncomputable def rk0:Rk:=⟨[0],0,0,0,0,[]⟩
noncomputable def shK (ri:Int) (s:Rk) (k:List UInt8):Int:=if 0 < s.many.fmod ri then (cpl s.before k:Nat) else 0
noncomputable def wK (ri:Int) (s:Rk) (r:Row):Int:=s.weight + (3 + (r.1.length:Int) - shK ri s r.1 + (r.2.length:Int))
noncomputable def bK (ri:Int) (s:Rk) (r:Row):Int:=wK ri s r + 4 * ((s.many + 1 + ri - 1).fdiv ri) + 4
noncomputable def stepK (ri lim:Int) (s:Rk) (r:Row):Rk :=
  if lim ≤ bK ri s r then ⟨s.sizes++[s.closed + (bK ri s r + 5)],s.closed + (bK ri s r + 5),0,0,bK ri s r,r.1⟩
  else ⟨s.sizes++[s.closed],s.closed,wK ri s r,s.many + 1,bK ri s r,r.1⟩
noncomputable def runK (ri lim:Int) (rows:List Row):Rk:=rows.foldl (stepK ri lim) rk0
noncomputable def endK (s:Rk):Int:=if 0 < s.many then s.closed + (s.block + 5) else s.closed
@[reducible] noncomputable def objs4 (n:Nat) (q0 q1 q2:Option Row):List SObj:=[.tl n 1 2 3,.pt (q0.map rowP),.pt (q1.map rowP),.pt (q2.map rowP)]
@[reducible] noncomputable def locK (ri lim:Int) (s:Rk):List (PySem.Str × SV):=[(x_limit,.int lim),(x_interval,.int ri),(x_rows,.ref 0),(x_sizes,.ref 7),(x_closed,.int s.closed),(x_weight,.int s.weight),(x_many,.int s.many),(x_block,.int s.block)]
noncomputable def TurnN (ri lim:Int) (n:Nat) (q0 q1 q2:Option Row) (rows:List Row) (i:Nat) (st:St):Prop:=∃ kc:Option SV,(kc = none ∨ ∃ b,kc = some (.bytes b)) ∧
  st = ⟨locK ri lim (runK ri lim (rows.take i)),objs4 n q0 q1 q2++[.cell (some (.bytes (runK ri lim (rows.take i)).before)),.cell kc,.lit 0 i,.pl (ipl (runK ri lim (rows.take i)).sizes)]⟩
theorem runK_next {ri lim:Int} {rows:List Row} {i:Nat} {r:Row} (h:rows[i]? = some r):runK ri lim (rows.take (i + 1)) = stepK ri lim (runK ri lim (rows.take i)) r:=by
  unfold runK
  rw [List.take_add_one,h,List.foldl_append];rfl
theorem runK_before {ri lim:Int} {rows:List Row} (hz:∀ r ∈ rows,r.1.length ≤ 1000∧r.2.length ≤ 1000):(runK ri lim rows).before.length ≤ 1000:=by
  have key:∀ (l:List Row) (s:Rk),s.before.length ≤ 1000→(∀ r ∈ l,r.1.length ≤ 1000∧r.2.length ≤ 1000)→(l.foldl (stepK ri lim) s).before.length ≤ 1000:=fun l=>by
    induction l with
    | nil=>intro s h _;exact h
    | cons r l ih =>
      intro s h h2
      rw [List.foldl_cons]
      refine ih _ ?_ fun x hx=>h2 x (.tail _ hx)
      have:=(h2 r (.head _)).1
      unfold stepK;split <;> exact this
  exact key rows rk0 (Nat.zero_le _) hz
theorem runK_len (ri lim:Int) (rows:List Row):(runK ri lim rows).sizes.length = rows.length + 1:=by
  have key:∀ (l:List Row) (s:Rk),(l.foldl (stepK ri lim) s).sizes.length = s.sizes.length + l.length:=fun l=>by
    induction l with
    | nil=>intro s;rfl
    | cons r l ih =>
      intro s
      rw [List.foldl_cons,ih]
      have:(stepK ri lim s r).sizes.length = s.sizes.length + 1:=by unfold stepK;split <;> simp
      rw [this,List.length_cons];lia
  have:=key rows rk0
  rw [show rk0.sizes.length = 1 from rfl] at this
  unfold runK;lia
@[reducible] noncomputable def scC : Scope := { kind := .function, names := [(".0", .local), ("n", .local), ("before", .cell), ("key", .cell)], isGenerator := false, isCoroutine := false }
section
variable {V:Vs}
theorem f_reckoned (ri lim:Int) (n:Nat) (q0 q1 q2:Option Row) (rows:List Row) (hn:rows.length = n) (h3:n ≤ 3) (hq:∀ (i:Nat) (kv:Row),rows[i]? = some kv→[q0,q1,q2][i]? = some (some kv)) (hz:∀ r ∈ rows,r.1.length ≤ 1000∧r.2.length ≤ 1000)
    (h1:1 ≤ ri) (h2:ri ≤ 100) :
    FnC (WK V) 4 691 [.ref 0,.int ri,.int lim] (objs4 n q0 q1 q2) (Det (.ref 4) (objs4 n q0 q1 q2++[.tup [.ref 5,.int (endK (runK ri lim rows))],.pl (ipl (runK ri lim rows).sizes)])):=by
  intro A g u ρ s vs hr hK hT R r
  refine enterC [x_rows,x_interval,x_limit] x_before x_key (WK_holds ..) (lk__law_reckoned _) (cd__law_reckoned _) (fun _ _ _=>rfl) rfl (by decide +kernel) (fun L=>rfl) (by decide) rfl rfl rfl hr hK hT R r (fun L r0 _ _ O=>?_)
  have hxl:(([.ref 1,.ref 2,.ref 3]:List SV).take n).length = n:=by rw [List.length_take];exact Nat.min_eq_left h3
  refine Ss_cut O 6 (st1:=⟨[(x_limit,.int lim),(x_interval,.int ri),(x_rows,.ref 0),(x_sizes,.ref 6),(x_closed,.int 0),(x_weight,.int 0),(x_many,.int 0),(x_block,.int 0)],objs4 n q0 q1 q2++[.cell (some (.bytes [])),.cell none,.pl (ipl [0])]⟩) ?_ ?_
  · exact ⟨rfl,rfl⟩
  refine Ss_cons' (j_forG O (([.ref 1,.ref 2,.ref 3]:List SV).take n) (fun i=>.lit 0 i) (fun st=>isLs st 0 (([.ref 1,.ref 2,.ref 3]:List SV).take n)) (srcL 0 _) (TurnN ri lim n q0 q1 q2 rows) ?_ ?_ ?_ fun _=>rfl)
  · refine wpE_ok O 40 _ _ _ ?_
    refine ⟨.lit 0 0,[0,1,2,3,4,5,7,6],_,srcOfL (.inr ⟨n,1,2,3,rfl,rfl⟩),?_,rfl,none,.inl rfl,rfl⟩
    exact resel_of _ rfl rfl rfl ⟨rfl,rfl⟩ ⟨rfl,rfl⟩
  · rintro i st ⟨kc,_,rfl⟩
    exact ⟨rfl,.inr ⟨n,1,2,3,rfl,rfl⟩⟩
  · rintro r i st hr ⟨kc,hkc,rfl⟩ hi
    rw [hxl] at hi
    cases hx:(([.ref 1,.ref 2,.ref 3]:List SV).take n)[i]? with
    | none =>
      refine forE hx ?_
      have hin:i = n:=by
        have:=List.getElem?_eq_none_iff.mp hx
        rw [hxl] at this;lia
      subst hin
      have htk:rows.take i = rows:=List.take_of_length_le (by lia)
      rw [htk]
      generalize runK ri lim rows = S at *
      refine body_ok O (n:=40) ?_
      unfold endK
      by_cases hm:0 < S.many
      · refine br_t (decide_eq_true hm) ?_
        rw [if_pos hm]
        exact fin_det [0,1,2,3,8,7] rfl rfl rfl ⟨rfl,rfl⟩ rfl rfl
      · refine br_f (decide_eq_false hm) ?_
        rw [if_neg hm]
        exact fin_det [0,1,2,3,8,7] rfl rfl rfl ⟨rfl,rfl⟩ rfl rfl
    | some x =>
      refine forI hx ?_
      have hlt:i < n:=by have:=lt_of_some hx;rwa [hxl] at this
      obtain ⟨kv,hkv⟩:∃ kv,rows[i]? = some kv:=⟨_,List.getElem?_eq_getElem (by rw [hn];exact hlt)⟩
      have hqi:=hq i kv hkv
      have hzi:=hz kv (List.mem_of_getElem? hkv)
      have hnx:=runK_next (ri:=ri) (lim:=lim) hkv
      have hsl:=runK_len ri lim (rows.take i)
      have hbl:=runK_before (ri:=ri) (lim:=lim) (rows:=rows.take i) fun x hx=>hz x (List.mem_of_mem_take hx)
      rw [List.length_take,Nat.min_eq_left (by lia)] at hsl
      unfold TurnN
      rw [hnx]
      generalize runK ri lim (rows.take i) = S at *
      obtain ⟨j,rfl,hj⟩:∃ j,x = .ref j∧(objs4 n q0 q1 q2++[.cell (some (.bytes S.before)),.cell kc,.lit 0 (i + 1),.pl (ipl S.sizes)])[j]? = some (.pt (some (rowP kv))):=by
        rw [List.getElem?_take_of_lt hlt] at hx
        match i,hlt,hx,hqi with
        | 0,_,hx,hqi=>cases hx;cases hqi;exact ⟨1,rfl,rfl⟩
        | 1,_,hx,hqi=>cases hx;cases hqi;exact ⟨2,rfl,rfl⟩
        | 2,_,hx,hqi=>cases hx;cases hqi;exact ⟨3,rfl,rfl⟩
        | _ + 3,h,_,_=>lia
      have O':=O.inner (Nat.le_succ _) r
      refine AsJ_pair O' (va:=.bytes kv.1) (vb:=.bytes kv.2) (.inr ⟨rowP kv,hj,rfl⟩) ?_
      refine Ss_cutI O' 2 (fun st=>st = ⟨locK ri lim S++[(x_value,.bytes kv.2),(x_shared,.int (shK ri S kv.1))],objs4 n q0 q1 q2++[.cell (some (.bytes S.before)),.cell (some (.bytes kv.1)),.lit 0 (i + 1),.pl (ipl S.sizes)]⟩) ?_ ?_
      · refine ⟨by lia,?_⟩
        unfold shK
        by_cases hm:0 < S.many.fmod ri
        · refine br_t (decide_eq_true hm) ?_
          rw [if_pos hm]
          refine Ev_same (st':=⟨locK ri lim S++[(x_value,.bytes kv.2),(x_shared,.int 0)],[.tl n 1 2 3,.pt (q0.map rowP),.pt (q1.map rowP),.pt (q2.map rowP),.cell (some (.bytes S.before)),.cell (some (.bytes kv.1)),.lit 0 (i + 1),.pl (ipl S.sizes)]⟩) rfl ?_
          refine j_comp O' scC [(x_key,5),(x_before,4)] (by kernel_rfl) rfl (show ∀ q ∈ [(x_key,5),(x_before,4)],q.2 < 7 by decide) (by decide) rfl (by decide) rfl (fun _=>rfl) ?_
          obtain ⟨t,ht⟩:∃ t,t = i:=⟨i,rfl⟩
          rw [← ht]
          refine j_lenB (by lia) ?_
          refine j_range1 ?_
          refine ⟨rngL 0 (kv.1.length + 1),_,fun _=>True,fun i objs=>objs = objs4 n q0 q1 q2++[.cell (some (.bytes S.before)),.cell (some (.bytes kv.1)),.lit 0 (t + 1),.pl (ipl S.sizes),.raw (rngP 0 ((kv.1.length:Int) + 1)),.raw (ritP (0 + (i:Nat)) (((kv.1.length + 1:Nat):Int) - (i:Nat))),.pl (ipl (preN S.before kv.1 i))],srcR 0 _,srcOfR (a:=0) (n:=kv.1.length + 1) (by decide) (by lia) ?_,by rw [rngL_len];lia,?_,?_,?_,?_⟩
          · rw [show (0:Int) + ((kv.1.length + 1:Nat):Int) = (kv.1.length:Int) + 1 by lia];rfl
          · rfl
          · rintro i objs rfl;exact ⟨rfl,trivial⟩
          · rintro g' C' r' i2 objs v O2 rfl hv
            have hi2:i2 < kv.1.length + 1:=by have:=lt_of_some hv;rwa [rngL_len] at this
            rw [rngL_at 0 hi2] at hv
            cases hv
            refine j_slice O2 ?_
            refine ⟨by lia,?_⟩
            refine j_slice O2 ?_
            refine ⟨by lia,?_⟩
            have e0:(0:Int) + (i2:Nat) = (i2:Nat):=Int.zero_add _
            refine ⟨fun e=>?_,fun e=>?_⟩
            · replace e:(cut S.before none (some ((0:Int) + (i2:Nat))) == cut kv.1 none (some ((0:Int) + (i2:Nat)))) = true:=e
              rw [e0,cut_take,cut_take,beq_iff_eq] at e
              have hpl:(preN S.before kv.1 i2).length ≤ 1000000:=by
                have h1:=List.length_filter_le (fun j=>S.before.take j == kv.1.take j) (List.range i2)
                rw [List.length_range] at h1
                unfold preN;rw [List.length_map];lia
              refine j_lsAppendP (x:=.int _) rfl (by rw [ipl,List.length_map];exact hpl) ?_
              refine .inl ?_
              show _ = _
              rw [preN_succ,if_pos e,e0,show ipl (preN S.before kv.1 i2++[(i2:Int)]) = ipl (preN S.before kv.1 i2)++[PV.int (i2:Int)] by simp [ipl]]
              rfl
            · replace e:(cut S.before none (some ((0:Int) + (i2:Nat))) == cut kv.1 none (some ((0:Int) + (i2:Nat)))) = false:=e
              rw [e0,cut_take,cut_take] at e
              have e':¬ S.before.take i2 = kv.1.take i2:=fun h=>by rw [h] at e;simp at e
              refine .inl ?_
              show _ = _
              rw [preN_succ,if_neg e']
              rfl
          · rintro objs rfl
            rw [rngL_len]
            refine j_maxL O' rfl ?_ fun M h1 h2=>?_
            · exact List.length_pos_iff.mpr fun e=>by
                have h0:(0:Int) ∈ preN S.before kv.1 (kv.1.length + 1):=List.mem_map.mpr ⟨0,List.mem_filter.mpr ⟨List.mem_range.mpr (by lia),by simp⟩,rfl⟩
                rw [e] at h0;cases h0
            · cases preN_max h1 h2
              exact ⟨rfl,into_of [0,1,2,3,4,5,6,7] _ rfl rfl rfl (selG_of ⟨rfl,rfl⟩) ⟨rfl,rfl⟩ rfl⟩
        · refine br_f (decide_eq_false hm) ?_
          rw [if_neg hm]
          exact ⟨rfl,.inl rfl⟩
      rintro _ rfl
      refine body_ok O' (n:=40) ?_
      refine j_lenB (by lia) ?_
      refine j_lenB (by lia) ?_
      refine ⟨by lia,PyProof.noPylong_small (by lia),?_⟩
      refine ⟨IntMulOk.of_left (by decide),?_⟩
      unfold stepK
      by_cases hb:lim ≤ bK ri S kv
      · refine br_t (decide_eq_true hb) ?_
        rw [if_pos hb]
        refine OpS.of ?_
        refine j_lsAppendP (x:=.int _) rfl (by rw [ipl,List.length_map,hsl];lia) ?_
        refine forK_last ?_
        refine into_of [0,1,2,3,4,5,6,7] ⟨locK ri lim ⟨S.sizes++[S.closed + (bK ri S kv + 5)],S.closed + (bK ri S kv + 5),0,0,bK ri S kv,kv.1⟩,objs4 n q0 q1 q2++[.cell (some (.bytes kv.1)),.cell (some (.bytes kv.1)),.lit 0 (i + 1),.pl (ipl S.sizes++[PV.int (S.closed + (bK ri S kv + 5))])]⟩ rfl rfl rfl (selG_of ⟨rfl,rfl⟩) ⟨rfl,rfl⟩ ⟨some (.bytes kv.1),.inr ⟨_,rfl⟩,?_⟩
        rw [← ipl_snoc]
      · refine br_f (decide_eq_false hb) ?_
        rw [if_neg hb]
        refine OpS.of ?_
        refine j_lsAppendP (x:=.int _) rfl (by rw [ipl,List.length_map,hsl];lia) ?_
        refine forK_last ?_
        refine into_of [0,1,2,3,4,5,6,7] ⟨locK ri lim ⟨S.sizes++[S.closed],S.closed,wK ri S kv,S.many + 1,bK ri S kv,kv.1⟩,objs4 n q0 q1 q2++[.cell (some (.bytes kv.1)),.cell (some (.bytes kv.1)),.lit 0 (i + 1),.pl (ipl S.sizes++[PV.int S.closed])]⟩ rfl rfl rfl (selG_of ⟨rfl,rfl⟩) ⟨rfl,rfl⟩ ⟨some (.bytes kv.1),.inr ⟨_,rfl⟩,?_⟩
        rw [← ipl_snoc]
end
end Mine
end
section
namespace Mine
section
variable {prog:Program} {w:World} {A:Around} {E:PySem.Value→Shared→Prop} {s:Shared}
theorem adjust_to (b n:Nat) (hb:b ≤ n):Builtin.Slice.sliceAdjust none (some (b:Int)) 1 (n:Int) = (0,(b:Int)):=by
  unfold Builtin.Slice.sliceAdjust
  have h1:¬ ((1:Int) < 0):=by lia
  have h2:¬ ((b:Int) < 0):=by lia
  simp only [h1,h2,if_false]
  congr 1
  lia
theorem places_to (b:Nat):Builtin.Slice.slicePlaces 0 (b:Int) 1 = b:=by
  unfold Builtin.Slice.slicePlaces
  have h1:(1:Int) > 0:=by lia
  simp only [h1,if_true,Int.ediv_one]
  split <;> lia
theorem sliceApplied_to {sl:Addr} {b n:Nat} {u:Tok} {Q:Int × Int × Nat→Shared→Prop} (hs:s.heap.IsSliceOf sl .none (.int b u) .none) (hb:b ≤ n) (h:Q (0,1,b) s) :
    wpAny (model prog w) A (Builtin.Slice.sliceApplied (.ref sl) (pure (n:Int))) Q E s:=by
  obtain ⟨os,hos,hcs,hds⟩:=id hs
  unfold Builtin.Slice.sliceApplied Builtin.Slice.sliceFields
  refine wpAny_bind (wpAny_bind (wpAny_field hos hds (x:=.none) rfl (wpAny_bind (wpAny_field hos hds (x:=.int b u) rfl (wpAny_bind (wpAny_field hos hds (x:=.none) rfl (wpAny_pure ?_)))))))
  refine wpAny_bind (slicePart_none ?_)
  show wpAny _ _ (if ((1:Int) == 0) = true then _ else _) _ _ s
  rw [if_neg (by decide)]
  refine wpAny_bind (slicePart_none (wpAny_bind (slicePart_int (wpAny_bind (wpAny_pure ?_)))))
  show wpAny _ _ (match Builtin.Slice.sliceAdjust none (some (b:Int)) 1 (n:Int) with | (lo,hi)=>pure (lo,(1:Int),Builtin.Slice.slicePlaces lo hi 1)) _ _ s
  rw [adjust_to b n hb]
  show wpAny _ _ (pure ((0:Int),(1:Int),Builtin.Slice.slicePlaces 0 (b:Int) 1)) _ _ s
  rw [places_to b]
  exact wpAny_pure h
theorem pick_to (xs:List PySem.Value) (b:Nat):((List.range b).filterMap fun (k:Nat)=>xs.toArray[((0:Int) + (k:Int) * 1).toNat]?).toArray = (xs.take b).toArray:=by
  have e:(fun (k:Nat)=>xs.toArray[((0:Int) + (k:Int) * 1).toNat]?) = fun k=>xs[k]?:=by
    funext k
    have:((0:Int) + (k:Int) * 1).toNat = k:=by lia
    rw [this];simp
  rw [e]
  congr 1
  induction b with
  | zero=>rfl
  | succ b ih =>
    rw [List.range_succ,List.filterMap_append,ih,List.take_add_one]
    congr 1
theorem getItem_tuple_to {t sl:Addr} {xs:List PySem.Value} {b:Nat} {u:Tok} {Q:PySem.Value→Shared→Prop} (ht:IsTup s.heap t xs.toArray) (hs:s.heap.IsSliceOf sl .none (.int b u) .none) (hb:b < xs.length)
    (h : Q (.ref s.heap.objs.size) { s with heap := s.heap.push { cls := .type "tuple", data := .seq (xs.take b).toArray } }) (hz : xs.length ≤ 1000) : wpAny (model prog w) A (getItem (.ref t) (.ref sl)) Q E s := by
  have hdrop:sizeOk (.seq (xs.take b).toArray):=by
    show (xs.take b).toArray.size ≤ sizeLine
    rw [List.size_toArray,List.length_take,sizeLine_eq]
    lia
  obtain ⟨os,hos,hcs,hds⟩:=id hs
  have hTs : s.TypeIs (.ref sl) "slice" := ⟨os, hos, hcs⟩
  unfold getItem
  try with_reducible refine wpAny_holding ?_
  first | refine wpAny_bind (wpAny_pure ?_) | skip
  refine wpAny_bind (wpAny_sequenceKey ht.typeIs (by decide) ?_)
  refine wpAny_bind (wpAny_callSpecial?_slot (name := Str.ofString "__getitem__") ht.typeIs slot_tuple_getitem
    (wpAny_call_entry slot_tuple_getitem ht.typeIs entry_tuple_getitem ?_ (args_tuple_getitem _ _)))
  show wpAny _ _ (Builtin.Tuple.tupleItemsOf (.ref t) >>= _) _ _ s
  refine wpAny_bind (tupleItemsOf_ ht ?_)
  refine wpAny_bind (wpAny_typeOf hTs ?_)
  rw [if_pos (by decide)]
  have hsz:xs.toArray.size = xs.length:=List.size_toArray
  refine wpAny_bind (sliceApplied_to hs (by lia) ?_)
  have hno:¬ (((0:Int) == 0 && (1:Int) == 1 && b == xs.toArray.size) = true):=by
    have:(b == xs.toArray.size) = false:=by rw [beq_eq_false_iff_ne];lia
    rw [this];simp
  show wpAny _ _ (if ((0:Int) == 0 && (1:Int) == 1 && b == xs.toArray.size) = true then _ else _) _ _ s
  rw [if_neg hno,pick_to xs b]
  first
    | exact wpAny_bind (m:=Builtin.Tuple.tupleExact _) (wpAny_newObj_type (wpAny_pure ⟨_,rfl,wpAny_pure h⟩) hdrop)
    | exact wpAny_bind (m:=Builtin.Tuple.tupleExact _) (wpAny_newObj_type (wpAny_bind (wpAny_pure (wpAny_pure ⟨_,rfl,wpAny_pure h⟩))) hdrop)
    | exact wpAny_bind (wpAny_bind (m:=Builtin.Tuple.tupleExact _) (wpAny_newObj_type (wpAny_pure (wpAny_pure ⟨_,rfl,wpAny_pure h⟩)) hdrop))
    | exact wpAny_bind (wpAny_bind (m:=Builtin.Tuple.tupleExact _) (wpAny_newObj_type (wpAny_pure ⟨_,rfl,wpAny_pure h⟩) hdrop))
theorem eqBool_bytes {a b:List UInt8} {t u:Tok} {Q:Bool→Shared→Prop} (h:Q (a == b) s):wpAny (model prog w) A (eqBool (.bytes a.toArray t) (.bytes b.toArray u)) Q E s:=by
  unfold eqBool
  show wpAny _ _ (if (PySem.Value.bytes a.toArray t == PySem.Value.bytes b.toArray u) = true then _ else _) Q E s
  by_cases hab:(PySem.Value.bytes a.toArray t == PySem.Value.bytes b.toArray u) = true
  · rw [if_pos hab]
    have e:a = b:=by have:=eq_of_beq hab;injection this with e _;simpa using e
    subst e
    exact wpAny_bind (wpAny_rule (wpAny_pure (by simpa using h)))
  · rw [if_neg hab]
    exact wpAny_bind (PySem.W.eq_bytes (wpAny_truthy_bool (by simpa using h)))
end
section
variable {X:Cx} {ρ:Nat→Addr} {st:St} {s:Shared} {k:SV→St→Prop}
theorem SRep.opN (R:SRep X ρ st s):∃ m news,Fr X.g X.L s.heap m∧News X.g X.L s.heap news∧(∀ i o,st.objs[i]? = some o→∃ c,ORep ρ st.objs.length (ρ i) o c∧∀ p ∈ c,p ∈ news)∧∀ (h':Heap) (tk:Tok) (D:Addr) (ob:Obj) (o:SObj),Fr X.g X.L h' m→News X.g X.L h' ((D,ob) :: news)→(∀ p ∈ news,p.1 < D) →
    (∀ ρ':Nat→Addr,(∀ i,i < st.objs.length→ρ' i = ρ i)→ρ' st.objs.length = D→ORep ρ' (st.objs.length + 1) D o [(D,ob)])→∀ k:SV→St→Prop,k (.ref st.objs.length) (st.addObj o)→EvP X ρ st.objs.length k (.ref D) { s with heap:=h',toks:=tk }:=by
  obtain ⟨⟨m,chs,F,N,nd,LR,OR⟩,g1,g2,g3,pn⟩:=R
  refine ⟨m,_,F,N,(fun i o ho=>let ⟨c,hc,r⟩:=OR.at_ i o ho;⟨c,r,fun p hp=>mem_at hc hp⟩),fun h' tk D ob o F' N' hlt y k hk=>?_⟩
  obtain ⟨ρ',e1,e2,OR'⟩:=OR.add y
  refine ⟨ρ',.ref st.objs.length,st.addObj o,e1,by show _ ≤ (st.objs++[o]).length;simp,⟨⟨m,chs++[[(D,ob)]],F',?_,?_,?_,OR'⟩,g1,g2,g3,pn.ext e1 (by show _ ≤ (st.objs++[o]).length;simp)⟩,⟨by show _ < (st.objs++[o]).length;simp,by rw [e2]⟩,hk⟩
  · intro p hp
    rw [List.flatten_append] at hp
    rcases List.mem_append.mp hp with hp | hp
    · exact N' p (.tail _ hp)
    · simp at hp;subst hp;exact N' _ (.head _)
  · rw [List.flatten_append,List.map_append,List.nodup_append]
    refine ⟨nd,by simp,fun a ha b hb=>?_⟩
    simp at hb
    subst hb
    obtain ⟨p,hp,rfl⟩:=List.mem_map.mp ha
    exact Nat.ne_of_lt (hlt p hp)
  · intro x sv e
    obtain ⟨v,q1,q2⟩:=LR x sv e
    exact ⟨v,q1,q2.ext e1 (by show _ ≤ (st.objs++[o]).length;simp)⟩
theorem j_neL {i j:Nat} {l l':List Int} (O:X.Ok) (h1:st.objs[i]? = some (.pl (ipl l))) (h2:st.objs[j]? = some (.pl (ipl l'))) (h:k (.bool (!decide (l = l'))) st):OpJ X (fun vs=>compareOp .NotEq (vs.getD 0 .none) (vs.getD 1 .none)) [.ref i,.ref j] st k:=by
  constructor
  intro ρ s vs R r
  obtain ⟨a,c,rfl,⟨hi,rfl⟩,hj,rfl⟩:=all2_two' r
  obtain ⟨ws,n,hg,ra⟩:=list_at R (.inr ⟨_,h1,rfl⟩)
  obtain ⟨ws',n',hg',ra'⟩:=list_at R (.inr ⟨_,h2,rfl⟩)
  refine wpR.of (ke_ne_ints (isList_of hg) (isList_of hg') (ints_are ra) (ints_are ra') ?_ (one_bool R h))
  have:=O.room.hu
  unfold cLine
  lia
theorem all2_rep {R:SV→PySem.Value→Prop} {as:List SV} {bs:List PySem.Value} (h:All2 R as bs):∀ n:Nat,All2 R (List.replicate n as).flatten (List.replicate n bs).flatten
  | 0=>.nil
  | n + 1=>by rw [List.replicate_succ,List.replicate_succ,List.flatten_cons,List.flatten_cons];exact h.append (all2_rep h n)
theorem j_mulL {i:Nat} {x:PV} {n:Int} (O:X.Ok) (h1:st.objs[i]? = some (.pl [x])) (h0:0 ≤ n) (hn:n ≤ 200) (h:k (.ref st.objs.length) (st.addObj (.pl (List.replicate n.toNat x)))):OpJ X (fun vs=>binaryOp .Mult (vs.getD 0 .none) (vs.getD 1 .none)) [.ref i,.int n] st k:=by
  constructor
  intro ρ s vs R r
  obtain ⟨a,c,rfl,⟨hi,rfl⟩,t',rfl⟩:=all2_two' r
  obtain ⟨ws,m',hg,ra⟩:=list_at R (.inr ⟨_,h1,rfl⟩)
  obtain ⟨m,news,F,N,_,back⟩:=R.opN
  have hl1:ws.length = 1:=ra.length.symm
  refine wpR.of (PySem.W.KMa.mul F N (isList_of hg) (by lia) (by lia) (by rw [hl1];lia) rfl fun D h' F' N' hlt=>back h' s.toks D _ (.pl (List.replicate n.toNat x)) F' N' hlt (fun ρ' e1 e2=>⟨_,0,rfl,?_⟩) k h)
  have:=all2_rep ra n.toNat
  rw [show (List.map PV.sv [x]) = [x.sv] from rfl] at this
  have e:∀ n:Nat,(List.replicate n [x.sv]).flatten = (List.replicate n x).map PV.sv:=fun n=>by simp
  rw [e] at this
  exact pl_free this
theorem j_addT {i j:Nat} {xs ys:List SV} (h1:isTp st i xs) (h2:isTp st j ys) (n1:xs ≠ []) (n2:ys ≠ []) (hz:xs.length + ys.length ≤ 1000) (h:k (.ref st.objs.length) (st.addObj (.tup (xs++ys)))):OpJ X (fun vs=>binaryOp .Add (vs.getD 0 .none) (vs.getD 1 .none)) [.ref i,.ref j] st k:=by
  constructor
  intro ρ s vs R r
  obtain ⟨a,c,rfl,⟨hi,rfl⟩,hj,rfl⟩:=all2_two' r
  obtain ⟨ws,m,hg,ra⟩:=isTp_at R h1
  obtain ⟨ws',m',hg',ra'⟩:=isTp_at R h2
  have l1:=ra.length
  have l2:=ra'.length
  have p1:0 < ws.length:=by rw [← l1];exact List.length_pos_iff.mpr n1
  have p2:0 < ws'.length:=by rw [← l2];exact List.length_pos_iff.mpr n2
  refine wpR.of (PySem.P.add_tuple hg hg' (by simp [Array.isEmpty];intro e;rw [e] at p1;simp at p1) (by simp [Array.isEmpty];intro e;rw [e] at p2;simp at p2) ?_ (by simp [sizeLine_eq];lia))
  exact new_end (o:=.tup (xs++ys)) (tk:=s.toks) R rfl (fun ρ' e1 e2=>⟨ws++ws',0,by simp,(ra.append ra').mono fun _ _ q=>q.ext e1 (Nat.le_add_right _ 1)⟩) h
structure SlJ (X:Cx) (v:Expr) (lo hi:Option Expr) (sp:Pos) (o l u:SV) (st:St) (k:SV→St→Prop):Prop where
  go:∀ ρ s vo vl vu,SRep X ρ st s→VRep ρ st.objs.length o vo→VRep ρ st.objs.length l vl→VRep ρ st.objs.length u vu →
    wpR X.M X.A (subscriptTail v (.Slice lo hi none sp) vo (.ref s.heap.objs.size)) (EvP X ρ st.objs.length k) X.E { s with heap := s.heap.push { cls := .type "slice", data := .fields #[vl, vu, .none] } }
theorem j_sliceO (O:X.Ok) {v:Expr} {lo hi:Option Expr} {sp p:Pos} (h:wpE X 40 v st fun o st1=>partK X lo st1 fun l st2=>partK X hi st2 fun u st3=>SlJ X v lo hi sp o l u st3 k):Ev X (eval (.Subscript v (.Slice lo hi none sp) p) X.env) st k:=by
  constructor
  intro ρ s R
  refine r_Sub ?_
  refine bindV (α:=Unit) ((wpE_ok O _ _ _ _ h).go ρ s R) fun ρ1 o st1 vo s1 x1 l1 R1 r1 k1=>?_
  rw [arm_eval_Slice]
  refine wpR_bind (bindV (α:=Unit) (part_ok O k1 R1) fun ρ2 l st2 vl s2 x2 l2 R2 r2 k2=>?_)
  refine wpR_bind (wpR_holding (bindV (α:=Unit) (part_ok O k2 R2) fun ρ3 u st3 vu s3 x3 l3 R3 r3 k3=>?_))
  refine wpR_bind (wpR_holding (wpR_pure ?_))
  refine wpR.of (wpAny_newObj_type ?_)
  exact wpR_mono (k3.go ρ3 s3 vo vl vu R3 ((r1.ext x2 l2).ext x3 l3) (r2.ext x3 l3) r3) (fun _ _ q=>((q.up x3 l3).up x2 l2).up x1 l1) fun _ _ x=>x
theorem sl_ls {v:Expr} {lo hi:Option Expr} {sp:Pos} {i:Nat} {l u:SV} {xs:List SV} {lo' hi':Option Int} (ho:isLs st i xs) (el:partS l = some lo') (eu:partS u = some hi') (hz:xs.length ≤ 1000000) (h:k (.ref st.objs.length) (st.addObj (.list (cut xs lo' hi')))) :
    SlJ X v lo hi sp (.ref i) l u st k:=by
  constructor
  intro ρ s vo vl vu R ro rl ru
  obtain ⟨hi2,rfl⟩:=ro
  obtain ⟨ws,hls,ra⟩:=isLs_at R ho
  have hl : (s.heap.push { cls := .type "slice", data := .fields #[vl, vu, .none] }).IsList (ρ i) ws.toArray := hls.push _
  refine wpR.of (PyProof.Rows.tail_any (Heap.IsList.typeIs (s := { s with heap := s.heap.push { cls := .type "slice", data := .fields #[vl, vu, .none] } }) hl) list_getitem_lookup (wpAny_getItem_list_slice hl (Heap.IsSliceOf.new ..) (part_of rl el) (part_of ru eu) .none (by simp) ?_ (by rw [List.size_toArray, ← ra.length, sizeLine_eq]; lia)) rfl)
  rw [slicePick_cut]
  exact new_end (o:=.list (cut xs lo' hi')) (tk:=s.toks) (R.push _) rfl (fun ρ' e1 e2=>⟨_,0,rfl,(all2_cut ra lo' hi').mono fun _ _ q=>q.ext e1 (Nat.le_add_right _ _)⟩) h
theorem sl_tp {v hi:Expr} {sp:Pos} {i:Nat} {xs:List SV} {b:Nat} (ho:isTp st i xs) (hb:b < xs.length) (hz:xs.length ≤ 1000) (h:k (.ref st.objs.length) (st.addObj (.tup (xs.take b)))) :
    SlJ X v none (some hi) sp (.ref i) .none (.int b) st k:=by
  constructor
  intro ρ s vo vl vu R ro rl ru
  obtain ⟨hi2,rfl⟩:=ro
  cases rl
  obtain ⟨t,rfl⟩:=ru
  obtain ⟨ws,m,hg,ra⟩:=isTp_at R ho
  have hl:=ra.length
  have ht : IsTup (s.heap.push { cls := .type "slice", data := .fields #[.none, .int b t, .none] }) (ρ i) ws.toArray := ⟨_, Heap.get?_push_of_some _ hg, rfl, m, rfl⟩
  refine wpR.of (PyProof.Rows.tail_any (IsTup.typeIs (s := { s with heap := s.heap.push { cls := .type "slice", data := .fields #[.none, .int b t, .none] } }) ht) F.slot_tuple_getitem.lookup (getItem_tuple_to ht (Heap.IsSliceOf.new ..) (by lia) ?_ (by lia)) rfl)
  exact new_end (o:=.tup (xs.take b)) (tk:=s.toks) (R.push _) rfl (fun ρ' e1 e2=>⟨_,0,rfl,(all2_take ra b).mono fun _ _ q=>q.ext e1 (Nat.le_add_right _ _)⟩) h
end
end Mine
end
section
open PySem PySem.W PyProof.Rows PySem.SeqAt
namespace Mine
structure Hd where
  u:List UInt8
  a:Int
  b:Int
  v:List UInt8
noncomputable def Hd.p3 (x:Hd):List PV:=[.bytes x.u,.int x.a,.int x.b]
noncomputable def Hd.p4 (x:Hd):List PV:=[.bytes x.u,.int x.a,.int x.b,.bytes x.v]
noncomputable def eq3 (x y:Hd):Bool:=x.u == y.u && (x.a == y.a && x.b == y.b)
noncomputable def ltH (x y:Hd):Bool:=if x.u == y.u then (if x.a == y.a then (if x.b == y.b then (if x.v == y.v then false else ltB x.v y.v) else decide (x.b < y.b)) else decide (x.a < y.a)) else ltB x.u y.u
section
variable {prog:Program} {w:World} {A:Around} {E:PySem.Value→Shared→Prop} {s:Shared}
theorem at3 {A:Around} {s:Shared} {i j:Addr} {x y:Hd} {t1 t2 t3 u1 u2 u3:Tok} (hi:s.heap.IsTuple i [.bytes x.u.toArray t1,.int x.a t2,.int x.b t3].toArray) (hj:s.heap.IsTuple j [.bytes y.u.toArray u1,.int y.a u2,.int y.b u3].toArray) (hne:i ≠ j) (hu:A.units < cLine):EqAt A s (.ref i) (.ref j) (eq3 x y):=by
  have h:=RcAt.tuples (A:=A) (e:=fun n=>match n with | 0=>x.u == y.u | 1=>x.a == y.a | _=>x.b == y.b) hi hj hu (fun n h1 h2=>by
    match n,h1,h2 with
    | 0,_,_=>exact fun prog w E Q hq=>eqBool_bytes hq
    | 1,_,_=>exact fun prog w E Q hq=>wpAny_eqBool_int hq
    | 2,_,_=>exact fun prog w E Q hq=>wpAny_eqBool_int hq
    | n + 3,h1,_=>exact absurd h1 (by simp))
  have e:((List.range (min ([PySem.Value.bytes x.u.toArray t1,.int x.a t2,.int x.b t3].toArray).size ([PySem.Value.bytes y.u.toArray u1,.int y.a u2,.int y.b u3].toArray).size)).all (fun n=>match n with | 0=>x.u == y.u | 1=>x.a == y.a | _=>x.b == y.b) && ([PySem.Value.bytes x.u.toArray t1,.int x.a t2,.int x.b t3].toArray).size == ([PySem.Value.bytes y.u.toArray u1,.int y.a u2,.int y.b u3].toArray).size) = eq3 x y:=by
    show ((List.range 3).all _ && true) = _
    simp [List.range_succ,eq3,Bool.and_assoc]
  rw [e] at h
  exact EqAt.of_refs hne h
theorem oneLt_bytes {a b:List UInt8} {t u:Tok} {Q:Bool→Shared→Prop} (h:Q (ltB a b) s):wpAny (model prog w) A (oneLt' true (.bytes a.toArray t) (.bytes b.toArray u)) Q E s:=by
  rw [oneLt'_eq]
  simp only [if_true]
  refine wpAny_bind (wpAny_cRoomFor_byValue rfl ?_)
  refine wpAny_bind (wpAny_callSpecialIfBound?_slot (typeIs_bytes s _ t) slot_bytes_lt (wpAny_call_entry slot_bytes_lt (typeIs_bytes s _ t) entry_bytes_lt ?_ (args_bytes_lt _ _)))
  · show wpAny _ _ (isInstance (.bytes b.toArray u) (.type "bytes") >>= fun r => _) _ _ s
    exact wpAny_bind (wpAny_isInstance (typeIs_bytes s _ u) F.sub_bytes_bytes (wpAny_pure ⟨_,rfl,wpAny_truthy_bool h⟩))
theorem keyLt_H {i j:Addr} {x y:Hd} {ox oy:Obj} {n m:Nat} {t1 t2 t3 t4 u1 u2 u3 u4:Tok} {Q:Bool→Shared→Prop} (hi:s.heap.get? i = some ox) (di:ox.data = .seq [.bytes x.u.toArray t1,.int x.a t2,.int x.b t3,.bytes x.v.toArray t4].toArray n)
    (hj:s.heap.get? j = some oy) (dj:oy.data = .seq [.bytes y.u.toArray u1,.int y.a u2,.int y.b u3,.bytes y.v.toArray u4].toArray m) (h:Q (ltH x y) s):wpAny (model prog w) A (keyLt' (tuples' true) (.ref i) (.ref j)) Q E s:=by
  refine kat_lt hi di hj dj ?_
  show KatLex prog w A true false Q [(.bytes x.u.toArray t1,.bytes y.u.toArray u1),(.int x.a t2,.int y.a u2),(.int x.b t3,.int y.b u3),(.bytes x.v.toArray t4,.bytes y.v.toArray u4)] 0 s
  unfold ltH at h
  refine kat_cons (eqBool_bytes (kat_go (fun e=>?_) fun e=>?_))
  · rw [if_pos e] at h
    refine kat_yes (kat_cons (wpAny_eqBool_int (kat_go (fun e=>?_) fun e=>?_)))
    · rw [if_pos e] at h
      refine kat_yes (kat_cons (wpAny_eqBool_int (kat_go (fun e=>?_) fun e=>?_)))
      · rw [if_pos e] at h
        refine kat_yes (kat_cons (eqBool_bytes (kat_go (fun e=>?_) fun e=>?_)))
        · rw [if_pos e] at h
          exact kat_yes (kat_nil h)
        · rw [if_neg (by rw [e];exact Bool.false_ne_true)] at h
          refine kat_no (kat_one _ _ ?_)
          exact compareOp_gives (op:=.Lt) (typeIs_bytes s _ _) (typeIs_bytes s _ _) slot_bytes_lt entry_bytes_lt (args_bytes_lt _ _) (gives_lt _ _ _ _) (fun e=>nomatch e) h
      · rw [if_neg (by rw [e];exact Bool.false_ne_true)] at h
        exact kat_no (kat_one _ _ (lt_int h))
    · rw [if_neg (by rw [e];exact Bool.false_ne_true)] at h
      exact kat_no (kat_one _ _ (lt_int h))
  · rw [if_neg (by rw [e];exact Bool.false_ne_true)] at h
    exact kat_no (oneLt_bytes h)
end
end Mine
end
section
open PySem PySem.W PyProof.Rows PySem.SeqAt
namespace Mine
section
variable {X:Cx} {ρ:Nat→Addr} {st:St} {s:Shared} {k:SV→St→Prop}
theorem tp_chain (R:SRep X ρ st s) {i:Nat} {xs:List SV} (hx:isTp st i xs):∃ o,st.objs[i]? = some o∧∀ {n:Nat} {c:List (Addr × Obj)},ORep ρ n (ρ i) o c→∃ ob,c = [(ρ i,ob)]:=by
  rcases hx with ho | ⟨ps,ho,_⟩
  · exact ⟨_,ho,fun ⟨vs,k,e,_⟩=>⟨_,e⟩⟩
  · exact ⟨_,ho,fun ⟨vs,k,e,_⟩=>⟨_,e⟩⟩
theorem tp_ne (R:SRep X ρ st s) {i j:Nat} {xs ys:List SV} (hx:isTp st i xs) (hy:isTp st j ys) (hne:i ≠ j):ρ i ≠ ρ j:=by
  obtain ⟨o1,h1,c1⟩:=tp_chain R hx
  obtain ⟨o2,h2,c2⟩:=tp_chain R hy
  obtain ⟨⟨m,chs,F,N,nd,LR,OR⟩,g1,g2,g3,pn⟩:=R
  obtain ⟨q1,e1,r1⟩:=OR.at_ _ _ h1
  obtain ⟨q2,e2,r2⟩:=OR.at_ _ _ h2
  obtain ⟨ob1,rfl⟩:=c1 r1
  obtain ⟨ob2,rfl⟩:=c2 r2
  exact (nd_iff.mp nd).2 _ _ _ _ hne e1 e2 _ (.head _) _ (.head _)
theorem p3_at {n:Nat} {x:Hd} {ws:List PySem.Value} (h:All2 (VRep ρ n) (x.p3.map PV.sv) ws):∃ t1 t2 t3,ws = [.bytes x.u.toArray t1,.int x.a t2,.int x.b t3]:=by
  cases h with
  | cons a h =>
    cases h with
    | cons b h =>
      cases h with
      | cons c h =>
        cases h
        obtain ⟨t1,rfl⟩:=a
        obtain ⟨t2,rfl⟩:=b
        obtain ⟨t3,rfl⟩:=c
        exact ⟨t1,t2,t3,rfl⟩
theorem p4_at {n:Nat} {x:Hd} {ws:List PySem.Value} (h:All2 (VRep ρ n) (x.p4.map PV.sv) ws):∃ t1 t2 t3 t4,ws = [.bytes x.u.toArray t1,.int x.a t2,.int x.b t3,.bytes x.v.toArray t4]:=by
  cases h with
  | cons a h =>
    cases h with
    | cons b h =>
      cases h with
      | cons c h =>
        cases h with
        | cons d h =>
          cases h
          obtain ⟨t1,rfl⟩:=a
          obtain ⟨t2,rfl⟩:=b
          obtain ⟨t3,rfl⟩:=c
          obtain ⟨t4,rfl⟩:=d
          exact ⟨t1,t2,t3,t4,rfl⟩
theorem units_lt (O:X.Ok):X.A.units < cLine∧X.A.in1.units < cLine:=by
  have:=O.room.hu
  have h2:X.A.in1.units = X.A.units + 1:=rfl
  unfold cLine
  lia
open Classical in
theorem j_notInT {i j:Nat} {x:Hd} {hs:List (Nat × Hd)} (O:X.Ok) (hx:isTp st i (x.p3.map PV.sv)) (hl:isLs st j (hs.map fun p=>.ref p.1)) (hh:∀ p ∈ hs,p.1 ≠ i∧isTp st p.1 (p.2.p3.map PV.sv)) (h:k (.bool (!(hs.any fun p=>eq3 p.2 x))) st) :
    OpJ X (fun vs=>compareOp .NotIn (vs.getD 0 .none) (vs.getD 1 .none)) [.ref i,.ref j] st k:=by
  constructor
  intro ρ s vs R r
  obtain ⟨a,c,rfl,⟨hi,rfl⟩,hj,rfl⟩:=all2_two' r
  obtain ⟨ws,n,hg,ra⟩:=isTp_at R hx
  obtain ⟨t1,t2,t3,rfl⟩:=p3_at ra
  obtain ⟨vs,hls,rl⟩:=isLs_at R hl
  have hvs:vs = hs.map fun p=>.ref (ρ p.1):=by
    have key:∀ (l:List (Nat × Hd)) (vs:List PySem.Value),All2 (VRep ρ st.objs.length) (l.map fun p=>.ref p.1) vs→vs = l.map fun p=>.ref (ρ p.1):=fun l=>by
      induction l with
      | nil=>intro vs h;cases h;rfl
      | cons p l ih =>
        intro vs h
        cases h with
        | cons a b=>rw [ih _ b,a.2];rfl
    exact key _ _ rl
  have U:=units_lt O
  have tup:∀ {p:Nat × Hd},p ∈ hs→∃ t1 t2 t3,s.heap.IsTuple (ρ p.1) [.bytes p.2.u.toArray t1,.int p.2.a t2,.int p.2.b t3].toArray:=fun {p} hp=>by
    obtain ⟨ws,n,hg,ra⟩:=isTp_at R (hh p hp).2
    obtain ⟨u1,u2,u3,rfl⟩:=p3_at ra
    exact ⟨u1,u2,u3,_,hg,rfl,n,rfl⟩
  have same:∀ {p q:Nat × Hd},p ∈ hs→q ∈ hs→ρ p.1 = ρ q.1→eq3 p.2 x = eq3 q.2 x:=fun {p q} hp hq e=>by
    obtain ⟨u1,u2,u3,o1,g1,_,n1,d1⟩:=tup hp
    obtain ⟨v1,v2,v3,o2,g2,_,n2,d2⟩:=tup hq
    rw [e,g2] at g1
    cases g1
    rw [d2] at d1
    simp only [Data.seq.injEq,Array.mk.injEq,List.cons.injEq,PySem.Value.bytes.injEq,PySem.Value.int.injEq] at d1
    obtain ⟨⟨⟨a1,_⟩,⟨a2,_⟩,⟨a3,_⟩,_⟩,_⟩:=d1
    unfold eq3
    rw [show q.2.u = p.2.u from a1,a2,a3]
  refine wpR.of (notIn_listAt (fun y=>decide (∃ p ∈ hs,y = .ref (ρ p.1)∧eq3 p.2 x = true)) hls (fun y hy=>?_) (one_bool R ?_))
  · rw [hvs] at hy
    simp only [List.mem_toArray,List.mem_map] at hy
    obtain ⟨p,hp,rfl⟩:=hy
    obtain ⟨u1,u2,u3,ht⟩:=tup hp
    have hq:=at3 (A:=X.A.in1) (x:=p.2) (y:=x) ht (⟨_,hg,rfl,n,rfl⟩:s.heap.IsTuple (ρ i) [.bytes x.u.toArray t1,.int x.a t2,.int x.b t3].toArray) (tp_ne R (hh p hp).2 hx (hh p hp).1) U.2
    have e:decide (∃ q ∈ hs,PySem.Value.ref (ρ p.1) = .ref (ρ q.1)∧eq3 q.2 x = true) = eq3 p.2 x:=by
      cases hb:eq3 p.2 x with
      | true=>exact decide_eq_true ⟨p,hp,rfl,hb⟩
      | false =>
        refine decide_eq_false ?_
        rintro ⟨q,hq,e,h1⟩
        injection e with e
        rw [← same hp hq e,hb] at h1
        cases h1
    rw [e]
    exact hq
  · have e:(vs.toArray.any fun y=>decide (∃ p ∈ hs,y = .ref (ρ p.1)∧eq3 p.2 x = true)) = hs.any fun p=>eq3 p.2 x:=by
      rw [hvs,Bool.eq_iff_iff]
      simp only [List.any_toArray,List.any_eq_true,List.mem_map,decide_eq_true_eq]
      constructor
      · rintro ⟨_,⟨p,hp,rfl⟩,q,hq,e,h1⟩;exact ⟨q,hq,h1⟩
      · rintro ⟨p,hp,h1⟩;exact ⟨_,⟨p,hp,rfl⟩,p,hp,rfl,h1⟩
    rw [e]
    exact h
noncomputable def runO (n:Nat) (f:Nat→Nat→Bool):KasT (Array Nat)→Option (Array Nat)
  | .ret a=>some a
  | .ask i j k=>if i < n∧j < n then runO n f (k (f i j)) else none
theorem kas_of {n:Nat} {f:Nat→Nat→Bool} {cmp:Nat→Nat→(Bool→Shared→Prop)→Shared→Prop} {Q:Array Nat→Shared→Prop} {s:Shared} {p:Array Nat} (hc:∀ i j C,i < n→j < n→C (f i j) s→cmp i j C s) (hq:Q p s) :
    ∀ t:KasT (Array Nat),runO n f t = some p→t.kasWp cmp Q s
  | .ret a,h=>by cases h;exact hq
  | .ask i j k,h=>by
    unfold runO at h
    split at h
    · rename_i hij
      exact hc i j _ hij.1 hij.2 (kas_of hc hq _ h)
    · cases h
noncomputable def ltAt (hs:List (Nat × Hd)) (i j:Nat):Bool:=match hs[i]?,hs[j]? with
  | some p,some q=>ltH p.2 q.2
  | _,_=>false
theorem j_sortT {i:Nat} {hs:List (Nat × Hd)} (O:X.Ok) (hl:isLs st i (hs.map fun p=>.ref p.1)) (hh:∀ p ∈ hs,isTp st p.1 (p.2.p4.map PV.sv)) (h2:2 ≤ hs.length) (h3:hs.length ≤ 3) {p:Array Nat} (hp:runO hs.length (ltAt hs) (kas_sort hs.length) = some p)
    (h:k (.ref st.objs.length) (st.addObj (.list (p.toList.map fun i=>(hs.map fun p=>SV.ref p.1).getD i .none)))):OpJ X (fun vs=>call BI.sorted.val vs) [.ref i] st k:=by
  constructor
  intro ρ s vs R r
  obtain ⟨v,rfl,hi,rfl⟩:=all2_one r
  obtain ⟨ws,hls,rl⟩:=isLs_at R hl
  obtain ⟨m,news,F,N,inn,back⟩:=R.opN
  have hlen:ws.length = hs.length:=by rw [← rl.length,List.length_map]
  have at_:∀ {n:Nat} {q:Nat × Hd},hs[n]? = some q→ws[n]? = some (.ref (ρ q.1)):=fun {n q} e=>by
    obtain ⟨w,hw,rw'⟩:=rl.get (i:=n) (a:=.ref q.1) (by rw [List.getElem?_map,e];rfl)
    rw [hw,rw'.2]
  have tup : ∀ {q : Nat × Hd}, q ∈ hs → ∃ t1 t2 t3 t4 n, (ρ q.1, ({ cls := .type "tuple", data := .seq [.bytes q.2.u.toArray t1, .int q.2.a t2, .int q.2.b t3, .bytes q.2.v.toArray t4].toArray n } : Obj)) ∈ news := fun {q} hq => by
    rcases hh q hq with ho | ⟨ps,ho,e⟩
    · obtain ⟨c,⟨ws,n,rfl,ra⟩,hc⟩:=inn _ _ ho
      obtain ⟨u1,u2,u3,u4,rfl⟩:=p4_at ra
      exact ⟨u1,u2,u3,u4,n,hc _ (.head _)⟩
    · obtain ⟨c,⟨ws,n,rfl,ra⟩,hc⟩:=inn _ _ ho
      rw [← e] at ra
      obtain ⟨u1,u2,u3,u4,rfl⟩:=p4_at ra
      exact ⟨u1,u2,u3,u4,n,hc _ (.head _)⟩
  refine wpR.of (kat_sorted F N hls (by lia) (by lia) fun D e1 h' F' N' hlt=>?_)
  have tup' : ∀ {q : Nat × Hd}, q ∈ hs → ∃ t1 t2 t3 t4 n, h'.get? (ρ q.1) = some ({ cls := .type "tuple", data := .seq [.bytes q.2.u.toArray t1, .int q.2.a t2, .int q.2.b t3, .bytes q.2.v.toArray t4].toArray n } : Obj) := fun {q} hq => by
    obtain ⟨u1,u2,u3,u4,n,hm⟩:=tup hq
    exact ⟨u1,u2,u3,u4,n,(N' _ (.tail _ hm)).1⟩
  obtain ⟨fs,hfs,hby⟩:∃ fs,KatTups h' ws fs∧fs.length = ws.length∧∀ f ∈ fs,∃ b t,f = PySem.Value.bytes b t:=by
    have key:∀ (l:List (Nat × Hd)) (ws:List PySem.Value),(∀ q ∈ l,q ∈ hs)→All2 (VRep ρ st.objs.length) (l.map fun p=>.ref p.1) ws→∃ fs,KatTups h' ws fs∧fs.length = ws.length∧∀ f ∈ fs,∃ b t,f = PySem.Value.bytes b t:=fun l=>by
      induction l with
      | nil=>intro ws _ h;cases h;exact ⟨[],.nil,rfl,fun _ h=>by cases h⟩
      | cons q l ih =>
        intro ws hm h
        cases h with
        | cons a b =>
          obtain ⟨fs,h1,h2,h3⟩:=ih _ (fun x hx=>hm x (.tail _ hx)) b
          obtain ⟨u1,u2,u3,u4,n,hg⟩:=tup' (hm q (.head _))
          obtain ⟨_,rfl⟩:=a
          exact ⟨_,.cons hg rfl rfl rfl h1,congrArg (· + 1) h2,fun f hf=>by
            rcases List.mem_cons.mp hf with rfl | hf
            · exact ⟨_,_,rfl⟩
            · exact h3 f hf⟩
    exact key hs ws (fun _ h=>h) rl
  refine kat_kind (T := .type "bytes") hfs (by rw [hby.1]; lia) (fun v hv => by
    obtain ⟨b,t,rfl⟩:=hby.2 v hv
    exact Looks.of_pure rfl) rfl ?_
  rw [show (PySem.Value.type "bytes" != PySem.Value.type "tuple") = true by decide]
  rw [hlen]
  refine kas_of (n:=hs.length) (f:=ltAt hs) (fun i j C h1 h2 hC=>?_) ?_ _ hp
  · obtain ⟨p,hp⟩:∃ p,hs[i]? = some p:=⟨_,List.getElem?_eq_getElem h1⟩
    obtain ⟨q,hq⟩:∃ q,hs[j]? = some q:=⟨_,List.getElem?_eq_getElem h2⟩
    have e:ltAt hs i j = ltH p.2 q.2:=by unfold ltAt;rw [hp,hq]
    rw [e] at hC
    obtain ⟨t1,t2,t3,t4,n1,g1⟩:=tup' (List.mem_of_getElem? hp)
    obtain ⟨u1,u2,u3,u4,n2,g2⟩:=tup' (List.mem_of_getElem? hq)
    show wpAny _ _ (keyLt' _ (ws.getD i .none) (ws.getD j .none)) _ _ _
    rw [List.getD_eq_getElem?_getD,List.getD_eq_getElem?_getD,at_ hp,at_ hq]
    exact keyLt_H g1 rfl g2 rfl hC
  · refine KasFin.intro F' N' (.head fun p hp=>Nat.ne_of_lt (hlt p hp)) fun h'' c F'' N''=>?_
    refine back h'' s.toks D _ (.list (p.toList.map fun i=>(hs.map fun p=>SV.ref p.1).getD i .none)) F'' N'' hlt (fun ρ' e1 e2=>⟨_,c,rfl,?_⟩) k h
    have key:∀ l:List Nat,All2 (VRep ρ' (st.objs.length + 1)) (l.map fun i=>(hs.map fun p=>SV.ref p.1).getD i .none) (l.map fun i=>ws.getD i .none):=fun l=>by
      induction l with
      | nil=>exact .nil
      | cons i l ih =>
        refine .cons ?_ ih
        show VRep _ _ ((hs.map fun p=>SV.ref p.1).getD i .none) (ws.getD i .none)
        rw [List.getD_eq_getElem?_getD,List.getD_eq_getElem?_getD]
        cases hi:(hs.map fun p=>SV.ref p.1)[i]? with
        | none =>
          have:ws[i]? = none:=by
            rw [List.getElem?_eq_none_iff] at hi ⊢
            rw [hlen];simpa using hi
          rw [this];rfl
        | some a =>
          obtain ⟨w,hw,rw'⟩:=rl.get hi
          rw [hw]
          exact rw'.ext e1 (Nat.le_add_right _ 1)
    exact key _
end
end Mine
end
section
open PySem PySem.W PyProof.Rows PySem.SeqAt
namespace Mine
section
variable {prog:Program} {w:World} {A:Around} {E:PySem.Value→Shared→Prop} {s:Shared}
theorem list_sort_one {a : Addr} {v : PySem.Value} {n : Nat} {P : PySem.Fin → Shared → Prop} (ho : s.heap.get? a = some (seqObj "list" [v].toArray n))
    (h:P (.done (.ret .none)) { s with heap:=sortedHeap s.heap a [v] #[v] }):wpAny (model prog w) A (Builtin.«list.sort» ⟨[.ref a],[]⟩) P E s:=by
  rw [list_sort_plain]
  have ha:a < s.heap.objs.size:=Heap.lt_size ho
  refine wpAny_bind (listItems_at ho rfl ?_)
  refine wpAny_bind (listUpdate_at ho rfl ?_)
  obtain ⟨e1, ho1⟩ : ∃ e1, (s.heap.update a (Obj.mapSeq fun _ => #[])).get? a = some (seqObj "list" #[] e1) := ⟨_, get?_update_seq ho (fun _ => #[])⟩
  refine wpAny_bind (seqEpoch_at ho1 rfl ?_)
  refine wpAny_bind (wpAny_newTuple ?_)
  refine wpAny_bind (wpAny_newList ?_)
  refine wpAny_holding ?_
  have ho6 : (((s.heap.update a (Obj.mapSeq fun _ => #[])).push (seqObj "tuple" [v].toArray 0)).push (seqObj "list" #[] 0)).get? a = some (seqObj "list" #[] e1) := by
    rw [Heap.get?_push_ne _ _ _ (by rw [size_push',Heap.size_update];exact Nat.ne_of_lt (Nat.lt_succ_of_lt ha)),Heap.get?_push_ne _ _ _ (by rw [Heap.size_update];exact Nat.ne_of_lt ha)]
    exact ho1
  show wpAny (model prog w) A _ P E { s with heap := ((s.heap.update a (Obj.mapSeq fun _ => #[])).push (seqObj "tuple" [v].toArray 0)).push (seqObj "list" #[] 0) }
  dsimp only
  have h2:[v].toArray.size < 2:=by simp
  rw [if_pos h2,if_pos h2]
  refine wpAny_bind (wpAny_pure ?_)
  rw [StateT.run_pure]
  refine wpAny_bind (wpAny_pure ?_)
  dsimp only
  refine wpAny_bind (seqEpoch_at ho6 rfl ?_)
  refine wpAny_bind (listUpdate_at ho6 rfl ?_ (hsz2:=by rw [Array.size_map];show (pairsOf [v]).size ≤ _;rw [pairsOf_size,sizeLine_eq];simp))
  simp only [bne_self_eq_false,Bool.false_eq_true,if_false]
  have e:Array.map (fun x=>x.snd) (arrOf (SortSt.mk' general' (#[v].zip #[v]) #[] 7 none)) = #[v]:=by
    show Array.map (fun x=>x.snd) (#[v].zip #[v]) = #[v]
    simp
  rw [e]
  exact wpAny_pure h
theorem sorted_one {l:Addr} {v:PySem.Value} {Q:PySem.Value→Shared→Prop} (hl:s.heap.IsList l [v].toArray) (h:Q (.ref (s.heap.objs.size + 1)) { s with heap:=sortedAll s.heap [v] #[v] }) :
    wpAny (model prog w) A (call (.builtin "sorted") [.ref l]) Q E s := by
  refine Calls.call_function_entry kind_sorted plain_sorted entry_sorted (args_sorted1 _) ?_
  unfold Builtin.«sorted»
  refine wpAny_bind (m := checkCount "sorted" 1 1 _) (wpAny_pure ?_)
  refine wpAny_bind (collect_list hl ?_)
  refine wpAny_bind (wpAny_newList ?_)
  have hsz : ((s.heap.push (seqObj "list" #[] 0)).update s.heap.objs.size (Obj.mapSeq (· ++ [v].toArray))).objs.size = s.heap.objs.size + 1 := by
    rw [Heap.size_update,size_push']
  have hoL : (((s.heap.push (seqObj "list" #[] 0)).update s.heap.objs.size (Obj.mapSeq (· ++ [v].toArray))).push (seqObj "list" [v].toArray 0)).get? (s.heap.objs.size + 1) = some (seqObj "list" [v].toArray 0) := by
    rw [← hsz];exact Heap.get?_push_size _ rfl
  show wpAny _ _ _ _ _ { s with heap := ((s.heap.push (seqObj "list" #[] 0)).update s.heap.objs.size (Obj.mapSeq (· ++ [v].toArray))).push (seqObj "list" [v].toArray 0) }
  rw [hsz]
  refine wpAny_bind (wpAny_holding (wpAny_call_entry slot_list_sort ⟨_,hoL,rfl⟩ entry_list_sort (list_sort_one hoL ⟨_,rfl,?_⟩) (args_list_sort _)))
  exact wpAny_pure ⟨_,rfl,h⟩
end
section
variable {X:Cx} {ρ:Nat→Addr} {st:St} {s:Shared} {k:SV→St→Prop}
theorem j_sort1 {i:Nat} {x:SV} (hl:isLs st i [x]) (h:k (.ref st.objs.length) (st.addObj (.list [x]))):OpJ X (fun vs=>call BI.sorted.val vs) [.ref i] st k:=by
  constructor
  intro ρ s vs R r
  obtain ⟨v,rfl,hi,rfl⟩:=all2_one r
  obtain ⟨ws,hls,rl⟩:=isLs_at R hl
  obtain ⟨v,rfl,rv⟩:=all2_one rl
  obtain ⟨e,he⟩:=sortedAll_at s.heap [v] #[v]
  exact wpR.of (sorted_one hls (new_at (o:=.list [x]) (tk:=s.toks) R (fun b o hb=>sortedAll_old hb) he (Nat.le_succ _) (fun ρ' e1 e2=>⟨[v],e,rfl,.cons (rv.ext e1 (Nat.le_add_right _ 1)) .nil⟩) h))
end
noncomputable def sortP (f:Nat→Nat→Bool):Nat→List Nat
  | 2=>if f 1 0 then [1,0] else [0,1]
  | 3=>if f 1 0 then (if f 2 1 then [2,1,0] else if f 2 0 then [1,2,0] else [1,0,2]) else (if f 2 1 then (if f 2 0 then [2,0,1] else [0,2,1]) else [0,1,2])
  | n=>List.range n
theorem runO_congr {n:Nat} {f g:Nat→Nat→Bool} (h:∀ i j,i < n→j < n→f i j = g i j):∀ t:KasT (Array Nat),runO n f t = runO n g t
  | .ret a=>rfl
  | .ask i j k=>by
    unfold runO
    by_cases hij:i < n∧j < n
    · rw [if_pos hij,if_pos hij,h i j hij.1 hij.2,runO_congr h]
    · rw [if_neg hij,if_neg hij]
noncomputable def tbl (a00 a11 a22 b c d e:Bool) (i j:Nat):Bool:=match i,j with
  | 0,0=>a00
  | 1,1=>a11
  | 2,2=>a22
  | 1,0=>b
  | 0,1=>!b
  | 2,1=>c
  | 1,2=>!c
  | 2,0=>d
  | _,_=>e
theorem tbl_eq (f:Nat→Nat→Bool) (h1:f 0 1 = !f 1 0) (h2:f 1 2 = !f 2 1):∀ i j,i < 3→j < 3→f i j = tbl (f 0 0) (f 1 1) (f 2 2) (f 1 0) (f 2 1) (f 2 0) (f 0 2) i j
  | 0,0,_,_=>rfl
  | 0,1,_,_=>h1
  | 0,2,_,_=>rfl
  | 1,0,_,_=>rfl
  | 1,1,_,_=>rfl
  | 1,2,_,_=>h2
  | 2,0,_,_=>rfl
  | 2,1,_,_=>rfl
  | 2,2,_,_=>rfl
  | _ + 3,_,h,_=>absurd h (by lia)
  | _,_ + 3,_,h=>absurd h (by lia)
theorem run_tbl:∀ a00 a11 a22 b c d e:Bool,runO 2 (tbl a00 a11 a22 b c d e) (kas_sort 2) = some (sortP (tbl a00 a11 a22 b c d e) 2).toArray∧runO 3 (tbl a00 a11 a22 b c d e) (kas_sort 3) = some (sortP (tbl a00 a11 a22 b c d e) 3).toArray:=by decide +kernel
theorem run3 (f:Nat→Nat→Bool) (h1:f 0 1 = !f 1 0) (h2:f 1 2 = !f 2 1):runO 3 f (kas_sort 3) = some (sortP f 3).toArray:=by
  rw [runO_congr (tbl_eq f h1 h2),(run_tbl _ _ _ _ _ _ _).2]
  rfl
theorem run2 (f:Nat→Nat→Bool) (h1:f 0 1 = !f 1 0):runO 2 f (kas_sort 2) = some (sortP f 2).toArray:=by
  have h:=run_tbl (f 0 0) (f 1 1) true (f 1 0) true true true
  rw [runO_congr (g:=tbl (f 0 0) (f 1 1) true (f 1 0) true true true) fun i j hi hj=>?_,h.1]
  · rfl
  · match i,j,hi,hj with
    | 0,0,_,_=>rfl
    | 0,1,_,_=>exact h1
    | 1,0,_,_=>rfl
    | 1,1,_,_=>rfl
    | _ + 2,_,h,_=>lia
    | _,_ + 2,_,h=>lia
end Mine
end
section
namespace Mine
theorem selR {T:Tab} {d:Obj→Prop} {ι:List Nat} {N:Nat} {L:List SObj} (hl:ι.length = 18) (h:pickL (kap (ι++[6]) N) L 0 (tabL T++[.raw d]) = ((tabL T).map fun o=>some (o.ren (kap ι 0)))++[some (.raw d)]) :
    selL (kap (ι++[6]) N) L (tabL T++[SObj.raw d]).length 0 (tabL T++[.raw d]):=by
  refine ⟨?_,tabR_clo T d⟩
  rw [h,List.map_append]
  congr 1
  exact List.map_congr_left fun o ho=>by rw [SObj.ren_congr (fun i hi=>(kap_app (r:=[6]) (N:=N) (by rw [hl];exact hi)).symm) (List.all_eq_true.mp (tabL_clo T) o ho)]
theorem tabF_cfg (B:Tab) (g:Option Flt):(tabF B g).bs = B.bs∧(tabF B g).ri = B.ri∧(tabF B g).bits = B.bits∧(tabF B g).lg = B.lg∧(tabF B g).ffin = B.ffin:=by
  unfold tabF;split <;> exact ⟨rfl,rfl,rfl,rfl,rfl⟩
theorem runB_next {B:Tab} {rows:List Row} {i:Nat} {r:Row} (h:rows[i]? = some r):runB B (rows.take (i + 1)) = stepB (runB B (rows.take i)) r:=by
  unfold runB
  rw [List.take_add_one,h,List.foldl_append];rfl
theorem outsB_next (B:Tab) (rows:List Row) (n:Nat):outsB B rows (n + 1) = outsB B rows n++[((runB B (rows.take n)).out.length:Int)]:=by
  unfold outsB
  rw [List.range_succ,List.map_append];rfl
@[reducible] noncomputable def objs6 (bs ri bits lg:Int) (n:Nat) (q0 q1 q2:Option Row):List SObj:=[optO 1 2 bs ri bits lg,hgtO,.tl n 3 4 5,.pt (q0.map rowP),.pt (q1.map rowP),.pt (q2.map rowP)]
@[reducible] noncomputable def loc4 (b:Nat) (ag:Bool):List (PySem.Str × SV):=[(x_again,.bool ag),(x_opts,.ref 0),(x_rows,.ref 2),(x_builder,.ref b)]
@[reducible] noncomputable def loc5 (ag:Bool):List (PySem.Str × SV):=[(x_again,.bool ag),(x_opts,.ref 0),(x_rows,.ref 2),(x_builder,.ref 10),(x_sizes,.ref 24)]
@[reducible] noncomputable def stB (T:Tab) (n:Nat) (q0 q1 q2:Option Row) (d:Obj→Prop) (o:SObj) (ss:List Int):List SObj:=preL T n q0 q1 q2 d++[o]++tabK κ8 T++[.pl (ipl ss)]
structure BOk (B:Tab) (g:Option Flt) (n:Nat):Prop where
  bits:g.isSome = true→1 ≤ B.bits∧B.bits ≤ 4
  lg:0 ≤ B.lg∧B.lg ≤ 31
  ri:1 ≤ B.ri
  F:FltI B.lg B.out.length n g
theorem clo25 (T:Tab) (n:Nat) (q0 q1 q2:Option Row) (d:Obj→Prop) (i:Nat) (l:List Int):(preL T n q0 q1 q2 d++[SObj.lit 2 i]++tabK κ8 T++[SObj.pl (ipl l)]).all (SObj.clo 25) = true:=by
  obtain ⟨bs,ri,bits,lg,out,blk,idx,flt,wait,last,ents,closed,ffin⟩:=T
  cases flt <;> cases wait <;> rfl
@[reducible] noncomputable def id25:List Nat:=[0,1,2,3,4,5,6,7,8,9,10,11,12,13,14,15,16,17,18,19,20,21,22,23,24]
theorem Ss_same {X:Cx} {l:List Stmt} {st st':St} {k:Fl→St→Prop} (e:st = st') (h:Ss X l st' k):Ss X l st k:=e ▸ h
noncomputable def forBd:List Stmt→List Stmt
  | .For _ _ b _ _ :: _=>b
  | _=>[]
theorem finOk_of {B:Tab} {g g2:Option Flt} {m:Nat} (E:EndOk B) (hm:m ≤ 3) (ok:BOk B g m) (hg2:g2.isSome = g.isSome) (hF2:FltI B.lg (tabF (withF B g) g2).out.length m g2):FinOk (tabF (withF B g) g2) m:=by
  have hcF:=tabF_cfg B none
  rw [tabF_F] at hF2 ⊢
  exact {
    cfg:=⟨fun e=>by
      show 1 ≤ (tabF B none).bits∧(tabF B none).bits ≤ 4
      rw [hcF.2.2.1];exact ok.bits (hg2.symm.trans e),by
      show 0 ≤ (tabF B none).lg∧(tabF B none).lg ≤ 31
      rw [hcF.2.2.2.1];exact ok.lg⟩
    fi:=by
      show FltI (tabF B none).lg _ _ _
      rw [hcF.2.2.2.1];exact hF2
    many:=by lia
    ol:=E.ol
    ri:=by
      show 1 ≤ (tabF B none).ri
      rw [hcF.2.1];exact ok.ri
    ffin:=by
      show (tabF B none).ffin = false
      rw [hcF.2.2.2.2];exact E.ffin
    wait:=fun p e=>by
      have:=E.wait p e
      exact ⟨this.h1,this.h2,this.last,this.suc,this.ix⟩
    idx:=E.idx
    ifin:=E.ifin
    suc:=E.suc
    il:=E.il }
inductive TableQ (B:Tab) (g:Option Flt) (n:Nat) (q0 q1 q2:Option Row) (d:Obj→Prop) (ag:Bool) (ss:List Int):St→Prop
  | mk (T':Tab) (Z:List UInt8) (mb:Blk) (c:T'.closed = true) (cfg:T'.bs = B.bs∧T'.ri = B.ri∧T'.bits = B.bits∧T'.lg = B.lg) (h:g = none→Z = []∧mb = blk0 B.ri) (l:((tabF B none).out++Z).length + (blkFin mb).length ≤ 14000) :
    TableQ B g n q0 q1 q2 d ag ss ⟨loc5 ag++[(x_table,.bytes (finB (tabF B none) Z mb))],stB T' n q0 q1 q2 d .gone ss⟩
theorem TableQ.el {B:Tab} {g:Option Flt} {n:Nat} {q0 q1 q2:Option Row} {d:Obj→Prop} {ag:Bool} {ss:List Int} {K:St→Prop} (h:∀ T' Z mb,T'.closed = true→(T'.bs = B.bs∧T'.ri = B.ri∧T'.bits = B.bits∧T'.lg = B.lg)→(g = none→Z = []∧mb = blk0 B.ri)→((tabF B none).out++Z).length + (blkFin mb).length ≤ 14000→K ⟨loc5 ag++[(x_table,.bytes (finB (tabF B none) Z mb))],stB T' n q0 q1 q2 d .gone ss⟩):∀ st,TableQ B g n q0 q1 q2 d ag ss st→K st:=fun _ q=>by cases q with | mk a b c d e f g=>exact h a b c d e f g
section
variable {V:Vs}
noncomputable def bX (V:Vs) (Z:Zs):Cx:=tX n72 sc__law_built 705 (.ref 704) 8 6 (WK V) Z
section
variable {Z:Zs} {outer:List Env} {d:Obj→Prop}
theorem built_end (O:(bX V Z).Ok) (hd:UpP d) (hA:Z.A.frames = some ((bX V Z).env :: outer)) (ho:Outs (bX V Z) outer [6]) (n:Nat) (q0 q1 q2:Option Row) (ag:Bool) (h3:n ≤ 3) (B:Tab) (g:Option Flt) (ss:List Int) (E:EndOk B) (hen:B.ents = n) (ok:BOk B g n) {P:SV→List SObj→Prop}
    (hP:∀ Y mb,(g = none→Y = []∧mb = blk0 B.ri)→((tabF B none).out++Y).length + (blkFin mb).length ≤ 14000→P (.ref 6) (objs6 B.bs B.ri B.bits B.lg n q0 q1 q2++[.tup [.bytes (finB (tabF B none) Y mb),.ref 7],.pl (ipl ss)])) :
    Ss (bX V Z) (b__law_built.drop 3) ⟨loc5 ag,stB (withF B g) n q0 q1 q2 d .gone ss⟩ (FinT 6 d P):=by
  refine Ss_cut O 1 (st1:=⟨loc5 ag,stB (withF B g) n q0 q1 q2 d .gone ss⟩) ?_ ?_
  · refine callS (args2:=[.ref 4]) ι8 (f_TB_count (withF B g)).toR O rfl rfl rfl (selL_kap rfl rfl (tabL_clo _)) rfl rfl rfl ?_
    have hxl:(([.ref 3,.ref 4,.ref 5]:List SV).take n).length = n:=by rw [List.length_take];exact Nat.min_eq_left h3
    refine j_lenLs (.inr ⟨n,3,4,5,rfl,rfl⟩) (by rw [hxl];lia) ?_
    rw [hxl]
    refine br_f ?_ ?_
    · show (!decide (B.ents = (n:Int))) = false
      rw [hen];simp
    · exact ⟨rfl,rfl⟩
  refine Ss_cons (TableQ B g n q0 q1 q2 d ag ss) (j_asMeth O rfl rfl ?_) ?_
  · refine call_ofV (args2:=[.ref 4]) ι8 (f_TB_finish (withF B g) n E.closed E.ffin ⟨ok.bits,ok.lg⟩ ok.F E.hb (fun g2 hg2 hF2=>finOk_of E h3 ok hg2 hF2)).toM O rfl rfl rfl (selG_of (selL_kap rfl rfl (tabL_clo _))) rfl rfl rfl (FinP.el fun g' Y mb T' h1 h2 hcl hcfg=>?_)
    rw [tabF_F] at h2 ⊢
    rw [lift_kap rfl (tabL_clo _)]
    exact ⟨rfl,.mk T' Y mb hcl hcfg h1 h2⟩
  clear hen E ok
  refine TableQ.el fun T' Y mb hcl hcfg hZ h2=>?_
  have p:=hP Y mb hZ h2
  rw [← hcfg.1,← hcfg.2.1,← hcfg.2.2.1,← hcfg.2.2.2] at p
  clear hP hcfg hZ h2
  refine body_ok O (n:=40) ?_
  refine j_bytesL O (l:=[1,9,0,0,0,0,0,0]) rfl (by decide) (by decide) ?_
  refine j_addB (by decide) ?_
  refine callTS (ι8++[6]) (f_refused T' _ d hd (ra_TB_closed T' _ again hcl)) O rfl rfl rfl (selR rfl rfl) rfl rfl hA rfl ho rfl (show ∀ i ∈ [18],i < 19 by decide) rfl ?_
  refine br_f rfl ?_
  exact ⟨rfl,[0,1,2,3,4,5,26,24],.ref 6,_,idB_kapn rfl,rfl,(by decide:6 ≤ 8),rfl,(show ∀ k ∈ [0,1,2,3,4,5,26,24],k ≠ 6 by decide),selG_of ⟨rfl,rfl⟩,rfl,rfl,p⟩
theorem built_chk {r:Nat→Addr} (O':((bX V Z).inner 8 r).Ok) (hd:UpP d) (hA:Z.A.frames = some ((bX V Z).env :: outer)) (ho:Outs ((bX V Z).inner 8 r) outer [6]) (n i:Nat) (q0 q1 q2:Option Row) (ag:Bool) (hi:i < n) (h3:n ≤ 3) (B:Tab) (g:Option Flt) (kv:Row) (ss:List Int)
    (href:ag = true→∃ r0,q0 = some r0∧RefOk B kv.1∧RefOk B r0.1) {k:Fl→St→Prop} (h:Ss ((bX V Z).inner 8 r) (((forBd (b__law_built.drop 2)).drop 1).drop 1) ⟨loc5 ag++[(x_key,.bytes kv.1),(x_value,.bytes kv.2)],stB (withF B g) n q0 q1 q2 d (.lit 2 (i + 1)) ss⟩ k) :
    Ss ((bX V Z).inner 8 r) ((forBd (b__law_built.drop 2)).drop 1) ⟨loc5 ag++[(x_key,.bytes kv.1),(x_value,.bytes kv.2)],stB (withF B g) n q0 q1 q2 d (.lit 2 (i + 1)) ss⟩ k:=by
  refine Ss_cut O' 1 (st1:=⟨loc5 ag++[(x_key,.bytes kv.1),(x_value,.bytes kv.2)],stB (withF B g) n q0 q1 q2 d (.lit 2 (i + 1)) ss⟩) ?_ h
  clear h
  cases ag with
  | false =>
    refine br_f rfl ?_
    refine br_f rfl ?_
    exact ⟨rfl,rfl⟩
  | true =>
    obtain ⟨r0,hq0,rf1,rf2⟩:=href rfl
    subst hq0
    clear href
    refine br_t rfl ?_
    refine callTS (ι8++[6]) (f_refused (withF B g) kv.1 d hd (ra_ref B g kv.1 rf1)) O' rfl rfl rfl (selR rfl rfl) rfl rfl hA rfl ho rfl (show ∀ i ∈ [18],i < 19 by decide) rfl ?_
    refine br_t rfl ?_
    refine j_itemLs (.inr ⟨n,3,4,5,rfl,rfl⟩) (by decide) (show (([.ref 3,.ref 4,.ref 5]:List SV).take n)[0]? = some (.ref 3) by rw [List.getElem?_take_of_lt (by lia)];rfl) (by rw [List.length_take];lia) ?_
    refine j_itemTp (xs:=(rowP r0).map PV.sv) (x:=.bytes r0.1) (.inr ⟨rowP r0,rfl,rfl⟩) (by decide) rfl (by show 2 ≤ 1000000;decide) ?_
    refine callTS (ι8++[6]) (f_refused (withF B g) r0.1 d hd (ra_ref B g r0.1 rf2)) O' rfl rfl rfl (selR rfl rfl) rfl rfl hA rfl ho rfl (show ∀ i ∈ [18],i < 19 by decide) rfl ?_
    refine br_t rfl ?_
    refine br_f rfl ?_
    refine br_f rfl ?_
    exact ⟨rfl,rfl⟩
theorem built_size {r:Nat→Addr} (O':((bX V Z).inner 8 r).Ok) (n i:Nat) (q0 q1 q2:Option Row) (ag:Bool) (B:Tab) (g:Option Flt) (kv:Row) (ss:List Int) (hol:B.out.length ≤ 100000) (hsl:ss.length ≤ 100) {J:St→Prop} {k:Fl→St→Prop}
    (h:J ⟨loc5 ag,stB (withF B g) n q0 q1 q2 d (.lit 2 (i + 1)) (ss++[(B.out.length:Int)])⟩) :
    Ss ((bX V Z).inner 8 r) (((forBd (b__law_built.drop 2)).drop 1).drop 1) ⟨loc5 ag++[(x_key,.bytes kv.1),(x_value,.bytes kv.2)],stB (withF B g) n q0 q1 q2 d (.lit 2 (i + 1)) ss⟩ (ForK 8 J k):=by
  refine body_ok O' (n:=40) ?_
  refine callS (args2:=[.ref 4]) ι8 (f_TB_size (withF B g) hol).toR O' rfl rfl rfl (selL_kap rfl rfl (tabL_clo _)) rfl rfl rfl ?_
  refine OpS.of ?_
  refine j_lsAppendP (x:=.int _) rfl (by rw [ipl,List.length_map];lia) ?_
  rw [ipl_snoc]
  refine forK_last ?_
  have hs:=sel_id (objs:=stB (withF B g) n q0 q1 q2 d (.lit 2 (i + 1)) (ss++[(B.out.length:Int)])) (rest:=[]) (κ:=kap id25 0) (idB_kapn (n:=25) (m:=0) (ι:=id25) rfl) (clo25 (withF B g) n q0 q1 q2 d (i + 1) (ss++[(B.out.length:Int)]))
  rw [List.append_nil] at hs
  refine into_of id25 _ rfl rfl rfl (selG_of ?_) ⟨rfl,rfl⟩ h
  exact hs
inductive AddedQ (B:Tab) (g:Option Flt) (n i:Nat) (q0 q1 q2:Option Row) (d:Obj→Prop) (ag:Bool) (kv:Row) (ss:List Int):St→Prop
  | mk (g2:Option Flt) (h:g2.isSome = g.isSome) (F:FltI B.lg (stepB B kv).out.length (i + 1) g2):AddedQ B g n i q0 q1 q2 d ag kv ss ⟨loc5 ag++[(x_key,.bytes kv.1),(x_value,.bytes kv.2)],stB (withF (stepB B kv) g2) n q0 q1 q2 d (.lit 2 (i + 1)) ss⟩
theorem AddedQ.el {B:Tab} {g:Option Flt} {n i:Nat} {q0 q1 q2:Option Row} {d:Obj→Prop} {ag:Bool} {kv:Row} {ss:List Int} {K:St→Prop} (h:∀ g2,g2.isSome = g.isSome→FltI B.lg (stepB B kv).out.length (i + 1) g2→K ⟨loc5 ag++[(x_key,.bytes kv.1),(x_value,.bytes kv.2)],stB (withF (stepB B kv) g2) n q0 q1 q2 d (.lit 2 (i + 1)) ss⟩):∀ st,AddedQ B g n i q0 q1 q2 d ag kv ss st→K st:=fun _ q=>by cases q with | mk a b c=>exact h a b c
theorem built_add {r:Nat→Addr} (O':((bX V Z).inner 8 r).Ok) (n i:Nat) (q0 q1 q2:Option Row) (ag:Bool) (hi:i ≤ 2) (B:Tab) (g:Option Flt) (kv:Row) (ss:List Int) (ok:BOk B g i) (hadd:AddOk B kv.1 kv.2) {k:Fl→St→Prop}
    (h:∀ st,AddedQ B g n i q0 q1 q2 d ag kv ss st→Ss ((bX V Z).inner 8 r) ((forBd (b__law_built.drop 2)).drop 1) st k) :
    Ss ((bX V Z).inner 8 r) (forBd (b__law_built.drop 2)) ⟨loc5 ag++[(x_key,.bytes kv.1),(x_value,.bytes kv.2)],stB (withF B g) n q0 q1 q2 d (.lit 2 (i + 1)) ss⟩ k:=by
  refine Ss_cutP O' 1 (AddedQ B g n i q0 q1 q2 d ag kv ss) ?_ h
  clear h
  refine call_ofM (args2:=[.ref 4,.bytes kv.1,.bytes kv.2]) ι8 (f_TB_add (withF B g) kv.1 kv.2 i ⟨ok.bits,ok.lg⟩ ok.F (by lia) hadd.closed hadd.ffin hadd.hk hadd.hv (fun p e=>by obtain ⟨a,b,c,d,e,f,g,h⟩:=hadd.hw p e;exact ⟨a,b,c,d,e,f,g,h⟩) hadd.hb hadd.hbf hadd.hbo hadd.hb2 hadd.hbe hadd.hl).toM O' rfl rfl rfl (selG_of (selL_kap rfl rfl (tabL_clo _))) rfl rfl rfl (AddP.el fun g2 hg2 hF2=>?_)
  rw [tabAdd_F] at hF2 ⊢
  rw [lift_kap rfl (tabL_clo _)]
  exact ⟨rfl,.mk g2 hg2 hF2⟩
end
inductive TurnJ (B0:Tab) (n:Nat) (q0 q1 q2:Option Row) (rows:List Row) (ag:Bool) (d:Obj→Prop) (i:Nat):St→Prop
  | mk (g:Option Flt) (h:g.isSome = decide (0 < B0.bits)) (F:FltI B0.lg (runB B0 (rows.take i)).out.length i g):TurnJ B0 n q0 q1 q2 rows ag d i ⟨loc5 ag,stB (withF (runB B0 (rows.take i)) g) n q0 q1 q2 d (.lit 2 i) (outsB B0 rows (i + 1))⟩
theorem TurnJ.el {B0:Tab} {n:Nat} {q0 q1 q2:Option Row} {rows:List Row} {ag:Bool} {d:Obj→Prop} {i:Nat} {K:St→Prop} (h:∀ g,g.isSome = decide (0 < B0.bits)→FltI B0.lg (runB B0 (rows.take i)).out.length i g→K ⟨loc5 ag,stB (withF (runB B0 (rows.take i)) g) n q0 q1 q2 d (.lit 2 i) (outsB B0 rows (i + 1))⟩):∀ st,TurnJ B0 n q0 q1 q2 rows ag d i st→K st:=fun _ q=>by cases q with | mk a b c=>exact h a b c
theorem bok_of {bs ri bits lg:Int} (hc:Cfg bs ri bits lg) (rows:List Row) {g:Option Flt} {n:Nat} (hg:g.isSome = decide (0 < bits)) (hF:FltI lg (runB (tab0 bs ri bits lg none) rows).out.length n g):BOk (runB (tab0 bs ri bits lg none) rows) g n:=by
  have hcf:=runB_cfg (tab0 bs ri bits lg none) rows
  refine ⟨fun e=>?_,by rw [hcf.2.2.2];exact hc.lg,by rw [hcf.2.1];exact hc.ri,by rw [hcf.2.2.2];exact hF⟩
  rw [hg] at e
  rw [hcf.2.2.1]
  exact ⟨of_decide_eq_true e,hc.bits.2⟩
inductive NewQ (B0:Tab) (n:Nat) (q0 q1 q2:Option Row) (d:Obj→Prop) (ag:Bool):St→Prop
  | mk (g:Option Flt) (h:g.isSome = decide (0 < B0.bits)) (F:FltI B0.lg 0 0 g):NewQ B0 n q0 q1 q2 d ag ⟨loc4 9 ag,preL (withF B0 g) n q0 q1 q2 d++tabK κ7 (withF B0 g)⟩
theorem NewQ.el {B0:Tab} {n:Nat} {q0 q1 q2:Option Row} {d:Obj→Prop} {ag:Bool} {K:St→Prop} (h:∀ g,g.isSome = decide (0 < B0.bits)→FltI B0.lg 0 0 g→K ⟨loc4 9 ag,preL (withF B0 g) n q0 q1 q2 d++tabK κ7 (withF B0 g)⟩):∀ st,NewQ B0 n q0 q1 q2 d ag st→K st:=fun _ q=>by cases q with | mk a b c=>exact h a b c
theorem f_built (bs ri bits lg:Int) (n:Nat) (q0 q1 q2:Option Row) (rows:List Row) (ag:Bool) (hn:rows.length = n) (h3:n ≤ 3) (hq:∀ (i:Nat) (kv:Row),rows[i]? = some kv→[q0,q1,q2][i]? = some (some kv))
    (hc:Cfg bs ri bits lg) (hp:Plan (tab0 bs ri bits lg none) rows ag) :
    FnT (WK V) 9 705 [.ref 2,.ref 0,.bool ag] (objs6 bs ri bits lg n q0 q1 q2) [] (BuiltP (tab0 bs ri bits lg none) rows (objs6 bs ri bits lg n q0 q1 q2)):=by
  refine enterT [x_rows,x_opts,x_again] (WK_holds ..) (lk__law_built _) (cd__law_built _) (fun _ _ _=>rfl) rfl (by decide +kernel) (by decide +kernel) rfl rfl rfl (fun outer d Z hd O hA ho=>?_)
  refine Ss_cutP O 1 (NewQ (tab0 bs ri bits lg none) n q0 q1 q2 d ag) ?_ ?_
  · clear hq hp hn
    refine call_of (args2:=[]) (objs2:=[]) [] mk_Order.toR O rfl rfl rfl ⟨rfl,rfl⟩ rfl rfl ?_
    by_cases hb:bits = 0
    · subst hb
      refine call_ofP (args2:=[.ref 0,.ref 2]) [0,1,7,8] (mk_TB0 bs ri lg hc.ri).toR O rfl rfl rfl ⟨rfl,rfl⟩ rfl rfl fun r o q=>?_
      obtain ⟨rfl,g,hg,hF,rfl⟩:=q
      cases g with
      | some _=>cases hg
      | none=>exact ⟨rfl,none,rfl,hF⟩
    · have h1:1 ≤ bits:=by have:=hc.bits;lia
      refine call_ofP (args2:=[.ref 0,.ref 2]) [0,1,7,8] (mk_TB1 bs ri bits lg hc.ri h1 hc.bits.2 hc.lg.1 hc.lg.2).toR O rfl rfl rfl ⟨rfl,rfl⟩ rfl rfl fun r o q=>?_
      obtain ⟨rfl,g,hg,hF,rfl⟩:=q
      cases g with
      | none=>cases hg
      | some f=>exact ⟨rfl,some f,(decide_eq_true (by show 0 < bits;lia)).symm,hF⟩
  refine NewQ.el fun g0 hg0 hF0=>?_
  refine Ss_cut O 1 (st1:=⟨loc4 9 ag++[(x_sizes,.ref 23)],preL (withF (tab0 bs ri bits lg none) g0) n q0 q1 q2 d++tabK κ7 (withF (tab0 bs ri bits lg none) g0)++[.pl (ipl [0])]⟩) ?_ ?_
  · refine callS (args2:=[.ref 4]) ι7 (f_TB_size (withF (tab0 bs ri bits lg none) g0) (Nat.zero_le _)).toR O rfl rfl rfl (selL_kap rfl rfl (tabL_clo _)) rfl rfl rfl ?_
    exact ⟨rfl,rfl⟩
  have hxl:(([.ref 3,.ref 4,.ref 5]:List SV).take n).length = n:=by rw [List.length_take];exact Nat.min_eq_left h3
  refine Ss_cons' (j_forG O (([.ref 3,.ref 4,.ref 5]:List SV).take n) (fun i=>.lit 2 i) (fun st=>isLs st 2 (([.ref 3,.ref 4,.ref 5]:List SV).take n)) (srcL 2 _) (TurnJ (tab0 bs ri bits lg none) n q0 q1 q2 rows ag d) ?_ ?_ ?_ fun _=>rfl)
  · refine wpE_ok O 40 _ _ _ ?_
    clear hp hq hn hxl
    refine ⟨.lit 2 0,[0,1,2,3,4,5,6,24,7,8,9,10,11,12,13,14,15,16,17,18,19,20,21,22,23],_,srcOfL (.inr ⟨n,3,4,5,rfl,rfl⟩),?_,rfl,g0,hg0,hF0⟩
    clear hg0 hF0
    cases g0 <;> exact resel_of _ rfl rfl rfl ⟨rfl,rfl⟩ ⟨rfl,rfl⟩
  · refine fun i=>TurnJ.el fun g _ _=>?_
    exact ⟨rfl,.inr ⟨n,3,4,5,rfl,rfl⟩⟩
  · clear hg0 hF0
    rintro r i _ hr ⟨g,hg,hF⟩ hi
    rw [hxl] at hi
    cases hx:(([.ref 3,.ref 4,.ref 5]:List SV).take n)[i]? with
    | none =>
      refine forE hx ?_
      obtain rfl:i = n:=by
        have:=List.getElem?_eq_none_iff.mp hx
        rw [hxl] at this;lia
      have htk:rows.take i = rows:=List.take_of_length_le (by lia)
      rw [htk] at hF ⊢
      refine built_end O hd hA ho i q0 q1 q2 ag h3 _ g _ hp.fin (by rw [hp.ents,hn]) (bok_of hc rows hg hF) fun Y mb h1 h2=>?_
      have hcf:=runB_cfg (tab0 bs ri bits lg none) rows
      rw [hcf.1,hcf.2.1,hcf.2.2.1,hcf.2.2.2,← hn]
      refine ⟨rfl,Y,mb,fun e=>?_,h2,rfl⟩
      have q:=h1 (by
        cases g with
        | none=>rfl
        | some _=>rw [show bits = 0 from e] at hg;cases hg)
      rw [hcf.2.1] at q
      exact q
    | some x =>
      refine forI hx ?_
      have hlt:i < n:=by have:=lt_of_some hx;rwa [hxl] at this
      obtain ⟨kv,hkv⟩:∃ kv,rows[i]? = some kv:=⟨_,List.getElem?_eq_getElem (by rw [hn];exact hlt)⟩
      have hnx:=runB_next (B:=tab0 bs ri bits lg none) hkv
      have O':=O.inner (Nat.le_succ _) r
      obtain ⟨j,rfl,hj⟩:∃ j,x = .ref j∧∀ (T:Tab) (ss:List Int),(stB T n q0 q1 q2 d (.lit 2 (i + 1)) ss)[j]? = some (.pt (some (rowP kv))):=by
        rw [List.getElem?_take_of_lt hlt] at hx
        have hqi:=hq i kv hkv
        obtain rfl | rfl | rfl:i = 0 ∨ i = 1 ∨ i = 2:=by lia
        all_goals (cases hx;cases hqi;exact ⟨_,rfl,fun _ _=>rfl⟩)
      refine AsJ_pair O' (va:=.bytes kv.1) (vb:=.bytes kv.2) (.inr ⟨rowP kv,hj _ _,rfl⟩) ?_
      refine built_add O' n i q0 q1 q2 ag (by lia) (runB (tab0 bs ri bits lg none) (rows.take i)) g kv (outsB (tab0 bs ri bits lg none) rows (i + 1)) (bok_of hc _ hg hF) (hp.add i kv hkv) (AddedQ.el fun g2 hg2 hF2=>?_)
      have hcf:=runB_cfg (tab0 bs ri bits lg none) (rows.take i)
      rw [hcf.2.2.2] at hF2
      have href:=hp.ref
      have hol:=hp.ol (i + 1) (by rw [hn];exact hlt)
      rw [hnx] at hol
      refine built_chk O' hd hA (ho.mono fun env i h=>⟨h.1,h.2.1.trans (congrArg some (hr _ h.2.2).symm),Nat.lt_succ_of_lt h.2.2⟩) n i q0 q1 q2 ag hlt h3 _ g2 kv _ (fun e=>?_) ?_
      · obtain ⟨r0,hr0⟩:∃ r0,rows[0]? = some r0:=⟨_,List.getElem?_eq_getElem (by rw [hn];lia)⟩
        have:=href e i kv r0 hkv hr0
        rw [hnx] at this
        exact ⟨r0,Option.some.inj (hq 0 r0 hr0),this⟩
      refine built_size O' n i q0 q1 q2 ag _ g2 kv _ hol (by simp [outsB];lia) ?_
      have J:=TurnJ.mk (B0:=tab0 bs ri bits lg none) (n:=n) (q0:=q0) (q1:=q1) (q2:=q2) (rows:=rows) (ag:=ag) (d:=d) (i:=i + 1) g2 (hg2.trans hg) (by rw [hnx];exact hF2)
      rw [outsB_next,hnx] at J
      exact J
end
end Mine
end
section
open PySem PySem.W PyProof.Rows PySem.SeqAt
namespace Mine
noncomputable def eqO (o x:Obj):Prop:=x = o
theorem ints_all2 {ρ:Nat→Addr} {n:Nat}:∀ {l:List Int} {vs:List PySem.Value},IntsAre vs l→All2 (VRep ρ n) ((ipl l).map PV.sv) vs
  | [],_,h=>by cases h;exact .nil
  | i :: l,_,h=>by
    cases h with
    | cons _ t h=>exact .cons ⟨t,rfl⟩ (ints_all2 h)
theorem sl_raw {X : Cx} {st : St} {k : SV → St → Prop} {v : Expr} {lo hi : Option Expr} {sp : Pos} {i : Nat} {l u : SV} {ob : Obj} {vs : List PySem.Value} {kk : Nat} {ns : List Int} {lo' hi' : Option Int} (ho : st.objs[i]? = some (.raw (eqO ob))) (h1 : ob.cls = .type "list") (h2 : ob.data = .seq vs.toArray kk) (h3 : IntsAre vs ns)
    (el:partS l = some lo') (eu:partS u = some hi') (hz:ns.length ≤ 1000000) (h:k (.ref st.objs.length) (st.addObj (.pl (ipl (cut ns lo' hi'))))):SlJ X v lo hi sp (.ref i) l u st k:=by
  constructor
  intro ρ s vo vl vu R ro rl ru
  obtain ⟨hi2,rfl⟩:=ro
  obtain ⟨o,hg,rfl⟩:=raw_at R ho
  have hlen:=h3.length
  have hls:s.heap.IsList (ρ i) vs.toArray:=⟨_,hg,h1,kk,h2⟩
  have hl : (s.heap.push { cls := .type "slice", data := .fields #[vl, vu, .none] }).IsList (ρ i) vs.toArray := hls.push _
  refine wpR.of (PyProof.Rows.tail_any (Heap.IsList.typeIs (s := { s with heap := s.heap.push { cls := .type "slice", data := .fields #[vl, vu, .none] } }) hl) list_getitem_lookup (wpAny_getItem_list_slice hl (Heap.IsSliceOf.new ..) (part_of rl el) (part_of ru eu) .none (by simp) ?_ (by rw [List.size_toArray, sizeLine_eq]; lia)) rfl)
  rw [slicePick_cut]
  refine new_end (o:=.pl (ipl (cut ns lo' hi'))) (tk:=s.toks) (R.push _) rfl (fun ρ' e1 e2=>⟨_,0,rfl,?_⟩) h
  have:=all2_cut (ints_all2 (ρ:=ρ') (n:=st.objs.length + 1) h3) lo' hi'
  rw [map_cut] at this
  unfold ipl at this ⊢
  rw [map_cut] at this
  exact this
noncomputable def numsRaw (ns:List Int):List Int:=(ns.take 6).map fun x=>x.fmod 999983
noncomputable def numsOf (ns:List Int):List Int:=if numsRaw ns = [] then [7] else numsRaw ns
theorem numsOf_ok (ns:List Int):0 < (numsOf ns).length∧(numsOf ns).length ≤ 6∧∀ x ∈ numsOf ns,0 ≤ x∧x < 999983:=by
  unfold numsOf
  split
  · exact ⟨by decide,by decide,fun x hx=>by rw [List.mem_singleton.mp hx];decide⟩
  · rename_i h
    refine ⟨List.length_pos_iff.mpr h,by rw [numsRaw,List.length_map,List.length_take];lia,fun x hx=>?_⟩
    obtain ⟨y,_,rfl⟩:=List.mem_map.mp hx
    rw [Int.fmod_eq_emod_of_nonneg _ (by decide)]
    exact ⟨Int.emod_nonneg _ (by decide),Int.emod_lt_of_pos _ (by decide)⟩
theorem draw_ok (ns:List Int) (i:Nat) (hi:i ≤ 10):0 ≤ draw (numsOf ns) i∧draw (numsOf ns) i ≤ 1000400:=by
  obtain ⟨h1,h2,h3⟩:=numsOf_ok ns
  have hlt:i % (numsOf ns).length < (numsOf ns).length:=Nat.mod_lt _ h1
  have hd:i / (numsOf ns).length ≤ i:=Nat.div_le_self _ _
  have:=h3 _ (List.getElem_mem hlt)
  unfold draw
  generalize i / (numsOf ns).length = d at *
  rw [List.getD_eq_getElem?_getD,List.getElem?_eq_getElem hlt,Option.getD_some]
  exact draw_ar hi hd this
noncomputable def mkHd (x:Int) (i:Nat):Hd:=⟨users.getD (x.fmod 6).toNat [],0 - 1 - (x.fdiv 6).fmod 3,0 - (x.fdiv 18).fmod 2,rowB (List.replicate ((x.fdiv 36).fmod 4).toNat (65 + (i:Int)))⟩
noncomputable def hdsOf (l:List Int):Nat→List Hd
  | 0=>[]
  | i + 1=>if (hdsOf l i).any fun p=>eq3 p (mkHd (draw l (1 + i)) i) then hdsOf l i else hdsOf l i++[mkHd (draw l (1 + i)) i]
theorem hdsOf_len (l:List Int):∀ i,(hdsOf l i).length ≤ i
  | 0=>Nat.le_refl 0
  | i + 1=>by
    have:=hdsOf_len l i
    unfold hdsOf
    split
    · lia
    · rw [List.length_append];simp;lia
noncomputable def lsO (h:Nat):Nat→SObj
  | 0=>.pl []
  | 1=>.list [.ref h]
  | 2=>.list [.ref h,.ref (h + 1)]
  | _=>.list [.ref h,.ref (h + 1),.ref (h + 2)]
noncomputable def tO:Option Hd→SObj
  | none=>.gone
  | some x=>.tup (x.p4.map PV.sv)
@[reducible] noncomputable def scN : Scope := { kind := .function, names := [(".0", .local), ("x", .local)], isGenerator := false, isCoroutine := false }
section
variable {V:Vs}
noncomputable def lX (V:Vs) (Z:Zs):Cx:=cX n74 sc_law 717 (.ref 716) 9 1 x_cut x_sizes (WK V) Z
theorem law_1 {Z : Zs} (O : (lX V Z).Ok) (ns : List Int) (hz : ns.length ≤ 1000) {ob : Obj} {vs : List PySem.Value} {kk : Nat} (ho1 : ob.cls = .type "list") (ho2 : ob.data = .seq vs.toArray kk) (ho3 : IntsAre vs ns) {k : Fl → St → Prop}
    (h:Ss (lX V Z) (b_law.drop 4) ⟨[(x_script,.ref 0),(x_nums,.ref 3),(x_setup,.int (draw (numsOf ns) 0)),(x_heads,.ref 4)],[.raw (eqO ob),.cell none,.cell none,.pl (ipl (numsOf ns)),.pl []]⟩ k) :
    Ss (lX V Z) b_law ⟨[(x_script,.ref 0)],[.raw (eqO ob),.cell none,.cell none]⟩ k:=by
  refine Ss_consI (fun st=>st = ⟨[(x_script,.ref 0),(x_nums,.ref 3)],[.raw (eqO ob),.cell none,.cell none,.pl (ipl (numsRaw ns))]⟩) (j_asComp O scN [] rfl rfl rfl (show ∀ q ∈ ([]:List (PySem.Str × Nat)),q.2 < 3 by decide) (by decide) rfl (by decide) rfl (fun _=>rfl) rfl ?_) ?_
  · refine j_sliceO O ?_
    refine sl_raw (lo':=none) (hi':=some 6) rfl ho1 ho2 ho3 rfl rfl (by lia) ?_
    rw [show cut ns none (some 6) = ns.take 6 by rw [show (6:Int) = ((6:Nat):Int) from rfl,cut_take]]
    have hl7:(ns.take 6).length ≤ 6:=by rw [List.length_take];lia
    unfold numsRaw
    generalize ns.take 6 = l at *
    refine ⟨(ipl l).map PV.sv,fun i=>.lit 3 i,fun st=>isLs st 3 ((ipl l).map PV.sv),fun i objs=>objs = [.raw (eqO ob),.cell none,.cell none,.pl (ipl l),.lit 3 i,.pl (ipl ((l.take i).map fun x=>x.fmod 999983))],srcL 3 _,srcOfL (h:=3) (xs:=(ipl l).map PV.sv) (.inl (.inr ⟨ipl l,?_,rfl⟩)),by rw [List.length_map,ipl,List.length_map];lia,?_,?_,?_,?_⟩
    · rfl
    · rfl
    · rintro i objs rfl;exact ⟨rfl,.inl (.inr ⟨_,rfl,rfl⟩)⟩
    · rintro g' C' r' i objs v O2 rfl hv
      obtain ⟨x,hx,rfl⟩:∃ x,l[i]? = some x∧v = .int x:=by
        rw [ipl,List.map_map,List.getElem?_map] at hv
        cases q:l[i]? with
        | none=>rw [q] at hv;cases hv
        | some x=>rw [q] at hv;cases hv;exact ⟨x,rfl,rfl⟩
      refine ⟨fun _=>?_,fun e=>by cases e⟩
      refine ⟨by decide,?_⟩
      refine j_lsAppendP (x:=.int _) rfl (by rw [ipl,List.length_map,List.length_map,List.length_take];lia) ?_
      refine .inl ?_
      show _ = _
      have e:ipl ((l.take (i + 1)).map fun x=>x.fmod 999983) = ipl ((l.take i).map fun x=>x.fmod 999983)++[PV.int (x.fmod 999983)]:=by
        rw [List.take_add_one,hx,Option.toList_some,List.map_append]
        exact (ipl_snoc _ _).symm
      rw [e]
      rfl
    · rintro objs rfl
      have e:l.take ((ipl l).map PV.sv).length = l:=List.take_of_length_le (by rw [List.length_map,ipl,List.length_map];exact Nat.le_refl _)
      rw [e]
      exact ⟨rfl,into_of [0,1,2,5] ⟨[(x_script,.ref 0),(x_nums,.ref 3)],[.raw (eqO ob),.cell none,.cell none,.pl (ipl (l.map fun x=>x.fmod 999983))]⟩ rfl rfl rfl (selG_of ⟨rfl,rfl⟩) ⟨rfl,rfl⟩ rfl⟩
  rintro _ rfl
  refine Ss_cutI O 1 (fun st=>st = ⟨[(x_script,.ref 0),(x_nums,.ref 3)],[.raw (eqO ob),.cell none,.cell none,.pl (ipl (numsOf ns))]⟩) ?_ ?_
  · have hl:(ipl (numsRaw ns)).length ≤ 1000000:=by rw [ipl,List.length_map,numsRaw,List.length_map,List.length_take];lia
    refine j_lenP rfl hl ?_
    by_cases e:numsRaw ns = []
    · refine br_t (by rw [e];rfl) ?_
      refine ⟨rfl,into_of [0,1,2,4] ⟨[(x_script,.ref 0),(x_nums,.ref 3)],[.raw (eqO ob),.cell none,.cell none,.pl (ipl [7])]⟩ rfl rfl rfl (selG_of ⟨rfl,rfl⟩) ⟨rfl,rfl⟩ ?_⟩
      unfold numsOf;rw [if_pos e]
    · have h0:(((ipl (numsRaw ns)).length:Int) == 0) = false:=by
        rw [beq_eq_false_iff_ne,ipl,List.length_map]
        have:=List.length_pos_iff.mpr e
        lia
      refine br_f h0 ?_
      refine ⟨rfl,.inl ?_⟩
      show _ = _
      unfold numsOf;rw [if_neg e]
  rintro _ rfl
  obtain ⟨n1,n2,n3⟩:=numsOf_ok ns
  refine Ss_cut O 2 (st1:=⟨[(x_script,.ref 0),(x_nums,.ref 3),(x_setup,.int (draw (numsOf ns) 0)),(x_heads,.ref 4)],[.raw (eqO ob),.cell none,.cell none,.pl (ipl (numsOf ns)),.pl []]⟩) ?_ h
  refine callS (args2:=[.ref 0,.int (0:Nat)]) [3] (f_draw (numsOf ns) 0 n1 n2 (by decide)).toR O rfl rfl rfl ⟨rfl,rfl⟩ rfl rfl rfl ?_
  exact ⟨rfl,rfl⟩
end
end Mine
end
section
open PySem PySem.W PyProof.Rows PySem.SeqAt
namespace Mine
noncomputable def evE (X:Cx) (e:Expr) (st:St) (k:SV→St→Prop):Prop:=Ev X (eval e X.env) st k
noncomputable def kAsTup (X:Cx) (y:PySem.Str) (k:Fl→St→Prop):List SV→St→Prop:=fun svs st=>svs.length ≤ 1000∧storeK X y (.ref st.objs.length) (st.addObj (.tup svs)) (kNx k)
theorem j_asTup {X:Cx} (O:X.Ok) {y:PySem.Str} {py p q:Pos} {es:List Expr} {a:Nat} {st:St} {k:Fl→St→Prop} (h1:es.all notStar = true)
    (h:evs (evE X) es st (kAsTup X y k)):ExJ X (.Assign [.Name y py] (.Tuple es a p) q) st k:=by
  refine ⟨fun ρ s R=>r_AsName ?_ (swaps_of rfl)⟩
  refine r_Tuple (wpR_mono (evs_ok O (fun _ _ _ h=>h) h1 h R) (fun vs s1 q=>?_) fun _ _ x=>x)
  obtain ⟨ρ1,svs,st1,x,l,R1,r1,hz,k1⟩:=q
  have hz2:vs.length ≤ 1000:=by rw [← r1.length];exact hz
  refine wpR.of (wpAny_newObj_type ?_ (by show vs.toArray.size ≤ sizeLine;rw [List.size_toArray,sizeLine_eq];lia))
  obtain ⟨ρ2,sv,st2,x2,l2,R2,r2,k2⟩:=new_ok (k:=kAs X y (kNx k)) (.inl ⟨rfl,rfl⟩) R1 r1 k1
  exact wpR_mono (storeK_ok O k2 R2 r2) (fun _ s3 q=>by obtain ⟨st3,R3,k3⟩:=q;exact ⟨ρ2,.next,st3,R3,rfl,k3⟩) fun _ _ x=>x
@[reducible] noncomputable def scO : Scope := { kind := .function, names := [(".0", .local), ("one", .local)], isGenerator := false, isCoroutine := false }
noncomputable def HeadJ (ob:Obj) (N:List Int) (su:Int) (i:Nat) (st:St):Prop:=∃ hs,hs = hdsOf N i∧st = ⟨[(x_script,.ref 0),(x_nums,.ref 4),(x_setup,.int su),(x_heads,.ref 5)],[.raw (eqO ob),.cell none,.cell none,.raw (ritP (0 + (i:Nat)) (((3:Nat):Int) - (i:Nat))),.pl (ipl N),lsO 6 hs.length,tO hs[0]?,tO hs[1]?,tO hs[2]?]⟩
noncomputable def forB:List Stmt→List Stmt
  | .For _ _ b _ _ :: _=>b
  | _=>[]
section
variable {V:Vs}
theorem ipl_rep (n:Nat) (c:Int):ipl (List.replicate n c) = List.replicate n (PV.int c):=by rw [ipl,List.map_replicate]
theorem one_i (i:Nat):(1:Int) + (0 + (i:Int)) = ((1 + i:Nat):Int):=by lia
inductive HF (x:Int) (i:Nat) (hd:Hd):Prop
  | mk (hx1:0 ≤ x.fmod 6) (hx2:(bpl users)[(x.fmod 6).toNat]? = some (.bytes (users.getD (x.fmod 6).toNat []))) (hk0:0 ≤ (x.fdiv 36).fmod 4) (hk1:(x.fdiv 36).fmod 4 ≤ 200)
    (hv0:hd.v = rowB (List.replicate ((x.fdiv 36).fmod 4).toNat (65 + (0 + (i:Int))))) (hp3:hd.p3 = [.bytes (users.getD (x.fmod 6).toNat []),.int (0 - 1 - (x.fdiv 6).fmod 3),.int (0 - (x.fdiv 18).fmod 2)])
    (hby:∀ c ∈ List.replicate ((x.fdiv 36).fmod 4).toNat (65 + (0 + (i:Int))),0 ≤ c∧c < 256) (hrl:(List.replicate ((x.fdiv 36).fmod 4).toNat (65 + (0 + (i:Int)))).length ≤ 1000000)
theorem HF.of {x:Int} (i:Nat) {hd:Hd} (hlt:i < 3) (hxx:0 ≤ x∧x ≤ 1000400) (hhd:mkHd x i = hd):HF x i hd:=by
  have hx1:0 ≤ x.fmod 6:=Int.fmod_nonneg_of_pos x (by decide)
  have hx2:(bpl users)[(x.fmod 6).toNat]? = some (.bytes (users.getD (x.fmod 6).toNat [])):=by
    have hl:(x.fmod 6).toNat < users.length:=(Int.toNat_lt hx1).mpr (Int.fmod_lt_of_pos x (by decide))
    rw [bpl,List.getElem?_map,List.getD_eq_getElem?_getD,List.getElem?_eq_getElem hl];rfl
  have hk0:0 ≤ (x.fdiv 36).fmod 4:=Int.fmod_nonneg_of_pos _ (by decide)
  have hk1:(x.fdiv 36).fmod 4 < 4:=Int.fmod_lt_of_pos _ (by decide)
  have hv0:hd.v = rowB (List.replicate ((x.fdiv 36).fmod 4).toNat (65 + (0 + (i:Int)))):=by rw [← hhd,Int.zero_add];rfl
  have hp3:hd.p3 = [.bytes (users.getD (x.fmod 6).toNat []),.int (0 - 1 - (x.fdiv 6).fmod 3),.int (0 - (x.fdiv 18).fmod 2)]:=by rw [← hhd];rfl
  exact ⟨hx1,hx2,hk0,Int.le_trans (Int.le_of_lt hk1) (by decide),hv0,hp3,fun c hc=>by rw [List.eq_of_mem_replicate hc];lia,by rw [List.length_replicate];lia⟩
theorem turn0 {Z:Zs} {r:Nat→Addr} (O':((lX V Z).inner 4 r).Ok) (ob:Obj) (N:List Int) (su:Int) (i:Nat) (k:Fl→St→Prop) (hlt:i < 3) (n1:0 < N.length) (n2:N.length ≤ 6) (x:Int) (hx:draw N (1 + i) = x) (hxx:0 ≤ x∧x ≤ 1000400) (hd:Hd) (hhd:mkHd x i = hd)
    (hstep:hdsOf N (i + 1) = if ([]:List Hd).any fun p=>eq3 p hd then [] else []++[hd]) :
    Ss ((lX V Z).inner 4 r) (forB (b_law.drop 4)) ⟨[(x_script,.ref 0),(x_nums,.ref 4),(x_setup,.int su),(x_heads,.ref 5),(x_i,.int (0 + (i:Int)))],[.raw (eqO ob),.cell none,.cell none,.raw (ritP (0 + ((i + 1:Nat):Int)) ((3:Int) - ((i + 1:Nat):Int))),.pl (ipl N),.pl [],.gone,.gone,.gone]⟩ (ForK 4 (HeadJ ob N su (i + 1)) k):=by
  obtain ⟨hx1,hx2,hk0,hk1,hv0,hp3,hby,hrl⟩:=HF.of i hlt hxx hhd
  refine Ss_cut O' 1 (st1:=⟨[(x_script,.ref 0),(x_nums,.ref 4),(x_setup,.int su),(x_heads,.ref 5),(x_i,.int (0 + (i:Int))),(x_x,.int x)],[.raw (eqO ob),.cell none,.cell none,.raw (ritP (0 + ((i + 1:Nat):Int)) ((3:Int) - ((i + 1:Nat):Int))),.pl (ipl N),.pl [],.gone,.gone,.gone]⟩) ?_ ?_
  · refine callS (args2:=[.ref 0,.int ((1 + i:Nat):Int)]) [4] (f_draw N (1 + i) n1 n2 (Nat.le_trans (Nat.add_le_add_left (Nat.le_of_lt hlt) 1) (by decide))).toR O' rfl rfl rfl ⟨rfl,rfl⟩ (congrArg (fun z=>[SV.ref 4,SV.int z]) (one_i i)) rfl rfl ?_
    rw [hx]
    exact ⟨rfl,rfl⟩
  refine Ss_consI (fun st=>st = ⟨[(x_script,.ref 0),(x_nums,.ref 4),(x_setup,.int su),(x_heads,.ref 5),(x_i,.int (0 + (i:Int))),(x_x,.int x),(x_head,.ref 9)],[.raw (eqO ob),.cell none,.cell none,.raw (ritP (0 + ((i + 1:Nat):Int)) ((3:Int) - ((i + 1:Nat):Int))),.pl (ipl N),.pl [],.gone,.gone,.gone,.tup (hd.p3.map PV.sv)]⟩) (j_asTup O' rfl ?_) ?_
  · refine wpE_ok O' 40 _ _ _ ?_
    refine call_of (args2:=[]) [] f_users.toR O' rfl rfl rfl ⟨rfl,rfl⟩ rfl rfl ?_
    refine ⟨by decide,?_⟩
    refine j_itemP (x:=.bytes (users.getD (x.fmod 6).toNat [])) rfl hx1 hx2 (by decide) ?_
    refine wpE_ok O' 40 _ _ _ ?_
    refine ⟨by decide,PyProof.noPylong_small (by decide),by decide,?_⟩
    refine wpE_ok O' 40 _ _ _ ?_
    refine ⟨by decide,PyProof.noPylong_small (by decide),by decide,?_⟩
    refine ⟨(show 3 ≤ 1000 by decide),?_⟩
    exact ⟨rfl,into_of [0,1,2,3,4,5,6,7,8,10] ⟨[(x_script,.ref 0),(x_nums,.ref 4),(x_setup,.int su),(x_heads,.ref 5),(x_i,.int (0 + (i:Int))),(x_x,.int x),(x_head,.ref 9)],[.raw (eqO ob),.cell none,.cell none,.raw (ritP (0 + ((i + 1:Nat):Int)) ((3:Int) - ((i + 1:Nat):Int))),.pl (ipl N),.pl [],.gone,.gone,.gone,.tup (([.bytes (users.getD (x.fmod 6).toNat []),.int (0 - 1 - (x.fdiv 6).fmod 3),.int (0 - (x.fdiv 18).fmod 2)]:List PV).map PV.sv)]⟩ rfl rfl rfl (selG_of ⟨rfl,rfl⟩) ⟨rfl,rfl⟩ (by rw [hp3])⟩
  rintro _ rfl
  refine body_ok O' (n:=40) ?_
  refine j_comp O' scO [] rfl rfl (show ∀ q ∈ ([]:List (PySem.Str × Nat)),q.2 < 4 by decide) (by decide) rfl (by decide) rfl (fun _=>rfl) ?_
  refine ⟨[],fun i=>.lit 5 i,fun st=>isLs st 5 [],(fun (n:Nat) (objs:List SObj)=>match n,objs with | 0,objs=>objs = [.raw (eqO ob),.cell none,.cell none,.raw (ritP (0 + ((i + 1:Nat):Int)) ((3:Int) - ((i + 1:Nat):Int))),.pl (ipl N),.pl [],.gone,.gone,.gone,.tup (hd.p3.map PV.sv),.lit 5 0,.pl []] | _,_=>False),srcL 5 _,srcOfL (h:=5) (xs:=[]) (.inl (.inr ⟨[],rfl,rfl⟩)),(by show 0 ≤ 1000000;decide),?_,?_,?_,?_⟩
  · rfl
  · intro n objs hj
    match n,hj with
    | 0,hj=>cases hj;exact ⟨rfl,.inl (.inr ⟨[],rfl,rfl⟩)⟩
  · intro g' C' r' n objs v O2 hj hv
    cases hv
  · intro objs hj
    cases hj
    refine j_notInT (x:=hd) (hs:=[]) O' (.inl rfl) (.inl (.inr ⟨[],rfl,rfl⟩)) (fun p hp=>?_) ?_
    · cases hp
    have ea:(([]:List (Nat × Hd)).any fun p=>eq3 p.2 hd) = (([]:List Hd).any fun p=>eq3 p hd):=rfl
    rw [ea]
    cases hq:([]:List Hd).any fun p=>eq3 p hd with
    | true =>
      refine br_f rfl ?_
      show Into 4 (HeadJ ob N su (i + 1)) _
      refine into_of [0,1,2,3,4,5,6,7,8] ⟨[(x_script,.ref 0),(x_nums,.ref 4),(x_setup,.int su),(x_heads,.ref 5)],[.raw (eqO ob),.cell none,.cell none,.raw (ritP (0 + ((i + 1:Nat):Int)) ((3:Int) - ((i + 1:Nat):Int))),.pl (ipl N),.pl [],.gone,.gone,.gone]⟩ rfl rfl rfl (selG_of ⟨rfl,rfl⟩) ⟨rfl,rfl⟩ ⟨[],?_,rfl⟩
      rw [hstep,hq,if_pos rfl]
    | false =>
      refine br_t rfl ?_
      refine ⟨by decide,PyProof.noPylong_small (by decide),by decide,?_⟩
      refine j_mulL (x:=.int (65 + (0 + (i:Int)))) O' rfl hk0 hk1 ?_
      refine j_bytesL (l:=List.replicate ((x.fdiv 36).fmod 4).toNat (65 + (0 + (i:Int)))) O' (congrArg (fun l=>some (SObj.pl l)) (ipl_rep _ _).symm) hby hrl ?_
      refine j_addT (xs:=hd.p3.map PV.sv) (ys:=[.bytes hd.v]) (.inl rfl) (.inl ?_) (List.cons_ne_nil _ _) (List.cons_ne_nil _ _) (by show 3 + 1 ≤ 1000;decide) ?_
      · rw [hv0];rfl
      refine OpS.of ?_
      refine j_lsAppend0 rfl ?_
      show Into 4 (HeadJ ob N su (i + 1)) _
      refine into_of [0,1,2,3,4,5,15,7,8] ⟨[(x_script,.ref 0),(x_nums,.ref 4),(x_setup,.int su),(x_heads,.ref 5)],[.raw (eqO ob),.cell none,.cell none,.raw (ritP (0 + ((i + 1:Nat):Int)) ((3:Int) - ((i + 1:Nat):Int))),.pl (ipl N),.list [.ref 6],.tup (hd.p4.map PV.sv),.gone,.gone]⟩ rfl rfl rfl (selG_of ⟨rfl,rfl⟩) ⟨rfl,rfl⟩ ⟨[hd],?_,rfl⟩
      rw [hstep,hq,if_neg Bool.false_ne_true];rfl
theorem turn1 {Z:Zs} {r:Nat→Addr} (O':((lX V Z).inner 4 r).Ok) (ob:Obj) (N:List Int) (su:Int) (i:Nat) (k:Fl→St→Prop) (hlt:i < 3) (n1:0 < N.length) (n2:N.length ≤ 6) (x:Int) (hx:draw N (1 + i) = x) (hxx:0 ≤ x∧x ≤ 1000400) (hd:Hd) (hhd:mkHd x i = hd) (h0:Hd)
    (hstep:hdsOf N (i + 1) = if ([h0]:List Hd).any fun p=>eq3 p hd then [h0] else [h0]++[hd]) :
    Ss ((lX V Z).inner 4 r) (forB (b_law.drop 4)) ⟨[(x_script,.ref 0),(x_nums,.ref 4),(x_setup,.int su),(x_heads,.ref 5),(x_i,.int (0 + (i:Int)))],[.raw (eqO ob),.cell none,.cell none,.raw (ritP (0 + ((i + 1:Nat):Int)) ((3:Int) - ((i + 1:Nat):Int))),.pl (ipl N),.list [.ref 6],.tup (h0.p4.map PV.sv),.gone,.gone]⟩ (ForK 4 (HeadJ ob N su (i + 1)) k):=by
  obtain ⟨hx1,hx2,hk0,hk1,hv0,hp3,hby,hrl⟩:=HF.of i hlt hxx hhd
  refine Ss_cut O' 1 (st1:=⟨[(x_script,.ref 0),(x_nums,.ref 4),(x_setup,.int su),(x_heads,.ref 5),(x_i,.int (0 + (i:Int))),(x_x,.int x)],[.raw (eqO ob),.cell none,.cell none,.raw (ritP (0 + ((i + 1:Nat):Int)) ((3:Int) - ((i + 1:Nat):Int))),.pl (ipl N),.list [.ref 6],.tup (h0.p4.map PV.sv),.gone,.gone]⟩) ?_ ?_
  · refine callS (args2:=[.ref 0,.int ((1 + i:Nat):Int)]) [4] (f_draw N (1 + i) n1 n2 (Nat.le_trans (Nat.add_le_add_left (Nat.le_of_lt hlt) 1) (by decide))).toR O' rfl rfl rfl ⟨rfl,rfl⟩ (congrArg (fun z=>[SV.ref 4,SV.int z]) (one_i i)) rfl rfl ?_
    rw [hx]
    exact ⟨rfl,rfl⟩
  refine Ss_consI (fun st=>st = ⟨[(x_script,.ref 0),(x_nums,.ref 4),(x_setup,.int su),(x_heads,.ref 5),(x_i,.int (0 + (i:Int))),(x_x,.int x),(x_head,.ref 9)],[.raw (eqO ob),.cell none,.cell none,.raw (ritP (0 + ((i + 1:Nat):Int)) ((3:Int) - ((i + 1:Nat):Int))),.pl (ipl N),.list [.ref 6],.tup (h0.p4.map PV.sv),.gone,.gone,.tup (hd.p3.map PV.sv)]⟩) (j_asTup O' rfl ?_) ?_
  · refine wpE_ok O' 40 _ _ _ ?_
    refine call_of (args2:=[]) [] f_users.toR O' rfl rfl rfl ⟨rfl,rfl⟩ rfl rfl ?_
    refine ⟨by decide,?_⟩
    refine j_itemP (x:=.bytes (users.getD (x.fmod 6).toNat [])) rfl hx1 hx2 (by decide) ?_
    refine wpE_ok O' 40 _ _ _ ?_
    refine ⟨by decide,PyProof.noPylong_small (by decide),by decide,?_⟩
    refine wpE_ok O' 40 _ _ _ ?_
    refine ⟨by decide,PyProof.noPylong_small (by decide),by decide,?_⟩
    refine ⟨(show 3 ≤ 1000 by decide),?_⟩
    exact ⟨rfl,into_of [0,1,2,3,4,5,6,7,8,10] ⟨[(x_script,.ref 0),(x_nums,.ref 4),(x_setup,.int su),(x_heads,.ref 5),(x_i,.int (0 + (i:Int))),(x_x,.int x),(x_head,.ref 9)],[.raw (eqO ob),.cell none,.cell none,.raw (ritP (0 + ((i + 1:Nat):Int)) ((3:Int) - ((i + 1:Nat):Int))),.pl (ipl N),.list [.ref 6],.tup (h0.p4.map PV.sv),.gone,.gone,.tup (([.bytes (users.getD (x.fmod 6).toNat []),.int (0 - 1 - (x.fdiv 6).fmod 3),.int (0 - (x.fdiv 18).fmod 2)]:List PV).map PV.sv)]⟩ rfl rfl rfl (selG_of ⟨rfl,rfl⟩) ⟨rfl,rfl⟩ (by rw [hp3])⟩
  rintro _ rfl
  refine body_ok O' (n:=40) ?_
  refine j_comp O' scO [] rfl rfl (show ∀ q ∈ ([]:List (PySem.Str × Nat)),q.2 < 4 by decide) (by decide) rfl (by decide) rfl (fun _=>rfl) ?_
  refine ⟨[.ref 6],fun i=>.lit 5 i,fun st=>isLs st 5 [.ref 6],(fun (n:Nat) (objs:List SObj)=>match n,objs with | 0,objs=>objs = [.raw (eqO ob),.cell none,.cell none,.raw (ritP (0 + ((i + 1:Nat):Int)) ((3:Int) - ((i + 1:Nat):Int))),.pl (ipl N),.list [.ref 6],.tup (h0.p4.map PV.sv),.gone,.gone,.tup (hd.p3.map PV.sv),.lit 5 0,.pl []] | 1,objs=>objs = [.raw (eqO ob),.cell none,.cell none,.raw (ritP (0 + ((i + 1:Nat):Int)) ((3:Int) - ((i + 1:Nat):Int))),.pl (ipl N),.list [.ref 6],.tup (h0.p4.map PV.sv),.gone,.gone,.tup (hd.p3.map PV.sv),.lit 5 1,.list [.ref 12],.tup (h0.p3.map PV.sv)] | _,_=>False),srcL 5 _,srcOfL (h:=5) (xs:=[.ref 6]) (.inl (.inl rfl)),(by show 1 ≤ 1000000;decide),?_,?_,?_,?_⟩
  · rfl
  · intro n objs hj
    match n,hj with
    | 0,hj=>cases hj;exact ⟨rfl,.inl (.inl rfl)⟩
    | 1,hj=>cases hj;exact ⟨rfl,.inl (.inl rfl)⟩
  · intro g' C' r' n objs v O2 hj hv
    match n,hj,hv with
    | 0,hj,hv =>
      cases hj;cases hv
      refine ⟨fun _=>?_,fun e=>by cases e⟩
      refine j_sliceO O2 ?_
      refine sl_tp (xs:=h0.p4.map PV.sv) (b:=3) (.inl rfl) (by show 3 < 4;decide) (by show 4 ≤ 1000;decide) ?_
      refine j_lsAppend0 rfl ?_
      exact .inl rfl
    | _ + 1,_,hv=>cases hv
  · intro objs hj
    cases hj
    refine j_notInT (x:=hd) (hs:=[(12,h0)]) O' (.inl rfl) (.inl (.inl rfl)) (fun p hp=>?_) ?_
    · simp only [List.mem_cons,List.not_mem_nil,or_false] at hp
      subst hp;exact ⟨(fun e=>by cases e),.inl rfl⟩
    have ea:(([(12,h0)]:List (Nat × Hd)).any fun p=>eq3 p.2 hd) = (([h0]:List Hd).any fun p=>eq3 p hd):=rfl
    rw [ea]
    cases hq:([h0]:List Hd).any fun p=>eq3 p hd with
    | true =>
      refine br_f rfl ?_
      show Into 4 (HeadJ ob N su (i + 1)) _
      refine into_of [0,1,2,3,4,5,6,7,8] ⟨[(x_script,.ref 0),(x_nums,.ref 4),(x_setup,.int su),(x_heads,.ref 5)],[.raw (eqO ob),.cell none,.cell none,.raw (ritP (0 + ((i + 1:Nat):Int)) ((3:Int) - ((i + 1:Nat):Int))),.pl (ipl N),.list [.ref 6],.tup (h0.p4.map PV.sv),.gone,.gone]⟩ rfl rfl rfl (selG_of ⟨rfl,rfl⟩) ⟨rfl,rfl⟩ ⟨[h0],?_,rfl⟩
      rw [hstep,hq,if_pos rfl]
    | false =>
      refine br_t rfl ?_
      refine ⟨by decide,PyProof.noPylong_small (by decide),by decide,?_⟩
      refine j_mulL (x:=.int (65 + (0 + (i:Int)))) O' rfl hk0 hk1 ?_
      refine j_bytesL (l:=List.replicate ((x.fdiv 36).fmod 4).toNat (65 + (0 + (i:Int)))) O' (congrArg (fun l=>some (SObj.pl l)) (ipl_rep _ _).symm) hby hrl ?_
      refine j_addT (xs:=hd.p3.map PV.sv) (ys:=[.bytes hd.v]) (.inl rfl) (.inl ?_) (List.cons_ne_nil _ _) (List.cons_ne_nil _ _) (by show 3 + 1 ≤ 1000;decide) ?_
      · rw [hv0];rfl
      refine OpS.of ?_
      refine j_lsAppendL rfl (by show 1 ≤ 1000000;decide) ?_
      show Into 4 (HeadJ ob N su (i + 1)) _
      refine into_of [0,1,2,3,4,5,6,16,8] ⟨[(x_script,.ref 0),(x_nums,.ref 4),(x_setup,.int su),(x_heads,.ref 5)],[.raw (eqO ob),.cell none,.cell none,.raw (ritP (0 + ((i + 1:Nat):Int)) ((3:Int) - ((i + 1:Nat):Int))),.pl (ipl N),.list [.ref 6,.ref 7],.tup (h0.p4.map PV.sv),.tup (hd.p4.map PV.sv),.gone]⟩ rfl rfl rfl (selG_of ⟨rfl,rfl⟩) ⟨rfl,rfl⟩ ⟨[h0,hd],?_,rfl⟩
      rw [hstep,hq,if_neg Bool.false_ne_true];rfl
theorem turn2 {Z:Zs} {r:Nat→Addr} (O':((lX V Z).inner 4 r).Ok) (ob:Obj) (N:List Int) (su:Int) (i:Nat) (k:Fl→St→Prop) (hlt:i < 3) (n1:0 < N.length) (n2:N.length ≤ 6) (x:Int) (hx:draw N (1 + i) = x) (hxx:0 ≤ x∧x ≤ 1000400) (hd:Hd) (hhd:mkHd x i = hd) (h0:Hd) (h1:Hd)
    (hstep:hdsOf N (i + 1) = if ([h0,h1]:List Hd).any fun p=>eq3 p hd then [h0,h1] else [h0,h1]++[hd]) :
    Ss ((lX V Z).inner 4 r) (forB (b_law.drop 4)) ⟨[(x_script,.ref 0),(x_nums,.ref 4),(x_setup,.int su),(x_heads,.ref 5),(x_i,.int (0 + (i:Int)))],[.raw (eqO ob),.cell none,.cell none,.raw (ritP (0 + ((i + 1:Nat):Int)) ((3:Int) - ((i + 1:Nat):Int))),.pl (ipl N),.list [.ref 6,.ref 7],.tup (h0.p4.map PV.sv),.tup (h1.p4.map PV.sv),.gone]⟩ (ForK 4 (HeadJ ob N su (i + 1)) k):=by
  obtain ⟨hx1,hx2,hk0,hk1,hv0,hp3,hby,hrl⟩:=HF.of i hlt hxx hhd
  refine Ss_cut O' 1 (st1:=⟨[(x_script,.ref 0),(x_nums,.ref 4),(x_setup,.int su),(x_heads,.ref 5),(x_i,.int (0 + (i:Int))),(x_x,.int x)],[.raw (eqO ob),.cell none,.cell none,.raw (ritP (0 + ((i + 1:Nat):Int)) ((3:Int) - ((i + 1:Nat):Int))),.pl (ipl N),.list [.ref 6,.ref 7],.tup (h0.p4.map PV.sv),.tup (h1.p4.map PV.sv),.gone]⟩) ?_ ?_
  · refine callS (args2:=[.ref 0,.int ((1 + i:Nat):Int)]) [4] (f_draw N (1 + i) n1 n2 (Nat.le_trans (Nat.add_le_add_left (Nat.le_of_lt hlt) 1) (by decide))).toR O' rfl rfl rfl ⟨rfl,rfl⟩ (congrArg (fun z=>[SV.ref 4,SV.int z]) (one_i i)) rfl rfl ?_
    rw [hx]
    exact ⟨rfl,rfl⟩
  refine Ss_consI (fun st=>st = ⟨[(x_script,.ref 0),(x_nums,.ref 4),(x_setup,.int su),(x_heads,.ref 5),(x_i,.int (0 + (i:Int))),(x_x,.int x),(x_head,.ref 9)],[.raw (eqO ob),.cell none,.cell none,.raw (ritP (0 + ((i + 1:Nat):Int)) ((3:Int) - ((i + 1:Nat):Int))),.pl (ipl N),.list [.ref 6,.ref 7],.tup (h0.p4.map PV.sv),.tup (h1.p4.map PV.sv),.gone,.tup (hd.p3.map PV.sv)]⟩) (j_asTup O' rfl ?_) ?_
  · refine wpE_ok O' 40 _ _ _ ?_
    refine call_of (args2:=[]) [] f_users.toR O' rfl rfl rfl ⟨rfl,rfl⟩ rfl rfl ?_
    refine ⟨by decide,?_⟩
    refine j_itemP (x:=.bytes (users.getD (x.fmod 6).toNat [])) rfl hx1 hx2 (by decide) ?_
    refine wpE_ok O' 40 _ _ _ ?_
    refine ⟨by decide,PyProof.noPylong_small (by decide),by decide,?_⟩
    refine wpE_ok O' 40 _ _ _ ?_
    refine ⟨by decide,PyProof.noPylong_small (by decide),by decide,?_⟩
    refine ⟨(show 3 ≤ 1000 by decide),?_⟩
    exact ⟨rfl,into_of [0,1,2,3,4,5,6,7,8,10] ⟨[(x_script,.ref 0),(x_nums,.ref 4),(x_setup,.int su),(x_heads,.ref 5),(x_i,.int (0 + (i:Int))),(x_x,.int x),(x_head,.ref 9)],[.raw (eqO ob),.cell none,.cell none,.raw (ritP (0 + ((i + 1:Nat):Int)) ((3:Int) - ((i + 1:Nat):Int))),.pl (ipl N),.list [.ref 6,.ref 7],.tup (h0.p4.map PV.sv),.tup (h1.p4.map PV.sv),.gone,.tup (([.bytes (users.getD (x.fmod 6).toNat []),.int (0 - 1 - (x.fdiv 6).fmod 3),.int (0 - (x.fdiv 18).fmod 2)]:List PV).map PV.sv)]⟩ rfl rfl rfl (selG_of ⟨rfl,rfl⟩) ⟨rfl,rfl⟩ (by rw [hp3])⟩
  rintro _ rfl
  refine body_ok O' (n:=40) ?_
  refine j_comp O' scO [] rfl rfl (show ∀ q ∈ ([]:List (PySem.Str × Nat)),q.2 < 4 by decide) (by decide) rfl (by decide) rfl (fun _=>rfl) ?_
  refine ⟨[.ref 6,.ref 7],fun i=>.lit 5 i,fun st=>isLs st 5 [.ref 6,.ref 7],(fun (n:Nat) (objs:List SObj)=>match n,objs with | 0,objs=>objs = [.raw (eqO ob),.cell none,.cell none,.raw (ritP (0 + ((i + 1:Nat):Int)) ((3:Int) - ((i + 1:Nat):Int))),.pl (ipl N),.list [.ref 6,.ref 7],.tup (h0.p4.map PV.sv),.tup (h1.p4.map PV.sv),.gone,.tup (hd.p3.map PV.sv),.lit 5 0,.pl []] | 1,objs=>objs = [.raw (eqO ob),.cell none,.cell none,.raw (ritP (0 + ((i + 1:Nat):Int)) ((3:Int) - ((i + 1:Nat):Int))),.pl (ipl N),.list [.ref 6,.ref 7],.tup (h0.p4.map PV.sv),.tup (h1.p4.map PV.sv),.gone,.tup (hd.p3.map PV.sv),.lit 5 1,.list [.ref 12],.tup (h0.p3.map PV.sv)] | 2,objs=>objs = [.raw (eqO ob),.cell none,.cell none,.raw (ritP (0 + ((i + 1:Nat):Int)) ((3:Int) - ((i + 1:Nat):Int))),.pl (ipl N),.list [.ref 6,.ref 7],.tup (h0.p4.map PV.sv),.tup (h1.p4.map PV.sv),.gone,.tup (hd.p3.map PV.sv),.lit 5 2,.list [.ref 12,.ref 13],.tup (h0.p3.map PV.sv),.tup (h1.p3.map PV.sv)] | _,_=>False),srcL 5 _,srcOfL (h:=5) (xs:=[.ref 6,.ref 7]) (.inl (.inl rfl)),(by show 2 ≤ 1000000;decide),?_,?_,?_,?_⟩
  · rfl
  · intro n objs hj
    match n,hj with
    | 0,hj=>cases hj;exact ⟨rfl,.inl (.inl rfl)⟩
    | 1,hj=>cases hj;exact ⟨rfl,.inl (.inl rfl)⟩
    | 2,hj=>cases hj;exact ⟨rfl,.inl (.inl rfl)⟩
  · intro g' C' r' n objs v O2 hj hv
    match n,hj,hv with
    | 0,hj,hv =>
      cases hj;cases hv
      refine ⟨fun _=>?_,fun e=>by cases e⟩
      refine j_sliceO O2 ?_
      refine sl_tp (xs:=h0.p4.map PV.sv) (b:=3) (.inl rfl) (by show 3 < 4;decide) (by show 4 ≤ 1000;decide) ?_
      refine j_lsAppend0 rfl ?_
      exact .inl rfl
    | 1,hj,hv =>
      cases hj;cases hv
      refine ⟨fun _=>?_,fun e=>by cases e⟩
      refine j_sliceO O2 ?_
      refine sl_tp (xs:=h1.p4.map PV.sv) (b:=3) (.inl rfl) (by show 3 < 4;decide) (by show 4 ≤ 1000;decide) ?_
      refine j_lsAppendL rfl (by show 1 ≤ 1000000;decide) ?_
      exact .inl rfl
    | _ + 2,_,hv=>cases hv
  · intro objs hj
    cases hj
    refine j_notInT (x:=hd) (hs:=[(12,h0),(13,h1)]) O' (.inl rfl) (.inl (.inl rfl)) (fun p hp=>?_) ?_
    · simp only [List.mem_cons,List.not_mem_nil,or_false] at hp
      rcases hp with rfl | rfl <;> exact ⟨(fun e=>by cases e),.inl rfl⟩
    have ea:(([(12,h0),(13,h1)]:List (Nat × Hd)).any fun p=>eq3 p.2 hd) = (([h0,h1]:List Hd).any fun p=>eq3 p hd):=rfl
    rw [ea]
    cases hq:([h0,h1]:List Hd).any fun p=>eq3 p hd with
    | true =>
      refine br_f rfl ?_
      show Into 4 (HeadJ ob N su (i + 1)) _
      refine into_of [0,1,2,3,4,5,6,7,8] ⟨[(x_script,.ref 0),(x_nums,.ref 4),(x_setup,.int su),(x_heads,.ref 5)],[.raw (eqO ob),.cell none,.cell none,.raw (ritP (0 + ((i + 1:Nat):Int)) ((3:Int) - ((i + 1:Nat):Int))),.pl (ipl N),.list [.ref 6,.ref 7],.tup (h0.p4.map PV.sv),.tup (h1.p4.map PV.sv),.gone]⟩ rfl rfl rfl (selG_of ⟨rfl,rfl⟩) ⟨rfl,rfl⟩ ⟨[h0,h1],?_,rfl⟩
      rw [hstep,hq,if_pos rfl]
    | false =>
      refine br_t rfl ?_
      refine ⟨by decide,PyProof.noPylong_small (by decide),by decide,?_⟩
      refine j_mulL (x:=.int (65 + (0 + (i:Int)))) O' rfl hk0 hk1 ?_
      refine j_bytesL (l:=List.replicate ((x.fdiv 36).fmod 4).toNat (65 + (0 + (i:Int)))) O' (congrArg (fun l=>some (SObj.pl l)) (ipl_rep _ _).symm) hby hrl ?_
      refine j_addT (xs:=hd.p3.map PV.sv) (ys:=[.bytes hd.v]) (.inl rfl) (.inl ?_) (List.cons_ne_nil _ _) (List.cons_ne_nil _ _) (by show 3 + 1 ≤ 1000;decide) ?_
      · rw [hv0];rfl
      refine OpS.of ?_
      refine j_lsAppendL rfl (by show 2 ≤ 1000000;decide) ?_
      show Into 4 (HeadJ ob N su (i + 1)) _
      refine into_of [0,1,2,3,4,5,6,7,17] ⟨[(x_script,.ref 0),(x_nums,.ref 4),(x_setup,.int su),(x_heads,.ref 5)],[.raw (eqO ob),.cell none,.cell none,.raw (ritP (0 + ((i + 1:Nat):Int)) ((3:Int) - ((i + 1:Nat):Int))),.pl (ipl N),.list [.ref 6,.ref 7,.ref 8],.tup (h0.p4.map PV.sv),.tup (h1.p4.map PV.sv),.tup (hd.p4.map PV.sv)]⟩ rfl rfl rfl (selG_of ⟨rfl,rfl⟩) ⟨rfl,rfl⟩ ⟨[h0,h1,hd],?_,rfl⟩
      rw [hstep,hq,if_neg Bool.false_ne_true];rfl
theorem law_2 {Z:Zs} (O:(lX V Z).Ok) (ob:Obj) (N:List Int) (su:Int) (n1:0 < N.length) (n2:N.length ≤ 6) (hx0:∀ i,i ≤ 10→0 ≤ draw N i∧draw N i ≤ 1000400) {k:Fl→St→Prop}
    (h:Ss (lX V Z) (b_law.drop 5) ⟨[(x_script,.ref 0),(x_nums,.ref 4),(x_setup,.int su),(x_heads,.ref 5)],[.raw (eqO ob),.cell none,.cell none,.gone,.pl (ipl N),lsO 6 (hdsOf N 3).length,tO (hdsOf N 3)[0]?,tO (hdsOf N 3)[1]?,tO (hdsOf N 3)[2]?]⟩ k) :
    Ss (lX V Z) (b_law.drop 4) ⟨[(x_script,.ref 0),(x_nums,.ref 3),(x_setup,.int su),(x_heads,.ref 4)],[.raw (eqO ob),.cell none,.cell none,.pl (ipl N),.pl []]⟩ k:=by
  refine Ss_gone (Ss_gone ?_)
  refine Ss_cons' (j_forG O (rngL 0 3) (fun i=>.raw (ritP (0 + (i:Nat)) (((3:Nat):Int) - (i:Nat)))) (fun _=>True) (srcR 0 3) (HeadJ ob N su) ?_ ?_ ?_ fun _=>rfl)
  · refine wpE_ok O 40 _ _ _ ?_
    refine j_range1 ?_
    refine ⟨.raw (ritP 0 ((3:Nat):Int)),[0,1,2,8,3,4,5,6,7],_,srcOfR (a:=0) (n:=3) (by decide) (by decide) rfl,?_,rfl,[],rfl,rfl⟩
    exact ⟨idB_kap rfl,rfl,(show 3 ≤ 9 by decide),rfl,⟨rfl,rfl⟩,⟨rfl,rfl⟩⟩
  · rintro i st ⟨hs,_,rfl⟩
    exact ⟨rfl,trivial⟩
  · rintro r i st hr ⟨hs,hhs,rfl⟩ hi
    rw [rngL_len] at hi
    by_cases hlt:i < 3
    · refine forI (rngL_at 0 hlt) ?_
      have O':=O.inner (Nat.le_succ _) r
      refine AsJ.of O' ?_
      have hstep:hdsOf N (i + 1) = if hs.any fun p=>eq3 p (mkHd (draw N (1 + i)) i) then hs else hs++[mkHd (draw N (1 + i)) i]:=by rw [hhs];rfl
      have hxx:=hx0 (1 + i) (by lia)
      have hlen:=hdsOf_len N i
      rw [← hhs] at hlen
      generalize hx:draw N (1 + i) = x at *
      generalize hhd:mkHd x i = hd at *
      clear hhs
      match hs,hlen with
      | [],_=>exact turn0 O' ob N su i _ hlt n1 n2 x hx hxx hd hhd hstep
      | [h0],_=>exact turn1 O' ob N su i _ hlt n1 n2 x hx hxx hd hhd h0 hstep
      | [h0,h1],_=>exact turn2 O' ob N su i _ hlt n1 n2 x hx hxx hd hhd h0 h1 hstep
      | _ :: _ :: _ :: _,hlen=>exact absurd hlen (by simp only [List.length_cons];lia)
    · refine forE (rngL_no 0 (by lia)) ?_
      have hi3:i = 3:=by lia
      subst hi3
      subst hhs
      exact h
end
end Mine
end
section
open PySem PySem.W PyProof.Rows PySem.SeqAt
namespace Mine
noncomputable def sortH:List Hd→List Hd
  | [a,b]=>if ltH b a then [b,a] else [a,b]
  | [a,b,c]=>if ltH b a then (if ltH c b then [c,b,a] else if ltH c a then [b,c,a] else [b,a,c]) else (if ltH c b then (if ltH c a then [c,a,b] else [a,c,b]) else [a,b,c])
  | l=>l
noncomputable def TotH:List Hd→Prop
  | [a,b]=>ltH a b = !ltH b a
  | [a,b,c]=>ltH a b = (!ltH b a)∧ltH b c = (!ltH c b)
  | _=>True
noncomputable def hdsF (N:List Int):List Hd:=if (draw N 5).fmod 7 = 6 then [] else sortH (hdsOf N 3)
@[reducible] noncomputable def hdL (ob:Obj) (N:List Int) (hs:List Hd):List SObj:=[.raw (eqO ob),.cell none,.cell none,.pl (ipl N),lsO 5 hs.length,tO hs[0]?,tO hs[1]?,tO hs[2]?]
inductive Perm2 {α:Type} (p q:α):α→α→Prop
  | a:Perm2 p q p q
  | b:Perm2 p q q p
inductive Perm3 {α:Type} (p q r:α):α→α→α→Prop
  | a:Perm3 p q r p q r
  | b:Perm3 p q r p r q
  | c:Perm3 p q r q p r
  | d:Perm3 p q r q r p
  | e:Perm3 p q r r p q
  | f:Perm3 p q r r q p
theorem j_sort2 {X:Cx} {st:St} {k:SV→St→Prop} {i j1 j2:Nat} {a b:Hd} (O:X.Ok) (hl:isLs st i [.ref j1,.ref j2]) (t1:isTp st j1 (a.p4.map PV.sv)) (t2:isTp st j2 (b.p4.map PV.sv)) (ht:TotH [a,b])
    (h:∀ u v:Nat × Hd,Perm2 (j1,a) (j2,b) u v→sortH [a,b] = [u.2,v.2]→k (.ref st.objs.length) (st.addObj (.list [.ref u.1,.ref v.1]))):OpJ X (fun vs=>call BI.sorted.val vs) [.ref i] st k:=by
  replace ht:ltAt [(j1,a),(j2,b)] 0 1 = !ltAt [(j1,a),(j2,b)] 1 0:=ht
  have hh:∀ p ∈ [(j1,a),(j2,b)],isTp st p.1 (p.2.p4.map PV.sv):=fun p hp=>by
    rcases List.mem_cons.mp hp with rfl | hp
    · exact t1
    · rcases List.mem_singleton.mp hp with rfl;exact t2
  have go:∀ x y,sortP (ltAt [(j1,a),(j2,b)]) 2 = [x,y]→k (.ref st.objs.length) (st.addObj (.list ([x,y].map fun i=>([.ref j1,.ref j2]:List SV).getD i .none)))→OpJ X (fun vs=>call BI.sorted.val vs) [.ref i] st k:=fun x y e hk =>
    j_sortT (hs:=[(j1,a),(j2,b)]) (p:=#[x,y]) O hl hh (by show 2 ≤ 2;decide) (by show 2 ≤ 3;decide) (by rw [show ([(j1,a),(j2,b)]:List (Nat × Hd)).length = 2 from rfl,run2 _ ht,e]) hk
  cases k1:ltH b a with
  | true=>exact go 1 0 (if_pos k1) (h _ _ .b (if_pos k1))
  | false=>exact go 0 1 (if_neg (Bool.eq_false_iff.mp k1)) (h _ _ .a (if_neg (Bool.eq_false_iff.mp k1)))
theorem j_sort3 {X:Cx} {st:St} {k:SV→St→Prop} {i j1 j2 j3:Nat} {a b c:Hd} (O:X.Ok) (hl:isLs st i [.ref j1,.ref j2,.ref j3]) (t1:isTp st j1 (a.p4.map PV.sv)) (t2:isTp st j2 (b.p4.map PV.sv)) (t3:isTp st j3 (c.p4.map PV.sv)) (ht:TotH [a,b,c])
    (h:∀ u v w:Nat × Hd,Perm3 (j1,a) (j2,b) (j3,c) u v w→sortH [a,b,c] = [u.2,v.2,w.2]→k (.ref st.objs.length) (st.addObj (.list [.ref u.1,.ref v.1,.ref w.1]))):OpJ X (fun vs=>call BI.sorted.val vs) [.ref i] st k:=by
  replace ht:ltAt [(j1,a),(j2,b),(j3,c)] 0 1 = (!ltAt [(j1,a),(j2,b),(j3,c)] 1 0)∧ltAt [(j1,a),(j2,b),(j3,c)] 1 2 = (!ltAt [(j1,a),(j2,b),(j3,c)] 2 1):=ht
  have hh:∀ p ∈ [(j1,a),(j2,b),(j3,c)],isTp st p.1 (p.2.p4.map PV.sv):=fun p hp=>by
    rcases List.mem_cons.mp hp with rfl | hp
    · exact t1
    · rcases List.mem_cons.mp hp with rfl | hp
      · exact t2
      · rcases List.mem_singleton.mp hp with rfl;exact t3
  have go:∀ x y z,sortP (ltAt [(j1,a),(j2,b),(j3,c)]) 3 = [x,y,z]→k (.ref st.objs.length) (st.addObj (.list ([x,y,z].map fun i=>([.ref j1,.ref j2,.ref j3]:List SV).getD i .none)))→OpJ X (fun vs=>call BI.sorted.val vs) [.ref i] st k:=fun x y z e hk =>
    j_sortT (hs:=[(j1,a),(j2,b),(j3,c)]) (p:=#[x,y,z]) O hl hh (by show 2 ≤ 3;decide) (by show 3 ≤ 3;decide) (by rw [show ([(j1,a),(j2,b),(j3,c)]:List (Nat × Hd)).length = 3 from rfl,run3 _ ht.1 ht.2,e]) hk
  have ne:∀ {x:Bool},x = false→¬ (x = true):=fun e=>by rw [e];exact Bool.false_ne_true
  cases k1:ltH b a with
  | true =>
    cases k2:ltH c b with
    | true=>exact go 2 1 0 ((if_pos k1).trans (if_pos k2)) (h _ _ _ .f ((if_pos k1).trans (if_pos k2)))
    | false =>
      cases k3:ltH c a with
      | true=>exact go 1 2 0 ((if_pos k1).trans ((if_neg (ne k2)).trans (if_pos k3))) (h _ _ _ .d ((if_pos k1).trans ((if_neg (ne k2)).trans (if_pos k3))))
      | false=>exact go 1 0 2 ((if_pos k1).trans ((if_neg (ne k2)).trans (if_neg (ne k3)))) (h _ _ _ .c ((if_pos k1).trans ((if_neg (ne k2)).trans (if_neg (ne k3)))))
  | false =>
    cases k2:ltH c b with
    | true =>
      cases k3:ltH c a with
      | true=>exact go 2 0 1 ((if_neg (ne k1)).trans ((if_pos k2).trans (if_pos k3))) (h _ _ _ .e ((if_neg (ne k1)).trans ((if_pos k2).trans (if_pos k3))))
      | false=>exact go 0 2 1 ((if_neg (ne k1)).trans ((if_pos k2).trans (if_neg (ne k3)))) (h _ _ _ .b ((if_neg (ne k1)).trans ((if_pos k2).trans (if_neg (ne k3)))))
    | false=>exact go 0 1 2 ((if_neg (ne k1)).trans (if_neg (ne k2))) (h _ _ _ .a ((if_neg (ne k1)).trans (if_neg (ne k2))))
@[reducible] noncomputable def hdS (ob:Obj) (N:List Int) (su:Int) (l:List Hd):St:=⟨[(x_script,.ref 0),(x_nums,.ref 3),(x_setup,.int su),(x_heads,.ref 4)],hdL ob N l⟩
section
variable {V:Vs}
theorem law_3 {Z:Zs} (O:(lX V Z).Ok) (ob:Obj) (N:List Int) (su:Int) (hs:List Hd) (h1:1 ≤ hs.length) (h2:hs.length ≤ 3) (ht:TotH hs) {k:Fl→St→Prop}
    (h:Ss (lX V Z) (b_law.drop 6) ⟨[(x_script,.ref 0),(x_nums,.ref 3),(x_setup,.int su),(x_heads,.ref 4)],hdL ob N (sortH hs)⟩ k) :
    Ss (lX V Z) (b_law.drop 5) ⟨[(x_script,.ref 0),(x_nums,.ref 4),(x_setup,.int su),(x_heads,.ref 5)],[.raw (eqO ob),.cell none,.cell none,.gone,.pl (ipl N),lsO 6 hs.length,tO hs[0]?,tO hs[1]?,tO hs[2]?]⟩ k:=by
  refine Ss_cutI O 1 (fun st=>st = hdS ob N su (sortH hs)) ?_ ?_
  · clear h
    match hs,h1,h2,ht with
    | [a],_,_,_ =>
      have es:sortH [a] = [a]:=rfl
      refine j_sort1 (x:=.ref 6) (.inl (.inl rfl)) ?_
      exact ⟨rfl,into_of [0,1,2,4,9,6,7,8] (hdS ob N su [a]) rfl rfl rfl (selG_of ⟨rfl,rfl⟩) ⟨rfl,rfl⟩ (congrArg (hdS ob N su) es.symm)⟩
    | [a,b],_,_,ht =>
      refine j_sort2 (a:=a) (b:=b) (j1:=6) (j2:=7) O (.inl (.inl rfl)) (.inl rfl) (.inl rfl) ht fun u v hp es=>?_
      cases hp
      · exact ⟨rfl,into_of [0,1,2,4,9,6,7,8] (hdS ob N su [a,b]) rfl rfl rfl (selG_of ⟨rfl,rfl⟩) ⟨rfl,rfl⟩ (congrArg (hdS ob N su) es.symm)⟩
      · exact ⟨rfl,into_of [0,1,2,4,9,7,6,8] (hdS ob N su [b,a]) rfl rfl rfl (selG_of ⟨rfl,rfl⟩) ⟨rfl,rfl⟩ (congrArg (hdS ob N su) es.symm)⟩
    | [a,b,c],_,_,ht =>
      refine j_sort3 (a:=a) (b:=b) (c:=c) (j1:=6) (j2:=7) (j3:=8) O (.inl (.inl rfl)) (.inl rfl) (.inl rfl) (.inl rfl) ht fun u v w hp es=>?_
      cases hp
      · exact ⟨rfl,into_of [0,1,2,4,9,6,7,8] (hdS ob N su [a,b,c]) rfl rfl rfl (selG_of ⟨rfl,rfl⟩) ⟨rfl,rfl⟩ (congrArg (hdS ob N su) es.symm)⟩
      · exact ⟨rfl,into_of [0,1,2,4,9,6,8,7] (hdS ob N su [a,c,b]) rfl rfl rfl (selG_of ⟨rfl,rfl⟩) ⟨rfl,rfl⟩ (congrArg (hdS ob N su) es.symm)⟩
      · exact ⟨rfl,into_of [0,1,2,4,9,7,6,8] (hdS ob N su [b,a,c]) rfl rfl rfl (selG_of ⟨rfl,rfl⟩) ⟨rfl,rfl⟩ (congrArg (hdS ob N su) es.symm)⟩
      · exact ⟨rfl,into_of [0,1,2,4,9,7,8,6] (hdS ob N su [b,c,a]) rfl rfl rfl (selG_of ⟨rfl,rfl⟩) ⟨rfl,rfl⟩ (congrArg (hdS ob N su) es.symm)⟩
      · exact ⟨rfl,into_of [0,1,2,4,9,8,6,7] (hdS ob N su [c,a,b]) rfl rfl rfl (selG_of ⟨rfl,rfl⟩) ⟨rfl,rfl⟩ (congrArg (hdS ob N su) es.symm)⟩
      · exact ⟨rfl,into_of [0,1,2,4,9,8,7,6] (hdS ob N su [c,b,a]) rfl rfl rfl (selG_of ⟨rfl,rfl⟩) ⟨rfl,rfl⟩ (congrArg (hdS ob N su) es.symm)⟩
    | _ :: _ :: _ :: _ :: _,_,h2,_=>exact absurd h2 (by simp only [List.length_cons];lia)
  rintro _ rfl
  exact h
theorem law_4 {Z:Zs} (O:(lX V Z).Ok) (ob:Obj) (N:List Int) (su:Int) (n1:0 < N.length) (n2:N.length ≤ 6) {k:Fl→St→Prop}
    (h:Ss (lX V Z) (b_law.drop 7) ⟨[(x_script,.ref 0),(x_nums,.ref 3),(x_setup,.int su),(x_heads,.ref 4)],hdL ob N (hdsF N)⟩ k) :
    Ss (lX V Z) (b_law.drop 6) ⟨[(x_script,.ref 0),(x_nums,.ref 3),(x_setup,.int su),(x_heads,.ref 4)],hdL ob N (sortH (hdsOf N 3))⟩ k:=by
  refine Ss_cutI O 1 (fun st=>st = ⟨[(x_script,.ref 0),(x_nums,.ref 3),(x_setup,.int su),(x_heads,.ref 4)],hdL ob N (hdsF N)⟩) ?_ ?_
  · refine callS (args2:=[.ref 0,.int ((5:Nat):Int)]) [3] (f_draw N 5 n1 n2 (by decide)).toR O rfl rfl rfl ⟨rfl,rfl⟩ rfl rfl rfl ?_
    refine ⟨by decide,?_⟩
    by_cases e:(draw N 5).fmod 7 = 6
    · refine br_t (beq_iff_eq.mpr e) ?_
      refine ⟨rfl,into_of [0,1,2,3,8,5,6,7] ⟨[(x_script,.ref 0),(x_nums,.ref 3),(x_setup,.int su),(x_heads,.ref 4)],hdL ob N []⟩ rfl rfl rfl ⟨rfl,rfl⟩ ⟨rfl,rfl⟩ ?_⟩
      unfold hdsF;rw [if_pos e]
    · refine br_f (beq_eq_false_iff_ne.mpr e) ?_
      refine ⟨rfl,.inl ?_⟩
      show _ = _
      unfold hdsF;rw [if_neg e]
  rintro _ rfl
  exact h
end
end Mine
end
section
open PySem PySem.W PyProof.Rows PySem.SeqAt
namespace Mine
noncomputable def rowOf (x:Hd):Row:=(x.u++rowB [0 - x.b,0 - x.a,0,0,0,0,0,0],x.v)
noncomputable def rO:Option Hd→SObj
  | none=>.gone
  | some x=>.tup ((rowP (rowOf x)).map PV.sv)
@[reducible] noncomputable def scR : Scope := { kind := .function, names := [(".0", .local), ("one", .local), ("bytes", .globalImplicit)], isGenerator := false, isCoroutine := false }
structure HdOk (x:Hd):Prop where
  a:-3 ≤ x.a∧x.a ≤ -1
  b:-1 ≤ x.b∧x.b ≤ 0
  u:x.u.length ≤ 3
  v:x.v.length ≤ 3
inductive Cv (n:Nat):SObj→SObj→Prop where
  | same (o:SObj):Cv n o o
  | tup (ps:List PV):Cv n (.tup (ps.map PV.sv)) (.pt (some ps))
  | gone:Cv n .gone (.pt none)
  | nil (i j l:Nat):i < n→j < n→l < n→Cv n (.pl []) (.tl 0 i j l)
  | list (m i j l:Nat):i < n→j < n→l < n→Cv n (.list (([.ref i,.ref j,.ref l]:List SV).take m)) (.tl m i j l)
theorem conv_of {st st':St} (e:st'.loc = st.loc) (h:All2 (Cv st.objs.length) st.objs st'.objs):Conv st st':=by
  refine ⟨e,h.length.symm,fun j o o' ho ho' ρ a ch r=>?_⟩
  obtain ⟨o2,h2,c⟩:=h.get ho
  rw [ho'] at h2
  cases h2
  cases c with
  | same=>exact r
  | tup ps=>exact tup_pt r
  | gone=>exact gone_pt r
  | nil i j l h1 h2 h3 =>
    obtain ⟨vs,k,e,ra⟩:=r
    exact list_tl h1 h2 h3 ⟨vs,k,e,ra⟩
  | list m i j l h1 h2 h3=>exact list_tl h1 h2 h3 r
section
variable {V:Vs}
theorem kInto_of {n0:Nat} {J:List SObj→Prop} {v:SV} {st:St} (h:Into n0 (fun st=>J st.objs) st):kInto n0 J v st:=h
noncomputable def compE:List Stmt→Expr
  | .Assign _ (.ListComp e _ _ _) _ :: _=>e
  | _=>.Constant .none 0 default
noncomputable def rowT (x:Hd):SObj:=.tup ((rowP (rowOf x)).map PV.sv)
noncomputable def J5 (ob:Obj) (N:List Int) (hs:List Hd) (n:Nat) (objs:List SObj):Prop:=objs = hdL ob N hs++[.lit 4 n,lsO 10 n]++(hs.take n).map rowT
@[reducible] noncomputable def rwL (ob:Obj) (N:List Int) (hs:List Hd):List SObj:=[.raw (eqO ob),.cell none,.cell none,.pl (ipl N),lsO 5 hs.length,rO hs[0]?,rO hs[1]?,rO hs[2]?]
theorem row_elt {Z:Zs} {r':Nat→Addr} {g':Heap} {C':Addr} (O2:((lX V Z).comp scR [] g' C' 10 r').Ok) (x:Hd) (hx:HdOk x) {objs:List SObj} {q:Nat} {k:SV→St→Prop}
    (ho:objs[q]? = some (.tup (x.p4.map PV.sv))) (h:∀ o,k (.ref (objs++[o]).length) ⟨[(x_one,.ref q)],objs++[o]++[rowT x]⟩):wpE ((lX V Z).comp scR [] g' C' 10 r') 40 (compE (b_law.drop 7)) ⟨[(x_one,.ref q)],objs⟩ k:=by
  obtain ⟨b1,b2,b3,b4⟩:=hx
  refine j_itemT (xs:=x.p4.map PV.sv) (x:=.bytes x.u) ho (by decide) rfl (by show 4 ≤ 1000000;decide) ?_
  refine j_itemT (xs:=x.p4.map PV.sv) (x:=.int x.b) ho (by decide) rfl (by show 4 ≤ 1000000;decide) ?_
  refine j_itemT (xs:=x.p4.map PV.sv) (x:=.int x.a) ho (by decide) rfl (by show 4 ≤ 1000000;decide) ?_
  refine j_bytesL (l:=[0 - x.b,0 - x.a,0,0,0,0,0,0]) O2 ?_ (fun n hn=>?_) (by show 8 ≤ 1000000;decide) ?_
  · show (objs++[_])[objs.length]? = _
    rw [List.getElem?_append_right (Nat.le_refl _),Nat.sub_self];rfl
  · simp only [List.mem_cons,List.not_mem_nil,or_false] at hn;lia
  refine j_addB (by show x.u.length + 8 ≤ 1000000;lia) ?_
  refine j_itemT (xs:=x.p4.map PV.sv) (x:=.bytes x.v) ((List.getElem?_append_left (lt_of_some ho)).trans ho) (by decide) rfl (by show 4 ≤ 1000000;decide) ?_
  exact h _
theorem law_5 {Z:Zs} (O:(lX V Z).Ok) (ob:Obj) (N:List Int) (su:Int) (hs:List Hd) (h2:hs.length ≤ 3) (hb:∀ x ∈ hs,HdOk x) {k:Fl→St→Prop}
    (h:Ss (lX V Z) (b_law.drop 8) ⟨[(x_script,.ref 0),(x_nums,.ref 3),(x_setup,.int su),(x_rows,.ref 4)],[.raw (eqO ob),.cell none,.cell none,.pl (ipl N),.tl hs.length 5 6 7,.pt ((hs[0]?.map rowOf).map rowP),.pt ((hs[1]?.map rowOf).map rowP),.pt ((hs[2]?.map rowOf).map rowP)]⟩ k) :
    Ss (lX V Z) (b_law.drop 7) ⟨[(x_script,.ref 0),(x_nums,.ref 3),(x_setup,.int su),(x_heads,.ref 4)],hdL ob N hs⟩ k:=by
  refine Ss_consI (fun st=>st = ⟨[(x_script,.ref 0),(x_nums,.ref 3),(x_setup,.int su),(x_rows,.ref 4)],rwL ob N hs⟩) (j_asComp O scR [] rfl rfl rfl (show ∀ q ∈ ([]:List (PySem.Str × Nat)),q.2 < 3 by decide) (by decide) rfl (by decide) rfl (fun _=>rfl) rfl ?_) ?_
  · clear h
    match hs,h2,hb with
    | [],_,hb =>
      refine ⟨[],fun i=>.lit 4 i,fun st=>isLs st 4 [],J5 ob N [],srcL 4 _,srcOfL (h:=4) (xs:=[]) (.inl (.inr ⟨[],rfl,rfl⟩)),(by show 0 ≤ 1000000;decide),rfl,fun i objs hj=>by cases hj;exact ⟨rfl,.inl (.inr ⟨[],rfl,rfl⟩)⟩,fun g' C' r' n objs v O2 hj hv=>?_,fun objs hj=>?_⟩
      · cases hv
      · cases hj
        exact ⟨rfl,into_of [0,1,2,3,9,5,6,7] ⟨[(x_script,.ref 0),(x_nums,.ref 3),(x_setup,.int su),(x_rows,.ref 4)],rwL ob N []⟩ rfl rfl rfl ⟨rfl,rfl⟩ ⟨rfl,rfl⟩ rfl⟩
    | [a],_,hb =>
      refine ⟨[.ref 5],fun i=>.lit 4 i,fun st=>isLs st 4 [.ref 5],J5 ob N [a],srcL 4 _,srcOfL (h:=4) (xs:=[.ref 5]) (.inl (.inl rfl)),(by show 1 ≤ 1000000;decide),rfl,fun i objs hj=>by cases hj;exact ⟨rfl,.inl (.inl rfl)⟩,fun g' C' r' n objs v O2 hj hv=>?_,fun objs hj=>?_⟩
      · match n,hj,hv with
        | 0,hj,hv =>
          cases hj;cases hv
          refine ⟨fun _=>row_elt O2 a (hb a (by simp)) rfl fun o=>?_,fun e=>nomatch e⟩
          refine j_lsAppend0 rfl ?_
          exact kInto_of <| into_of [0,1,2,3,4,5,6,7,8,9,11] ⟨[],hdL ob N [a]++[.lit 4 1,lsO 10 1]++(([a]:List Hd).take 1).map rowT⟩ rfl rfl rfl (selG_of ⟨rfl,rfl⟩) ⟨rfl,rfl⟩ rfl
        | _ + 1,_,hv=>cases hv
      · cases hj
        exact ⟨rfl,into_of [0,1,2,3,9,10,5,6] ⟨[(x_script,.ref 0),(x_nums,.ref 3),(x_setup,.int su),(x_rows,.ref 4)],rwL ob N [a]⟩ rfl rfl rfl ⟨rfl,rfl⟩ ⟨rfl,rfl⟩ rfl⟩
    | [a,b],_,hb =>
      refine ⟨[.ref 5,.ref 6],fun i=>.lit 4 i,fun st=>isLs st 4 [.ref 5,.ref 6],J5 ob N [a,b],srcL 4 _,srcOfL (h:=4) (xs:=[.ref 5,.ref 6]) (.inl (.inl rfl)),(by show 2 ≤ 1000000;decide),rfl,fun i objs hj=>by cases hj;exact ⟨rfl,.inl (.inl rfl)⟩,fun g' C' r' n objs v O2 hj hv=>?_,fun objs hj=>?_⟩
      · match n,hj,hv with
        | 0,hj,hv =>
          cases hj;cases hv
          refine ⟨fun _=>row_elt O2 a (hb a (by simp)) rfl fun o=>?_,fun e=>nomatch e⟩
          refine j_lsAppend0 rfl ?_
          exact kInto_of <| into_of [0,1,2,3,4,5,6,7,8,9,11] ⟨[],hdL ob N [a,b]++[.lit 4 1,lsO 10 1]++(([a,b]:List Hd).take 1).map rowT⟩ rfl rfl rfl (selG_of ⟨rfl,rfl⟩) ⟨rfl,rfl⟩ rfl
        | 1,hj,hv =>
          cases hj;cases hv
          refine ⟨fun _=>row_elt O2 b (hb b (by simp)) rfl fun o=>?_,fun e=>nomatch e⟩
          refine j_lsAppendL rfl (by show 1 ≤ 1000000;decide) ?_
          exact kInto_of <| into_of [0,1,2,3,4,5,6,7,8,9,10,12] ⟨[],hdL ob N [a,b]++[.lit 4 2,lsO 10 2]++(([a,b]:List Hd).take 2).map rowT⟩ rfl rfl rfl (selG_of ⟨rfl,rfl⟩) ⟨rfl,rfl⟩ rfl
        | _ + 2,_,hv=>cases hv
      · cases hj
        exact ⟨rfl,into_of [0,1,2,3,9,10,11,5] ⟨[(x_script,.ref 0),(x_nums,.ref 3),(x_setup,.int su),(x_rows,.ref 4)],rwL ob N [a,b]⟩ rfl rfl rfl ⟨rfl,rfl⟩ ⟨rfl,rfl⟩ rfl⟩
    | [a,b,c],_,hb =>
      refine ⟨[.ref 5,.ref 6,.ref 7],fun i=>.lit 4 i,fun st=>isLs st 4 [.ref 5,.ref 6,.ref 7],J5 ob N [a,b,c],srcL 4 _,srcOfL (h:=4) (xs:=[.ref 5,.ref 6,.ref 7]) (.inl (.inl rfl)),(by show 3 ≤ 1000000;decide),rfl,fun i objs hj=>by cases hj;exact ⟨rfl,.inl (.inl rfl)⟩,fun g' C' r' n objs v O2 hj hv=>?_,fun objs hj=>?_⟩
      · match n,hj,hv with
        | 0,hj,hv =>
          cases hj;cases hv
          refine ⟨fun _=>row_elt O2 a (hb a (by simp)) rfl fun o=>?_,fun e=>nomatch e⟩
          refine j_lsAppend0 rfl ?_
          exact kInto_of <| into_of [0,1,2,3,4,5,6,7,8,9,11] ⟨[],hdL ob N [a,b,c]++[.lit 4 1,lsO 10 1]++(([a,b,c]:List Hd).take 1).map rowT⟩ rfl rfl rfl (selG_of ⟨rfl,rfl⟩) ⟨rfl,rfl⟩ rfl
        | 1,hj,hv =>
          cases hj;cases hv
          refine ⟨fun _=>row_elt O2 b (hb b (by simp)) rfl fun o=>?_,fun e=>nomatch e⟩
          refine j_lsAppendL rfl (by show 1 ≤ 1000000;decide) ?_
          exact kInto_of <| into_of [0,1,2,3,4,5,6,7,8,9,10,12] ⟨[],hdL ob N [a,b,c]++[.lit 4 2,lsO 10 2]++(([a,b,c]:List Hd).take 2).map rowT⟩ rfl rfl rfl (selG_of ⟨rfl,rfl⟩) ⟨rfl,rfl⟩ rfl
        | 2,hj,hv =>
          cases hj;cases hv
          refine ⟨fun _=>row_elt O2 c (hb c (by simp)) rfl fun o=>?_,fun e=>nomatch e⟩
          refine j_lsAppendL rfl (by show 2 ≤ 1000000;decide) ?_
          exact kInto_of <| into_of [0,1,2,3,4,5,6,7,8,9,10,11,13] ⟨[],hdL ob N [a,b,c]++[.lit 4 3,lsO 10 3]++(([a,b,c]:List Hd).take 3).map rowT⟩ rfl rfl rfl (selG_of ⟨rfl,rfl⟩) ⟨rfl,rfl⟩ rfl
        | _ + 3,_,hv=>cases hv
      · cases hj
        exact ⟨rfl,into_of [0,1,2,3,9,10,11,12] ⟨[(x_script,.ref 0),(x_nums,.ref 3),(x_setup,.int su),(x_rows,.ref 4)],rwL ob N [a,b,c]⟩ rfl rfl rfl ⟨rfl,rfl⟩ ⟨rfl,rfl⟩ rfl⟩
    | _ :: _ :: _ :: _ :: _,h2,_=>exact absurd h2 (by simp only [List.length_cons];lia)
  rintro _ rfl
  refine Ss_conv (st':=⟨[(x_script,.ref 0),(x_nums,.ref 3),(x_setup,.int su),(x_rows,.ref 4)],[.raw (eqO ob),.cell none,.cell none,.pl (ipl N),.tl hs.length 5 6 7,.pt ((hs[0]?.map rowOf).map rowP),.pt ((hs[1]?.map rowOf).map rowP),.pt ((hs[2]?.map rowOf).map rowP)]⟩) (conv_of rfl ?_) h
  clear h
  match hs,h2 with
  | [],_=>exact .cons (.same _) (.cons (.same _) (.cons (.same _) (.cons (.same _) (.cons (.nil 5 6 7 (show 5 < 8 by decide) (show 6 < 8 by decide) (show 7 < 8 by decide)) (.cons .gone (.cons .gone (.cons .gone .nil)))))))
  | [a],_=>exact .cons (.same _) (.cons (.same _) (.cons (.same _) (.cons (.same _) (.cons (.list 1 5 6 7 (show 5 < 8 by decide) (show 6 < 8 by decide) (show 7 < 8 by decide)) (.cons (.tup _) (.cons .gone (.cons .gone .nil)))))))
  | [a,b],_=>exact .cons (.same _) (.cons (.same _) (.cons (.same _) (.cons (.same _) (.cons (.list 2 5 6 7 (show 5 < 8 by decide) (show 6 < 8 by decide) (show 7 < 8 by decide)) (.cons (.tup _) (.cons (.tup _) (.cons .gone .nil)))))))
  | [a,b,c],_=>exact .cons (.same _) (.cons (.same _) (.cons (.same _) (.cons (.same _) (.cons (.list 3 5 6 7 (show 5 < 8 by decide) (show 6 < 8 by decide) (show 7 < 8 by decide)) (.cons (.tup _) (.cons (.tup _) (.cons (.tup _) .nil)))))))
  | _ :: _ :: _ :: _ :: _,h2=>exact absurd h2 (by simp only [List.length_cons];lia)
end
end Mine
end
section
open PySem PySem.W PyProof.Rows PySem.SeqAt
namespace Mine
theorem r_AsTuple {M:Model} {A:Around} {E:PySem.Value→Shared→Prop} {s:Shared} {env:Env} {elts:List Expr} {k:Nat} {tpos pos:Pos} {value:Expr} {Q:Flow→Shared→Prop}
    (h:wpR M A (eval value env) (fun v s₁=>wpR M A (assign (.Tuple elts k tpos) env v) (fun _=>Q .next) E s₁) E s)
    (hs:swapsWithSole [.Tuple elts k tpos] value pos.line env = pure false)
    (hw:swappedStores [.Tuple elts k tpos] value env = pure none):wpR M A (exec (.Assign [.Tuple elts k tpos] value pos) env) Q E s:=by
  rw [exec_Assign]
  refine stand ?_
  rw [hs]
  refine wpR_bind (wpR_pure ?_)
  rw [if_neg (by decide)]
  refine wpR_bind (wpR_mono h (fun v s₁ h₁=>?_) fun _ _ x=>x)
  rw [hw]
  refine wpR_bind (wpR_pure ?_)
  show wpR M A (do assignAll v [assign (.Tuple elts k tpos) env];pure .next) Q E s₁
  exact wpR_bind (wpR_mono h₁ (fun _ _ x=>wpR_pure x) fun _ _ x=>x)
theorem j_asPair {X:Cx} (O:X.Ok) {a b:PySem.Str} {pa pb tp pos:Pos} {kc:Nat} {e:Expr} {st:St} {k:Fl→St→Prop} (hs:swapsWithSole [.Tuple [.Name a pa,.Name b pb] kc tp] e pos.line X.env = pure false)
    (hw:swappedStores [.Tuple [.Name a pa,.Name b pb] kc tp] e X.env = pure none)
    (h:wpE X 40 e st fun v st1=>∃ j va vb,v = .ref j∧isTp st1 j [va,vb]∧storeK X a va st1 fun st2=>storeK X b vb st2 fun st3=>k .next st3):ExJ X (.Assign [.Tuple [.Name a pa,.Name b pb] kc tp] e pos) st k:=by
  refine ⟨fun ρ s R=>r_AsTuple (bindV (α:=Unit) ((wpE_ok O _ _ _ _ h).go ρ s R) fun ρ1 v st1 vv s1 x1 l1 R1 r1 k1=>?_) hs hw⟩
  obtain ⟨j,va,vb,rfl,ho,k2⟩:=k1
  exact wpR_mono ((AsJ_pair O ho k2).go ρ1 s1 vv R1 r1) (fun _ s2 ⟨st2,R2,q⟩=>⟨ρ1,.next,st2,R2,rfl,q⟩) fun _ _ x=>x
noncomputable def bsOf (su:Int):Int:=limits.getD (su % 5).toNat 0
noncomputable def riOf (su:Int):Int:=1 + su / 5 % 3
noncomputable def lgOf (su:Int):Int:=4 + su / 60 % 3
noncomputable def litOf (su:Int):Int:=1 + (su.fdiv 15).fmod 4
@[reducible] noncomputable def locA:List (PySem.Str × SV):=[(x_rows,.ref 4),(x_bare,.ref 8),(x_lit,.ref 10)]
@[reducible] noncomputable def objA (ob:Obj) (N:List Int) (su:Int) (n:Nat) (q0 q1 q2:Option Row) (c:Nat) (z:Option SV):List SObj:=[.raw (eqO ob),.cell (some (.int c)),.cell z,.pl (ipl N),.tl n 5 6 7,.pt (q0.map rowP),.pt (q1.map rowP),.pt (q2.map rowP),optO 9 2 (bsOf su) (riOf su) 0 (lgOf su),hgtO,optO 11 2 (bsOf su) (riOf su) (litOf su) (lgOf su),hgtO]
section
variable {V:Vs}
theorem law_6 {Z:Zs} (O:(lX V Z).Ok) (ob:Obj) (N:List Int) (su:Int) (n:Nat) (q0 q1 q2:Option Row) (hn:n ≤ 3) (n1:0 < N.length) (n2:N.length ≤ 6) (s0:0 ≤ su) (s1:su ≤ 100000000)
    (c:Nat) (hc:(c:Int) = (draw N 4).fmod ((n:Int) + 1)) {k:Fl→St→Prop}
    (h:Ss (lX V Z) (b_law.drop 11) ⟨locA,objA ob N su n q0 q1 q2 c none⟩ k) :
    Ss (lX V Z) (b_law.drop 8) ⟨[(x_script,.ref 0),(x_nums,.ref 3),(x_setup,.int su),(x_rows,.ref 4)],[.raw (eqO ob),.cell none,.cell none,.pl (ipl N),.tl n 5 6 7,.pt (q0.map rowP),.pt (q1.map rowP),.pt (q2.map rowP)]⟩ k:=by
  refine Ss_cut O 1 (st1:=⟨[(x_script,.ref 0),(x_nums,.ref 3),(x_setup,.int su),(x_rows,.ref 4)],[.raw (eqO ob),.cell (some (.int c)),.cell none,.pl (ipl N),.tl n 5 6 7,.pt (q0.map rowP),.pt (q1.map rowP),.pt (q2.map rowP)]⟩) ?_ ?_
  · refine callS (args2:=[.ref 0,.int ((4:Nat):Int)]) [3] (f_draw N 4 n1 n2 (by decide)).toR O rfl rfl rfl ⟨rfl,rfl⟩ rfl rfl rfl ?_
    have hl:(([.ref 5,.ref 6,.ref 7]:List SV).take n).length = n:=by rw [List.length_take];exact Nat.min_eq_left hn
    refine j_lenLs (.inr ⟨n,5,6,7,rfl,rfl⟩) (by rw [hl];lia) ?_
    rw [hl]
    refine ⟨by lia,?_⟩
    rw [← hc]
    exact ⟨rfl,rfl⟩
  refine Ss_cut O 1 (st1:=⟨[(x_script,.ref 0),(x_nums,.ref 3),(x_setup,.int su),(x_rows,.ref 4),(x_bare,.ref 8)],[.raw (eqO ob),.cell (some (.int c)),.cell none,.pl (ipl N),.tl n 5 6 7,.pt (q0.map rowP),.pt (q1.map rowP),.pt (q2.map rowP),optO 9 2 (bsOf su) (riOf su) 0 (lgOf su),hgtO]⟩) ?_ ?_
  · refine call_of (args2:=[.int su,.int 0]) [] (f_options su 0 s0 s1 (by decide)).toR O rfl rfl rfl ⟨rfl,rfl⟩ rfl rfl ?_
    exact ⟨rfl,rfl⟩
  refine Ss_cutI O 1 (fun st=>st = ⟨locA,objA ob N su n q0 q1 q2 c none⟩) ?_ ?_
  · refine ⟨by decide,PyProof.noPylong_small (by decide),by decide,?_⟩
    have hl:0 ≤ litOf su:=by
      unfold litOf
      rw [Int.fmod_eq_emod_of_nonneg _ (by decide)]
      lia
    refine call_of (args2:=[.int su,.int (litOf su)]) [] (f_options su (litOf su) s0 s1 hl).toR O rfl rfl rfl ⟨rfl,rfl⟩ rfl rfl ?_
    exact ⟨rfl,into_of [0,1,2,3,4,5,6,7,8,9,10,11] ⟨locA,objA ob N su n q0 q1 q2 c none⟩ rfl rfl rfl (selG_of ⟨rfl,rfl⟩) ⟨rfl,rfl⟩ rfl⟩
  rintro _ rfl
  exact h
theorem law_7 {Z:Zs} (O:(lX V Z).Ok) (ob:Obj) (N:List Int) (su:Int) (n:Nat) (q0 q1 q2:Option Row) (rows:List Row) (hr:rows.length = n) (hn:n ≤ 3)
    (hq:∀ (i:Nat) (kv:Row),rows[i]? = some kv→[q0,q1,q2][i]? = some (some kv)) (hz:∀ r ∈ rows,r.1.length ≤ 1000∧r.2.length ≤ 1000) (h1:1 ≤ riOf su) (h2:riOf su ≤ 100) (c:Nat) {k:Fl→St→Prop}
    (h:Ss (lX V Z) (b_law.drop 12) ⟨locA++[(x_end,.int (endK (runK (riOf su) (bsOf su) rows)))],objA ob N su n q0 q1 q2 c (some (.ref 12))++[.pl (ipl (runK (riOf su) (bsOf su) rows).sizes)]⟩ k) :
    Ss (lX V Z) (b_law.drop 11) ⟨locA,objA ob N su n q0 q1 q2 c none⟩ k:=by
  refine Ss_consI (fun st=>st = ⟨locA++[(x_end,.int (endK (runK (riOf su) (bsOf su) rows)))],objA ob N su n q0 q1 q2 c (some (.ref 12))++[.pl (ipl (runK (riOf su) (bsOf su) rows).sizes)]⟩) (j_asPair O rfl rfl ?_) ?_
  · refine call_of (args2:=[.ref 0,.int (riOf su),.int (bsOf su)]) [4,5,6,7] (f_reckoned (riOf su) (bsOf su) n q0 q1 q2 rows hr hn hq hz h1 h2).toR O rfl rfl rfl ⟨rfl,rfl⟩ rfl rfl ?_
    refine ⟨12,.ref 13,.int (endK (runK (riOf su) (bsOf su) rows)),rfl,.inl rfl,rfl,into_of [0,1,2,3,4,5,6,7,8,9,10,11,13] ⟨locA++[(x_end,.int (endK (runK (riOf su) (bsOf su) rows)))],objA ob N su n q0 q1 q2 c (some (.ref 12))++[.pl (ipl (runK (riOf su) (bsOf su) rows).sizes)]⟩ rfl rfl rfl (selG_of ⟨rfl,rfl⟩) ⟨rfl,rfl⟩ rfl⟩
  rintro _ rfl
  exact h
end
end Mine
end
section
open PySem PySem.W PyProof.Rows PySem.SeqAt
namespace Mine
noncomputable def B0 (su:Int):Tab:=tab0 (bsOf su) (riOf su) 0 (lgOf su) none
noncomputable def B1 (su:Int):Tab:=tab0 (bsOf su) (riOf su) (litOf su) (lgOf su) none
noncomputable def wB (su:Int) (rows:List Row):List UInt8:=finB (tabF (runB (B0 su) rows) none) [] (blk0 (riOf su))
noncomputable def szs (su:Int) (rows:List Row):List Int:=(runK (riOf su) (bsOf su) rows).sizes
noncomputable def enK (su:Int) (rows:List Row):Int:=endK (runK (riOf su) (bsOf su) rows)
noncomputable def tolds (su:Int) (rows:List Row):List Int:=outsB (B0 su) rows (rows.length + 1)
@[reducible] noncomputable def loc8 (su:Int) (rows:List Row):List (PySem.Str × SV):=locA++[(x_end,.int (enK su rows)),(x_whole,.bytes (wB su rows)),(x_told,.ref 13)]
@[reducible] noncomputable def objB (ob:Obj) (N:List Int) (su:Int) (n:Nat) (q0 q1 q2:Option Row) (rows:List Row) (c:Nat) (t:List Int):List SObj:=objA ob N su n q0 q1 q2 c (some (.ref 12))++[.pl (ipl (szs su rows)),.pl (ipl t)]
section
variable {V:Vs}
theorem law_8 {Z:Zs} (O:(lX V Z).Ok) (hA:Z.A.frames = some ((lX V Z).env :: []))
    (ob:Obj) (N:List Int) (su:Int) (n:Nat) (q0 q1 q2:Option Row) (rows:List Row) (hr:rows.length = n) (hn:n ≤ 3) (hq:∀ (i:Nat) (kv:Row),rows[i]? = some kv→[q0,q1,q2][i]? = some (some kv)) (c:Nat) (hC:Cfg (bsOf su) (riOf su) 0 (lgOf su)) (hP:Plan (B0 su) rows true) {k:Fl→St→Prop}
    (h:Ss (lX V Z) (b_law.drop 13) ⟨loc8 su rows,objB ob N su n q0 q1 q2 rows c (tolds su rows)⟩ k) :
    Ss (lX V Z) (b_law.drop 12) ⟨locA++[(x_end,.int (enK su rows))],objA ob N su n q0 q1 q2 c (some (.ref 12))++[.pl (ipl (szs su rows))]⟩ k:=by
  refine Ss_consI (fun st=>st = ⟨loc8 su rows,objB ob N su n q0 q1 q2 rows c (tolds su rows)⟩) (j_asPair O rfl rfl ?_) ?_
  · refine callT (args2:=[.ref 2,.ref 0,.bool true]) (objs2:=objs6 (bsOf su) (riOf su) 0 (lgOf su) n q0 q1 q2) [8,9,4,5,6,7] (f_built (bsOf su) (riOf su) 0 (lgOf su) n q0 q1 q2 rows true hr hn hq hC hP) O rfl rfl rfl ⟨rfl,rfl⟩ rfl rfl hA rfl .nil rfl (fun _ h=>by cases h) ?_
    rintro _ _ ⟨rfl,Z,mb',hZ,hlen,rfl⟩
    obtain ⟨rfl,rfl⟩:=hZ rfl
    exact ⟨13,.bytes (wB su rows),.ref 14,rfl,.inl rfl,rfl,into_of [0,1,2,3,4,5,6,7,8,9,10,11,12,14] ⟨loc8 su rows,objB ob N su n q0 q1 q2 rows c (tolds su rows)⟩ rfl rfl rfl (selG_of ⟨rfl,rfl⟩) ⟨rfl,rfl⟩ rfl⟩
  rintro _ rfl
  exact h
end
end Mine
end
section
open PySem PySem.W PyProof.Rows PySem.SeqAt
namespace Mine
@[reducible] noncomputable def locW (su:Int) (rows:List Row):List (PySem.Str × SV):=locA++[(x_end,.int (enK su rows)),(x_whole,.bytes (wB su rows))]
@[reducible] noncomputable def objS (ob:Obj) (N:List Int) (su:Int) (n:Nat) (q0 q1 q2:Option Row) (rows:List Row) (c:Nat):List SObj:=objA ob N su n q0 q1 q2 c (some (.ref 12))++[.pl (ipl (szs su rows))]
theorem cutI (l:List Int) (c:Nat):cut (ipl l) none (some ((c:Int) + 1)) = ipl (l.take (c + 1)):=by
  rw [show (c:Int) + 1 = ((c + 1:Nat):Int) by lia,cut_take,ipl,← List.map_take];rfl
theorem bne_f {α:Type} [BEq α] [LawfulBEq α] {a b:α} (h:a = b):(a != b) = false:=by subst h;simp
section
variable {V:Vs}
theorem law_9 {Z:Zs} (O:(lX V Z).Ok)
    (ob:Obj) (N:List Int) (su:Int) (n:Nat) (q0 q1 q2:Option Row) (rows:List Row) (c:Nat) (h1:tolds su rows = szs su rows) (h2:lawEnd (wB su rows) = enK su rows) (hw:48 ≤ (wB su rows).length∧(wB su rows).length ≤ 1000000) {k:Fl→St→Prop}
    (h:Ss (lX V Z) (b_law.drop 14) ⟨locW su rows,objS ob N su n q0 q1 q2 rows c⟩ k) :
    Ss (lX V Z) (b_law.drop 13) ⟨loc8 su rows,objB ob N su n q0 q1 q2 rows c (tolds su rows)⟩ k:=by
  refine Ss_cutI O 1 (fun st=>st = ⟨locW su rows,objS ob N su n q0 q1 q2 rows c⟩) ?_ ?_
  · clear h
    refine j_neL (l:=tolds su rows) (l':=szs su rows) O rfl rfl ?_
    refine br_f (by rw [decide_eq_true h1];rfl) ?_
    refine call0 (args:=[.bytes (wB su rows)]) (f_law_end (wB su rows) hw.1 hw.2).toR O rfl rfl rfl ?_
    refine br_f (bne_f h2) ?_
    refine br_f rfl ?_
    exact ⟨rfl,into_of [0,1,2,3,4,5,6,7,8,9,10,11,12] ⟨locW su rows,objS ob N su n q0 q1 q2 rows c⟩ rfl rfl rfl (selG_of ⟨rfl,rfl⟩) ⟨rfl,rfl⟩ rfl⟩
  rintro _ rfl
  exact h
noncomputable def LitOk (su:Int) (rows:List Row):Prop:=outsB (B1 su) rows (rows.length + 1) = szs su rows∧∀ (Z:List UInt8) (mb:Blk),((tabF (runB (B1 su) rows) none).out++Z).length + (blkFin mb).length ≤ 14000 →
  (finB (tabF (runB (B1 su) rows) none) Z mb).length ≤ 1000000∧cut (finB (tabF (runB (B1 su) rows) none) Z mb) none (some (enK su rows)) = cut (wB su rows) none (some (enK su rows))
theorem law_10 {Z:Zs} (O:(lX V Z).Ok) (hA:Z.A.frames = some ((lX V Z).env :: []))
    (ob:Obj) (N:List Int) (su:Int) (n:Nat) (q0 q1 q2:Option Row) (rows:List Row) (hr:rows.length = n) (hn:n ≤ 3) (hq:∀ (i:Nat) (kv:Row),rows[i]? = some kv→[q0,q1,q2][i]? = some (some kv)) (c:Nat) (hC:Cfg (bsOf su) (riOf su) (litOf su) (lgOf su)) (hP:Plan (B1 su) rows false)
    (hL:LitOk su rows) (hw:(wB su rows).length ≤ 1000000) {k:Fl→St→Prop}
    (h:Ss (lX V Z) (b_law.drop 16) ⟨locW su rows,objS ob N su n q0 q1 q2 rows c⟩ k) :
    Ss (lX V Z) (b_law.drop 14) ⟨locW su rows,objS ob N su n q0 q1 q2 rows c⟩ k:=by
  refine Ss_consI (fun st=>∃ V:List UInt8,V.length ≤ 1000000∧cut V none (some (enK su rows)) = cut (wB su rows) none (some (enK su rows))∧st = ⟨locW su rows++[(x_bright,.bytes V),(x_told,.ref 13)],objS ob N su n q0 q1 q2 rows c++[.pl (ipl (szs su rows))]⟩) (j_asPair O rfl rfl ?_) ?_
  · clear h
    refine callT (args2:=[.ref 2,.ref 0,.bool false]) (objs2:=objs6 (bsOf su) (riOf su) (litOf su) (lgOf su) n q0 q1 q2) [10,11,4,5,6,7] (f_built (bsOf su) (riOf su) (litOf su) (lgOf su) n q0 q1 q2 rows false hr hn hq hC hP) O rfl rfl rfl ⟨rfl,rfl⟩ rfl rfl hA rfl .nil rfl (fun _ h=>by cases h) ?_
    rintro _ _ ⟨rfl,Z,mb',hZ,hlen,rfl⟩
    have hV:=hL.2 Z mb' hlen
    have h0:=hL.1
    unfold B1 at hV h0
    rw [h0]
    exact ⟨13,.bytes (finB (tabF (runB (tab0 (bsOf su) (riOf su) (litOf su) (lgOf su) none) rows) none) Z mb'),.ref 14,rfl,.inl rfl,rfl,into_of [0,1,2,3,4,5,6,7,8,9,10,11,12,14] ⟨locW su rows++[(x_bright,.bytes (finB (tabF (runB (tab0 (bsOf su) (riOf su) (litOf su) (lgOf su) none) rows) none) Z mb')),(x_told,.ref 13)],objS ob N su n q0 q1 q2 rows c++[.pl (ipl (szs su rows))]⟩ rfl rfl rfl (selG_of ⟨rfl,rfl⟩) ⟨rfl,rfl⟩ ⟨_,hV.1,hV.2,rfl⟩⟩
  rintro _ ⟨V,hV,hV2,rfl⟩
  refine Ss_cutI O 1 (fun st=>st = ⟨locW su rows,objS ob N su n q0 q1 q2 rows c⟩) ?_ ?_
  · clear h
    refine j_neL (l:=szs su rows) (l':=szs su rows) O rfl rfl ?_
    refine br_f (by rw [decide_eq_true rfl];rfl) ?_
    refine j_slice O ?_
    refine ⟨hV,?_⟩
    refine j_slice O ?_
    refine ⟨hw,?_⟩
    refine br_f (bne_f hV2) ?_
    refine br_f rfl ?_
    exact ⟨rfl,into_of [0,1,2,3,4,5,6,7,8,9,10,11,12] ⟨locW su rows,objS ob N su n q0 q1 q2 rows c⟩ rfl rfl rfl (selG_of ⟨rfl,rfl⟩) ⟨rfl,rfl⟩ rfl⟩
  rintro _ rfl
  exact h
@[reducible] noncomputable def locF (su:Int) (rows:List Row) (c:Nat):List (PySem.Str × SV):=locW su rows++[(x_first,.bytes (wB su (rows.take c)))]
theorem law_11 {Z:Zs} (O:(lX V Z).Ok) (hA:Z.A.frames = some ((lX V Z).env :: []))
    (ob:Obj) (N:List Int) (su:Int) (n:Nat) (q0 q1 q2:Option Row) (rows:List Row) (hr:rows.length = n) (hn:n ≤ 3) (hq:∀ (i:Nat) (kv:Row),rows[i]? = some kv→[q0,q1,q2][i]? = some (some kv)) (c:Nat) (hc:c ≤ n) (hC:Cfg (bsOf su) (riOf su) 0 (lgOf su)) (hP:Plan (B0 su) (rows.take c) false)
    (h1:tolds su (rows.take c) = (szs su rows).take (c + 1)) (x:Int) (hx:(szs su rows)[c]? = some x) (h2:cut (wB su (rows.take c)) none (some x) = cut (wB su rows) none (some x)) (hw:(wB su rows).length ≤ 1000000) (hw1:(wB su (rows.take c)).length ≤ 1000000) {k:Fl→St→Prop}
    (h:Ss (lX V Z) (b_law.drop 19) ⟨locF su rows c,objS ob N su n q0 q1 q2 rows c⟩ k) :
    Ss (lX V Z) (b_law.drop 16) ⟨locW su rows,objS ob N su n q0 q1 q2 rows c⟩ k:=by
  have hsl:(szs su rows).length ≤ 1000:=by unfold szs;rw [runK_len];lia
  refine Ss_consI (fun st=>st = ⟨locF su rows c++[(x_told,.ref 13)],objS ob N su n q0 q1 q2 rows c++[.pl (ipl (tolds su (rows.take c)))]⟩) (j_asPair O rfl rfl ?_) ?_
  · clear h
    refine j_sliceO O ?_
    refine sl_ls (xs:=([.ref 5,.ref 6,.ref 7]:List SV).take n) (lo':=none) (hi':=some (c:Int)) (.inr ⟨n,5,6,7,rfl,rfl⟩) rfl rfl (by rw [List.length_take];lia) ?_
    rw [show cut (([.ref 5,.ref 6,.ref 7]:List SV).take n) none (some (c:Int)) = ([.ref 5,.ref 6,.ref 7]:List SV).take c by rw [cut_take,List.take_take,Nat.min_eq_left hc]]
    refine OpJ.conv (st':=⟨locW su rows,objS ob N su n q0 q1 q2 rows c++[.tl c 5 6 7]⟩) (conv_of rfl ?_) ?_
    · exact .cons (.same _) (.cons (.same _) (.cons (.same _) (.cons (.same _) (.cons (.same _) (.cons (.same _) (.cons (.same _) (.cons (.same _) (.cons (.same _) (.cons (.same _) (.cons (.same _) (.cons (.same _) (.cons (.same _) (.cons (.list c 5 6 7 (show 5 < 14 by decide) (show 6 < 14 by decide) (show 7 < 14 by decide)) .nil)))))))))))))
    refine callT (args2:=[.ref 2,.ref 0,.bool false]) (objs2:=objs6 (bsOf su) (riOf su) 0 (lgOf su) c q0 q1 q2) [8,9,13,5,6,7] (f_built (bsOf su) (riOf su) 0 (lgOf su) c q0 q1 q2 (rows.take c) false (by rw [List.length_take];lia) (by lia) (fun i kv e=>hq i kv (by
      rw [List.getElem?_take] at e
      split at e
      · exact e
      · cases e)) hC hP) O rfl rfl rfl ⟨rfl,rfl⟩ rfl rfl hA rfl .nil rfl (fun _ h=>by cases h) ?_
    rintro _ _ ⟨rfl,Z,mb',hZ,hlen,rfl⟩
    obtain ⟨rfl,rfl⟩:=hZ rfl
    exact ⟨14,.bytes (wB su (rows.take c)),.ref 15,rfl,.inl rfl,rfl,into_of [0,1,2,3,4,5,6,7,8,9,10,11,12,15] ⟨locF su rows c++[(x_told,.ref 13)],objS ob N su n q0 q1 q2 rows c++[.pl (ipl (tolds su (rows.take c)))]⟩ rfl rfl rfl (selG_of ⟨rfl,rfl⟩) ⟨rfl,rfl⟩ rfl⟩
  rintro _ rfl
  have hxs:(ipl (szs su rows))[((c:Nat):Int).toNat]? = some (.int x):=by rw [Int.toNat_natCast,ipl,List.getElem?_map,hx];rfl
  refine Ss_cutI O 1 (fun st=>st = ⟨locF su rows c,objS ob N su n q0 q1 q2 rows c⟩) ?_ ?_
  · clear h
    refine j_slice O ?_
    refine ⟨by rw [ipl,List.length_map];lia,?_⟩
    refine j_neL (l:=tolds su (rows.take c)) (l':=(szs su rows).take (c + 1)) O rfl (by rw [← cutI];rfl) ?_
    refine br_f (by rw [decide_eq_true h1];rfl) ?_
    refine j_slice O ?_
    refine j_itemP (x:=.int x) rfl (by lia) hxs (by rw [ipl,List.length_map];lia) ?_
    refine ⟨hw1,?_⟩
    refine j_slice O ?_
    refine j_itemP (x:=.int x) rfl (by lia) hxs (by rw [ipl,List.length_map];lia) ?_
    refine ⟨hw,?_⟩
    refine br_f (bne_f h2) ?_
    refine br_f rfl ?_
    exact ⟨rfl,into_of [0,1,2,3,4,5,6,7,8,9,10,11,12] ⟨locF su rows c,objS ob N su n q0 q1 q2 rows c⟩ rfl rfl rfl (selG_of ⟨rfl,rfl⟩) ⟨rfl,rfl⟩ rfl⟩
  rintro _ rfl
  refine Ss_cutI O 1 (fun st=>st = ⟨locF su rows c,objS ob N su n q0 q1 q2 rows c⟩) ?_ ?_
  · clear h
    have hl:(([.ref 5,.ref 6,.ref 7]:List SV).take n).length = n:=by rw [List.length_take];exact Nat.min_eq_left hn
    refine j_lenLs (.inr ⟨n,5,6,7,rfl,rfl⟩) (by rw [hl];lia) ?_
    rw [hl]
    by_cases e:c = n
    · refine br_t (beq_iff_eq.mpr (by rw [e])) ?_
      refine br_f (bne_f (by rw [List.take_of_length_le (by lia)])) ?_
      refine br_f rfl ?_
      exact ⟨rfl,.inl rfl⟩
    · refine br_f (beq_eq_false_iff_ne.mpr (by lia)) ?_
      refine br_f rfl ?_
      exact ⟨rfl,.inl rfl⟩
  rintro _ rfl
  exact h
end
end Mine
end
section
open PySem PySem.W PyProof.Rows PySem.SeqAt
namespace Mine
@[reducible] noncomputable def locG (su:Int) (rows:List Row) (c:Nat):List (PySem.Str × SV):=locF su rows c++[(x_rest,.bytes (wB su (rows.drop c))),(x_told,.ref 13)]
@[reducible] noncomputable def objG (ob:Obj) (N:List Int) (su:Int) (n:Nat) (q0 q1 q2:Option Row) (rows:List Row) (c:Nat):List SObj:=objS ob N su n q0 q1 q2 rows c++[.pl (ipl (tolds su (rows.drop c)))]
theorem rot (ob:Obj) (N:List Int) (su:Int) {n:Nat} {q0 q1 q2:Option Row} (rows:List Row) {c:Nat} (hn:n ≤ 3) (hc:c ≤ n) (hr:rows.length = n) (hq:∀ (i:Nat) (kv:Row),rows[i]? = some kv→[q0,q1,q2][i]? = some (some kv)) :
    ∃ (h0 h1 h2:Nat) (p0 p1 p2:Option Row),cut (([.ref 5,.ref 6,.ref 7]:List SV).take n) (some (c:Int)) none = ([.ref h0,.ref h1,.ref h2]:List SV).take (n - c)∧h0 < 14∧h1 < 14∧h2 < 14∧nodupN [8,9,13,h0,h1,h2] = true ∧
      pickL (kap [8,9,13,h0,h1,h2] 14) (objS ob N su n q0 q1 q2 rows c++[.tl (n - c) h0 h1 h2]) 0 (objs6 (bsOf su) (riOf su) 0 (lgOf su) (n - c) p0 p1 p2) = (objs6 (bsOf su) (riOf su) 0 (lgOf su) (n - c) p0 p1 p2).map (fun o=>some (o.ren (kap [8,9,13,h0,h1,h2] 14))) ∧
      ∀ (i:Nat) (kv:Row),(rows.drop c)[i]? = some kv→[p0,p1,p2][i]? = some (some kv):=by
  rw [cut_drop _ _ (by rw [List.length_take];exact Nat.le_trans hc (Nat.le_min.mpr ⟨Nat.le_refl _,hn⟩))]
  have hd:∀ (i:Nat) (kv:Row),(rows.drop c)[i]? = some kv→c + i < n∧[q0,q1,q2][c + i]? = some (some kv):=fun i kv e=>by
    rw [List.getElem?_drop] at e
    exact ⟨hr ▸ lt_of_some e,hq _ kv e⟩
  clear hq hr
  obtain rfl | rfl | rfl | rfl:c = 0 ∨ c = 1 ∨ c = 2 ∨ c = 3:=by lia
  · refine ⟨5,6,7,q0,q1,q2,rfl,by decide,by decide,by decide,rfl,rfl,fun i kv e=>?_⟩
    have:=(hd i kv e).2
    rwa [Nat.zero_add] at this
  · refine ⟨6,7,5,q1,q2,q0,?_,by decide,by decide,by decide,rfl,rfl,fun i kv e=>?_⟩
    · obtain rfl | rfl | rfl:n = 1 ∨ n = 2 ∨ n = 3:=by lia
      all_goals rfl
    · obtain ⟨h1,h2⟩:=hd i kv e
      obtain rfl | rfl:i = 0 ∨ i = 1:=by lia
      all_goals exact h2
  · refine ⟨7,5,6,q2,q0,q1,?_,by decide,by decide,by decide,rfl,rfl,fun i kv e=>?_⟩
    · obtain rfl | rfl:n = 2 ∨ n = 3:=by lia
      all_goals rfl
    · obtain ⟨h1,h2⟩:=hd i kv e
      obtain rfl:i = 0:=by lia
      exact h2
  · refine ⟨5,6,7,q0,q1,q2,?_,by decide,by decide,by decide,rfl,rfl,fun i kv e=>?_⟩
    · obtain rfl:n = 3:=by lia
      rfl
    · have:=(hd i kv e).1
      lia
section
variable {V:Vs}
theorem law_12 {Z:Zs} (O:(lX V Z).Ok) (hA:Z.A.frames = some ((lX V Z).env :: []))
    (ob:Obj) (N:List Int) (su:Int) (n:Nat) (q0 q1 q2:Option Row) (rows:List Row) (hr:rows.length = n) (hn:n ≤ 3) (hq:∀ (i:Nat) (kv:Row),rows[i]? = some kv→[q0,q1,q2][i]? = some (some kv)) (c:Nat) (hc:c ≤ n) (hC:Cfg (bsOf su) (riOf su) 0 (lgOf su)) (hP:Plan (B0 su) (rows.drop c) false) {k:Fl→St→Prop}
    (h:Ss (lX V Z) (b_law.drop 20) ⟨locG su rows c,objG ob N su n q0 q1 q2 rows c⟩ k) :
    Ss (lX V Z) (b_law.drop 19) ⟨locF su rows c,objS ob N su n q0 q1 q2 rows c⟩ k:=by
  refine Ss_consI (atK ⟨locG su rows c,objG ob N su n q0 q1 q2 rows c⟩) (j_asPair O rfl rfl ?_) ?_
  · clear h
    refine j_sliceO O ?_
    refine sl_ls (xs:=([.ref 5,.ref 6,.ref 7]:List SV).take n) (lo':=some (c:Int)) (hi':=none) (.inr ⟨n,5,6,7,rfl,rfl⟩) rfl rfl (by rw [List.length_take];lia) ?_
    obtain ⟨h0,h1,h2,p0,p1,p2,e,l0,l1,l2,hnd,hs,hk⟩:=rot ob N su rows hn hc hr hq
    rw [e]
    refine OpJ.conv (st':=⟨locF su rows c,objS ob N su n q0 q1 q2 rows c++[.tl (n - c) h0 h1 h2]⟩) (conv_of rfl ?_) ?_
    · exact .cons (.same _) (.cons (.same _) (.cons (.same _) (.cons (.same _) (.cons (.same _) (.cons (.same _) (.cons (.same _) (.cons (.same _) (.cons (.same _) (.cons (.same _) (.cons (.same _) (.cons (.same _) (.cons (.same _) (.cons (.list (n - c) h0 h1 h2 l0 l1 l2) .nil)))))))))))))
    refine callT (args2:=[.ref 2,.ref 0,.bool false]) (objs2:=objs6 (bsOf su) (riOf su) 0 (lgOf su) (n - c) p0 p1 p2) [8,9,13,h0,h1,h2] (f_built (bsOf su) (riOf su) 0 (lgOf su) (n - c) p0 p1 p2 (rows.drop c) false (by rw [List.length_drop,hr]) (by lia) hk hC hP) O rfl rfl hnd ⟨hs,rfl⟩ rfl rfl hA rfl .nil rfl (fun _ h=>nomatch h) ?_
    rintro _ _ ⟨rfl,Z,mb',hZ,hlen,rfl⟩
    obtain ⟨rfl,rfl⟩:=hZ rfl
    rw [lift_more (objs2:=objs6 (bsOf su) (riOf su) 0 (lgOf su) (n - c) p0 p1 p2) _ rfl hnd ⟨hs,rfl⟩]
    exact ⟨14,.bytes (wB su (rows.drop c)),.ref 15,rfl,.inl rfl,rfl,into_of [0,1,2,3,4,5,6,7,8,9,10,11,12,15] _ rfl rfl rfl (selG_of ⟨rfl,rfl⟩) ⟨rfl,rfl⟩ rfl⟩
  rintro _ rfl
  exact h
end
end Mine
end
section
open PySem PySem.W PyProof.Rows PySem.SeqAt
namespace Mine
theorem j_if {X:Cx} (O:X.Ok) {c:Expr} {b o:List Stmt} {p:Pos} {st:St} {k:Fl→St→Prop} (B:Bool) (h:wpT X 40 c st fun t st1=>t = B∧st1 = st) (h2:Ss X (if B = true then b else o) st k):ExJ X (.If c b o p) st k:=by
  refine ⟨fun ρ s R=>r_If (bindB (α:=Unit) (wpT_ok O _ _ _ _ h ρ s R) fun ρ1 t st1 s1 x l R1 k1=>?_)⟩
  obtain ⟨rfl,rfl⟩:=k1
  cases t
  · exact h2 ρ1 s1 R1
  · exact h2 ρ1 s1 R1
@[reducible] noncomputable def scS : Scope := { kind := .function, names := [(".0", .local), ("size", .local), ("cut", .cell), ("sizes", .cell)], isGenerator := false, isCoroutine := false }
noncomputable def movd (x:Int) (l:List Int):List Int:=l.map fun y=>x + y
noncomputable def fitB (su:Int) (rows:List Row) (n c:Nat):Bool:=decide (c = 0 ∨ c = n ∨ (szs su rows).getD (c - 1) 0 < (szs su rows).getD c 0)
section
variable {V:Vs}
theorem law_13 {Z:Zs} (O:(lX V Z).Ok)
    (ob:Obj) (N:List Int) (su:Int) (n:Nat) (q0 q1 q2:Option Row) (rows:List Row) (hr:rows.length = n) (hn:n ≤ 3) (c:Nat) (hc:c ≤ n) (x:Int) (hx:(szs su rows)[c]? = some x)
    (h1:fitB su rows n c = true→movd x (tolds su (rows.drop c)) = (szs su rows).drop c∧cut (wB su (rows.take c)) none (some (lawEnd (wB su (rows.take c))))++cut (wB su (rows.drop c)) none (some (lawEnd (wB su (rows.drop c)))) = cut (wB su rows) none (some (enK su rows)))
    (hw:(wB su rows).length ≤ 1000000) (hw1:48 ≤ (wB su (rows.take c)).length∧(wB su (rows.take c)).length ≤ 100000) (hw2:48 ≤ (wB su (rows.drop c)).length∧(wB su (rows.drop c)).length ≤ 100000) :
    Ss (lX V Z) (b_law.drop 20) ⟨locG su rows c,objG ob N su n q0 q1 q2 rows c⟩ (FinM 1 [] (Det (.bool true) [.raw (eqO ob)])):=by
  have hl:(([.ref 5,.ref 6,.ref 7]:List SV).take n).length = n:=by rw [List.length_take];exact Nat.min_eq_left hn
  have htl:(ipl (tolds su (rows.drop c))).length = n - c + 1:=by rw [ipl,List.length_map,tolds,outsB,List.length_map,List.length_range,List.length_drop,hr]
  have hsl:(szs su rows).length = n + 1:=by unfold szs;rw [runK_len,hr]
  have hxs:(ipl (szs su rows))[((c:Nat):Int).toNat]? = some (.int x):=by rw [Int.toNat_natCast,ipl,List.getElem?_map,hx];rfl
  refine Ss_cut O 1 (st1:=⟨locG su rows c,objG ob N su n q0 q1 q2 rows c⟩) ?_ ?_
  · refine j_lenP rfl (by rw [htl];exact Nat.le_trans (Nat.succ_le_succ (Nat.le_trans (Nat.sub_le _ _) hn)) (by decide)) ?_
    refine j_lenLs (.inr ⟨n,5,6,7,rfl,rfl⟩) (by rw [hl];lia) ?_
    rw [htl,hl]
    refine br_f (bne_f (by lia)) ?_
    exact ⟨rfl,rfl⟩
  refine Ss_cons' (j_if O (fitB su rows n c) ?_ ?_)
  · unfold fitB
    by_cases e0:c = 0
    · refine br_t (beq_iff_eq.mpr (by lia)) ?_
      exact ⟨(decide_eq_true (.inl e0)).symm,rfl⟩
    refine br_f (beq_eq_false_iff_ne.mpr (by lia)) ?_
    refine j_lenLs (.inr ⟨n,5,6,7,rfl,rfl⟩) (by rw [hl];lia) ?_
    rw [hl]
    by_cases e1:c = n
    · refine br_t (beq_iff_eq.mpr (by lia)) ?_
      exact ⟨(decide_eq_true (.inr (.inl e1))).symm,rfl⟩
    refine br_f (beq_eq_false_iff_ne.mpr (by lia)) ?_
    have hgx:(szs su rows).getD c 0 = x:=by rw [List.getD_eq_getElem?_getD,hx];rfl
    have hy:(ipl (szs su rows))[((c:Int) - 1).toNat]? = some (.int ((szs su rows).getD (c - 1) 0)):=by
      rw [show ((c:Int) - 1).toNat = c - 1 from Int.toNat_sub c 1,ipl,List.getElem?_map,List.getD_eq_getElem?_getD,List.getElem?_eq_getElem (by rw [hsl];exact Nat.lt_succ_of_le (Nat.le_trans (Nat.sub_le c 1) hc))];rfl
    refine j_itemP (x:=.int x) rfl (by lia) hxs (by rw [ipl,List.length_map];lia) ?_
    refine j_itemP (x:=.int ((szs su rows).getD (c - 1) 0)) rfl (by lia) hy (by rw [ipl,List.length_map];lia) ?_
    rw [hgx]
    by_cases e2:(szs su rows).getD (c - 1) 0 < x
    · refine br_t (decide_eq_true e2) ?_
      exact ⟨(decide_eq_true (.inr (.inr e2))).symm,rfl⟩
    · refine br_f (decide_eq_false e2) ?_
      exact ⟨(decide_eq_false (by rintro (h | h | h) <;> lia)).symm,rfl⟩
  · cases hf:fitB su rows n c with
    | false =>
      rw [if_neg Bool.false_ne_true]
      refine body_ok O (n:=40) ?_
      refine body_ok O (n:=40) ?_
      exact fin_det [0] rfl rfl rfl ⟨rfl,rfl⟩ rfl rfl
    | true =>
      rw [if_pos rfl]
      obtain ⟨h2,h3⟩:=h1 hf
      clear h1
      refine Ss_same (st':=⟨locG su rows c,objS ob N su n q0 q1 q2 rows c++[.pl (ipl (tolds su (rows.drop c)))]⟩) rfl ?_
      generalize hT:tolds su (rows.drop c) = T at *
      refine Ss_cutI O 1 (fun st=>st = ⟨locG su rows c,objS ob N su n q0 q1 q2 rows c++[.pl (ipl T)]⟩) ?_ ?_
      · refine j_comp O scS [(x_sizes,2),(x_cut,1)] (by kernel_rfl) rfl (show ∀ q ∈ [(x_sizes,2),(x_cut,1)],q.2 < 3 by decide) (by decide) rfl (by decide) rfl (fun _=>rfl) ?_
        refine ⟨(ipl T).map PV.sv,fun i=>.lit 13 i,fun st=>isLs st 13 ((ipl T).map PV.sv),fun i objs=>objs = objS ob N su n q0 q1 q2 rows c++[.pl (ipl T),.lit 13 i,.pl (ipl (movd x (T.take i)))],srcL 13 _,srcOfL (h:=13) (xs:=(ipl T).map PV.sv) (.inl (.inr ⟨ipl T,rfl,rfl⟩)),by rw [List.length_map,htl];lia,rfl,?_,?_,?_⟩
        · rintro i objs rfl;exact ⟨rfl,.inl (.inr ⟨_,rfl,rfl⟩)⟩
        · rintro g' C' r' i objs v O2 rfl hv
          obtain ⟨y,hy,rfl⟩:∃ y,T[i]? = some y∧v = .int y:=by
            rw [ipl,List.map_map,List.getElem?_map] at hv
            cases q:T[i]? with
            | none=>rw [q] at hv;cases hv
            | some x=>rw [q] at hv;cases hv;exact ⟨x,rfl,rfl⟩
          have hTl:T.length ≤ 1000:=by rw [ipl,List.length_map] at htl;lia
          refine ⟨fun _=>?_,fun e=>by cases e⟩
          refine j_itemP (x:=.int x) rfl (by lia) hxs (by rw [ipl,List.length_map];lia) ?_
          refine j_lsAppendP (x:=.int _) rfl (by rw [ipl,movd,List.length_map,List.length_map,List.length_take];lia) ?_
          refine .inl ?_
          show _ = _
          have e:ipl (movd x (T.take (i + 1))) = ipl (movd x (T.take i))++[PV.int (x + y)]:=by
            rw [movd,movd,List.take_add_one,hy,Option.toList_some,List.map_append]
            exact (ipl_snoc _ _).symm
          rw [e]
          rfl
        · rintro objs rfl
          have e:T.take ((ipl T).map PV.sv).length = T:=List.take_of_length_le (by rw [List.length_map,ipl,List.length_map];exact Nat.le_refl _)
          rw [e]
          refine j_slice O ?_
          refine ⟨by rw [ipl,List.length_map];lia,?_⟩
          have hd:cut (ipl (szs su rows)) (some (c:Int)) none = ipl ((szs su rows).drop c):=by rw [cut_drop _ _ (by rw [ipl,List.length_map];lia),ipl,← List.map_drop];rfl
          refine j_neL (l:=movd x T) (l':=(szs su rows).drop c) O rfl (by rw [← hd];rfl) ?_
          refine br_f (by rw [decide_eq_true h2];rfl) ?_
          exact ⟨rfl,into_of [0,1,2,3,4,5,6,7,8,9,10,11,12,13] ⟨locG su rows c,objS ob N su n q0 q1 q2 rows c++[.pl (ipl T)]⟩ rfl rfl rfl (selG_of ⟨rfl,rfl⟩) ⟨rfl,rfl⟩ rfl⟩
      rintro _ rfl
      refine body_ok O (n:=40) ?_
      refine j_slice O ?_
      refine call0 (args:=[.bytes (wB su (rows.take c))]) (f_law_end (wB su (rows.take c)) hw1.1 (by lia)).toR O rfl rfl rfl ?_
      refine ⟨by lia,?_⟩
      refine j_slice O ?_
      refine call0 (args:=[.bytes (wB su (rows.drop c))]) (f_law_end (wB su (rows.drop c)) hw2.1 (by lia)).toR O rfl rfl rfl ?_
      refine ⟨by lia,?_⟩
      refine j_addB ?_ ?_
      · have:=cut_le (wB su (rows.take c)) none (some (lawEnd (wB su (rows.take c))))
        have:=cut_le (wB su (rows.drop c)) none (some (lawEnd (wB su (rows.drop c))))
        lia
      refine j_slice O ?_
      refine ⟨hw,?_⟩
      refine fin_det (res:=.bool true) [0] rfl rfl rfl ⟨rfl,rfl⟩ ?_ rfl
      show SV.bool (_ == _) = SV.bool true
      rw [h3]
      simp
end
end Mine
end
section
namespace Mine
theorem b_open:opening pw = plainProg pw.main.scope.names:=by kernel_rfl
theorem b_fence (s:Shared):fenceModules? pw s = some s:=by kernel_rfl
theorem b_size (P : Params) : ((boot_heap P).isNs mainGlobals && (Array.mk ([] : List GenState)).size == 0, (boot_heap P).objs.size, (boot_heap P).nsMap mainGlobals "__annotations__") = (true, 11, some (.ref 6)) := by kernel_rfl
noncomputable def obsY (s:Shared):List (Option Obj):=KAs.map s.heap.get?
noncomputable def valY (w:World):List (Option Obj):=(KF w.params).map fun p=>some p.2
theorem T0Q_abs (P:Params):absHeap (T0Q P) 11 {} = boot_heap P:=by rw [← T0_eq];exact T0_abs P
theorem left_of_run {p q:Program} {loose:List PySem.Str} {Xt:Shared→Bool} {α:Type} {Yf:Shared→α} {Ya:World→α} {N M m₀ k₀:Nat} {ann:Option PySem.Value} {d₀:Drawn} {H₀:Params→Heap} {S:World→OsState→SharedT}
    (open_:∀ w:World,(fencedOpening treeTable p w N).map (fun s=>(s.heap,s.gens,s.drawn,s.toks)) = some (H₀ w.params,Array.mk [],d₀,k₀))
    (size : ∀ P : Params, ((H₀ P).isNs mainGlobals && (Array.mk ([] : List GenState)).size == 0, (H₀ P).objs.size, (H₀ P).nsMap mainGlobals "__annotations__") = (true, m₀, ann))
    (hS:∀ w os,(S w os).abs = ⟨H₀ w.params,Array.mk [],d₀,k₀,os⟩)
    (run:∀ (w:World) (os:OsState),∃ r:SharedT,runT (stepOk m₀ ann) (stepT (denote treeTable) p w) M (S w os) (topStub p) = some r ∧
      (staticsOk (importedModules p.main.body) (H₀ w.params) r.abs.heap && namesBound p r.abs.heap && gensDone r.abs && laidKept (H₀ w.params) r.abs.heap) = true ∧
      openSeen q loose (importedModules p.main.body) Xt true r.abs = openGood q loose∧Yf r.abs = Ya w)
    (le:M ≤ N):LeftO p q loose Xt Yf Ya N:=by
  intro w
  obtain ⟨⟨h,gs,d,k,os⟩,hs0,hv⟩:=Option.map_eq_some_iff.mp (open_ w)
  obtain ⟨rfl,rfl,rfl,rfl⟩:h = H₀ w.params∧gs = Array.mk []∧d = d₀∧k = k₀:=by simpa using hv
  obtain ⟨r,hr,f1,f2,f3⟩:=run w os
  have hr:=runT_of hr
  rw [hS] at hr
  have hr:=topRun_mono (N - M) _ _ _ _ hr
  rw [show M + (N - M) = N by lia] at hr
  obtain ⟨z1,z2,z3⟩:_∧_∧_:=by simpa only [Prod.mk.injEq] using size w.params
  have t:topFrom treeTable p w N ⟨H₀ w.params,Array.mk [],d,k,os⟩ = some r.abs:=by
    unfold topFrom
    dsimp only
    rw [z1,z2,z3,hr]
    show (match staticsOk (importedModules p.main.body) (H₀ w.params) r.abs.heap && namesBound p r.abs.heap && gensDone r.abs && laidKept (H₀ w.params) r.abs.heap with | true=>_ | false=>_) = _
    rw [f1]
  unfold openEnds
  rw [hs0]
  show (topFrom treeTable p w N _).map _ = _
  rw [t]
  exact congrArg some (Prod.ext f2 f3)
theorem run_plain {p p' q q':Program} {loose loose':List PySem.Str} {α:Type} {Yf:Shared→α} {Ya:World→α} {M m₀:Nat} {ann:Option PySem.Value} {H₀:Params→Heap} {S S':World→OsState→SharedT} {stub stub':Thread}
    {ok':Thread→Bool} {st':World→SharedT→Thread→Option (SharedT × Thread)} {T':Params→Heap}
    {sn:Program→List PySem.Str→List PySem.Str→(Shared→Bool)→Bool→Shared→_} (esn:@openSeen = sn)
    (ep:p = p') (eq:q = q') (el:loose = loose') (eS:∀ w os,S w os = S' w os) (est:stub = stub') (eok:stepOk m₀ ann = ok') (estep:∀ w,stepT (denote treeTable) p w = st' w) (eT:∀ P,T' P = H₀ P)
    (run:∀ (w:World) (os:OsState),((runT ok' (st' w) M (S' w os) stub').map fun r=>((staticsOk (importedModules p'.main.body) (T' w.params) r.abs.heap && namesBound p' r.abs.heap && gensDone r.abs && laidKept (T' w.params) r.abs.heap),
      sn q' loose' (importedModules p'.main.body) (fun s=>xlAt q' [] s && recOk [] s) true r.abs,Yf r.abs)) = some (true,openGood q' loose',Ya w)) (w:World) (os:OsState) :
    ∃ r:SharedT,runT (stepOk m₀ ann) (stepT (denote treeTable) p w) M (S w os) stub = some r ∧
      (staticsOk (importedModules p.main.body) (H₀ w.params) r.abs.heap && namesBound p r.abs.heap && gensDone r.abs && laidKept (H₀ w.params) r.abs.heap) = true ∧
      openSeen q loose (importedModules p.main.body) (fun s=>xlAt q [] s && recOk [] s) true r.abs = openGood q loose∧Yf r.abs = Ya w:=by
  subst esn ep eq el est
  rw [eok,estep,eS]
  obtain ⟨r,hr,hF⟩:=Option.map_eq_some_iff.mp (run w os)
  obtain ⟨f1,f2,f3⟩:_∧_∧_:=by simpa only [Prod.mk.injEq] using hF
  rw [eT] at f1
  exact ⟨r,hr,f1,f2,f3⟩
theorem top_left:LeftO pw qv lv (fun s=>xlAt qv [] s && recOk [] s) obsY valY 12000 :=
  left_of_run (boot_open (p:=pw) (N:=12000) b_open rfl b_fence) b_size S0_abs
    (run_plain seen_eq rfl qQ_eq lQ_eq S0_eq stub_eq ok_eq step_eq T0Q_abs run1) (by decide)
theorem K_keys (P:Params):KAs = (KF P).map (·.1):=by kernel_rfl
theorem K_in {w:World} {s:Shared} (e:obsY s = valY w):(KF w.params).In s.heap:=Frag.in_of (K_keys w.params) e
theorem d1 : defOf qv PySem.Challenge.rw_nz0372_01.row.toRowW.name = some (dL.1, dL.2) := by kernel_rfl
theorem d2 : PySem.Challenge.rw_nz0372_01.row.toRowW.prog.theDef PySem.Challenge.rw_nz0372_01.row.toRowW.name = some (dL.1.params, dL.1.body, dL.1.scope) := by kernel_rfl
theorem d3:kwWritten? dL.1.params.kwonlyargs dL.1.params.kw_defaults = some dL.2:=by kernel_rfl
theorem d4 : (chainsOk qv && opensWell PySem.Challenge.rw_nz0372_01.row.toRowW.prog && (frees PySem.Challenge.rw_nz0372_01.row.toRowW && PySem.Challenge.rw_nz0372_01.row.toRowW.within.isEmpty)) = true := by decide +kernel
abbrev XPh:=XL qv []
abbrev YPh (w:World) (h:Heap):Prop:=(KF w.params).In h
inductive EndR (prog:Program) (w:World) (t:Sem PySem.Fin) (s:Shared) (R:Result→Shared→Prop):Prop
  | mk (n : Nat) (r : Result) (s' s'' : Shared) (a : schedN (denote table) prog w n (.single s ⟨t, .builtin "claim.caller" {}, default, []⟩) = .halted (outcomeOf r) s') (b : runN (denote table) prog w n s ⟨t, .builtin "claim.caller" {}, default, []⟩ = .halted (outcomeOf r) s')
    (eh:s'.heap = s''.heap) (eo:s'.os = s''.os) (d:R r s'')
theorem ends_R {prog:Program} {w:World} {t:Sem PySem.Fin} {s:Shared} {R:Result→Shared→Prop} (hz:s.asleep)
    (h:wpR (model prog w) callerA t (fun fin s'=>∃ f,fin = .done f∧R (.ok f) s'∧leftWithCleanup s'.gens = false) (fun _ _=>False) s):EndR prog w t s R:=by
  have hb : bad (.builtin "claim.caller" {}) = false := by show Builtin.Bytes.decodersThatHold.contains "claim.caller" = false; decide +kernel
  have g := h ⟨.builtin "claim.caller" {}, none, none, [], none⟩ default caller_in hb (fun x hx => nomatch hx)
  obtain ⟨n,r,s1,s2,a,b,c,d⟩:=wp_halts_full (M:=model prog w) (R:=R) hz (Sem.wp_mono _ _ t (fun fin p' s' h'=>by obtain ⟨f,rfl,h1,h2⟩:=h';exact ⟨h1,h2⟩) (fun _ _ _ x=>x.elim) _ s g)
  have fe:=Shared.forget_eq c
  exact ⟨n,r,s2,s1,a,b,fe.1,fe.2.2.2.1,d⟩
noncomputable def EndQ (c:ClaimW) (s:Shared) (args:List WData) (vs:List PySem.Value) (s₁:Shared) (kept:Heap→Prop) (r:Result) (s':Shared):Prop:=c.Ends s args vs s₁ r s'∧s'.os = s.os∧kept s'.heap
inductive DoneQ (R:Result→Shared→Prop) (fin:PySem.Fin) (s':Shared):Prop
  | mk (f:Flow) (e:fin = .done f) (r:R (.ok f) s') (b:AllBare s'.gens)
theorem callFrom_R {c:ClaimW} {tree:List PySem.Value→Sem PySem.Fin} {w:World} {s:Shared} {free:Addr→Prop} {gens:Prop} {kept:Heap→Prop} (hz:s.asleep) (hg:s.gens = #[])
    (spec:∀ args,c.pre args = true→WData.layableAll args = true→∀ ord:List DictEntry→List DictEntry,(∀ l,(ord l).Perm l)→∃ vs s₁,layAllW c.records (classAt s.heap) w.params ord args s = some (vs,s₁) ∧
      wpR (model c.prog w) callerA (tree vs) (DoneQ (EndQ c s args vs s₁ kept)) (fun _ _=>False) s₁) :
    c.CallFrom (fun vs => ⟨tree vs, .builtin "claim.caller" {}, default, []⟩) w free gens kept s := fun args hpre hlay ord hord => by
  have key:∀ vs s₁,layAllW c.records (classAt s.heap) w.params ord args s = some (vs,s₁)→wpR (model c.prog w) callerA (tree vs) (DoneQ (EndQ c s args vs s₁ kept)) (fun _ _=>False) s₁→EndR c.prog w (tree vs) s₁ (EndQ c s args vs s₁ kept):=fun vs s₁ hl hc =>
    ends_R (Shared.asleep_of_life (layAllW_rest _ _ _ hl).2.2.2 hz) (wpR_mono hc (fun fin s' q=>by obtain ⟨f,e,x,b⟩:=q;exact ⟨f,e,x,leftWithCleanup_false_of_bare b⟩) fun _ _ x=>x)
  have sp:=spec args hpre hlay ord hord
  obtain ⟨vs,s₁,hl,hc⟩:=sp
  obtain ⟨k,r,s',s'',hS,hR,eh,eo,q⟩:=key vs s₁ hl hc
  have he:=q.1.congr eh
  refine ⟨vs,s₁,hl,k,_,s',hS,?_,(fun _ i x hx=>by rw [hg] at hx;simp at hx),eh ▸ q.2.2,by rw [(runN_life _ _ _ hR).trans (layAllW_rest _ _ _ hl).2.2.2],Shared.rest_eq (eo.trans q.2.1)⟩
  exact he.imp (Exists.imp fun v h=>⟨congrArg outcomeOf h.1,h.2.1,h.2.2.1,h.2.2.2.1,fun b o y _=>h.2.2.2.2.1 b o y,h.2.2.2.2.2⟩) (Exists.imp fun e=>Exists.imp fun ob=>Exists.imp fun cls h=>⟨congrArg outcomeOf h.1,h.2.1,h.2.2.1,h.2.2.2.1,h.2.2.2.2.1,fun b o y _=>h.2.2.2.2.2 b o y⟩)
theorem open_R {r:RowW} {q:Program} {loose defs kps:List PySem.Str} {Xt:Shared→Bool} {XP:(PySem.Str→Option PySem.Value)→Heap→Prop} {α:Type} {Yf:Shared→α} {Ya:World→α} {YP:World→Heap→Prop} {N:Nat}
    (left:LeftO r.prog q loose Xt Yf Ya N) (hY:∀ w s,Yf s = Ya w→YP w s.heap) (hYk:∀ w h h',YP w h→(∀ b o,h.get? b = some o→h'.get? b = some o)→YP w h') (hX:∀ s,Xt s = true→XP (s.heap.nsMap mainGlobals) s.heap) (hXk:∀ mg h h',XP mg h→(∀ b o,h.get? b = some o→h'.get? b = some o)→XP mg h')
    (hRf:∀ s,Xt s = true→RecFacts r.records s.heap) (ok:(chainsOk q && opensWell r.prog && (frees r && r.within.isEmpty)) = true) (hb:r.prog.bare) (hw:r.promised)
    (pin:∀ w s,s.heap.isNs mainGlobals = true→Ground q loose [] XP w s (s.heap.nsMap mainGlobals) (s.heap.nsMap builtinsNs) s.heap→∀ n ∈ defs,isTheDefsW r.prog s.heap n)
    (call:∀ (w:World) (s₀ s₁:Shared) (mg mb:PySem.Str→Option PySem.Value),Ground q loose r.records XP w s₀ mg mb s₁.heap→YP w s₁.heap→∀ (args:List WData) (vs:List PySem.Value) (as:List Addr),
      r.claim.pre args = true→WData.layableAll args = true→Laid r.records w s₀ s₁ args vs as→sysModules < s₀.heap.objs.size→∃ f,mg r.name = some f ∧
        wpR (model r.prog w) callerA (PySem.call f vs) (fun v s'=>GoodWG r.claim (classAt s₀.heap) (ExcName.means s₀.heap) args s₁ (.ok (.ret v)) s') (fun _ _=>False) s₁) :
    r.claim.HoldsOpenBy (fun vs=>⟨(do match ← nsGet mainNs r.name with
      | some f=>do ret (← PySem.call f vs)
      | none => unsupported "claim.caller:no-such-global"), .builtin "claim.caller" {}, default, []⟩) defs kps false := by
  obtain ⟨ok,k5⟩:=Bool.and_eq_true_iff.mp ok
  obtain ⟨hch,o1⟩:=Bool.and_eq_true_iff.mp ok
  obtain ⟨k5,k6⟩:=Bool.and_eq_true_iff.mp k5
  obtain ⟨hsame,hu,ha,hap,hm⟩:=frees_parts k5
  refine ⟨⟨hb,o1,by show r.makers.map _ = [];rw [hm];rfl⟩,hw.witness,fun w=>⟨(left.behind hX hch w).1,fun s' hs'=>?_⟩⟩
  obtain ⟨s₀,hf,hg0,s,hT,hz,hgens,hg,⟨t1,t2,t3,t4,t5,t6,⟨x,RF⟩,t8,t9,t10,t11,t12⟩,y⟩:=(left.behind (XP:=fun mg h=>XP mg h∧RecFacts r.records h) (fun s hs=>⟨hX s hs,hRf s hs⟩) hch w).2 s' hs'
  have G0:Ground q loose [] XP w s (s.heap.nsMap mainGlobals) (s.heap.nsMap builtinsNs) s.heap:=⟨t1,t2,t3,t4,t5,t6,x,t8,t9,t10,t11,t12⟩
  refine ⟨s₀,hf,hg0,s,hT,pin w s hg G0,RF.1,RF.2.1,?_⟩
  have hgens:s.gens = #[]:=Array.eq_empty_of_size_eq_zero (beq_iff_eq.mp hgens)
  have G:Ground q loose r.records XP w s _ _ s.heap:=RF.ground G0
  refine callFrom_R (c:=r.claim) hz hgens fun args hpre hlay ord hord=>?_
  obtain ⟨⟨vs,s₁⟩,hlaid⟩:=Option.isSome_iff_exists.mp (layAllW_isSome (P:=w.params) (ord:=ord) G.has args r.args s (pre_splitW hpre).1)
  have keeps:=layAllW_keeps _ _ _ hlaid
  have hal:=layAllW_rest _ _ _ hlaid
  obtain ⟨as,hrd,hin,hold⟩:=reads_layAllW hord _ _ _ hlaid hlay s₁.heap (fun _ _ e=>e)
  have L:Laid r.records w s s₁ args vs as:=⟨⟨ord,hord,hlaid⟩,hrd,hin,hold,keeps,hal.1.trans hgens,hal.2.2.1⟩
  have G₁:=G.keeps hXk keeps
  obtain ⟨f,hf,h⟩:=call w s s₁ _ _ G₁ (hYk _ _ _ (hY w s y) keeps) args vs as hpre hlay L G.low
  have hi:=ident_freeW hu ha hap
  have hwi:r.claim.within = []:=List.isEmpty_iff.mp k6
  refine ⟨vs,s₁,hlaid,wpR_step (wpAny_nsGet G₁.T.g ?_)⟩
  rw [hf]
  refine wpR_bind (wpR_mono h (fun v s' g=>wpR_pure ?_) fun _ _ x=>x)
  have z:=g.laid (c:=r.claim) hsame hwi hi L
  exact ⟨_,rfl,⟨z.1,z.2.1,fun q=>nomatch q⟩,z.2.2⟩
noncomputable def LawWalk:Prop:=∀ (w:World) (p:Program) (loose:List PySem.Str) (s₁:Shared) (mg mb:PySem.Str→Option PySem.Value),TopRead p loose mg mb s₁.heap→(KF w.params).In s₁.heap→s₁.gens = #[]→∀ (ns:List Int) (a:Addr) (vs:List PySem.Value),ns.length ≤ 63 →
  s₁.heap.IsList a vs.toArray→IntsAre vs ns →
  wpR (model PySem.Challenge.pw_nz0372_01 w) callerA (call (.ref 717) [.ref a]) (fun v s' => v = .bool true ∧ (∀ b o, s₁.heap.get? b = some o → s'.heap.get? b = some o) ∧ s'.os = s₁.os ∧ s'.gens = s₁.gens) (fun _ _ => False) s₁
noncomputable abbrev rwR := PySem.Challenge.rw_nz0372_01.row
theorem law_at (P:Params):nsIn (KF P) mainGlobals rwR.toRowW.name = some (some (.ref 717)):=by kernel_rfl
theorem said_of {f:OpenLaw→Bool} (e:OpenLaw.wellSaid = f) {l:OpenLaw} (h:f l = true):l.wellSaid = true:=by rw [e];exact h
theorem said1 : PySem.W.Fast.tw9446332074065402090 PySem.Challenge.rw_nz0372_01 = true := by kernel_rfl
theorem said : PySem.Challenge.rw_nz0372_01.wellSaid = true := said_of PySem.W.Fast.te9446332074065402090 said1
theorem head (walk : LawWalk) : PySem.Challenge.rw_nz0372_01.Holds := by
  w_on
  refine holds_law said fun said'=>?_
  have hw : PySem.Challenge.rw_nz0372_01.row.toRowW.promised := by w_witness2
  refine ⟨said',hw,open_R (r:=rwR.toRowW) (q:=qv) (loose:=lv) (Xt:=fun s=>xlAt qv [] s && recOk [] s) (XP:=XPh) (Yf:=obsY) (Ya:=valY) (YP:=YPh) (N:=12000) top_left (fun _ _ e=>K_in e) (fun _ _ _ X k=>X.keeps k) (fun s e=>xl_of s (Bool.and_eq_true_iff.mp e).1) XL.keeps (fun s e=>recFacts_of (Bool.and_eq_true_iff.mp e).2) d4 ⟨rfl,rfl,rfl,rfl,rfl,by decide +kernel⟩ hw (fun w s hg G n hn=>?_) fun w s₀ s₁ mg mb G Y args vals as hpre hlay L low=>?_⟩
  · obtain rfl:n = rwR.name:=by split at hn <;> simp_all
    exact pinned_of_view hg G d1 d2 d3
  · have hrd:=L.reads
    have hwl:=L.well
    have hlo:=L.low low
    have hmg:=mg_of Y G.T.g (law_at w.params)
    have hg:=L.gens
    wrow_args hpre hlay hrd hwl hlo
    rename_i hI hr hc _
    refine ⟨_,hmg,wpR_mono (walk w _ _ s₁ mg mb (topRead_of G.T) Y hg _ _ _ (by lia) (by assumption) hI) (fun v s' ⟨e,k,o,g⟩=>?_) fun _ _ x=>x⟩
    subst e
    exact ⟨.inl ⟨_,.bool true,[],rfl,raisesW_false (by wrow_none_raised),.bool true,by wrow_post,unshared_nil⟩,.of_keep k,o,.of_eq (g.trans hg)⟩
end Mine
end
section
open PySem PySem.W PyProof.Rows PySem.SeqAt
namespace Mine
noncomputable def suOf (ns:List Int):Int:=draw (numsOf ns) 0
noncomputable def rowsOf (ns:List Int):List Row:=(hdsF (numsOf ns)).map rowOf
noncomputable def cutOf (ns:List Int):Nat:=((draw (numsOf ns) 4).fmod (((rowsOf ns).length:Int) + 1)).toNat
structure PlainOk (ns:List Int) (su:Int) (rows:List Row) (c:Nat):Prop where
  tot:TotH (hdsOf (numsOf ns) 3)
  hd:∀ x ∈ hdsF (numsOf ns),HdOk x
  p1:Plan (B0 su) rows true
  p2:Plan (B1 su) rows false
  p3:Plan (B0 su) (rows.take c) false
  p4:Plan (B0 su) (rows.drop c) false
  t1:tolds su rows = szs su rows
  e1:lawEnd (wB su rows) = enK su rows
  lit:LitOk su rows
  t2:tolds su (rows.take c) = (szs su rows).take (c + 1)
  x1:∀ x,(szs su rows)[c]? = some x→cut (wB su (rows.take c)) none (some x) = cut (wB su rows) none (some x)
  fit:fitB su rows rows.length c = true→∀ x,(szs su rows)[c]? = some x→movd x (tolds su (rows.drop c)) = (szs su rows).drop c ∧
    cut (wB su (rows.take c)) none (some (lawEnd (wB su (rows.take c))))++cut (wB su (rows.drop c)) none (some (lawEnd (wB su (rows.drop c)))) = cut (wB su rows) none (some (enK su rows))
  l1:48 ≤ (wB su rows).length∧(wB su rows).length ≤ 100000
  l2:48 ≤ (wB su (rows.take c)).length∧(wB su (rows.take c)).length ≤ 100000
  l3:48 ≤ (wB su (rows.drop c)).length∧(wB su (rows.drop c)).length ≤ 100000
theorem sortH_len:∀ hs:List Hd,(sortH hs).length = hs.length
  | []=>rfl
  | [_]=>rfl
  | [a,b]=>by
    show (if ltH b a = true then [b,a] else [a,b]).length = 2
    cases ltH b a <;> rfl
  | [a,b,c]=>by
    show (if ltH b a = true then (if ltH c b = true then [c,b,a] else if ltH c a = true then [b,c,a] else [b,a,c]) else (if ltH c b = true then (if ltH c a = true then [c,a,b] else [a,c,b]) else [a,b,c])).length = 3
    cases ltH b a <;> cases ltH c b <;> cases ltH c a <;> rfl
  | _ :: _ :: _ :: _ :: _=>rfl
theorem hdsF_len (N:List Int):(hdsF N).length ≤ 3:=by
  unfold hdsF
  split
  · exact Nat.zero_le _
  · rw [sortH_len];exact hdsOf_len N 3
theorem hdsOf_pos (N:List Int):1 ≤ (hdsOf N 3).length:=by
  have h1:∀ i,1 ≤ (hdsOf N (i + 1)).length:=fun i=>by
    induction i with
    | zero=>show 1 ≤ (hdsOf N 1).length;unfold hdsOf;exact Nat.le_refl 1
    | succ i ih =>
      rw [hdsOf]
      split
      · exact ih
      · rw [List.length_append];lia
  exact h1 2
theorem cfg0 (su:Int) (b:Int) (hb:0 ≤ b∧b ≤ 4) (h0:0 ≤ su):Cfg (bsOf su) (riOf su) b (lgOf su):=⟨by unfold riOf;lia,hb,by unfold lgOf;lia⟩
section
variable {V:Vs}
theorem law_all {Z:Zs} (O:(lX V Z).Ok) (hA:Z.A.frames = some ((lX V Z).env :: []))
    (ns : List Int) (hz : ns.length ≤ 1000) {ob : Obj} {vs : List PySem.Value} {kk : Nat} (ho1 : ob.cls = .type "list") (ho2 : ob.data = .seq vs.toArray kk) (ho3 : IntsAre vs ns) (P : PlainOk ns (suOf ns) (rowsOf ns) (cutOf ns)) :
    Ss (lX V Z) b_law ⟨[(x_script,.ref 0)],[.raw (eqO ob),.cell none,.cell none]⟩ (FinM 1 [] (Det (.bool true) [.raw (eqO ob)])):=by
  obtain ⟨n1,n2,n3⟩:=numsOf_ok ns
  have hdr:=draw_ok ns
  have hsu:=hdr 0 (by decide)
  have hlen:(rowsOf ns).length = (hdsF (numsOf ns)).length:=List.length_map ..
  have h3:=hdsF_len (numsOf ns)
  have hc:((cutOf ns:Nat):Int) = (draw (numsOf ns) 4).fmod (((hdsF (numsOf ns)).length:Int) + 1)∧cutOf ns ≤ (hdsF (numsOf ns)).length:=by
    unfold cutOf
    rw [hlen]
    have e:(draw (numsOf ns) 4).fmod (((hdsF (numsOf ns)).length:Int) + 1) = draw (numsOf ns) 4 % (((hdsF (numsOf ns)).length:Int) + 1):=Int.fmod_eq_emod_of_nonneg _ (by lia)
    rw [e]
    have h1:=Int.emod_nonneg (draw (numsOf ns) 4) (show ((hdsF (numsOf ns)).length:Int) + 1 ≠ 0 by lia)
    have h2:=Int.emod_lt_of_pos (draw (numsOf ns) 4) (show 0 < ((hdsF (numsOf ns)).length:Int) + 1 by lia)
    lia
  have hq:∀ (i:Nat) (kv:Row),(rowsOf ns)[i]? = some kv→[(hdsF (numsOf ns))[0]?.map rowOf,(hdsF (numsOf ns))[1]?.map rowOf,(hdsF (numsOf ns))[2]?.map rowOf][i]? = some (some kv):=fun i kv e=>by
    have hi:=lt_of_some e
    unfold rowsOf at e
    rw [List.getElem?_map] at e
    match i,hi,e with
    | 0,_,e=>exact congrArg some e
    | 1,_,e=>exact congrArg some e
    | 2,_,e=>exact congrArg some e
    | _ + 3,hi,_=>lia
  have hzr:∀ r ∈ rowsOf ns,r.1.length ≤ 1000∧r.2.length ≤ 1000:=fun r hr=>by
    obtain ⟨x,hx,rfl⟩:=List.mem_map.mp hr
    have:=P.hd x hx
    have:=this.u
    have:=(P.hd x hx).v
    refine ⟨?_,by show x.v.length ≤ _;lia⟩
    show (x.u++rowB [0 - x.b,0 - x.a,0,0,0,0,0,0]).length ≤ _
    rw [List.length_append]
    show _ + 8 ≤ _
    lia
  have hr1:1 ≤ riOf (suOf ns)∧riOf (suOf ns) ≤ 100:=by
    have:0 ≤ suOf ns:=hsu.1
    unfold riOf;lia
  have hlit:0 ≤ litOf (suOf ns)∧litOf (suOf ns) ≤ 4:=by
    unfold litOf
    rw [Int.fmod_eq_emod_of_nonneg _ (by decide)]
    lia
  have C0:=cfg0 (suOf ns) 0 (by decide) hsu.1
  have C1:=cfg0 (suOf ns) (litOf (suOf ns)) hlit hsu.1
  obtain ⟨x,hx⟩:∃ x,(szs (suOf ns) (rowsOf ns))[cutOf ns]? = some x:=⟨_,List.getElem?_eq_getElem (by unfold szs;rw [runK_len,hlen];lia)⟩
  refine law_1 O ns hz ho1 ho2 ho3 ?_
  refine law_2 O ob (numsOf ns) (suOf ns) n1 n2 hdr ?_
  refine law_3 O ob (numsOf ns) (suOf ns) (hdsOf (numsOf ns) 3) (hdsOf_pos _) (hdsOf_len _ 3) P.tot ?_
  refine law_4 O ob (numsOf ns) (suOf ns) n1 n2 ?_
  refine law_5 O ob (numsOf ns) (suOf ns) (hdsF (numsOf ns)) h3 P.hd ?_
  refine law_6 O ob (numsOf ns) (suOf ns) _ _ _ _ h3 n1 n2 hsu.1 (by have:=hsu.2;show draw _ _ ≤ _;lia) (cutOf ns) hc.1 ?_
  refine law_7 O ob (numsOf ns) (suOf ns) _ _ _ _ (rowsOf ns) hlen h3 hq hzr hr1.1 hr1.2 (cutOf ns) ?_
  refine law_8 O hA ob (numsOf ns) (suOf ns) _ _ _ _ (rowsOf ns) hlen h3 hq (cutOf ns) C0 P.p1 ?_
  refine law_9 O ob (numsOf ns) (suOf ns) _ _ _ _ (rowsOf ns) (cutOf ns) P.t1 P.e1 ⟨P.l1.1,by have:=P.l1.2;lia⟩ ?_
  refine law_10 O hA ob (numsOf ns) (suOf ns) _ _ _ _ (rowsOf ns) hlen h3 hq (cutOf ns) C1 P.p2 P.lit (by have:=P.l1.2;lia) ?_
  refine law_11 O hA ob (numsOf ns) (suOf ns) _ _ _ _ (rowsOf ns) hlen h3 hq (cutOf ns) hc.2 C0 P.p3 P.t2 x hx (P.x1 x hx) (by have:=P.l1.2;lia) (by have:=P.l2.2;lia) ?_
  refine law_12 O hA ob (numsOf ns) (suOf ns) _ _ _ _ (rowsOf ns) hlen h3 hq (cutOf ns) hc.2 C0 P.p4 ?_
  exact law_13 O ob (numsOf ns) (suOf ns) _ _ _ _ (rowsOf ns) hlen h3 (cutOf ns) hc.2 x hx (fun e=>P.fit (by rw [hlen];exact e) x hx) (by have:=P.l1.2;lia) P.l2 P.l3
end
theorem lookup_mem {α β:Type} [BEq α] [LawfulBEq α] {a:α} {b:β}:∀ {l:List (α × β)},l.lookup a = some b→(a,b) ∈ l
  | [],h=>by cases h
  | (x,y) :: l,h=>by
    rw [List.lookup_cons] at h
    cases e:a == x with
    | true=>rw [e] at h;cases h;rw [eq_of_beq e];exact .head _
    | false=>rw [e] at h;exact .tail _ (lookup_mem h)
noncomputable def isLst:PySem.Value→Bool
  | .type t => t == "list"
  | _=>false
theorem kf_nolist (P:Params):((KF P).all fun q=>!isLst q.2.cls) = true:=by kernel_rfl
theorem law_walk (H:∀ ns:List Int,ns.length ≤ 63→PlainOk ns (suOf ns) (rowsOf ns) (cutOf ns)):LawWalk:=by
  intro w p loose s₁ mg mb T K hg ns a vs hz hl hi
  obtain ⟨ob,ho,hc,kk,hd⟩:=hl
  have hgg:∀ b o,b ≠ a→s₁.heap.get? b = some o→(hideAll s₁.heap [a]).get? b = some o:=fun b o n q=>hideAll_get _ q fun m=>n (List.mem_singleton.mp m)
  have hKg:(KF w.params).In (hideAll s₁.heap [a]):=fun b o e=>by
    refine hgg b o (fun q=>?_) (K b o e)
    subst q
    have:=K b o e
    rw [ho] at this
    cases this
    have h1:=List.all_eq_true.mp (kf_nolist w.params) _ (lookup_mem e)
    rw [hc] at h1
    cases h1
  have nd:∀ {b:Addr} {m:PySem.Str→Option PySem.Value},s₁.heap.Ns b m→(hideAll s₁.heap [a]).Ns b m:=fun {b m} ⟨o,es,ep,h1,h2,h3⟩=>by
    refine ⟨o,es,ep,hgg b o (fun q=>?_) h1,h2,h3⟩
    subst q
    rw [ho] at h1
    cases h1
    rw [hd] at h2
    cases h2
  have hTg:TopRead p loose mg mb (hideAll s₁.heap [a]):=⟨nd T.g,nd T.b,(let ⟨mc,h1,h2⟩:=T.nolimit;⟨mc,nd h1,h2⟩),T.builtins,T.free⟩
  have hR:HRep (hideAll s₁.heap [a]) ⟨s₁.gens,s₁.drawn,s₁.os⟩ (fun _=>a) [.raw (eqO ob)] s₁:=by
    refine ⟨⟨[[(a,ob)]],fun b o q=>of_hideAll _ q,by rw [hideAll_size];exact Nat.le_refl _,fun i c hc q hq=>?_,⟨fun i c hc=>?_,fun i j c d hij h1 h2=>?_⟩,⟨rfl,fun i o h=>?_⟩⟩,rfl,rfl,rfl⟩
    · cases i with
      | zero=>cases hc;rcases List.mem_singleton.mp hq with rfl;exact ⟨ho,hideAll_none _ (.head _)⟩
      | succ i=>cases hc
    · cases i with
      | zero=>cases hc;simp
      | succ i=>cases hc
    · have l1:=lt_of_some h1
      have l2:=lt_of_some h2
      simp only [List.length_cons,List.length_nil] at l1 l2
      lia
    · cases i with
      | zero=>cases h;exact ⟨_,rfl,ob,rfl,rfl⟩
      | succ i=>cases h
  have hr:Room callerA (9 + 1):=⟨rfl,rfl,by decide,by decide⟩
  refine wpR_call (codeR_mono (enterC (W := WK ⟨PySem.Challenge.pw_nz0372_01, w, p, loose, mg, mb⟩) (P := Det (.bool true) [.raw (eqO ob)]) [x_script] x_cut x_sizes (WK_holds ..) (lk_law _) (cd_law _) (fun _ => rfl) rfl (by decide +kernel) (fun L => rfl) (by decide) rfl rfl rfl hr hKg hTg hR (args := [.ref 0]) (.cons ⟨Nat.lt_succ_self _, rfl⟩ .nil) fun L r0 e1 e2 O => ?_) fun r s' q => ?_)
  · refine law_all O ?_ ns (by lia) hc hd hi (H ns hz)
    refine (Around.frames_deeper (A:=callerA) (env:=envC n74 sc_law 717 (.ref 716) x_cut x_sizes L) (show callerA.frames = some [] from rfl)).trans ?_
    have e1:r0 1 = L + 1:=e1
    have e2:r0 2 = L + 2:=e2
    show some [({ scope := sc_law, locals := L, globals := mainGlobals, cells := [(x_sizes, L + 2), (x_cut, L + 1)], qual := n74 ++ ".<locals>.", func := some 717, code := .ref 716, frame := some L, builtins := builtinsNs } : Env)] = some [({ scope := sc_law, locals := L, globals := mainGlobals, cells := [(x_sizes, r0 2), (x_cut, r0 1)], qual := n74 ++ ".<locals>.", func := some 717, code := .ref 716, frame := some L, builtins := builtinsNs } : Env)]
    rw [e1,e2]
  · rcases r with x | (v | _ | _ | _) <;> first | exact q.elim | skip
    obtain ⟨ρ',res,objs',z1,z2,⟨⟨chs,c1,c2,c3,c4,c5⟩,g1,g2,g3⟩,z4,rfl,rfl⟩:=q
    refine ⟨z4,fun b o e=>?_,g3,g1⟩
    by_cases n:b = a
    · subst n
      rw [ho] at e
      cases e
      obtain ⟨ch,hch,o,rfl,h2⟩:=c5.at_ 0 _ rfl
      have:=(c3 _ _ hch _ (.head _)).1
      rw [show ρ' 0 = b from z1 0 (Nat.lt_succ_self _) rfl] at this
      rw [this];exact congrArg some h2
    · exact c1 b o (hgg b o n e)
theorem law_holds (H : ∀ ns : List Int, ns.length ≤ 63 → PlainOk ns (suOf ns) (rowsOf ns) (cutOf ns)) : PySem.Challenge.rw_nz0372_01.Holds := head (law_walk H)
end Mine
end
section
namespace Mine
structure Bo where
  out:List UInt8
  blk:Blk
noncomputable def stepO (bs:Int) (o:Bo) (r:Row):Bo:=if bs ≤ blkEst (blkAdd o.blk r.1 r.2) then ⟨o.out++sealB (blkFin (blkAdd o.blk r.1 r.2)),blk0 o.blk.iv⟩ else ⟨o.out,blkAdd o.blk r.1 r.2⟩
noncomputable def runOf (bs:Int) (o:Bo) (rows:List Row):Bo:=rows.foldl (stepO bs) o
noncomputable def boOf (B:Tab):Bo:=⟨B.out,B.blk⟩
theorem blkAdd_iv (b:Blk) (k v:List UInt8):(blkAdd b k v).iv = b.iv∧(blkAdd b k v).ents = b.ents + 1∧(blkAdd b k v).last = k∧(blkAdd b k v).fin = b.fin:=by
  unfold blkAdd;split <;> exact ⟨rfl,rfl,rfl,rfl⟩
theorem stepB_bo (B:Tab) (r:Row):boOf (stepB B r) = stepO B.bs (boOf B) r:=by
  obtain ⟨bs,ri,bits,lg,out,blk,idx,flt,wait,last,ents,closed,ffin⟩:=B
  have hi:=(blkAdd_iv blk r.1 r.2).1
  cases wait <;>
  · show boOf (if bs ≤ blkEst (blkAdd blk r.1 r.2) then _ else _) = if bs ≤ blkEst (blkAdd blk r.1 r.2) then _ else _
    split
    · show Bo.mk _ (blk0 (blkAdd blk r.1 r.2).iv) = _
      rw [hi];rfl
    · rfl
theorem runB_bo (B:Tab) (rows:List Row):boOf (runB B rows) = runOf B.bs (boOf B) rows:=by
  induction rows generalizing B with
  | nil=>rfl
  | cons r rs ih =>
    show boOf (runB (stepB B r) rs) = runOf B.bs (stepO B.bs (boOf B) r) rs
    rw [ih,stepB_bo,show (stepB B r).bs = B.bs from (runB_cfg B [r]).1]
structure Kin (ri:Int) (o:Bo) (S:Rk):Prop where
  out:(o.out.length:Int) = S.closed
  ents:o.blk.ents = S.many
  pos:0 ≤ S.many
  iv:o.blk.iv = ri
  fin:o.blk.fin = false
  buf:(o.blk.buf.length:Int) = S.weight
  zero:S.many = 0→o.blk = blk0 ri
  more:0 < S.many→o.blk.since = (S.many - 1) % ri + 1∧(o.blk.rs.length:Int) = (S.many + ri - 1) / ri∧o.blk.last = S.before∧S.block = blkEst o.blk
theorem blkFin_est (b:Blk):((blkFin b).length:Int) = blkEst b:=by rw [blkFin_len];unfold blkEst;push_cast;lia
theorem cut_drop_len (k:List UInt8) (n:Nat) (h:n ≤ k.length):((cut k (some (n:Int)) none).length:Int) = k.length - n:=by
  rw [cut_drop _ _ h,List.length_drop];exact Int.ofNat_sub h
theorem blkNew_buf (b:Blk) (k v:List UInt8) (sh:Nat) (rs:List Int) (si:Int) (h:sh ≤ k.length):((blkNew b k v sh rs si).buf.length:Int) = b.buf.length + (3 + (k.length:Int) - sh + v.length):=by
  have:=cut_drop_len k sh h
  unfold blkNew
  simp only [List.length_append]
  have l1:∀ x:Int,(rowB [x]).length = 1:=fun _=>rfl
  rw [l1,l1,l1]
  push_cast
  lia
theorem Kin.start (ri:Int):Kin ri ⟨[],blk0 ri⟩ rk0:=⟨rfl,rfl,Int.le_refl 0,rfl,rfl,rfl,fun _=>rfl,fun h=>absurd h (by decide)⟩
theorem ar_t {m ri:Int} (hr:ri = 1 ∨ ri = 2 ∨ ri = 3) (hp:0 < m):((m - 1) % ri + 1 < ri→0 < m % ri∧(m - 1) % ri + 1 = m % ri∧(m + ri - 1) / ri = (m + 1 + ri - 1) / ri)∧(¬ (m - 1) % ri + 1 < ri→m % ri = 0∧(m + ri - 1) / ri + 1 = (m + 1 + ri - 1) / ri):=by
  have hr:0 < ri:=by rcases hr with rfl | rfl | rfl <;> decide
  have h0:=Int.emod_nonneg (m - 1) (Int.ne_of_gt hr)
  have h1:=Int.emod_lt_of_pos (m - 1) hr
  have e:=Int.emod_add_mul_ediv (m - 1) ri
  generalize (m - 1) % ri = s at *
  generalize (m - 1) / ri = q at *
  have hm:m = (s + 1) + ri * q:=by rw [Int.add_right_comm,e,Int.sub_add_cancel]
  have dv:∀ a c:Int,0 ≤ a→a < ri→(a + ri * c) / ri = c:=fun a c h h'=>by rw [Int.add_mul_ediv_left _ _ (Int.ne_of_gt hr),Int.ediv_eq_zero_of_lt h h',Int.zero_add]
  have g1:m + ri - 1 = s + ri * (q + 1):=by rw [hm,Int.mul_add,Int.mul_one];lia
  have g2:m + 1 + ri - 1 = (s + 1) + ri * (q + 1):=by rw [hm,Int.mul_add,Int.mul_one];lia
  have g3:=dv s (q + 1) h0 h1
  refine ⟨fun h=>?_,fun h=>?_⟩
  · have z:m % ri = s + 1:=by rw [hm,Int.add_mul_emod_self_left,Int.emod_eq_of_lt (Int.le_of_lt (Int.lt_add_one_of_le h0)) h]
    exact ⟨by rw [z];exact Int.lt_add_one_of_le h0,z.symm,by rw [g1,g2,g3,dv (s + 1) (q + 1) (Int.le_of_lt (Int.lt_add_one_of_le h0)) h]⟩
  · have hs:s + 1 = ri:=Int.le_antisymm h1 (Int.not_lt.mp h)
    refine ⟨by rw [hm,hs,Int.add_mul_emod_self_left,Int.emod_self],?_⟩
    rw [g1,g2,g3,hs]
    have:=dv 0 (q + 2) (Int.le_refl 0) hr
    rw [show ri + ri * (q + 1) = 0 + ri * (q + 2) by rw [Int.mul_add,Int.mul_add];lia,this]
    lia
theorem ar_0 {ri:Int} (hr:ri = 1 ∨ ri = 2 ∨ ri = 3):0 < ri∧(0:Int) % ri = 0∧((0:Int) + 1 + ri - 1) / ri = 1:=by
  rcases hr with rfl | rfl | rfl <;> decide
theorem Kin.add {ri:Int} {o:Bo} {S:Rk} (h:Kin ri o S) (hr:ri = 1 ∨ ri = 2 ∨ ri = 3) (r:Row) :
    ((blkAdd o.blk r.1 r.2).buf.length:Int) = wK ri S r∧(blkAdd o.blk r.1 r.2).since = S.many % ri + 1∧((blkAdd o.blk r.1 r.2).rs.length:Int) = (S.many + 1 + ri - 1) / ri:=by
  obtain ⟨_,_,h3,h4,_,h6,h7,h8⟩:=h
  obtain ⟨p0,p1,p2⟩:=ar_0 hr
  unfold wK shK blkAdd
  rw [Int.fmod_eq_emod_of_nonneg _ (Int.le_of_lt p0)]
  rcases Int.lt_or_eq_of_le h3 with hp | hp
  · obtain ⟨k1,k2,k3,k4⟩:=h8 hp
    obtain ⟨a1,a2⟩:=ar_t hr hp
    have hc:=cpl_le o.blk.last r.1
    rw [k1,h4,← h6]
    by_cases q:(S.many - 1) % ri + 1 < ri
    · obtain ⟨b1,b2,b3⟩:=a1 q
      rw [if_pos q,if_pos b1,← k3]
      exact ⟨blkNew_buf _ _ _ _ _ _ hc.2,congrArg (· + 1) b2,k2.trans b3⟩
    · obtain ⟨b1,b2⟩:=a2 q
      rw [if_neg q,b1,if_neg (Int.lt_irrefl 0)]
      refine ⟨blkNew_buf o.blk r.1 r.2 0 _ 0 (Nat.zero_le _),rfl,?_⟩
      show ((o.blk.rs++[(o.blk.buf.length:Int)]).length:Int) = _
      rw [List.length_append,← b2,← k2];rfl
  · rw [h7 hp.symm,← hp,p1,p2]
    have h60:S.weight = 0:=by rw [← h6,h7 hp.symm];rfl
    rw [if_pos (show (blk0 ri).since < (blk0 ri).iv from p0),if_neg (Int.lt_irrefl 0),h60]
    have e0:cpl (blk0 ri).last r.1 = 0:=cpl_nil _
    rw [e0]
    exact ⟨blkNew_buf (blk0 ri) r.1 r.2 0 _ _ (Nat.zero_le _),rfl,rfl⟩
theorem Kin.step {ri bs:Int} {o:Bo} {S:Rk} (h:Kin ri o S) (hr:ri = 1 ∨ ri = 2 ∨ ri = 3) (r:Row):Kin ri (stepO bs o r) (stepK ri bs S r):=by
  obtain ⟨b1,b2,b3⟩:=h.add hr r
  obtain ⟨i1,i2,i3,i4⟩:=blkAdd_iv o.blk r.1 r.2
  obtain ⟨h1,h2,h3,h4,h5,h6,h7,h8⟩:=h
  have hest:blkEst (blkAdd o.blk r.1 r.2) = bK ri S r:=by
    unfold blkEst bK
    rw [Int.fdiv_eq_ediv_of_nonneg _ (Int.le_of_lt (ar_0 hr).1),b1,b3]
  unfold stepO stepK
  rw [hest]
  by_cases q:bs ≤ bK ri S r
  · rw [if_pos q,if_pos q]
    refine ⟨?_,rfl,Int.le_refl 0,h4,rfl,rfl,fun _=>by rw [h4],fun h=>absurd h (Int.lt_irrefl 0)⟩
    show ((o.out++sealB _).length:Int) = S.closed + (bK ri S r + 5)
    rw [List.length_append,sealB_len,← h1,← hest,← blkFin_est]
    rfl
  · rw [if_neg q,if_neg q]
    have hp:0 < S.many + 1:=Int.lt_add_one_of_le h3
    refine ⟨h1,i2.trans (congrArg (· + 1) h2),Int.le_of_lt hp,i1.trans h4,i4.trans h5,b1,fun h=>absurd h (Int.ne_of_gt hp),fun _=>⟨b2.trans ?_,b3,i3,hest.symm⟩⟩
    show S.many % ri + 1 = (S.many + 1 - 1) % ri + 1
    rw [Int.add_sub_cancel]
theorem Kin.run {ri bs:Int} (hr:ri = 1 ∨ ri = 2 ∨ ri = 3) (rows:List Row):Kin ri (runOf bs ⟨[],blk0 ri⟩ rows) (runK ri bs rows):=by
  have key:∀ (l:List Row) (o:Bo) (S:Rk),Kin ri o S→Kin ri (runOf bs o l) (l.foldl (stepK ri bs) S):=fun l=>by
    induction l with
    | nil=>intro o S h;exact h
    | cons r l ih=>intro o S h;exact ih _ _ (h.step hr r)
  exact key rows _ _ (Kin.start ri)
end Mine
end
section
namespace Mine
noncomputable def finO (o:Bo):List UInt8:=if o.blk.ents = 0 then o.out else o.out++sealB (blkFin o.blk)
theorem tabF_out (B:Tab) (g:Option Flt):(tabF B g).out = finO (boOf B):=by
  unfold tabF finO boOf
  split <;> rfl
theorem enK_len {ri bs:Int} {o:Bo} {S:Rk} (h:Kin ri o S):((finO o).length:Int) = endK S:=by
  unfold finO endK
  have h2:=h.ents
  have h3:=h.pos
  by_cases q:0 < S.many
  · rw [if_pos q,if_neg (by lia),List.length_append,sealB_len]
    push_cast
    rw [blkFin_est,h.out,(h.more q).2.2.2]
    lia
  · rw [if_neg q,if_pos (by lia),h.out]
theorem stepK_sizes (ri bs:Int) (S:Rk) (r:Row):(stepK ri bs S r).sizes = S.sizes++[(stepK ri bs S r).closed]:=by
  unfold stepK;split <;> rfl
theorem riOf_c (su:Int):riOf su = 1 ∨ riOf su = 2 ∨ riOf su = 3:=by unfold riOf;lia
section
variable (su bits:Int)
noncomputable def Bb:Tab:=tab0 (bsOf su) (riOf su) bits (lgOf su) none
theorem kin_of (rows:List Row):Kin (riOf su) (boOf (runB (Bb su bits) rows)) (runK (riOf su) (bsOf su) rows):=by
  rw [runB_bo];exact Kin.run (riOf_c su) rows
theorem outs_take (rows:List Row):∀ i,i ≤ rows.length→outsB (Bb su bits) rows (i + 1) = (runK (riOf su) (bsOf su) (rows.take i)).sizes
  | 0,_=>by
    rw [outsB_next]
    show outsB _ _ 0++[_] = rk0.sizes
    rfl
  | i + 1,h=>by
    rw [outsB_next,outs_take rows i (by lia)]
    obtain ⟨r,hr⟩:∃ r,rows[i]? = some r:=⟨_,List.getElem?_eq_getElem (by lia)⟩
    rw [runK_next hr,stepK_sizes,← runK_next hr]
    congr 2
    exact (kin_of su bits (rows.take (i + 1))).out
theorem outs_all (rows:List Row):outsB (Bb su bits) rows (rows.length + 1) = szs su rows:=by
  rw [outs_take su bits rows rows.length (Nat.le_refl _),List.take_length];rfl
theorem szs_take (rows:List Row) (c:Nat) (h:c ≤ rows.length):szs su (rows.take c) = (szs su rows).take (c + 1):=by
  rw [← outs_all su 0 rows]
  unfold outsB
  rw [← List.map_take,List.take_range,Nat.min_eq_left (by lia)]
  exact (outs_take su 0 rows c h).symm
theorem szs_at (rows:List Row) (c:Nat) (x:Int) (h:(szs su rows)[c]? = some x):x = ((runOf (bsOf su) ⟨[],blk0 (riOf su)⟩ (rows.take c)).out.length:Int):=by
  rw [← outs_all su 0 rows] at h
  have hc:=lt_of_some h
  unfold outsB at h hc
  rw [List.length_map,List.length_range] at hc
  rw [List.getElem?_map,List.getElem?_range hc] at h
  cases h
  show ((boOf (runB (Bb su 0) (rows.take c))).out.length:Int) = _
  rw [runB_bo];rfl
end
theorem runOf_app (bs:Int) (o:Bo) (l l':List Row):runOf bs o (l++l') = runOf bs (runOf bs o l) l':=List.foldl_append ..
theorem stepO_pre (bs:Int) (o:Bo) (p:List UInt8) (r:Row):stepO bs ⟨p++o.out,o.blk⟩ r = ⟨p++(stepO bs o r).out,(stepO bs o r).blk⟩:=by
  unfold stepO
  show (if bs ≤ blkEst (blkAdd o.blk r.1 r.2) then _ else _) = _
  split
  · show Bo.mk (p++o.out++_) _ = Bo.mk (p++(o.out++_)) _
    rw [List.append_assoc]
  · rfl
theorem runOf_pre (bs:Int) (p:List UInt8):∀ (l:List Row) (o:Bo),runOf bs ⟨p++o.out,o.blk⟩ l = ⟨p++(runOf bs o l).out,(runOf bs o l).blk⟩
  | [],o=>rfl
  | r :: l,o=>by
    show runOf bs (stepO bs ⟨p++o.out,o.blk⟩ r) l = ⟨p++(runOf bs (stepO bs o r) l).out,(runOf bs (stepO bs o r) l).blk⟩
    rw [stepO_pre,runOf_pre]
theorem runOf_out (bs:Int) (l:List Row) (o:Bo):∃ t,(runOf bs o l).out = o.out++t:=by
  have:=runOf_pre bs o.out l ⟨[],o.blk⟩
  rw [List.append_nil] at this
  exact ⟨_,congrArg Bo.out this⟩
theorem finO_pre (o:Bo):∃ t,finO o = o.out++t:=by
  unfold finO
  split
  · exact ⟨[],(List.append_nil _).symm⟩
  · exact ⟨_,rfl⟩
theorem finO_app (p:List UInt8) (o:Bo):finO ⟨p++o.out,o.blk⟩ = p++finO o:=by
  unfold finO
  show (if o.blk.ents = 0 then p++o.out else p++o.out++_) = _
  split
  · rfl
  · rw [List.append_assoc]
theorem cut_pre (p q:List UInt8):cut (p++q) none (some (p.length:Int)) = p:=by rw [cut_take,List.take_left]
theorem cut_pre' {l p q:List UInt8} {n:Int} (h:l = p++q) (hn:(p.length:Int) = n):cut l none (some n) = p:=by rw [h,← hn,cut_pre]
end Mine
end
section
namespace Mine
theorem octet0 (x:Int) (r:List UInt8) (h0:0 ≤ x) (h1:x < 256):octet ((rowB [x])++r) 0 = x:=by
  show ((x.toNat.toUInt8).toNat:Int) = x
  rw [Nat.toUInt8,UInt8.toNat_ofNat']
  exact octet_ok x h0 h1
theorem lawEnd_ft (p:List UInt8) (a b c d:Int) (h0:0 ≤ a) (h1:a < 16384):lawEnd (p++ftB a b c d) = a:=by
  have hc:cut (p++ftB a b c d) (some (((p++ftB a b c d).length:Int) - 48)) none = ftB a b c d:=by
    have e:(((p++ftB a b c d).length:Int) - 48) = (p.length:Int):=by rw [List.length_append,ftB_len];lia
    rw [e,cut_drop _ _ (by rw [List.length_append];lia),List.drop_left]
  unfold lawEnd
  rw [hc]
  obtain ⟨t,ht⟩:∃ t,ftB a b c d = vint a++t:=by unfold ftB;exact ⟨_,by simp only [List.append_assoc];rfl⟩
  rw [ht]
  by_cases q:a < 128
  · have hv:vint a = rowB [a]:=if_pos q
    rw [hv,octet0 a t h0 (by lia),if_pos q]
  · have hv:vint a = rowB [Builtin.bitOr (Builtin.bitAnd a 127) 128,a.fdiv (2 ^ 7)]:=if_neg q
    have hand:Builtin.bitAnd a 127 = a % 128:=bitAnd_m7 a
    have hor:=bitOr_128 (a % 128) (by lia) (by lia)
    have hd:a.fdiv (2 ^ 7) = a / 128:=by rw [Int.fdiv_eq_ediv_of_nonneg _ (by decide)];rfl
    have h1':octet (vint a++t) 0 = a % 128 + 128:=by
      rw [hv,hand,hor]
      exact octet0 (a % 128 + 128) (rowB [a.fdiv (2 ^ 7)]++t) (by lia) (by lia)
    have h2':octet (vint a++t) 1 = a / 128:=by
      rw [hv,hd]
      exact octet0 (a / 128) t (by lia) (by lia)
    rw [h1',h2',if_neg (by lia)]
    lia
section
variable (su bits:Int)
theorem finB_parts (T:Tab) (Z:List UInt8) (mb:Blk):∃ p,finB T Z mb = p++ftB (T.out++Z).length (blkFin mb).length ((T.out++Z)++sealB (blkFin mb)).length (blkFin (tabS T)).length∧∃ t,finB T Z mb = T.out++t:=by
  refine ⟨_,rfl,?_⟩
  unfold finB
  exact ⟨_,by simp only [List.append_assoc];rfl⟩
theorem finB_len (T:Tab) (Z:List UInt8) (mb:Blk):(finB T Z mb).length = (T.out++Z).length + (blkFin mb).length + (blkFin (tabS T)).length + 58:=by
  unfold finB
  simp only [List.length_append,sealB_len,ftB_len]
  lia
noncomputable def dat (rows:List Row):List UInt8:=finO (runOf (bsOf su) ⟨[],blk0 (riOf su)⟩ rows)
theorem dat_of (rows:List Row):(tabF (runB (Bb su bits) rows) none).out = dat su rows:=by
  rw [tabF_out,runB_bo];rfl
theorem dat_len (rows:List Row):((dat su rows).length:Int) = enK su rows:=enK_len (bs:=bsOf su) (Kin.run (riOf_c su) rows)
theorem wB_pre (rows:List Row):∃ t,wB su rows = dat su rows++t:=by
  obtain ⟨_,_,t,ht⟩:=finB_parts (tabF (runB (B0 su) rows) none) [] (blk0 (riOf su))
  exact ⟨t,by rw [← dat_of su 0 rows];exact ht⟩
theorem wB_end (rows:List Row) (h:(dat su rows).length < 16384):lawEnd (wB su rows) = enK su rows:=by
  obtain ⟨p,hp,_⟩:=finB_parts (tabF (runB (B0 su) rows) none) [] (blk0 (riOf su))
  have e:(tabF (runB (B0 su) rows) none).out = dat su rows:=dat_of su 0 rows
  show lawEnd (finB _ _ _) = _
  rw [hp,lawEnd_ft _ _ _ _ _ (by lia) (by rw [List.append_nil,e];lia),List.append_nil,e,dat_len]
theorem wB_cut (rows:List Row):cut (wB su rows) none (some (enK su rows)) = dat su rows:=by
  obtain ⟨t,ht⟩:=wB_pre su rows
  exact cut_pre' ht (dat_len su rows)
theorem wB_len (rows:List Row) (hd:(dat su rows).length ≤ 5000) (he:EndOk (runB (B0 su) rows)):48 ≤ (wB su rows).length∧(wB su rows).length ≤ 100000:=by
  have h:=finB_len (tabF (runB (B0 su) rows) none) [] (blk0 (riOf su))
  have e:(tabF (runB (B0 su) rows) none).out = dat su rows:=dat_of su 0 rows
  have e2:(blkFin (blk0 (riOf su))).length = 8:=by rw [blkFin_len];rfl
  rw [List.append_nil,e,e2] at h
  have:=he.il
  unfold wB
  lia
theorem lit_ok (rows:List Row) (hd:(dat su rows).length ≤ 5000) (he:EndOk (runB (B1 su) rows)):LitOk su rows:=by
  refine ⟨outs_all su (litOf su) rows,fun Z mb hz=>?_⟩
  have e:(tabF (runB (B1 su) rows) none).out = dat su rows:=dat_of su (litOf su) rows
  have h:=finB_len (tabF (runB (B1 su) rows) none) Z mb
  have:=he.il
  refine ⟨by lia,?_⟩
  obtain ⟨_,_,t,ht⟩:=finB_parts (tabF (runB (B1 su) rows) none) Z mb
  rw [wB_cut,cut_pre' ht (by rw [e];exact dat_len su rows),e]
theorem x_ok (rows:List Row) (c:Nat) (hc:c ≤ rows.length) (x:Int) (hx:(szs su rows)[c]? = some x):cut (wB su (rows.take c)) none (some x) = cut (wB su rows) none (some x):=by
  have e:=szs_at su rows c x hx
  generalize ho:runOf (bsOf su) ⟨[],blk0 (riOf su)⟩ (rows.take c) = o at e
  obtain ⟨t1,h1⟩:=wB_pre su (rows.take c)
  obtain ⟨t2,h2⟩:=finO_pre o
  obtain ⟨t3,h3⟩:=wB_pre su rows
  obtain ⟨t4,h4⟩:=finO_pre (runOf (bsOf su) ⟨[],blk0 (riOf su)⟩ rows)
  obtain ⟨t5,h5⟩:=runOf_out (bsOf su) (rows.drop c) o
  have e1:runOf (bsOf su) ⟨[],blk0 (riOf su)⟩ rows = runOf (bsOf su) o (rows.drop c):=by rw [← ho,← runOf_app,List.take_append_drop]
  have d1:dat su (rows.take c) = finO o:=by unfold dat;rw [ho]
  have w1:wB su (rows.take c) = o.out++(t2++t1):=by rw [h1,d1,h2,List.append_assoc]
  have w2:wB su rows = o.out++(t5++(t4++t3)):=by
    rw [h3];unfold dat;rw [h4,e1,h5];simp only [List.append_assoc]
  rw [cut_pre' w1 e.symm,cut_pre' w2 e.symm]
end
end Mine
end
section
namespace Mine
section
variable (su:Int)
theorem szs_len (rows:List Row):(szs su rows).length = rows.length + 1:=by unfold szs;rw [runK_len]
theorem blk_zero (rows:List Row) (c:Nat) (hc:c ≤ rows.length) (h:c = 0 ∨ (szs su rows).getD (c - 1) 0 < (szs su rows).getD c 0):(runOf (bsOf su) ⟨[],blk0 (riOf su)⟩ (rows.take c)).blk = blk0 (riOf su):=by
  match c,hc,h with
  | 0,_,_=>rfl
  | c + 1,hc,h =>
    have h:=h.resolve_left (by lia)
    have l:=szs_len su rows
    have e1:=szs_at su rows c _ (List.getElem?_eq_getElem (by lia))
    have e2:=szs_at su rows (c + 1) _ (List.getElem?_eq_getElem (by lia))
    rw [show c + 1 - 1 = c by lia,List.getD_eq_getElem?_getD,List.getD_eq_getElem?_getD,List.getElem?_eq_getElem (show c < _ by lia),List.getElem?_eq_getElem (show c + 1 < _ by lia),Option.getD_some,Option.getD_some,e1,e2] at h
    obtain ⟨r,hr⟩:∃ r,rows[c]? = some r:=⟨_,List.getElem?_eq_getElem (by lia)⟩
    have hs:rows.take (c + 1) = rows.take c++[r]:=by rw [List.take_add_one,hr];rfl
    have iv:=(Kin.run (bs:=bsOf su) (riOf_c su) (rows.take c)).iv
    rw [hs,runOf_app] at h ⊢
    generalize runOf (bsOf su) ⟨[],blk0 (riOf su)⟩ (rows.take c) = o at h iv ⊢
    show (stepO (bsOf su) o r).blk = _
    replace h:(o.out.length:Int) < ((stepO (bsOf su) o r).out.length:Int):=h
    unfold stepO at h ⊢
    split
    · show blk0 o.blk.iv = _
      rw [iv]
    · rename_i q
      rw [if_neg q] at h
      exact absurd h (Int.lt_irrefl _)
theorem run_split (rows:List Row) (c:Nat) (h:(runOf (bsOf su) ⟨[],blk0 (riOf su)⟩ (rows.take c)).blk = blk0 (riOf su)) (j:Nat) (hj:c ≤ j) :
    runOf (bsOf su) ⟨[],blk0 (riOf su)⟩ (rows.take j) = ⟨(runOf (bsOf su) ⟨[],blk0 (riOf su)⟩ (rows.take c)).out++(runOf (bsOf su) ⟨[],blk0 (riOf su)⟩ ((rows.drop c).take (j - c))).out,(runOf (bsOf su) ⟨[],blk0 (riOf su)⟩ ((rows.drop c).take (j - c))).blk⟩:=by
  have e:rows.take j = rows.take c++(rows.drop c).take (j - c):=by
    have h1:=List.take_append_drop c (rows.take j)
    rw [List.take_take,Nat.min_eq_left hj,List.drop_take] at h1
    exact h1.symm
  rw [e,runOf_app]
  generalize runOf (bsOf su) ⟨[],blk0 (riOf su)⟩ (rows.take c) = o at h ⊢
  have:=runOf_pre (bsOf su) o.out ((rows.drop c).take (j - c)) ⟨[],blk0 (riOf su)⟩
  rw [List.append_nil] at this
  rw [← this]
  obtain ⟨out,blk⟩:=o
  cases h
  rfl
theorem fit_ok (rows:List Row) (c:Nat) (hc:c ≤ rows.length) (h:fitB su rows rows.length c = true) (x:Int) (hx:(szs su rows)[c]? = some x) :
    movd x (szs su (rows.drop c)) = (szs su rows).drop c∧dat su (rows.take c)++dat su (rows.drop c) = dat su rows:=by
  have l:=szs_len su rows
  have ld:=szs_len su (rows.drop c)
  rw [List.length_drop] at ld
  have ex:=szs_at su rows c x hx
  by_cases hn:c = rows.length
  · subst hn
    have e0:rows.drop rows.length = []:=List.drop_eq_nil_of_le (Nat.le_refl _)
    rw [e0,List.take_length]
    refine ⟨?_,?_⟩
    · apply List.ext_getElem?
      intro i
      show ([(x + 0:Int)])[i]? = _
      rw [List.getElem?_drop]
      match i with
      | 0=>rw [Nat.add_zero,hx,Int.add_zero];rfl
      | i + 1=>rw [show (szs su rows)[rows.length + (i + 1)]? = none from List.getElem?_eq_none (by lia)];rfl
    · show dat su rows++[] = _
      rw [List.append_nil]
  · have hz:=blk_zero su rows c hc (by
      have:=of_decide_eq_true h
      rcases this with h | h | h
      · exact .inl h
      · exact absurd h hn
      · exact .inr h)
    have sp:=run_split su rows c hz
    refine ⟨?_,?_⟩
    · apply List.ext_getElem?
      intro i
      unfold movd
      rw [List.getElem?_map,List.getElem?_drop]
      by_cases hi:i < rows.length - c + 1
      · have e1:=szs_at su (rows.drop c) i _ (List.getElem?_eq_getElem (by lia))
        have e2:=szs_at su rows (c + i) _ (List.getElem?_eq_getElem (by lia))
        rw [List.getElem?_eq_getElem (show i < (szs su (rows.drop c)).length by lia),List.getElem?_eq_getElem (show c + i < (szs su rows).length by rw [l];exact sub_add_lt hc hi),Option.map_some,e1,e2,sp (c + i) (by lia),ex]
        congr 1
        rw [show c + i - c = i by lia]
        show _ = ((_++_:List UInt8).length:Int)
        rw [List.length_append]
        push_cast
        rfl
      · rw [List.getElem?_eq_none (by lia),List.getElem?_eq_none (by lia)];rfl
    · have s2:=sp rows.length hc
      have e3:(rows.drop c).take (rows.length - c) = rows.drop c:=List.take_of_length_le (by rw [List.length_drop];exact Nat.le_refl _)
      rw [List.take_length,e3] at s2
      have d1:dat su rows = (runOf (bsOf su) ⟨[],blk0 (riOf su)⟩ (rows.take c)).out++dat su (rows.drop c):=by
        unfold dat
        rw [s2]
        exact finO_app _ _
      have d2:dat su (rows.take c) = (runOf (bsOf su) ⟨[],blk0 (riOf su)⟩ (rows.take c)).out:=by
        unfold dat finO
        rw [hz];exact if_pos rfl
      rw [d1,d2]
end
end Mine
end
section
namespace Mine
theorem tolds_all (su:Int) (rows:List Row):tolds su rows = szs su rows:=outs_all su 0 rows
theorem plain_of (ns:List Int) (su:Int) (rows:List Row) (c:Nat) (hc:c ≤ rows.length) (tot:TotH (hdsOf (numsOf ns) 3)) (hd:∀ x ∈ hdsF (numsOf ns),HdOk x) (p1:Plan (B0 su) rows true) (p2:Plan (B1 su) rows false)
    (p3:Plan (B0 su) (rows.take c) false) (p4:Plan (B0 su) (rows.drop c) false) (hl:∀ r:List Row,(r = rows ∨ r = rows.take c ∨ r = rows.drop c)→(dat su r).length ≤ 5000):PlainOk ns su rows c:=by
  have L1:=hl _ (.inl rfl)
  have L2:=hl _ (.inr (.inl rfl))
  have L3:=hl _ (.inr (.inr rfl))
  refine ⟨tot,hd,p1,p2,p3,p4,tolds_all su rows,wB_end su rows (by lia),lit_ok su rows L1 p2.fin,?_,fun x hx=>x_ok su rows c hc x hx,fun h x hx=>?_,wB_len su rows L1 p1.fin,wB_len su _ L2 p3.fin,wB_len su _ L3 p4.fin⟩
  · rw [tolds_all,szs_take su rows c hc]
  · obtain ⟨h1,h2⟩:=fit_ok su rows c hc h x hx
    rw [tolds_all,wB_end su _ (by lia),wB_end su _ (by lia),wB_cut,wB_cut,wB_cut]
    exact ⟨h1,h2⟩
theorem len_run (bs:Int):∀ (l:List Row) (o:Bo),(∀ r ∈ l,r.1.length ≤ 11∧r.2.length ≤ 3)→(runOf bs o l).out.length + (runOf bs o l).blk.buf.length + 4 * (runOf bs o l).blk.rs.length ≤ o.out.length + o.blk.buf.length + 4 * o.blk.rs.length + 40 * l.length
  | [],o,_=>by
    have e:runOf bs o [] = o:=rfl
    rw [e];simp
  | r :: l,o,h=>by
    have ih:=len_run bs l (stepO bs o r) fun x hx=>h x (.tail _ hx)
    obtain ⟨r1,r2⟩:=h r (.head _)
    have hb:(blkAdd o.blk r.1 r.2).buf.length ≤ o.blk.buf.length + 17∧(blkAdd o.blk r.1 r.2).rs.length ≤ o.blk.rs.length + 1:=by
      unfold blkAdd
      split
      · have:=blkNew_len o.blk r.1 r.2 (cpl o.blk.last r.1:Nat) o.blk.rs o.blk.since
        exact ⟨by lia,by show o.blk.rs.length ≤ _;lia⟩
      · have:=blkNew_len o.blk r.1 r.2 0 (o.blk.rs++[(o.blk.buf.length:Int)]) 0
        refine ⟨by lia,?_⟩
        show (o.blk.rs++[_]).length ≤ _
        rw [List.length_append];exact Nat.le_refl _
    have hs:(stepO bs o r).out.length + (stepO bs o r).blk.buf.length + 4 * (stepO bs o r).blk.rs.length ≤ o.out.length + o.blk.buf.length + 4 * o.blk.rs.length + 40:=by
      unfold stepO
      split
      · show (o.out++sealB _).length + 0 + 4 * 1 ≤ _
        rw [List.length_append,sealB_len,blkFin_len]
        lia
      · show o.out.length + (blkAdd o.blk r.1 r.2).buf.length + 4 * (blkAdd o.blk r.1 r.2).rs.length ≤ _
        lia
    have e1:runOf bs o (r :: l) = runOf bs (stepO bs o r) l:=rfl
    rw [e1,List.length_cons]
    lia
theorem dat_le (su:Int) (rows:List Row) (hz:∀ r ∈ rows,r.1.length ≤ 11∧r.2.length ≤ 3) (hn:rows.length ≤ 3):(dat su rows).length ≤ 150:=by
  have h:=len_run (bsOf su) rows ⟨[],blk0 (riOf su)⟩ hz
  have e:(Bo.mk [] (blk0 (riOf su))).out.length + (Bo.mk [] (blk0 (riOf su))).blk.buf.length + 4 * (Bo.mk [] (blk0 (riOf su))).blk.rs.length = 4:=rfl
  rw [e] at h
  unfold dat finO
  split
  · lia
  · rw [List.length_append,sealB_len,blkFin_len];lia
end Mine
end
section
namespace Mine
noncomputable def keyN (i:Nat):List UInt8:=(users.getD (i / 6) [])++rowB [1 - ((i % 2:Nat):Int),3 - ((i % 6 / 2:Nat):Int),0,0,0,0,0,0]
theorem ord36:∀ i j:_root_.Fin 36,decide (0 < cmpI (keyN j.val) (keyN i.val)) = decide (i.val < j.val):=by decide +kernel
theorem len36:∀ i:_root_.Fin 36,8 ≤ (keyN i.val).length∧(keyN i.val).length ≤ 11∧8 ≤ (sucI (keyN i.val)).length∧(sucI (keyN i.val)).length ≤ 20:=by decide +kernel
theorem sep36:∀ i j:_root_.Fin 36,i.val < j.val→8 ≤ (sepI (keyN i.val) (keyN j.val)).length∧(sepI (keyN i.val) (keyN j.val)).length ≤ 20∧0 < cmpI (sucI (keyN j.val)) (sepI (keyN i.val) (keyN j.val)):=by decide +kernel
theorem tri36:∀ i j l:_root_.Fin 36,i.val < j.val→j.val < l.val→0 < cmpI (sepI (keyN j.val) (keyN l.val)) (sepI (keyN i.val) (keyN j.val)):=by decide +kernel
end Mine
end
section
namespace Mine
noncomputable def hdN (i:Nat) (v:List UInt8):Hd:=⟨users.getD (i / 6) [],-(3 - ((i % 6 / 2:Nat):Int)),-(1 - ((i % 2:Nat):Int)),v⟩
theorem num36:∀ (u:_root_.Fin 6) (a:_root_.Fin 3) (b:_root_.Fin 2),6 * u.val + 2 * (2 - a.val) + (1 - b.val) < 36∧(6 * u.val + 2 * (2 - a.val) + (1 - b.val)) / 6 = u.val∧-(3 - (((6 * u.val + 2 * (2 - a.val) + (1 - b.val)) % 6 / 2:Nat):Int)) = 0 - 1 - (a.val:Int) ∧
    -(1 - (((6 * u.val + 2 * (2 - a.val) + (1 - b.val)) % 2:Nat):Int)) = 0 - (b.val:Int):=by decide +kernel
theorem fmod_fin (x:Int) (n:Nat) (hn:0 < n):∃ u:_root_.Fin n,x.fmod n = (u.val:Int):=by
  have h0:(0:Int) < n:=Int.natCast_pos.mpr hn
  rw [Int.fmod_eq_emod_of_nonneg _ (Int.le_of_lt h0)]
  have h1:=Int.emod_nonneg x (Int.ne_of_gt h0)
  have h2:=Int.emod_lt_of_pos x h0
  obtain ⟨k,hk⟩:=Int.eq_ofNat_of_zero_le h1
  rw [hk] at h2 ⊢
  exact ⟨⟨k,Int.ofNat_lt.mp h2⟩,rfl⟩
theorem mkHd_num (x:Int) (j:Nat) (h0:0 ≤ x):∃ i,i < 36∧∃ v:List UInt8,v.length ≤ 3∧mkHd x j = hdN i v:=by
  obtain ⟨u,hu⟩:=fmod_fin x 6 (by decide)
  obtain ⟨a,ha⟩:=fmod_fin (x.fdiv 6) 3 (by decide)
  obtain ⟨b,hb⟩:=fmod_fin (x.fdiv 18) 2 (by decide)
  obtain ⟨c,hc⟩:=fmod_fin (x.fdiv 36) 4 (by decide)
  obtain ⟨n1,n2,n3,n4⟩:=num36 u a b
  refine ⟨_,n1,rowB (List.replicate c.val (65 + (j:Int))),?_,?_⟩
  · rw [rowB,List.length_map,List.length_replicate];exact Nat.le_of_lt_succ c.isLt
  · unfold mkHd hdN
    rw [n2,n3,n4]
    have hu:x.fmod 6 = (u.val:Int):=hu
    have ha:(x.fdiv 6).fmod 3 = (a.val:Int):=ha
    have hb:(x.fdiv 18).fmod 2 = (b.val:Int):=hb
    have hc:(x.fdiv 36).fmod 4 = (c.val:Int):=hc
    rw [hu,ha,hb,hc];rfl
theorem lt36:∀ i j:_root_.Fin 36,i.val ≠ j.val→ltH (hdN i.val []) (hdN j.val []) = decide (i.val < j.val)∧eq3 (hdN i.val []) (hdN j.val []) = false:=by decide +kernel
theorem row_num (i:Nat) (v:List UInt8):rowOf (hdN i v) = (keyN i,v):=by
  unfold rowOf hdN keyN
  simp only [Int.zero_sub,Int.neg_neg]
end Mine
end
section
namespace Mine
theorem ltH_v (x y:Hd) (h:eq3 x y = false):ltH x y = ltH ⟨x.u,x.a,x.b,[]⟩ ⟨y.u,y.a,y.b,[]⟩:=by
  unfold eq3 at h
  unfold ltH
  by_cases h1:(x.u == y.u) = true
  · by_cases h2:(x.a == y.a) = true
    · by_cases h3:(x.b == y.b) = true
      · rw [h1,h2,h3] at h;cases h
      · simp only [h1,h2,h3,if_true,if_false,Bool.false_eq_true]
    · simp only [h1,h2,if_true,if_false,Bool.false_eq_true]
  · simp only [h1,if_false,Bool.false_eq_true]
theorem eqN (i j:Nat) (v w:List UInt8) (hi:i < 36) (hj:j < 36) (h:i ≠ j):eq3 (hdN i v) (hdN j w) = false:=(lt36 ⟨i,hi⟩ ⟨j,hj⟩ h).2
theorem ltN (i j:Nat) (v w:List UInt8) (hi:i < 36) (hj:j < 36) (h:i ≠ j):ltH (hdN i v) (hdN j w) = decide (i < j):=by
  rw [ltH_v _ _ (eqN i j v w hi hj h)]
  exact (lt36 ⟨i,hi⟩ ⟨j,hj⟩ h).1
theorem eqS (i:Nat) (v w:List UInt8):eq3 (hdN i v) (hdN i w) = true:=by unfold eq3 hdN;simp
abbrev NV:=Nat × List UInt8
noncomputable def hdP (p:NV):Hd:=hdN p.1 p.2
theorem hds_num (N:List Int) (h0:∀ i,i ≤ 10→0 ≤ draw N i∧draw N i ≤ 1000400):∀ i,i ≤ 3→∃ l:List NV,hdsOf N i = l.map hdP∧l.Pairwise (fun p q=>p.1 ≠ q.1)∧∀ p ∈ l,p.1 < 36∧p.2.length ≤ 3
  | 0,_=>⟨[],rfl,.nil,fun p hp=>by cases hp⟩
  | i + 1,hi=>by
    obtain ⟨l,h1,h2,h3⟩:=hds_num N h0 i (by lia)
    obtain ⟨n,hn,v,hv,e⟩:=mkHd_num (draw N (1 + i)) i (h0 (1 + i) (by lia)).1
    unfold hdsOf
    split
    · exact ⟨l,h1,h2,h3⟩
    · rename_i hq
      refine ⟨l++[(n,v)],by rw [h1,e,List.map_append];rfl,?_,fun p hp=>?_⟩
      · rw [List.pairwise_append]
        refine ⟨h2,List.pairwise_singleton _ _,fun p hp q hq'=>?_⟩
        rcases List.mem_singleton.mp hq' with rfl
        intro hpn
        apply hq
        rw [h1,e,List.any_map,List.any_eq_true]
        refine ⟨p,hp,?_⟩
        show eq3 (hdN p.1 p.2) (hdN n v) = true
        rw [show p.1 = n from hpn]
        exact eqS n p.2 v
      · rcases List.mem_append.mp hp with hp | hp
        · exact h3 p hp
        · rcases List.mem_singleton.mp hp with rfl;exact ⟨hn,hv⟩
end Mine
end
section
namespace Mine
theorem ltP (p q:NV) (hp:p.1 < 36) (hq:q.1 < 36) (h:p.1 ≠ q.1):ltH (hdP p) (hdP q) = decide (p.1 < q.1):=ltN p.1 q.1 p.2 q.2 hp hq h
theorem pw2 {α:Type} {R:α→α→Prop} {a b:α} (h:R a b):[a,b].Pairwise R:=.cons (fun x hx=>by rw [List.mem_singleton.mp hx];exact h) (List.pairwise_singleton _ _)
theorem pw3 {α:Type} {R:α→α→Prop} {a b c:α} (h1:R a b) (h2:R a c) (h3:R b c):[a,b,c].Pairwise R:=.cons (fun x hx=>by
  rcases List.mem_cons.mp hx with rfl | hx
  · exact h1
  · rw [List.mem_singleton.mp hx];exact h2) (pw2 h3)
theorem al2 {α:Type} {P:α→Prop} {a b:α} (h1:P a) (h2:P b):∀ p ∈ [a,b],P p:=fun x hx=>by
  rcases List.mem_cons.mp hx with rfl | hx
  · exact h1
  · rw [List.mem_singleton.mp hx];exact h2
theorem al3 {α:Type} {P:α→Prop} {a b c:α} (h1:P a) (h2:P b) (h3:P c):∀ p ∈ [a,b,c],P p:=fun x hx=>by
  rcases List.mem_cons.mp hx with rfl | hx
  · exact h1
  · exact al2 h2 h3 x hx
theorem ne2 {a b:NV} (h:[a,b].Pairwise (fun p q=>p.1 ≠ q.1)):a.1 ≠ b.1:=List.rel_of_pairwise_cons h (.head _)
theorem ne3 {a b c:NV} (h:[a,b,c].Pairwise (fun p q=>p.1 ≠ q.1)):a.1 ≠ b.1∧a.1 ≠ c.1∧b.1 ≠ c.1:=⟨List.rel_of_pairwise_cons h (.head _),List.rel_of_pairwise_cons h (.tail _ (.head _)),ne2 h.tail⟩
theorem lt_tot {a b:NV} (ha:a.1 < 36) (hb:b.1 < 36) (hn:a.1 ≠ b.1):ltH (hdP a) (hdP b) = !ltH (hdP b) (hdP a):=by
  rw [ltP a b ha hb hn,ltP b a hb ha (Ne.symm hn),← decide_not]
  exact decide_eq_decide.mpr ⟨fun h=>Nat.not_lt.mpr (Nat.le_of_lt h),fun h=>Nat.lt_of_le_of_ne (Nat.not_lt.mp h) hn⟩
theorem tot_num (l:List NV) (h:l.Pairwise (fun p q=>p.1 ≠ q.1)) (m:∀ p ∈ l,p.1 < 36∧p.2.length ≤ 3):TotH (l.map hdP):=by
  match l,h,m with
  | [],_,_=>exact trivial
  | [_],_,_=>exact trivial
  | [a,b],h,m=>exact lt_tot (m a (.head _)).1 (m b (.tail _ (.head _))).1 (ne2 h)
  | [a,b,c],h,m =>
    obtain ⟨n1,n2,n3⟩:=ne3 h
    have hb:=(m b (.tail _ (.head _))).1
    exact ⟨lt_tot (m a (.head _)).1 hb n1,lt_tot hb (m c (.tail _ (.tail _ (.head _)))).1 n3⟩
  | _ :: _ :: _ :: _ :: _,_,_=>exact trivial
theorem lt_d {a b:Nat} {t:Bool} (h:decide (a < b) = t) (hn:b ≠ a):if t = true then a < b else b < a:=by
  cases t with
  | true=>exact of_decide_eq_true h
  | false=>exact Nat.lt_of_le_of_ne (Nat.not_lt.mp (of_decide_eq_false h)) hn
theorem sort_num (l:List NV) (hl:l.length ≤ 3) (h:l.Pairwise (fun p q=>p.1 ≠ q.1)) (m:∀ p ∈ l,p.1 < 36∧p.2.length ≤ 3):∃ l':List NV,sortH (l.map hdP) = l'.map hdP∧l'.Pairwise (fun p q=>p.1 < q.1)∧∀ p ∈ l',p.1 < 36∧p.2.length ≤ 3:=by
  match l,hl,h,m with
  | [],_,_,_=>exact ⟨[],rfl,.nil,fun p h=>nomatch h⟩
  | [a],_,_,m=>exact ⟨[a],rfl,List.pairwise_singleton _ _,m⟩
  | [a,b],_,h,m =>
    have ha:=m a (.head _)
    have hb:=m b (.tail _ (.head _))
    have hn:=ne2 h
    have e:sortH ([a,b].map hdP) = if decide (b.1 < a.1) = true then [hdP b,hdP a] else [hdP a,hdP b]:=by
      rw [← ltP b a hb.1 ha.1 (Ne.symm hn)];rfl
    clear h m
    cases q:decide (b.1 < a.1) with
    | true=>rw [q] at e;exact ⟨[b,a],e,pw2 (lt_d q hn),al2 hb ha⟩
    | false=>rw [q] at e;exact ⟨[a,b],e,pw2 (lt_d q hn),al2 ha hb⟩
  | [a,b,c],_,h,m =>
    have ha:=m a (.head _)
    have hb:=m b (.tail _ (.head _))
    have hc:=m c (.tail _ (.tail _ (.head _)))
    obtain ⟨n1,n2,n3⟩:=ne3 h
    have e:sortH ([a,b,c].map hdP) = if decide (b.1 < a.1) = true then (if decide (c.1 < b.1) = true then [hdP c,hdP b,hdP a] else if decide (c.1 < a.1) = true then [hdP b,hdP c,hdP a] else [hdP b,hdP a,hdP c])
        else (if decide (c.1 < b.1) = true then (if decide (c.1 < a.1) = true then [hdP c,hdP a,hdP b] else [hdP a,hdP c,hdP b]) else [hdP a,hdP b,hdP c]):=by
      rw [← ltP b a hb.1 ha.1 (Ne.symm n1),← ltP c b hc.1 hb.1 (Ne.symm n3),← ltP c a hc.1 ha.1 (Ne.symm n2)]
      rfl
    clear h m
    cases q1:decide (b.1 < a.1) with
    | true =>
      have r1:b.1 < a.1:=lt_d q1 n1
      rw [q1] at e
      cases q2:decide (c.1 < b.1) with
      | true =>
        have r2:c.1 < b.1:=lt_d q2 n3
        rw [q2] at e
        exact ⟨[c,b,a],e,pw3 r2 (Nat.lt_trans r2 r1) r1,al3 hc hb ha⟩
      | false =>
        have r2:b.1 < c.1:=lt_d q2 n3
        rw [q2] at e
        cases q3:decide (c.1 < a.1) with
        | true=>rw [q3] at e;exact ⟨[b,c,a],e,pw3 r2 r1 (lt_d q3 n2),al3 hb hc ha⟩
        | false=>rw [q3] at e;exact ⟨[b,a,c],e,pw3 r1 r2 (lt_d q3 n2),al3 hb ha hc⟩
    | false =>
      have r1:a.1 < b.1:=lt_d q1 n1
      rw [q1] at e
      cases q2:decide (c.1 < b.1) with
      | true =>
        have r2:c.1 < b.1:=lt_d q2 n3
        rw [q2] at e
        cases q3:decide (c.1 < a.1) with
        | true=>rw [q3] at e;exact ⟨[c,a,b],e,pw3 (lt_d q3 n2) r2 r1,al3 hc ha hb⟩
        | false=>rw [q3] at e;exact ⟨[a,c,b],e,pw3 (lt_d q3 n2) r1 r2,al3 ha hc hb⟩
      | false =>
        have r2:b.1 < c.1:=lt_d q2 n3
        rw [q2] at e
        exact ⟨[a,b,c],e,pw3 r1 (Nat.lt_trans r1 r2) r2,al3 ha hb hc⟩
  | _ :: _ :: _ :: _ :: _,hl,_,_=>exact absurd hl (by simp only [List.length_cons];lia)
end Mine
end
section
namespace Mine
theorem usr36:∀ i:_root_.Fin 36,(users.getD (i.val / 6) []).length ≤ 3:=by decide +kernel
theorem hd_ok (i:Nat) (v:List UInt8) (hi:i < 36) (hv:v.length ≤ 3):HdOk (hdN i v):=by
  refine ⟨?_,?_,usr36 ⟨i,hi⟩,hv⟩
  · exact neg_in (Nat.le_of_lt_succ (Nat.div_lt_of_lt_mul (Nat.mod_lt i (by decide))))
  · exact neg_in1 (Nat.le_of_lt_succ (Nat.mod_lt i (by decide)))
noncomputable def rowV (p:NV):Row:=(keyN p.1,p.2)
structure Ris (l:List NV):Prop where
  up:l.Pairwise (fun p q=>p.1 < q.1)
  ok:∀ p ∈ l,p.1 < 36∧p.2.length ≤ 3
  few:l.length ≤ 3
theorem rows_num (ns:List Int):∃ l:List NV,Ris l∧hdsF (numsOf ns) = l.map hdP∧rowsOf ns = l.map rowV:=by
  obtain ⟨l,h1,h2,h3⟩:=hds_num (numsOf ns) (draw_ok ns) 3 (Nat.le_refl 3)
  have hl:l.length ≤ 3:=by have:=hdsOf_len (numsOf ns) 3;rw [h1,List.length_map] at this;exact this
  obtain ⟨l',k1,k2,k3⟩:=sort_num l hl h2 h3
  have key:∀ m:List NV,Ris m→hdsF (numsOf ns) = m.map hdP→∃ l:List NV,Ris l∧hdsF (numsOf ns) = l.map hdP∧rowsOf ns = l.map rowV:=fun m hm e=>by
    refine ⟨m,hm,e,?_⟩
    unfold rowsOf
    rw [e,List.map_map]
    exact List.map_congr_left fun p _=>row_num p.1 p.2
  by_cases q:(draw (numsOf ns) 5).fmod 7 = 6
  · exact key [] ⟨.nil,(fun p h=>by cases h),Nat.zero_le _⟩ (if_pos q)
  · have e:hdsF (numsOf ns) = l'.map hdP:=by unfold hdsF;rw [if_neg q,h1,k1]
    have hl':l'.length ≤ 3:=by have:=hdsF_len (numsOf ns);rw [e,List.length_map] at this;exact this
    exact key l' ⟨k2,k3,hl'⟩ e
theorem tot_ns (ns:List Int):TotH (hdsOf (numsOf ns) 3):=by
  obtain ⟨l,h1,h2,h3⟩:=hds_num (numsOf ns) (draw_ok ns) 3 (Nat.le_refl 3)
  rw [h1];exact tot_num l h2 h3
end Mine
end
section
namespace Mine
theorem suc36:∀ i j l:_root_.Fin 36,i.val < j.val→j.val ≤ l.val→0 < cmpI (sucI (keyN l.val)) (sepI (keyN i.val) (keyN j.val)):=by decide +kernel
structure TInv (l:List NV) (B:Tab):Prop where
  closed:B.closed = false
  ffin:B.ffin = false
  ents:B.ents = l.length
  bfin:B.blk.fin = false
  bents:0 ≤ B.blk.ents
  blast:B.blk.last.length ≤ 11
  zero:l = []→B.wait = none∧B.blk.ents = 0∧B.idx = blk0 1
  last:∀ p,l.getLast? = some p→B.last = keyN p.1∧((B.wait.isSome = true∧B.blk.ents = 0) ∨ (B.wait = none∧0 < B.blk.ents∧B.blk.last = keyN p.1))
  size:B.out.length + B.blk.buf.length + 4 * B.blk.rs.length ≤ 4 + 40 * l.length
  wait:∀ h,B.wait = some h→(0 ≤ h.1∧h.1 ≤ 200)∧(0 ≤ h.2∧h.2 ≤ 200)
  ifin:B.idx.fin = false
  isize:B.idx.buf.length + 4 * B.idx.rs.length ≤ 4 + 40 * l.length
  ipl:∀ x ∈ B.idx.rs,0 ≤ x∧x ≤ 4294967295
  bpl:∀ x ∈ B.blk.rs,0 ≤ x∧x ≤ 4294967295
  ilast:B.idx.last.length ≤ 20
  isep:0 < B.idx.ents→∃ p ∈ l,∃ q ∈ l,p.1 < q.1∧B.idx.last = sepI (keyN p.1) (keyN q.1)
end Mine
end
section
namespace Mine
theorem ordN {i j:Nat} (hi:i < 36) (hj:j < 36) (h:i < j):0 < cmpI (keyN j) (keyN i):=by
  have:=ord36 ⟨i,hi⟩ ⟨j,hj⟩
  rw [decide_eq_true (show (⟨i,hi⟩:_root_.Fin 36).val < (⟨j,hj⟩:_root_.Fin 36).val from h)] at this
  exact of_decide_eq_true this
theorem lenN {i:Nat} (hi:i < 36):8 ≤ (keyN i).length∧(keyN i).length ≤ 11∧8 ≤ (sucI (keyN i)).length∧(sucI (keyN i)).length ≤ 20:=len36 ⟨i,hi⟩
theorem sepN {i j:Nat} (hi:i < 36) (hj:j < 36) (h:i < j):8 ≤ (sepI (keyN i) (keyN j)).length∧(sepI (keyN i) (keyN j)).length ≤ 20∧0 < cmpI (sucI (keyN j)) (sepI (keyN i) (keyN j)):=sep36 ⟨i,hi⟩ ⟨j,hj⟩ h
theorem last_of {α:Type} {l:List α} (h:l ≠ []):∃ q,l.getLast? = some q∧q ∈ l:=⟨_,List.getLast?_eq_getLast h,List.getLast_mem h⟩
theorem blkAdd_rs (b:Blk) (k v:List UInt8) (h:∀ x ∈ b.rs,0 ≤ x∧x ≤ 4294967295) (hb:b.buf.length ≤ 100000):∀ x ∈ (blkAdd b k v).rs,0 ≤ x∧x ≤ 4294967295:=by
  unfold blkAdd
  split
  · exact h
  · intro x hx
    rcases List.mem_append.mp hx with hx | hx
    · exact h x hx
    · rw [List.mem_singleton.mp hx];lia
theorem blkAdd_size (b:Blk) (k v:List UInt8) (h1:k.length ≤ 20) (h2:v.length ≤ 4):(blkAdd b k v).buf.length ≤ b.buf.length + 27∧(blkAdd b k v).rs.length ≤ b.rs.length + 1:=by
  unfold blkAdd
  split
  · have:=blkNew_len b k v (cpl b.last k:Nat) b.rs b.since
    exact ⟨by lia,by show b.rs.length ≤ _;lia⟩
  · have:=blkNew_len b k v 0 (b.rs++[(b.buf.length:Int)]) 0
    refine ⟨by lia,?_⟩
    show (b.rs++[_]).length ≤ _
    rw [List.length_append];exact Nat.le_refl _
theorem last_eq {l:List NV} (hll:l.length ≤ 2) (hup:l.Pairwise (fun p q=>p.1 < q.1)) {a b q:NV} (ha:a ∈ l) (hb:b ∈ l) (hab:a.1 < b.1) (hq:l.getLast? = some q):b = q:=by
  cases l with
  | nil=>cases hq
  | cons x l =>
    cases l with
    | nil =>
      rw [List.mem_singleton.mp ha,List.mem_singleton.mp hb] at hab
      exact absurd hab (Nat.lt_irrefl _)
    | cons y l =>
      cases l with
      | nil =>
        have hxy:x.1 < y.1:=List.rel_of_pairwise_cons hup (.head _)
        have hqy:y = q:=Option.some.inj hq
        rcases List.mem_cons.mp hb with rfl | hb
        · rcases List.mem_cons.mp ha with rfl | ha
          · exact absurd hab (Nat.lt_irrefl _)
          · rw [List.mem_singleton.mp ha] at hab
            exact absurd (Nat.lt_trans hab hxy) (Nat.lt_irrefl _)
        · exact (List.mem_singleton.mp hb).trans hqy
      | cons _ _=>exact absurd hll (by simp only [List.length_cons];lia)
theorem add_ok {l:List NV} {p:NV} {B:Tab} (R:Ris (l++[p])) (I:TInv l B):AddOk B (keyN p.1) p.2:=by
  obtain ⟨hup,hok,hfew⟩:=R
  rw [List.length_append] at hfew
  have hll:l.length ≤ 2:=by simp only [List.length_cons,List.length_nil] at hfew;lia
  have hp:=hok p (List.mem_append_right _ (.head _))
  have hlt:∀ q ∈ l,q.1 < p.1∧q.1 < 36:=fun q hq=>⟨(List.pairwise_append.mp hup).2.2 q hq p (.head _),(hok q (List.mem_append_left _ hq)).1⟩
  have hk:=lenN hp.1
  have hsz:=I.size
  have hsi:=I.isize
  have hrs:=blkAdd_size B.blk (keyN p.1) p.2 (by have:=hk.2.1;lia) (by lia)
  have hbl:=I.blast
  have hil:=I.ilast
  refine ⟨I.closed,I.ffin,⟨hk.1,by have:=hk.2.1;lia⟩,by lia,fun h hw=>?_,⟨by lia,by lia,I.bpl,by lia⟩,I.bfin,fun hb=>?_,⟨by lia,by lia,blkAdd_rs _ _ _ I.bpl (by lia),by rw [(blkAdd_iv _ _ _).2.2.1];have:=hk.2.1;lia⟩,I.bents,by rw [blkFin_len];lia⟩
  · have hne:l ≠ []:=fun e=>by have:=(I.zero e).1;rw [this] at hw;cases hw
    obtain ⟨q,hq,hm⟩:=last_of hne
    obtain ⟨hlast,_⟩:=I.last q hq
    have hq1:=hlt q hm
    have hkq:=lenN hq1.2
    have hs:=sepN hq1.2 hp.1 hq1.1
    have wv:=I.wait h hw
    refine ⟨by lia,by lia,by rw [hlast];exact ⟨hkq.1,by have:=hkq.2.1;lia⟩,by rw [hlast];exact ordN hq1.2 hp.1 hq1.1,⟨by lia,by lia,I.ipl,by lia⟩,I.ifin,by rw [hlast];exact ⟨hs.1,by have:=hs.2.1;lia⟩,fun hi=>?_⟩
    obtain ⟨a,ha,b,hb,hab,he⟩:=I.isep hi
    have hsab:=sepN (hlt a ha).2 (hlt b hb).2 hab
    have hbq:b = q:=last_eq hll (List.pairwise_append.mp hup).1 ha hb hab hq
    rw [he,hlast]
    refine ⟨hsab.1,?_⟩
    rw [hbq] at hab ⊢
    exact tri36 ⟨a.1,(hlt a ha).2⟩ ⟨q.1,hq1.2⟩ ⟨p.1,hp.1⟩ hab hq1.1
  · have hne:l ≠ []:=fun e=>by have:=(I.zero e).2.1;lia
    obtain ⟨q,hq,hm⟩:=last_of hne
    have hq1:=hlt q hm
    rcases (I.last q hq).2 with ⟨_,h0⟩ | ⟨_,_,h2⟩
    · lia
    · rw [h2]
      exact ⟨(lenN hq1.2).1,ordN hq1.2 hp.1 hq1.1⟩
end Mine
end
section
namespace Mine
theorem blkAdd_size2 (b:Blk) (k v:List UInt8) (h1:k.length ≤ 11) (h2:v.length ≤ 3):(blkAdd b k v).buf.length ≤ b.buf.length + 17∧(blkAdd b k v).rs.length ≤ b.rs.length + 1:=by
  unfold blkAdd
  split
  · have:=blkNew_len b k v (cpl b.last k:Nat) b.rs b.since
    exact ⟨by lia,by show b.rs.length ≤ _;lia⟩
  · have:=blkNew_len b k v 0 (b.rs++[(b.buf.length:Int)]) 0
    refine ⟨by lia,?_⟩
    show (b.rs++[_]).length ≤ _
    rw [List.length_append];exact Nat.le_refl _
theorem step_inv {l:List NV} {p:NV} {B:Tab} (R:Ris (l++[p])) (I:TInv l B):TInv (l++[p]) (stepB B (rowV p)):=by
  have hok:=R.ok
  have hp:=hok p (by simp)
  have hk:=lenN hp.1
  have hlt:∀ q ∈ l,q.1 < p.1∧q.1 < 36:=fun q hq=>⟨(List.pairwise_append.mp R.up).2.2 q hq p (by simp),(hok q (List.mem_append_left _ hq)).1⟩
  have hfew:=R.few
  rw [List.length_append] at hfew
  have hlen:(l++[p]).length = l.length + 1:=by simp
  have hlast:(l++[p]).getLast? = some p:=by simp
  have hne:l++[p] ≠ []:=by simp
  have hrs:=blkAdd_size2 B.blk (keyN p.1) p.2 (by lia) (by lia)
  have hpl:=blkAdd_rs B.blk (keyN p.1) p.2 I.bpl (by have:=I.size;lia)
  obtain ⟨i1,i2,i3,i4⟩:=blkAdd_iv B.blk (keyN p.1) p.2
  obtain ⟨ix,hix,hx1,hx2,hx3,hx4,hx5⟩:∃ ix:Blk,(tabW B (keyN p.1)).idx = ix∧ix.fin = false∧ix.buf.length + 4 * ix.rs.length ≤ 4 + 40 * (l.length + 1)∧(∀ x ∈ ix.rs,0 ≤ x∧x ≤ 4294967295)∧ix.last.length ≤ 20 ∧
      (0 < ix.ents→∃ a ∈ l++[p],∃ b ∈ l++[p],a.1 < b.1∧ix.last = sepI (keyN a.1) (keyN b.1)):=by
    refine ⟨_,rfl,?_⟩
    cases hw:B.wait with
    | none =>
      have e:(tabW B (keyN p.1)) = B:=by unfold tabW;rw [hw]
      rw [e]
      have:=I.isize
      refine ⟨I.ifin,by lia,I.ipl,I.ilast,fun h=>?_⟩
      obtain ⟨a,ha,b,hb,hab,he⟩:=I.isep h
      exact ⟨a,List.mem_append_left _ ha,b,List.mem_append_left _ hb,hab,he⟩
    | some h =>
      have e:(tabW B (keyN p.1)).idx = blkAdd B.idx (sepI B.last (keyN p.1)) (vint h.1++vint h.2):=by unfold tabW;rw [hw]
      rw [e]
      have hl0:l ≠ []:=fun e=>by have:=(I.zero e).1;rw [this] at hw;cases hw
      obtain ⟨q,hq,hm⟩:=last_of hl0
      rw [(I.last q hq).1]
      have hq1:=hlt q hm
      have hs:=sepN hq1.2 hp.1 hq1.1
      have v1:=vint_len h.1
      have v2:=vint_len h.2
      have hz:=blkAdd_size B.idx (sepI (keyN q.1) (keyN p.1)) (vint h.1++vint h.2) (by lia) (by rw [List.length_append];lia)
      have hsz:=I.isize
      obtain ⟨j1,j2,j3,j4⟩:=blkAdd_iv B.idx (sepI (keyN q.1) (keyN p.1)) (vint h.1++vint h.2)
      refine ⟨by rw [j4];exact I.ifin,by lia,blkAdd_rs _ _ _ I.ipl (by lia),by rw [j3];lia,fun _=>?_⟩
      exact ⟨q,List.mem_append_left _ hm,p,by simp,hq1.1,j3⟩
  have hents:=I.ents
  have hsz:=I.size
  have hbents:=I.bents
  have hbfin:=I.bfin
  have hcl:=I.closed
  have hff:=I.ffin
  have hW:(tabW B (keyN p.1)).closed = B.closed∧(tabW B (keyN p.1)).ffin = B.ffin∧(tabW B (keyN p.1)).ents = B.ents∧(tabW B (keyN p.1)).blk = B.blk∧(tabW B (keyN p.1)).out = B.out∧(tabW B (keyN p.1)).bs = B.bs∧(tabW B (keyN p.1)).wait = none:=by
    unfold tabW
    cases hw:B.wait with
    | none=>exact ⟨rfl,rfl,rfl,rfl,rfl,rfl,hw⟩
    | some h=>exact ⟨rfl,rfl,rfl,rfl,rfl,rfl,rfl⟩
  obtain ⟨w1,w2,w3,w4,w5,w6,w7⟩:=hW
  show TInv (l++[p]) (tabAdd B (keyN p.1) p.2 none)
  unfold tabAdd
  split
  · refine {
      closed:=by show (tabW B (keyN p.1)).closed = _;rw [w1,hcl]
      ffin:=by show (tabW B (keyN p.1)).ffin = _;rw [w2,hff]
      ents:=by show (tabW B (keyN p.1)).ents + 1 = _;rw [w3,hents,hlen];push_cast;rfl
      bfin:=rfl
      bents:=Int.le_refl 0
      blast:=Nat.zero_le _
      zero:=fun e=>absurd e hne
      last:=fun q hq=>by
        rw [hlast] at hq;cases hq
        exact ⟨rfl,.inl ⟨rfl,rfl⟩⟩
      size:=by
        show ((tabW B (keyN p.1)).out++sealB (blkFin (blkAdd (tabW B (keyN p.1)).blk (keyN p.1) p.2))).length + 0 + 4 * 1 ≤ _
        rw [w4,w5,List.length_append,sealB_len,blkFin_len,hlen];lia
      wait:=fun h hh=>by
        have e:h = (((tabW B (keyN p.1)).out.length:Int),((blkFin (blkAdd (tabW B (keyN p.1)).blk (keyN p.1) p.2)).length:Int)):=(Option.some.inj hh).symm
        rw [e,w4,w5,blkFin_len]
        simp only [List.length_cons,List.length_nil] at hfew
        refine ⟨⟨by lia,?_⟩,⟨by lia,?_⟩⟩
        · show (B.out.length:Int) ≤ 200
          lia
        · show (((blkAdd B.blk (keyN p.1) p.2).buf.length + 4 * (blkAdd B.blk (keyN p.1) p.2).rs.length + 4:Nat):Int) ≤ 200
          lia
      ifin:=by show (tabW B (keyN p.1)).idx.fin = _;rw [hix];exact hx1
      isize:=by show (tabW B (keyN p.1)).idx.buf.length + 4 * (tabW B (keyN p.1)).idx.rs.length ≤ _;rw [hix,hlen];exact hx2
      ipl:=by show ∀ x ∈ (tabW B (keyN p.1)).idx.rs,_;rw [hix];exact hx3
      bpl:=fun x hx=>by rw [List.mem_singleton.mp hx];decide
      ilast:=by show (tabW B (keyN p.1)).idx.last.length ≤ _;rw [hix];exact hx4
      isep:=by have h9:=hx5;rw [← hix] at h9;exact h9 }
  · refine {
      closed:=by show (tabW B (keyN p.1)).closed = _;rw [w1,hcl]
      ffin:=by show (tabW B (keyN p.1)).ffin = _;rw [w2,hff]
      ents:=by show (tabW B (keyN p.1)).ents + 1 = _;rw [w3,hents,hlen];push_cast;rfl
      bfin:=by show (blkAdd (tabW B (keyN p.1)).blk (keyN p.1) p.2).fin = _;rw [w4,i4,hbfin]
      bents:=by show 0 ≤ (blkAdd (tabW B (keyN p.1)).blk (keyN p.1) p.2).ents;rw [w4,i2];lia
      blast:=by show (blkAdd (tabW B (keyN p.1)).blk (keyN p.1) p.2).last.length ≤ _;rw [w4,i3];lia
      zero:=fun e=>absurd e hne
      last:=fun q hq=>by
        rw [hlast] at hq;cases hq
        refine ⟨rfl,.inr ⟨?_,?_,?_⟩⟩
        · show (tabW B (keyN p.1)).wait = none
          exact w7
        · show 0 < (blkAdd (tabW B (keyN p.1)).blk (keyN p.1) p.2).ents
          rw [w4,i2];lia
        · show (blkAdd (tabW B (keyN p.1)).blk (keyN p.1) p.2).last = _
          rw [w4,i3]
      size:=by
        show (tabW B (keyN p.1)).out.length + (blkAdd (tabW B (keyN p.1)).blk (keyN p.1) p.2).buf.length + 4 * (blkAdd (tabW B (keyN p.1)).blk (keyN p.1) p.2).rs.length ≤ _
        rw [w4,w5,hlen];lia
      wait:=fun h hh=>by
        have:(tabW B (keyN p.1)).wait = some h:=hh
        rw [w7] at this;cases this
      ifin:=by show (tabW B (keyN p.1)).idx.fin = _;rw [hix];exact hx1
      isize:=by show (tabW B (keyN p.1)).idx.buf.length + 4 * (tabW B (keyN p.1)).idx.rs.length ≤ _;rw [hix,hlen];exact hx2
      ipl:=by show ∀ x ∈ (tabW B (keyN p.1)).idx.rs,_;rw [hix];exact hx3
      bpl:=by show ∀ x ∈ (blkAdd (tabW B (keyN p.1)).blk (keyN p.1) p.2).rs,_;rw [w4];exact hpl
      ilast:=by show (tabW B (keyN p.1)).idx.last.length ≤ _;rw [hix];exact hx4
      isep:=by have h9:=hx5;rw [← hix] at h9;exact h9 }
end Mine
end
section
namespace Mine
theorem TInv.start (su bits:Int):TInv [] (Bb su bits) where
  closed:=rfl
  ffin:=rfl
  ents:=rfl
  bfin:=rfl
  bents:=Int.le_refl 0
  blast:=Nat.zero_le _
  zero:=fun _=>⟨rfl,rfl,rfl⟩
  last:=fun p h=>by cases h
  size:=Nat.le_refl _
  wait:=fun h e=>by cases e
  ifin:=rfl
  isize:=Nat.le_refl _
  ipl:=fun x hx=>by rw [List.mem_singleton.mp hx];decide
  bpl:=fun x hx=>by rw [List.mem_singleton.mp hx];decide
  ilast:=Nat.zero_le _
  isep:=fun h=>absurd h (by show ¬ (0:Int) < 0;decide)
theorem Ris.take {l:List NV} (R:Ris l) (i:Nat):Ris (l.take i) :=
  ⟨R.up.sublist (List.take_sublist i l),fun p h=>R.ok p (List.mem_of_mem_take h),by have:=R.few;rw [List.length_take];lia⟩
theorem Ris.drop {l:List NV} (R:Ris l) (i:Nat):Ris (l.drop i) :=
  ⟨R.up.sublist (List.drop_sublist i l),fun p h=>R.ok p (List.mem_of_mem_drop h),by have:=R.few;rw [List.length_drop];lia⟩
theorem take_snoc {l:List NV} {i:Nat} {p:NV} (h:l[i]? = some p):l.take (i + 1) = l.take i++[p]:=by rw [List.take_add_one,h];rfl
theorem TInv.run (su bits:Int) {l:List NV} (R:Ris l):∀ i,i ≤ l.length→TInv (l.take i) (runB (Bb su bits) ((l.map rowV).take i))
  | 0,_=>TInv.start su bits
  | i + 1,h=>by
    obtain ⟨p,hp⟩:∃ p,l[i]? = some p:=⟨_,List.getElem?_eq_getElem (by lia)⟩
    have e:(l.map rowV)[i]? = some (rowV p):=by rw [List.getElem?_map,hp];rfl
    rw [runB_next e]
    have R2:=R.take (i + 1)
    rw [take_snoc hp] at R2 ⊢
    exact step_inv R2 (TInv.run su bits R i (by lia))
theorem ordLe {i j:Nat} (hi:i < 36) (hj:j < 36) (h:j ≤ i):cmpI (keyN j) (keyN i) ≤ 0:=by
  have:=ord36 ⟨i,hi⟩ ⟨j,hj⟩
  rw [decide_eq_false (show ¬ (⟨i,hi⟩:_root_.Fin 36).val < (⟨j,hj⟩:_root_.Fin 36).val from Nat.not_lt.mpr h)] at this
  exact Int.not_lt.mp (of_decide_eq_false this)
theorem ref_ok {l:List NV} {B:Tab} (R:Ris l) (I:TInv l B) {p:NV} (hp:l.getLast? = some p) {q:NV} (hq:q ∈ l) (h:q.1 ≤ p.1):RefOk B (keyN q.1):=by
  have hm:p ∈ l:=List.mem_of_getLast? hp
  have p36:=(R.ok p hm).1
  have q36:=(R.ok q hq).1
  have kp:=lenN p36
  have kq:=lenN q36
  have ho:=ordLe p36 q36 h
  obtain ⟨h1,h2⟩:=I.last p hp
  refine ⟨kq.1,by lia,I.closed,?_⟩
  rcases h2 with ⟨a,b⟩ | ⟨a,b,c⟩
  · exact .inl ⟨a,by rw [h1];exact kp.1,by rw [h1];lia,by rw [h1];exact ho⟩
  · exact .inr ⟨a,b,I.bfin,by rw [c];exact kp.1,by rw [c];lia,by rw [c];exact ho⟩
theorem end_ok {l:List NV} {B:Tab} (R:Ris l) (I:TInv l B):EndOk B:=by
  have hfew:=R.few
  have hsz:=I.size
  have hsi:=I.isize
  have hbl:=I.blast
  have hil:=I.ilast
  have hbk:BlkOk B.blk:=⟨by lia,by lia,I.bpl,by lia⟩
  have hix:BlkOk B.idx:=⟨by lia,by lia,I.ipl,by lia⟩
  have hF:(tabF B none).idx = B.idx∧(tabF B none).last = B.last:=by unfold tabF;split <;> exact ⟨rfl,rfl⟩
  have hwait:∀ h,(tabF B none).wait = some h→(0 ≤ h.1∧h.1 ≤ 200)∧(0 ≤ h.2∧h.2 ≤ 200):=fun h e=>by
    unfold tabF at e
    split at e
    · exact I.wait h e
    · have e2:h = ((B.out.length:Int),((blkFin B.blk).length:Int)):=(Option.some.inj e).symm
      rw [e2,blkFin_len]
      refine ⟨⟨by lia,?_⟩,⟨by lia,?_⟩⟩
      · show (B.out.length:Int) ≤ 200
        lia
      · show ((B.blk.buf.length + 4 * B.blk.rs.length + 4:Nat):Int) ≤ 200
        lia
  have hne:∀ h,(tabF B none).wait = some h→l ≠ []:=fun h e n=>by
    obtain ⟨z1,z2,_⟩:=I.zero n
    unfold tabF at e
    rw [if_pos z2] at e
    have:B.wait = some h:=e
    rw [z1] at this;cases this
  have hsuc:∀ h,(tabF B none).wait = some h→SucOk (tabF B none) h:=fun h e=>by
    obtain ⟨q,hq,hm⟩:=last_of (hne h e)
    have q36:=(R.ok q hm).1
    have kq:=lenN q36
    have hw:=hwait h e
    have hl:(tabF B none).last = keyN q.1:=hF.2.trans (I.last q hq).1
    refine ⟨by lia,by lia,by rw [hl];lia,by rw [hl];lia,fun hi=>?_⟩
    rw [hF.1] at hi ⊢
    obtain ⟨a,ha,b,hb,hab,he⟩:=I.isep hi
    have hs:=sepN (R.ok a ha).1 (R.ok b hb).1 hab
    rw [he,hl]
    refine ⟨hs.1,suc36 ⟨a.1,(R.ok a ha).1⟩ ⟨b.1,(R.ok b hb).1⟩ ⟨q.1,q36⟩ hab ?_⟩
    show b.1 ≤ q.1
    obtain ⟨m,hm2⟩:=List.getLast?_eq_some_iff.mp hq
    have hup:=R.up
    rw [hm2] at hup hb
    rcases List.mem_append.mp hb with hb | hb
    · exact Nat.le_of_lt ((List.pairwise_append.mp hup).2.2 b hb q (by simp))
    · rw [List.mem_singleton.mp hb];exact Nat.le_refl _
  have hS:BlkOk (tabS (tabF B none))∧(blkFin (tabS (tabF B none))).length ≤ 1000:=by
    unfold tabS
    cases e:(tabF B none).wait with
    | none =>
      show BlkOk (tabF B none).idx∧(blkFin (tabF B none).idx).length ≤ 1000
      rw [hF.1]
      exact ⟨hix,by rw [blkFin_len];lia⟩
    | some h =>
      have s:=hsuc h e
      have v1:=vint_len h.1
      have v2:=vint_len h.2
      obtain ⟨q,hq,hm⟩:=last_of (hne h e)
      have hl:(tabF B none).last = keyN q.1:=hF.2.trans (I.last q hq).1
      have kq:=lenN (R.ok q hm).1
      show BlkOk (blkAdd (tabF B none).idx (sucI (tabF B none).last) (vint h.1++vint h.2))∧(blkFin (blkAdd (tabF B none).idx (sucI (tabF B none).last) (vint h.1++vint h.2))).length ≤ 1000
      rw [hF.1,hl]
      have z:=blkAdd_size B.idx (sucI (keyN q.1)) (vint h.1++vint h.2) (by lia) (by rw [List.length_append];lia)
      refine ⟨⟨by lia,by lia,blkAdd_rs _ _ _ I.ipl (by lia),by rw [(blkAdd_iv _ _ _).2.2.1];lia⟩,by rw [blkFin_len];lia⟩
  refine ⟨I.closed,I.ffin,fun hb=>⟨hbk,I.bfin,?_,by rw [blkFin_len];lia⟩,?_,hsuc,by rw [hF.1];exact hix,by rw [hF.1];exact I.ifin,hS.1,hS.2⟩
  · by_cases n:l = []
    · exact (I.zero n).1
    · obtain ⟨q,hq,hm⟩:=last_of n
      rcases (I.last q hq).2 with ⟨_,b⟩ | ⟨a,_,_⟩
      · exact absurd b hb
      · exact a
  · unfold tabF
    split
    · show B.out.length ≤ 905
      lia
    · show (B.out++sealB (blkFin B.blk)).length ≤ 905
      rw [List.length_append,sealB_len,blkFin_len];lia
theorem plan_ok (su bits:Int) {l:List NV} (R:Ris l) (ag:Bool):Plan (Bb su bits) (l.map rowV) ag:=by
  have hlen:(l.map rowV).length = l.length:=List.length_map ..
  have at_:∀ {i:Nat} {r:Row},(l.map rowV)[i]? = some r→∃ p,l[i]? = some p∧r = rowV p∧i < l.length:=fun {i r} h=>by
    rw [List.getElem?_map] at h
    obtain ⟨p,hp,e⟩:=Option.map_eq_some_iff.mp h
    exact ⟨p,hp,e.symm,lt_of_some hp⟩
  refine ⟨fun i r h=>?_,fun _ i r r0 h h0=>?_,fun i hi=>?_,?_,?_⟩
  · obtain ⟨p,hp,rfl,hi⟩:=at_ h
    have R2:=R.take (i + 1)
    rw [take_snoc hp] at R2
    exact add_ok R2 (TInv.run su bits R i (by lia))
  · obtain ⟨p,hp,rfl,hi⟩:=at_ h
    obtain ⟨p0,hp0,rfl,_⟩:=at_ h0
    have I:=TInv.run su bits R (i + 1) (by lia)
    have hl:(l.take (i + 1)).getLast? = some p:=by rw [take_snoc hp];simp
    have hm:p ∈ l.take (i + 1):=List.mem_of_getLast? hl
    have hm0:p0 ∈ l.take (i + 1):=List.mem_of_getElem? (i:=0) (by rw [List.getElem?_take_of_lt (by lia)];exact hp0)
    refine ⟨ref_ok (R.take _) I hl hm (Nat.le_refl _),ref_ok (R.take _) I hl hm0 ?_⟩
    by_cases e:i = 0
    · subst e;rw [hp0] at hp;cases hp;exact Nat.le_refl _
    · have hup:=R.up
      have:=List.pairwise_iff_getElem.mp hup 0 i (by lia) hi (by lia)
      rw [List.getElem?_eq_getElem (by lia)] at hp0
      rw [List.getElem?_eq_getElem hi] at hp
      cases hp0;cases hp
      exact Nat.le_of_lt this
  · rw [hlen] at hi
    have I:=TInv.run su bits R i hi
    have:=I.size
    have hf:=R.few
    rw [List.length_take] at this
    lia
  · have I:=TInv.run su bits R l.length (Nat.le_refl _)
    rw [List.take_length,List.take_of_length_le (by rw [hlen];exact Nat.le_refl _)] at I
    rw [I.ents,hlen]
  · have I:=TInv.run su bits R l.length (Nat.le_refl _)
    rw [List.take_length,List.take_of_length_le (by rw [hlen];exact Nat.le_refl _)] at I
    exact end_ok R I
end Mine
end
section
namespace Mine
theorem rowV_len {p:NV} (h:p.1 < 36∧p.2.length ≤ 3):(rowV p).1.length ≤ 11∧(rowV p).2.length ≤ 3:=⟨(lenN h.1).2.1,h.2⟩
theorem plain_all (ns:List Int):PlainOk ns (suOf ns) (rowsOf ns) (cutOf ns):=by
  obtain ⟨l,R,h1,h2⟩:=rows_num ns
  have hc:cutOf ns ≤ (rowsOf ns).length:=by
    unfold cutOf
    rw [Int.fmod_eq_emod_of_nonneg _ (by lia)]
    have:=Int.emod_nonneg (draw (numsOf ns) 4) (show ((rowsOf ns).length:Int) + 1 ≠ 0 by lia)
    have:=Int.emod_lt_of_pos (draw (numsOf ns) 4) (show 0 < ((rowsOf ns).length:Int) + 1 by lia)
    lia
  have hd:∀ x ∈ hdsF (numsOf ns),HdOk x:=fun x hx=>by
    rw [h1] at hx
    obtain ⟨p,hp,rfl⟩:=List.mem_map.mp hx
    have h:=R.ok p hp
    exact hd_ok p.1 p.2 h.1 h.2
  rw [h2] at hc ⊢
  have D:∀ m:List NV,Ris m→(dat (suOf ns) (m.map rowV)).length ≤ 5000:=fun m h=>by
    have:=dat_le (suOf ns) (m.map rowV) (fun r hr=>by obtain ⟨p,hp,rfl⟩:=List.mem_map.mp hr;exact rowV_len (h.ok p hp)) (by rw [List.length_map];exact h.few)
    lia
  have et:=List.map_take (f:=rowV) (l:=l) (i:=cutOf ns)
  have ed:=List.map_drop (f:=rowV) (l:=l) (i:=cutOf ns)
  refine plain_of ns _ _ _ hc (tot_ns ns) hd (plan_ok _ _ R true) (plan_ok _ _ R false) (by rw [← et];exact plan_ok _ _ (R.take _) false) (by rw [← ed];exact plan_ok _ _ (R.drop _) false) fun r hr=>?_
  rcases hr with rfl | rfl | rfl
  · exact D l R
  · rw [← et];exact D _ (R.take _)
  · rw [← ed];exact D _ (R.drop _)
theorem all_holds : PySem.Challenge.rw_nz0372_01.Holds := law_holds fun ns _ => plain_all ns
end Mine
end
theorem PySem.Challenge.cw_nz0372_01_holds : PySem.Challenge.rw_nz0372_01.Holds :=
  Mine.all_holds
