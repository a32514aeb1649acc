import PyProof.Rows.All
import Wide.All
import OpenK.AllK
import Wide.FinOn
import PyProof.NeKinds
import PyProof.EqAt
import PyProof.InstLoad
import PyProof.InstStoreFacts
import Wide.ClsConst
import PyProof.IsiPairs
import PyProof.Rows.RuleDivmod
import PyProof.TupleOfSeq
import KE.KDictSum
import KE.KSortKey
import PyProof.MinMaxWalk
import PyProof.SeqI3
import PyProof.Rows.Chain
import PyProof.EnumFor
import PyProof.ZipIter
import PyProof.Rows.GenSrcRange
import PyProof.RangeFor
import PyProof.RulesAssignMore
import PyProof.DictDisplay
import PyProof.Rows.TupAssign
import PyProof.Rows.DictMethods
import PyProof.Raises
import PyProof.CompUse
import ObjForm.Fk.ObjNew
import PySem.Challenge.RW_sq0055_01
open PySem PySem.W PyProof.Rows
set_option Elab.async false
set_option linter.all false
set_option genInjectivity false
set_option genSizeOf false
namespace Sq
section
set_option maxRecDepth 100000
set_option maxHeartbeats 0
theorem YW:looksOpen PySem.Challenge.pw_sq0055_01=true:=by
  rw [PySem.W.Fast.te12908688711261696721]
  delta PySem.W.Fast.tw12908688711261696721
  dsimp only
  refine look_both (look_both (look_both (look_both (look_both ?_ ?_) ?_) ?_) ?_) ?_ <;> as_aux_lemma=>kernel_rfl
theorem a2Y:OpenRow.partSaid PySem.Challenge.rw_sq0055_01.row=true:=by
  rw [PySem.W.Fast.te2436336058641802641]; delta PySem.W.Fast.tw2436336058641802641
  dsimp only
  rw [← PySem.W.Fast.te12908688711261696721]
  repeat' (with_reducible refine look_both ?_ ?_)
  · exact YW
  all_goals kernel_rfl
theorem a4I:OpenRow.wellSaid PySem.Challenge.rw_sq0055_01.row=true:=by
  rw [PySem.W.Fast.te17960256430627541270]
  refine look_both (look_both ?_ ?_) ?_
  · rw [← PySem.W.Fast.te2436336058641802641]; exact a2Y
  · kernel_rfl
  · kernel_rfl
theorem a19:OpenLaw.wellSaid PySem.Challenge.rw_sq0055_01=true:=by
  rw [PySem.W.Fast.te9446332074065402090]; delta PySem.W.Fast.tw9446332074065402090
  dsimp only
  rw [← PySem.W.Fast.te17960256430627541270]
  repeat' (with_reducible refine look_both ?_ ?_)
  · exact a4I
  all_goals kernel_rfl
theorem a2p (H:PySem.Challenge.rw_sq0055_01.row.wellSaid=true→PySem.Challenge.rw_sq0055_01.row.Holds):PySem.Challenge.rw_sq0055_01.Holds:=holds_law a19 fun k=>H k
end
section
set_option maxRecDepth 100000
set_option backward.match.sparseCases false
noncomputable abbrev pT:Program:=PySem.Challenge.pw_sq0055_01
noncomputable def aa (l:List Stmt) (i:Nat):Stmt:=l.getD i (.Pass ⟨0,0,0,0⟩)
noncomputable def pB:List Stmt:=pT.main.body
noncomputable def au:Stmt→List Stmt | .ClassDef _ _ _ b ..=>b | _=>[]
noncomputable def aA:Stmt→Arguments | .FunctionDef _ a ..=>a | _=>default
noncomputable def ay:Stmt→List Stmt | .FunctionDef _ _ b ..=>b | _=>[]
noncomputable def am:Stmt→Scope | .FunctionDef _ _ _ _ _ _ s ..=>s | _=>default
noncomputable def bY:BT→Nat→List Obj→BT
  | t,_,[]=>t
  | t,i,o :: r=>bY (t.ins i o) (i+1) r
noncomputable def a6 (t:BT) (a:Nat) (o:Obj):BT:=t.set a fun _=>o
noncomputable def k0:Str:=⟨⟨[60,109,111,100,117,108,101,62]⟩⟩
noncomputable def k1:Str:=⟨⟨[47,99,108,97,105,109,47,99,117,116,46,112,121]⟩⟩
noncomputable abbrev ak (n:Nat):Value:=.int (.ofNat n) 0
noncomputable abbrev ar (n t:Nat):Value:=.int (.ofNat n) t
noncomputable abbrev ab (P:Params)(k:Str)(t:Nat)(v:Value):DictEntry:=⟨PyData.keyHash P k,.str k t,v⟩
noncomputable abbrev ae (l:List Value)(n:Nat):Obj:=⟨.type "tuple",none,.seq ⟨l⟩ n,⟨[]⟩⟩
noncomputable abbrev e7 (l:List DictEntry)(n:Nat):Obj:=⟨.type "dict",none,.dict ⟨l⟩ n,⟨[]⟩⟩
noncomputable abbrev aP (a:Str)(t:Nat)(b:Str)(u v l a1 a2 a3 a4 r:Nat)(f:Bool)(g e:Nat)(x y z:Value)(i j w:Nat):Obj:=⟨.type "code",none,.fields ⟨[.str a t,.str b u,.str k1 v,ak l,ak a1,ak a2,ak a3,ak a4,.ref r,.bool f,ak g,.ref e,.none,x,y,z,ak i,ak j,.str k1 w]⟩,⟨[]⟩⟩
noncomputable abbrev aW (n q:Str)(S:Stmt)(c:List (Str × Addr))(d kd doc pm:Value)(an:Option Addr)(cd ct:Value)(b:Addr):Obj:=⟨.type "function",none,.func ⟨n,q,aA S,.stmts (ay S),am S,3,c,d,kd,doc,pm,an,cd,ct,b⟩,⟨[]⟩⟩
noncomputable def k2:Str:=⟨⟨[95,95,109,97,105,110,95,95]⟩⟩
noncomputable def k3:Str:=⟨⟨[95,95,100,111,99,95,95]⟩⟩
noncomputable def k4:Str:=⟨⟨[95,95,112,97,99,107,97,103,101,95,95]⟩⟩
noncomputable def k5:Str:=⟨⟨[95,95,108,111,97,100,101,114,95,95]⟩⟩
noncomputable def k6:Str:=⟨⟨[95,95,115,112,101,99,95,95]⟩⟩
noncomputable def k7:Str:=⟨⟨[95,95,97,110,110,111,116,97,116,105,111,110,115,95,95]⟩⟩
noncomputable def k8:Str:=⟨⟨[95,95,98,117,105,108,116,105,110,115,95,95]⟩⟩
noncomputable def k9:Str:=⟨⟨[95,95,102,105,108,101,95,95]⟩⟩
noncomputable def k10:Str:=⟨⟨[95,95,99,97,99,104,101,100,95,95]⟩⟩
noncomputable def Uf:Str:=⟨⟨[95,119,97,108,108]⟩⟩
noncomputable def qb:Str:=⟨⟨[80,97,103,101,69,114,114,111,114]⟩⟩
noncomputable def qA:Str:=⟨⟨[95,95,110,97,109,101,95,95]⟩⟩
noncomputable def vO:Str:=⟨⟨[103,108,117,101,112,97,103,101,46,101,114,114,111,114,115]⟩⟩
noncomputable def k15:Str:=⟨⟨[107]⟩⟩
noncomputable def my:Str:=⟨⟨[95,95,109,111,100,117,108,101,95,95]⟩⟩
noncomputable def Ir:Str:=⟨⟨[95,95,113,117,97,108,110,97,109,101,95,95]⟩⟩
noncomputable def mL:Str:=⟨⟨[95,95,102,105,114,115,116,108,105,110,101,110,111,95,95]⟩⟩
noncomputable def fk:Str:=⟨⟨[95,95,105,110,105,116,95,95]⟩⟩
noncomputable def mA:Str:=⟨⟨[95,95,115,116,97,116,105,99,95,97,116,116,114,105,98,117,116,101,115,95,95]⟩⟩
noncomputable def k21:Str:=⟨⟨[]⟩⟩
noncomputable def sT:Str:=⟨⟨[115,101,108,102]⟩⟩
noncomputable def k23:Str:=⟨⟨[114,101,97,115,111,110]⟩⟩
noncomputable def k24:Str:=⟨⟨[80,97,103,101,69,114,114,111,114,46,95,95,105,110,105,116,95,95]⟩⟩
noncomputable def qS:Str:=⟨⟨[95,95,119,101,97,107,114,101,102,95,95]⟩⟩
noncomputable def Sy:Str:=⟨⟨[66,97,100,65,114,103,117,109,101,110,116]⟩⟩
noncomputable def RN:Str:=⟨⟨[66,97,100,85,110,105,116]⟩⟩
noncomputable def Qn:Str:=⟨⟨[79,118,101,114,102,108,111,119]⟩⟩
noncomputable def k29:Str:=⟨⟨[85,78,73,84,89]⟩⟩
noncomputable def k30:Str:=⟨⟨[77,65,88,95,68,73,77,69,78]⟩⟩
noncomputable def k31:Str:=⟨⟨[77,65,88,95,78,85,77,66,69,82]⟩⟩
noncomputable def k32:Str:=⟨⟨[73,78,70,95,66,65,68]⟩⟩
noncomputable def k33:Str:=⟨⟨[78,79,82,77,65,76]⟩⟩
noncomputable def k34:Str:=⟨⟨[70,73,76]⟩⟩
noncomputable def k35:Str:=⟨⟨[70,73,76,76]⟩⟩
noncomputable def k36:Str:=⟨⟨[70,73,76,76,76]⟩⟩
noncomputable def nj:Str:=⟨⟨[103,108,117,101,112,97,103,101,46,115,99,97,108,101,100]⟩⟩
noncomputable def Tt:Str:=⟨⟨[105,115,95,119,104,111,108,101]⟩⟩
noncomputable def V9:Str:=⟨⟨[99,104,101,99,107,95,119,104,111,108,101]⟩⟩
noncomputable def Vk:Str:=⟨⟨[99,104,101,99,107,95,110,117,109,98,101,114]⟩⟩
noncomputable def VR:Str:=⟨⟨[99,104,101,99,107,95,100,105,109,101,110]⟩⟩
noncomputable def Uh:Str:=⟨⟨[114,111,117,110,100,101,100]⟩⟩
noncomputable def Ve:Str:=⟨⟨[114,101,97,100,105,110,103]⟩⟩
noncomputable def TE:Str:=⟨⟨[100,101,99,105,109,97,108,95,116,101,120,116]⟩⟩
noncomputable def Hq:Str:=⟨⟨[116,105,109,101,115]⟩⟩
noncomputable def k46:Str:=⟨⟨[116,105,109,101,115,95,115,99,97,108,101,100]⟩⟩
noncomputable def UJ:Str:=⟨⟨[98,97,100,110,101,115,115]⟩⟩
noncomputable def Tv:Str:=⟨⟨[111,114,100,101,114,95,116,101,120,116]⟩⟩
noncomputable def Tk:Str:=⟨⟨[112,97,114,116,95,116,101,120,116]⟩⟩
noncomputable def P8:Str:=⟨⟨[118,97,108,117,101]⟩⟩
noncomputable def k51:Str:=⟨⟨[108,111,119]⟩⟩
noncomputable def k52:Str:=⟨⟨[104,105,103,104]⟩⟩
noncomputable def k53:Str:=⟨⟨[110,117,109,98,101,114]⟩⟩
noncomputable def k54:Str:=⟨⟨[98,121]⟩⟩
noncomputable def k55:Str:=⟨⟨[119,104,111,108,101]⟩⟩
noncomputable def k56:Str:=⟨⟨[115,99,97,108,101]⟩⟩
noncomputable def k57:Str:=⟨⟨[115,105,103,110]⟩⟩
noncomputable def k58:Str:=⟨⟨[112,111,105,110,116,115]⟩⟩
noncomputable def k59:Str:=⟨⟨[112,97,114,116]⟩⟩
noncomputable def k60:Str:=⟨⟨[110,101,97,114]⟩⟩
noncomputable def k61:Str:=⟨⟨[112,108,97,99,101,115]⟩⟩
noncomputable def k62:Str:=⟨⟨[99,111,117,110,116]⟩⟩
noncomputable def k63:Str:=⟨⟨[109,111,114,101]⟩⟩
noncomputable def k64:Str:=⟨⟨[101,120,99,101,115,115]⟩⟩
noncomputable def k65:Str:=⟨⟨[116,111,116,97,108]⟩⟩
noncomputable def k66:Str:=⟨⟨[114,97,116,105,111]⟩⟩
noncomputable def k67:Str:=⟨⟨[111,114,100,101,114]⟩⟩
noncomputable def k68:Str:=⟨⟨[117,110,105,116]⟩⟩
noncomputable def Rp:Str:=⟨⟨[71,108,117,101]⟩⟩
noncomputable def Ze:Str:=⟨⟨[112,97,114,116,115]⟩⟩
noncomputable def k71:Str:=⟨⟨[115,97,109,101]⟩⟩
noncomputable def k72:Str:=⟨⟨[97,100,100,101,100]⟩⟩
noncomputable def k73:Str:=⟨⟨[111,118,101,114]⟩⟩
noncomputable def k74:Str:=⟨⟨[110,101,103,97,116,101,100]⟩⟩
noncomputable def k75:Str:=⟨⟨[116,101,120,116]⟩⟩
noncomputable def Zl:Str:=⟨⟨[119,105,100,116,104]⟩⟩
noncomputable def k77:Str:=⟨⟨[115,116,114,101,116,99,104]⟩⟩
noncomputable def k78:Str:=⟨⟨[115,116,114,101,116,99,104,95,111,114,100,101,114]⟩⟩
noncomputable def k79:Str:=⟨⟨[115,104,114,105,110,107]⟩⟩
noncomputable def k80:Str:=⟨⟨[115,104,114,105,110,107,95,111,114,100,101,114]⟩⟩
noncomputable def k81:Str:=⟨⟨[71,108,117,101,46,95,95,105,110,105,116,95,95]⟩⟩
noncomputable def k82:Str:=⟨⟨[71,108,117,101,46,112,97,114,116,115]⟩⟩
noncomputable def k83:Str:=⟨⟨[111,116,104,101,114]⟩⟩
noncomputable def k84:Str:=⟨⟨[71,108,117,101,46,115,97,109,101]⟩⟩
noncomputable def k85:Str:=⟨⟨[71,108,117,101,46,97,100,100,101,100]⟩⟩
noncomputable def k86:Str:=⟨⟨[71,108,117,101,46,116,105,109,101,115]⟩⟩
noncomputable def k87:Str:=⟨⟨[71,108,117,101,46,111,118,101,114]⟩⟩
noncomputable def k88:Str:=⟨⟨[71,108,117,101,46,110,101,103,97,116,101,100]⟩⟩
noncomputable def k89:Str:=⟨⟨[112,116]⟩⟩
noncomputable def x8:Str:=⟨⟨[102,111,117,110,100]⟩⟩
noncomputable def k91:Str:=⟨⟨[71,108,117,101,46,116,101,120,116]⟩⟩
noncomputable def sS:Str:=⟨⟨[95,95,100,105,99,116,95,95]⟩⟩
noncomputable def k93:Str:=⟨⟨[67,72,65,82]⟩⟩
noncomputable def k94:Str:=⟨⟨[76,73,71,65,84,85,82,69]⟩⟩
noncomputable def k95:Str:=⟨⟨[72,66,79,88]⟩⟩
noncomputable def k96:Str:=⟨⟨[86,66,79,88]⟩⟩
noncomputable def k97:Str:=⟨⟨[82,85,76,69]⟩⟩
noncomputable def k98:Str:=⟨⟨[75,69,82,78]⟩⟩
noncomputable def k99:Str:=⟨⟨[71,76,85,69]⟩⟩
noncomputable def Z4:Str:=⟨⟨[80,69,78,65,76,84,89]⟩⟩
noncomputable def a2n:Str:=⟨⟨[68,73,83,67]⟩⟩
noncomputable def a0u:Str:=⟨⟨[77,65,82,75]⟩⟩
noncomputable def a2K:Str:=⟨⟨[73,78,83,69,82,84]⟩⟩
noncomputable def a0K:Str:=⟨⟨[65,68,74,85,83,84]⟩⟩
noncomputable def a0R:Str:=⟨⟨[77,65,84,72]⟩⟩
noncomputable def a1o:Str:=⟨⟨[83,80,69,67,73,65,76]⟩⟩
noncomputable def a2E:Str:=⟨⟨[85,78,83,69,84]⟩⟩
noncomputable def fZ:Str:=⟨⟨[103,108,117,101,112,97,103,101,46,110,111,100,101,115]⟩⟩
noncomputable def a0U:Str:=⟨⟨[78,65,84,85,82,65,76]⟩⟩
noncomputable def Z3:Str:=⟨⟨[83,84,82,69,84,67,72,69,68]⟩⟩
noncomputable def a2B:Str:=⟨⟨[83,72,82,85,78,75]⟩⟩
noncomputable def a01:Str:=⟨⟨[70,79,78,84,95,75,69,82,78]⟩⟩
noncomputable def a0M:Str:=⟨⟨[69,88,80,76,73,67,73,84]⟩⟩
noncomputable def a1n:Str:=⟨⟨[65,67,67,69,78,84,95,75,69,82,78]⟩⟩
noncomputable def a25:Str:=⟨⟨[77,85,95,75,69,82,78]⟩⟩
noncomputable def a1w:Str:=⟨⟨[80,76,65,73,78]⟩⟩
noncomputable def Zw:Str:=⟨⟨[65,76,69,65,68,69,82,83]⟩⟩
noncomputable def a05:Str:=⟨⟨[67,76,69,65,68,69,82,83]⟩⟩
noncomputable def a1e:Str:=⟨⟨[88,76,69,65,68,69,82,83]⟩⟩
noncomputable def a24:Str:=⟨⟨[77,85,95,83,75,73,80]⟩⟩
noncomputable def a1z:Str:=⟨⟨[78,79,78,83,67,82,73,80,84]⟩⟩
noncomputable def a0g:Str:=⟨⟨[78,65,77,69,68]⟩⟩
noncomputable def u9:Str:=⟨⟨[99,104,101,99,107,95,115,104,111,114,116]⟩⟩
noncomputable def pX:Str:=⟨⟨[105,116,101,109,115]⟩⟩
noncomputable def wm:Str:=⟨⟨[110,111,100,101]⟩⟩
noncomputable def rY:Str:=⟨⟨[66,111,120]⟩⟩
noncomputable def rK:Str:=⟨⟨[107,105,110,100]⟩⟩
noncomputable def a3p:Str:=⟨⟨[104,101,105,103,104,116]⟩⟩
noncomputable def a3v:Str:=⟨⟨[100,101,112,116,104]⟩⟩
noncomputable def XF:Str:=⟨⟨[66,111,120,46,95,95,105,110,105,116,95,95]⟩⟩
noncomputable def a6p:Str:=⟨⟨[115,104,105,102,116]⟩⟩
noncomputable def rO:Str:=⟨⟨[83,107,105,112]⟩⟩
noncomputable def WW:Str:=⟨⟨[103,108,117,101]⟩⟩
noncomputable def Nk:Str:=⟨⟨[115,111,114,116]⟩⟩
noncomputable def a0Z:Str:=⟨⟨[108,101,97,100,101,114]⟩⟩
noncomputable def Yz:Str:=⟨⟨[83,107,105,112,46,95,95,105,110,105,116,95,95]⟩⟩
noncomputable def q9:Str:=⟨⟨[80,101,110,97,108,116,121]⟩⟩
noncomputable def W4:Str:=⟨⟨[80,101,110,97,108,116,121,46,95,95,105,110,105,116,95,95]⟩⟩
noncomputable def rX:Str:=⟨⟨[68,105,115,99]⟩⟩
noncomputable def vw:Str:=⟨⟨[119,105,100,116,104,95,111,102]⟩⟩
noncomputable def a29:Str:=⟨⟨[69,74,69,67,84]⟩⟩
noncomputable def Z9:Str:=⟨⟨[70,79,82,66,73,68]⟩⟩
noncomputable def b6:Str:=⟨⟨[103,108,117,101,112,97,103,101,46,98,114,101,97,107,115]⟩⟩
noncomputable def a0w:Str:=⟨⟨[112,114,101]⟩⟩
noncomputable def a18:Str:=⟨⟨[112,111,115,116]⟩⟩
noncomputable def ZH:Str:=⟨⟨[109,105,100,100,108,101]⟩⟩
noncomputable def XV:Str:=⟨⟨[68,105,115,99,46,95,95,105,110,105,116,95,95]⟩⟩
noncomputable def a11:Str:=⟨⟨[86,69,82,89,95,76,79,79,83,69]⟩⟩
noncomputable def a1k:Str:=⟨⟨[76,79,79,83,69,95,70,73,84]⟩⟩
noncomputable def a23:Str:=⟨⟨[68,69,67,69,78,84,95,70,73,84]⟩⟩
noncomputable def a2N:Str:=⟨⟨[84,73,71,72,84,95,70,73,84]⟩⟩
noncomputable def a2e:Str:=⟨⟨[80,76,65,73,78,95,66,82,69,65,75]⟩⟩
noncomputable def a12:Str:=⟨⟨[72,89,80,72,69,78,95,66,82,69,65,75]⟩⟩
noncomputable def a3k:Str:=⟨⟨[84,79,79,95,76,79,78,71]⟩⟩
noncomputable def a2o:Str:=⟨⟨[87,79,82,83,84,95,76,73,78,69]⟩⟩
noncomputable def a20:Str:=⟨⟨[78,79,95,83,85,77,83]⟩⟩
noncomputable def rv:Str:=⟨⟨[83,104,97,112,101]⟩⟩
noncomputable def MY:Str:=⟨⟨[115,112,101,99,105,97,108]⟩⟩
noncomputable def ou:Str:=⟨⟨[108,105,110,101]⟩⟩
noncomputable def Ys:Str:=⟨⟨[83,104,97,112,101,46,95,95,105,110,105,116,95,95]⟩⟩
noncomputable def WI:Str:=⟨⟨[83,104,97,112,101,46,115,112,101,99,105,97,108]⟩⟩
noncomputable def a53:Str:=⟨⟨[105,115,95,104,117,110,103]⟩⟩
noncomputable def Yq:Str:=⟨⟨[83,104,97,112,101,46,108,105,110,101]⟩⟩
noncomputable def a6E:Str:=⟨⟨[100,111,110,101]⟩⟩
noncomputable def a6R:Str:=⟨⟨[104,97,110,103,95,97,102,116,101,114]⟩⟩
noncomputable def a6j:Str:=⟨⟨[104,97,110,103,95,105,110,100,101,110,116]⟩⟩
noncomputable def a60:Str:=⟨⟨[110,97,114,114,111,119]⟩⟩
noncomputable def LG:Str:=⟨⟨[114,111,119,115]⟩⟩
noncomputable def sJ:Str:=⟨⟨[83,101,116,116,105,110,103,115]⟩⟩
noncomputable def W8:Str:=⟨⟨[83,101,116,116,105,110,103,115,46,95,95,105,110,105,116,95,95]⟩⟩
noncomputable def a5b:Str:=⟨⟨[97,100,106,97,99,101,110,116]⟩⟩
noncomputable def a55:Str:=⟨⟨[100,111,117,98,108,101,95,104,121,112,104,101,110]⟩⟩
noncomputable def a7m:Str:=⟨⟨[101,109,101,114,103,101,110,99,121]⟩⟩
noncomputable def a6N:Str:=⟨⟨[101,120,95,104,121,112,104,101,110,95,112,101,110,97,108,116,121]⟩⟩
noncomputable def a6c:Str:=⟨⟨[102,105,110,97,108,95,104,121,112,104,101,110]⟩⟩
noncomputable def a5F:Str:=⟨⟨[104,121,112,104,101,110,95,112,101,110,97,108,116,121]⟩⟩
noncomputable def a6t:Str:=⟨⟨[108,101,102,116,95,115,107,105,112]⟩⟩
noncomputable def a5f:Str:=⟨⟨[108,105,110,101,95,112,101,110,97,108,116,121]⟩⟩
noncomputable def a1Y:Str:=⟨⟨[108,111,111,115,101,110,101,115,115]⟩⟩
noncomputable def a4E:Str:=⟨⟨[112,114,101,116,111,108,101,114,97,110,99,101]⟩⟩
noncomputable def a5y:Str:=⟨⟨[114,105,103,104,116,95,115,107,105,112]⟩⟩
noncomputable def XW:Str:=⟨⟨[116,111,108,101,114,97,110,99,101]⟩⟩
noncomputable def rd:Str:=⟨⟨[87,97,121]⟩⟩
noncomputable def Lc:Str:=⟨⟨[115,112,111,116]⟩⟩
noncomputable def Od:Str:=⟨⟨[102,105,116]⟩⟩
noncomputable def WH:Str:=⟨⟨[100,101,109,101,114,105,116,115]⟩⟩
noncomputable def a1U:Str:=⟨⟨[98,101,102,111,114,101]⟩⟩
noncomputable def Yw:Str:=⟨⟨[87,97,121,46,95,95,105,110,105,116,95,95]⟩⟩
noncomputable def qV:Str:=⟨⟨[84,114,105,97,108]⟩⟩
noncomputable def u7:Str:=⟨⟨[99,104,101,99,107,95,115,101,116,116,105,110,103,115]⟩⟩
noncomputable def uV:Str:=⟨⟨[105,115,95,100,114,111,112,112,101,100]⟩⟩
noncomputable def vN:Str:=⟨⟨[108,101,103,97,108,95,98,114,101,97,107,115]⟩⟩
noncomputable def uL:Str:=⟨⟨[115,116,97,114,116,95,98,101,104,105,110,100]⟩⟩
noncomputable def vy:Str:=⟨⟨[97,100,100,95,103,108,117,101]⟩⟩
noncomputable def ku:Str:=⟨⟨[115,101,116,116,105,110,103,115]⟩⟩
noncomputable def Si:Str:=⟨⟨[115,104,97,112,101]⟩⟩
noncomputable def a1j:Str:=⟨⟨[109,111,115,116]⟩⟩
noncomputable def X6:Str:=⟨⟨[103,114,111,117,110,100]⟩⟩
noncomputable def N7:Str:=⟨⟨[105,115,95,108,97,115,116]⟩⟩
noncomputable def WN:Str:=⟨⟨[84,114,105,97,108,46,95,95,105,110,105,116,95,95]⟩⟩
noncomputable def NY:Str:=⟨⟨[97,112,97,114,116]⟩⟩
noncomputable def a6e:Str:=⟨⟨[109,97,121]⟩⟩
noncomputable def a58:Str:=⟨⟨[105,115,95,98,101,104,105,110,100]⟩⟩
noncomputable def rJ:Str:=⟨⟨[112,108,97,99,101]⟩⟩
noncomputable def QT:Str:=⟨⟨[112,101,110,97,108,116,121]⟩⟩
noncomputable def HZ:Str:=⟨⟨[114,111,119]⟩⟩
noncomputable def t3:Str:=⟨⟨[119,105,100,101]⟩⟩
noncomputable def sV:Str:=⟨⟨[115,117,109,115,95,97,104,101,97,100]⟩⟩
noncomputable def uW:Str:=⟨⟨[119,105,100,101,110,101,100]⟩⟩
noncomputable def ub:Str:=⟨⟨[115,112,111,116,115]⟩⟩
noncomputable def vF:Str:=⟨⟨[103,114,111,117,110,100,95,111,102]⟩⟩
noncomputable def vq:Str:=⟨⟨[108,105,110,101,95,116,111,116,97,108,115]⟩⟩
noncomputable def sY:Str:=⟨⟨[102,105,116,116,101,100]⟩⟩
noncomputable def td:Str:=⟨⟨[108,105,110,101,95,100,101,109,101,114,105,116,115]⟩⟩
noncomputable def sU:Str:=⟨⟨[112,97,105,114,95,100,101,109,101,114,105,116,115]⟩⟩
noncomputable def t8:Str:=⟨⟨[119,97,121,115,95,116,111]⟩⟩
noncomputable def vH:Str:=⟨⟨[112,105,99,107,101,100]⟩⟩
noncomputable def Hy:Str:=⟨⟨[115,117,109,115]⟩⟩
noncomputable def a4O:Str:=⟨⟨[115,116,97,114,116]⟩⟩
noncomputable def a4l:Str:=⟨⟨[98,101,103,105,110]⟩⟩
noncomputable def ZA:Str:=⟨⟨[101,110,100]⟩⟩
noncomputable def Xl:Str:=⟨⟨[101,120,116,114,97]⟩⟩
noncomputable def ZI:Str:=⟨⟨[115,104,111,114,116]⟩⟩
noncomputable def XG:Str:=⟨⟨[98,97,100]⟩⟩
noncomputable def YL:Str:=⟨⟨[99,111,115,116]⟩⟩
noncomputable def a1O:Str:=⟨⟨[105,115,95,116,119,105,99,101]⟩⟩
noncomputable def a0D:Str:=⟨⟨[105,115,95,101,110,100]⟩⟩
noncomputable def a2j:Str:=⟨⟨[116,114,105,97,108]⟩⟩
noncomputable def a1m:Str:=⟨⟨[97,99,116,105,118,101]⟩⟩
noncomputable def a4Q:Str:=⟨⟨[107,101,112,116]⟩⟩
noncomputable def a3a:Str:=⟨⟨[98,101,115,116]⟩⟩
noncomputable def a2u:Str:=⟨⟨[108,101,97,115,116]⟩⟩
noncomputable def YQ:Str:=⟨⟨[119,97,121]⟩⟩
noncomputable def a6I:Str:=⟨⟨[105,115,95,114,101,115,111,114,116]⟩⟩
noncomputable def a4o:Str:=⟨⟨[103,114,111,117,112]⟩⟩
noncomputable def a37:Str:=⟨⟨[111,108,100]⟩⟩
noncomputable def a4U:Str:=⟨⟨[119,97,121,115]⟩⟩
noncomputable def a6w:Str:=⟨⟨[102,97,114]⟩⟩
noncomputable def a4a:Str:=⟨⟨[105,115,95,110,101,97,114,101,114]⟩⟩
noncomputable def tK:Str:=⟨⟨[112,108,97,99,101,115,95,111,102]⟩⟩
noncomputable def uE:Str:=⟨⟨[99,104,111,111,115,101]⟩⟩
noncomputable def tV:Str:=⟨⟨[98,114,101,97,107,95,117,112]⟩⟩
noncomputable def tR:Str:=⟨⟨[95,108,97,119,95,112,111,111,108]⟩⟩
noncomputable def tH:Str:=⟨⟨[95,108,97,119,95,116,97,107,101]⟩⟩
noncomputable def tB:Str:=⟨⟨[95,108,97,119,95,115,97,109,101]⟩⟩
noncomputable def uh:Str:=⟨⟨[95,108,97,119,95,97,100,100]⟩⟩
noncomputable def ug:Str:=⟨⟨[95,108,97,119,95,115,101,116,116,105,110,103,115]⟩⟩
noncomputable def ue:Str:=⟨⟨[95,108,97,119,95,108,105,115,116,115]⟩⟩
noncomputable def uU:Str:=⟨⟨[95,108,97,119,95,116,111,108,100]⟩⟩
noncomputable def um:Str:=⟨⟨[95,108,97,119,95,115,117,109,115]⟩⟩
noncomputable def ig:Str:=⟨⟨[108,97,119,95,115,113,48,48,53,53,95,48,49]⟩⟩
noncomputable def a4N:Str:=⟨⟨[104,121,112,104,101,110,97,116,101]⟩⟩
noncomputable def a4i:Str:=⟨⟨[99,117,116]⟩⟩
noncomputable def a1X:Str:=⟨⟨[115,99,114,105,112,116]⟩⟩
noncomputable def a6Q:Str:=⟨⟨[99,101,108,108]⟩⟩
noncomputable def Ql:Str:=⟨⟨[112,111,111,108]⟩⟩
noncomputable def a45:Str:=⟨⟨[109,97,110,121]⟩⟩
noncomputable def a4B:Str:=⟨⟨[100,105,103,105,116]⟩⟩
noncomputable def a4j:Str:=⟨⟨[111,110,101]⟩⟩
noncomputable def a6h:Str:=⟨⟨[116,104,105,115]⟩⟩
noncomputable def a4g:Str:=⟨⟨[116,104,97,116]⟩⟩
noncomputable def Wu:Str:=⟨⟨[110,111,100,101,115]⟩⟩
noncomputable def a26:Str:=⟨⟨[99,117,116,95,114,111,119,115]⟩⟩
noncomputable def a2D:Str:=⟨⟨[99,117,116,95,110,111,100,101,115]⟩⟩
noncomputable def a5l:Str:=⟨⟨[108,101,102,116]⟩⟩
noncomputable def a6H:Str:=⟨⟨[116,117,114,110]⟩⟩
noncomputable def a7l:Str:=⟨⟨[104,97,108,102]⟩⟩
noncomputable def a2U:Str:=⟨⟨[115,105,122,101]⟩⟩
noncomputable def a5m:Str:=⟨⟨[101,110,100,115]⟩⟩
noncomputable def xg:Str:=⟨⟨[116,111,108,100]⟩⟩
noncomputable def Lo:Str:=⟨⟨[97,116]⟩⟩
noncomputable def a4c:Str:=⟨⟨[102,105,114,115,116]⟩⟩
noncomputable def a4Y:Str:=⟨⟨[116,101,120,116,115]⟩⟩
noncomputable def tQ:Str:=⟨⟨[95,108,97,119,95,98,97,100,110,101,115,115]⟩⟩
noncomputable def tD:Str:=⟨⟨[95,108,97,119,95,108,105,110,101]⟩⟩
noncomputable def tf:Str:=⟨⟨[95,108,97,119,95,100,101,109,101,114,105,116,115]⟩⟩
noncomputable def uT:Str:=⟨⟨[95,108,97,119,95,116,114,121]⟩⟩
noncomputable def ur:Str:=⟨⟨[95,108,97,119,95,119,97,121]⟩⟩
noncomputable def t9:Str:=⟨⟨[95,108,97,119,95,119,97,110,116,101,100]⟩⟩
noncomputable def ui:Str:=⟨⟨[95,108,97,119,95,105,115,95,97,110,115,119,101,114,101,100]⟩⟩
noncomputable def tY:Str:=⟨⟨[95,108,97,119,95,112,108,97,99,101,115,95,114,105,103,104,116]⟩⟩
noncomputable def qa:Str:=⟨⟨[108,97,119]⟩⟩
noncomputable def a4n:Str:=⟨⟨[114,101,115,116]⟩⟩
noncomputable def a14:Str:=⟨⟨[115,105,122,101,115]⟩⟩
noncomputable def Rf:Str:=⟨⟨[119,111,114,115,101]⟩⟩
noncomputable def a5k:Str:=⟨⟨[97,108,111,110,101]⟩⟩
noncomputable def a5c:Str:=⟨⟨[115,111,102,97,114]⟩⟩
noncomputable def a3b:Str:=⟨⟨[111,119,110]⟩⟩
noncomputable def a4k:Str:=⟨⟨[116,111,108,100,95,119,97,121]⟩⟩
noncomputable def a5w:Str:=⟨⟨[98,101,116,119,101,101,110]⟩⟩
noncomputable def a38:Str:=⟨⟨[97,102,116,101,114]⟩⟩
noncomputable def a6M:Str:=⟨⟨[105,110,100,101,110,116]⟩⟩
noncomputable def a5z:Str:=⟨⟨[95,108,97,119,95,99,117,116]⟩⟩
noncomputable def a5p:Str:=⟨⟨[112,97,115,115,101,115]⟩⟩
noncomputable def a5g:Str:=⟨⟨[97,110,115,119,101,114]⟩⟩
noncomputable def a4b:Str:=⟨⟨[111,119,110,95,114,111,119,115]⟩⟩
noncomputable def a6v:Str:=⟨⟨[111,119,110,95,110,111,100,101,115]⟩⟩
noncomputable def a6u:Str:=⟨⟨[109,97,110,121,95,99,97,108,108,115]⟩⟩
noncomputable def a4q:Str:=⟨⟨[99,97,108,108,115]⟩⟩
noncomputable def Jx:Obj:=ae [] 0
noncomputable def Uy:Obj:=⟨.none,none,(.fields ⟨[]⟩),⟨[]⟩⟩
noncomputable def J0:Obj:=aP k0 182 k0 183 184 1 0 0 0 0 11 false 181 12 .none .none .none 185 1 186
noncomputable def Ks:Obj:=⟨(.type "frame"),none,.plain,⟨[(some (.ref 13)),(some (.ref 3)),(some (.ref 3)),none,(some (.str k2 164)),none,(some (.ref 0))]⟩⟩
noncomputable def UO (P:Params):Heap:=⟨⟨[boot_o_0 P,boot_o_1 P,boot_o_2 P,boot_o_3 P,boot_o_4 P,boot_o_5 P,boot_o_6 P,boot_o_7 P,boot_o_8 P,boot_o_9 P,boot_o_10 P,Jx,Uy,J0,Ks]⟩,{}⟩
noncomputable def T0 (P:Params):BT:=bY .nil 0 [boot_o_0 P,boot_o_1 P,boot_o_2 P,boot_o_3 P,boot_o_4 P,boot_o_5 P,boot_o_6 P,boot_o_7 P,boot_o_8 P,boot_o_9 P,boot_o_10 P,Jx,Uy,J0,Ks]
noncomputable def gt0 (P:Params):List DictEntry:=[ab P k3 166 .none,ab P k4 167 .none,ab P k5 168 (.builtin "__main__.__loader__#opaque"),ab P k6 169 .none,ab P k7 170 (.ref 6),ab P k8 171 (.ref 4),ab P k9 173 (.str k1 172),ab P k10 174 .none]
noncomputable def ct0:List Value:=[]
noncomputable def gt1 (P:Params):List DictEntry:=gt0 P ++ [ab P Uf 193 (.ref 21),ab P qb 223 (.ref 39)]
noncomputable def a6z (P:Params):Obj:=⟨(.type "dict"),none,.dict ⟨ab P qA 165 (.str vO 194) :: gt1 P⟩ 11,⟨[]⟩⟩
noncomputable def ct1:List Value:=ct0 ++ [(ak 1),(ak 0),(.ref 20),(ak 5),(ak 0),(.ref 27)]
noncomputable def a0z:Obj:=⟨.none,none,.fields ⟨ct1⟩,⟨[]⟩⟩
noncomputable def Tu:Obj:=ae [] 0
noncomputable def UY:Obj:=⟨.none,none,(.fields ⟨[]⟩),⟨[]⟩⟩
noncomputable def Ul:Obj:=ae [(.str k15 190)] 0
noncomputable def TF:Obj:=ae [] 0
noncomputable def TS:Obj:=⟨.none,none,(.func ⟨Uf,Uf,aA (aa pB 0),.stmts (ay (aa pB 0)),am (aa pB 0),0,[],.none,.none,.none,.none,none,.none,.none,0⟩),⟨[]⟩⟩
noncomputable def Wb:Obj:=aP Uf 187 Uf 188 189 1 1 0 0 3 15 true 181 16 (.ref 17) (.ref 18) (.ref 19) 191 1 192
noncomputable def Uv:Obj:=aW Uf Uf (aa pB 0) [] .none .none .none (.str k2 164) none (.ref 20) .none 0
noncomputable def US:Obj:=ae [(.type "ValueError")] 0
noncomputable def UA:Obj:=⟨(.type "builtin_function_or_method"),none,(.fields ⟨[(.builtin "type.__prepare__"),(.type "type")]⟩),⟨[]⟩⟩
noncomputable def Uc (P:Params):Obj:=e7 [ab P my 203 (.str vO 194),ab P Ir 205 (.str qb 204),ab P mL 207 (ar 5 206),ab P fk 216 (.ref 36),ab P mA 218 (.ref 37)] 5
noncomputable def VH:Obj:=ae [] 0
noncomputable def Uq:Obj:=⟨.none,none,(.fields ⟨[(ak 7),(ak 4),(.ref 35)]⟩),⟨[]⟩⟩
noncomputable def UX:Obj:=aP qb 198 qb 199 200 5 0 0 0 0 25 false 181 26 .none .none .none 201 5 202
noncomputable def VS:Obj:=⟨(.type "frame"),none,.plain,⟨[(some (.ref 27)),(some (.ref 3)),(some (.ref 24)),none,(some (.str vO 194)),none,(some (.ref 0))]⟩⟩
noncomputable def TL:Obj:=ae [(.str k21 208)] 0
noncomputable def Vs:Obj:=ae [] 0
noncomputable def TK:Obj:=⟨.none,none,(.fields ⟨[]⟩),⟨[]⟩⟩
noncomputable def TT:Obj:=ae [(.str sT 212),(.str k23 213)] 0
noncomputable def Ty:Obj:=ae [] 0
noncomputable def VJ:Obj:=⟨.none,none,(.func ⟨fk,k24,aA (aa (au (aa pB 2)) 0),.stmts (ay (aa (au (aa pB 2)) 0)),am (aa (au (aa pB 2)) 0),0,[],.none,.none,.none,.none,none,.none,.none,0⟩),⟨[]⟩⟩
noncomputable def VF:Obj:=aP fk 209 k24 210 211 7 2 0 0 3 30 true 181 31 (.ref 32) (.ref 33) (.ref 34) 214 7 215
noncomputable def VU:Obj:=aW fk k24 (aa (au (aa pB 2)) 0) [] (.ref 29) .none .none (.str vO 194) none (.ref 35) .none 0
noncomputable def Ug:Obj:=ae [(.str k23 217)] 0
noncomputable def Uw (P:Params):Obj:=e7 [ab P my 203 (.str vO 194),ab P mL 207 (ar 5 206),ab P fk 216 (.ref 36),ab P mA 218 (.ref 37),ab P qS 220 (.ref 40),ab P k3 221 .none] 3
noncomputable def Z7:Obj:=⟨(.type "type"),none,(.cls ⟨qb,[(.type "ValueError")],[(.ref 39),(.type "ValueError"),(.type "Exception"),(.type "BaseException"),(.type "object")],38,qb,true,[],[],false,none,false⟩),⟨[(some (.ref 22)),none,(some (.str qb 196)),(some (.str qb 204)),(some (.builtin "ValueError.__new__")),(some (.bool true))]⟩⟩
noncomputable def UL:Obj:=⟨(.type "getset_descriptor"),none,(.fields ⟨[(.str qS 219),(.ref 39),(.builtin "ExceptionGroup.__weakref__"),.none]⟩),⟨[]⟩⟩
noncomputable def TV:Obj:=⟨(.type "super"),none,(.fields ⟨[(.ref 39),(.ref 39),(.ref 39)]⟩),⟨[]⟩⟩
noncomputable def VN:Obj:=⟨(.type "builtin_function_or_method"),none,(.fields ⟨[(.builtin "object.__init_subclass__"),(.ref 39)]⟩),⟨[]⟩⟩
noncomputable def new1 (P:Params):List Obj:=[Tu,UY,Ul,TF,TS,Wb,Uv,US,UA,Uc P,VH,Uq,UX,VS,TL,Vs,TK,TT,Ty,VJ,VF,VU,Ug,Uw P,Z7,UL,TV,VN]
noncomputable def T1 (P:Params):BT:=a6 (a6 (bY (T0 P) 15 (new1 P)) 3 (a6z P)) 12 (a0z)
noncomputable def gt2 (P:Params):List DictEntry:=gt1 P ++ [ab P Sy 239 (.ref 52)]
noncomputable def a7j (P:Params):Obj:=⟨(.type "dict"),none,.dict ⟨ab P qA 165 (.str vO 194) :: gt2 P⟩ 12,⟨[]⟩⟩
noncomputable def ct2:List Value:=ct1 ++ [(ak 9),(ak 0),(.ref 48)]
noncomputable def a2T:Obj:=⟨.none,none,.fields ⟨ct2⟩,⟨[]⟩⟩
noncomputable def a21:Obj:=⟨(.type "type"),none,(.cls ⟨qb,[(.type "ValueError")],[(.ref 39),(.type "ValueError"),(.type "Exception"),(.type "BaseException"),(.type "object")],38,qb,true,[],[(.ref 52)],false,none,false⟩),⟨[(some (.ref 22)),none,(some (.str qb 196)),(some (.str qb 204)),(some (.builtin "ValueError.__new__")),(some (.bool true))]⟩⟩
noncomputable def V7:Obj:=ae [(.ref 39)] 0
noncomputable def U9:Obj:=⟨(.type "builtin_function_or_method"),none,(.fields ⟨[(.builtin "type.__prepare__"),(.type "type")]⟩),⟨[]⟩⟩
noncomputable def Vp (P:Params):Obj:=e7 [ab P my 231 (.str vO 194),ab P Ir 233 (.str Sy 232),ab P mL 235 (ar 9 234),ab P mA 236 (.ref 50)] 4
noncomputable def UW:Obj:=ae [] 0
noncomputable def TW:Obj:=⟨.none,none,(.fields ⟨[]⟩),⟨[]⟩⟩
noncomputable def Vj:Obj:=aP Sy 226 Sy 227 228 9 0 0 0 0 46 false 181 47 .none .none .none 229 9 230
noncomputable def TA:Obj:=⟨(.type "frame"),none,.plain,⟨[(some (.ref 48)),(some (.ref 3)),(some (.ref 45)),none,(some (.str vO 194)),none,(some (.ref 0))]⟩⟩
noncomputable def Tz:Obj:=ae [] 0
noncomputable def UD (P:Params):Obj:=e7 [ab P my 231 (.str vO 194),ab P mL 235 (ar 9 234),ab P mA 236 (.ref 50),ab P k3 237 .none] 2
noncomputable def Ub:Obj:=⟨(.type "type"),none,(.cls ⟨Sy,[(.ref 39)],[(.ref 52),(.ref 39),(.type "ValueError"),(.type "Exception"),(.type "BaseException"),(.type "object")],51,Sy,true,[],[],false,none,false⟩),⟨[(some (.ref 43)),none,(some (.str Sy 224)),(some (.str Sy 232)),(some (.builtin "ValueError.__new__")),(some (.bool true))]⟩⟩
noncomputable def U3:Obj:=⟨(.type "super"),none,(.fields ⟨[(.ref 52),(.ref 52),(.ref 52)]⟩),⟨[]⟩⟩
noncomputable def Ux:Obj:=⟨(.type "builtin_function_or_method"),none,(.fields ⟨[(.builtin "object.__init_subclass__"),(.ref 52)]⟩),⟨[]⟩⟩
noncomputable def a40 (P:Params):List Obj:=[V7,U9,Vp P,UW,TW,Vj,TA,Tz,UD P,Ub,U3,Ux]
noncomputable def T2 (P:Params):BT:=a6 (a6 (a6 (bY (T1 P) 43 (a40 P)) 3 (a7j P)) 12 (a2T)) 39 (a21)
noncomputable def gt3 (P:Params):List DictEntry:=gt2 P ++ [ab P RN 255 (.ref 64)]
noncomputable def a6Z (P:Params):Obj:=⟨(.type "dict"),none,.dict ⟨ab P qA 165 (.str vO 194) :: gt3 P⟩ 13,⟨[]⟩⟩
noncomputable def ct3:List Value:=ct2 ++ [(ak 11),(ak 0),(.ref 60)]
noncomputable def Zx:Obj:=⟨.none,none,.fields ⟨ct3⟩,⟨[]⟩⟩
noncomputable def Z0:Obj:=⟨(.type "type"),none,(.cls ⟨qb,[(.type "ValueError")],[(.ref 39),(.type "ValueError"),(.type "Exception"),(.type "BaseException"),(.type "object")],38,qb,true,[],[(.ref 52),(.ref 64)],false,none,false⟩),⟨[(some (.ref 22)),none,(some (.str qb 196)),(some (.str qb 204)),(some (.builtin "ValueError.__new__")),(some (.bool true))]⟩⟩
noncomputable def TG:Obj:=ae [(.ref 39)] 0
noncomputable def UV:Obj:=⟨(.type "builtin_function_or_method"),none,(.fields ⟨[(.builtin "type.__prepare__"),(.type "type")]⟩),⟨[]⟩⟩
noncomputable def UK (P:Params):Obj:=e7 [ab P my 247 (.str vO 194),ab P Ir 249 (.str RN 248),ab P mL 251 (ar 11 250),ab P mA 252 (.ref 62)] 4
noncomputable def TZ:Obj:=ae [] 0
noncomputable def UP:Obj:=⟨.none,none,(.fields ⟨[]⟩),⟨[]⟩⟩
noncomputable def TJ:Obj:=aP RN 242 RN 243 244 11 0 0 0 0 58 false 181 59 .none .none .none 245 11 246
noncomputable def U7:Obj:=⟨(.type "frame"),none,.plain,⟨[(some (.ref 60)),(some (.ref 3)),(some (.ref 57)),none,(some (.str vO 194)),none,(some (.ref 0))]⟩⟩
noncomputable def Uj:Obj:=ae [] 0
noncomputable def VP (P:Params):Obj:=e7 [ab P my 247 (.str vO 194),ab P mL 251 (ar 11 250),ab P mA 252 (.ref 62),ab P k3 253 .none] 2
noncomputable def UT:Obj:=⟨(.type "type"),none,(.cls ⟨RN,[(.ref 39)],[(.ref 64),(.ref 39),(.type "ValueError"),(.type "Exception"),(.type "BaseException"),(.type "object")],63,RN,true,[],[],false,none,false⟩),⟨[(some (.ref 55)),none,(some (.str RN 240)),(some (.str RN 248)),(some (.builtin "ValueError.__new__")),(some (.bool true))]⟩⟩
noncomputable def Ti:Obj:=⟨(.type "super"),none,(.fields ⟨[(.ref 64),(.ref 64),(.ref 64)]⟩),⟨[]⟩⟩
noncomputable def Vt:Obj:=⟨(.type "builtin_function_or_method"),none,(.fields ⟨[(.builtin "object.__init_subclass__"),(.ref 64)]⟩),⟨[]⟩⟩
noncomputable def a39 (P:Params):List Obj:=[TG,UV,UK P,TZ,UP,TJ,U7,Uj,VP P,UT,Ti,Vt]
noncomputable def T3 (P:Params):BT:=a6 (a6 (a6 (bY (T2 P) 55 (a39 P)) 3 (a6Z P)) 12 (Zx)) 39 (Z0)
noncomputable def gt4 (P:Params):List DictEntry:=gt3 P ++ [ab P Qn 271 (.ref 76),ab P k29 275 (ar 65536 274),ab P k30 281 (ar 1073741823 280),ab P k31 287 (ar 2147483647 286),ab P k32 289 (ar 10000 288),ab P k33 294 (ar 0 290),ab P k34 295 (ar 1 291),ab P k35 296 (ar 2 292),ab P k36 297 (ar 3 293)]
noncomputable def a7e (P:Params):Obj:=⟨(.type "dict"),none,.dict ⟨ab P qA 165 (.str nj 272) :: gt4 P⟩ 22,⟨[]⟩⟩
noncomputable def ct4:List Value:=ct3 ++ [(ak 13),(ak 0),(.ref 72)]
noncomputable def a1r:Obj:=⟨.none,none,.fields ⟨ct4⟩,⟨[]⟩⟩
noncomputable def TR:Obj:=⟨(.type "type"),none,(.cls ⟨qb,[(.type "ValueError")],[(.ref 39),(.type "ValueError"),(.type "Exception"),(.type "BaseException"),(.type "object")],38,qb,true,[],[(.ref 52),(.ref 64),(.ref 76)],false,none,false⟩),⟨[(some (.ref 22)),none,(some (.str qb 196)),(some (.str qb 204)),(some (.builtin "ValueError.__new__")),(some (.bool true))]⟩⟩
noncomputable def VO:Obj:=ae [(.ref 39)] 0
noncomputable def Ur:Obj:=⟨(.type "builtin_function_or_method"),none,(.fields ⟨[(.builtin "type.__prepare__"),(.type "type")]⟩),⟨[]⟩⟩
noncomputable def Tr (P:Params):Obj:=e7 [ab P my 263 (.str vO 194),ab P Ir 265 (.str Qn 264),ab P mL 267 (ar 13 266),ab P mA 268 (.ref 74)] 4
noncomputable def Tn:Obj:=ae [] 0
noncomputable def Us:Obj:=⟨.none,none,(.fields ⟨[]⟩),⟨[]⟩⟩
noncomputable def TC:Obj:=aP Qn 258 Qn 259 260 13 0 0 0 0 70 false 181 71 .none .none .none 261 13 262
noncomputable def U4:Obj:=⟨(.type "frame"),none,.plain,⟨[(some (.ref 72)),(some (.ref 3)),(some (.ref 69)),none,(some (.str vO 194)),none,(some (.ref 0))]⟩⟩
noncomputable def Ui:Obj:=ae [] 0
noncomputable def UH (P:Params):Obj:=e7 [ab P my 263 (.str vO 194),ab P mL 267 (ar 13 266),ab P mA 268 (.ref 74),ab P k3 269 .none] 2
noncomputable def Tm:Obj:=⟨(.type "type"),none,(.cls ⟨Qn,[(.ref 39)],[(.ref 76),(.ref 39),(.type "ValueError"),(.type "Exception"),(.type "BaseException"),(.type "object")],75,Qn,true,[],[],false,none,false⟩),⟨[(some (.ref 67)),none,(some (.str Qn 256)),(some (.str Qn 264)),(some (.builtin "ValueError.__new__")),(some (.bool true))]⟩⟩
noncomputable def Tx:Obj:=⟨(.type "super"),none,(.fields ⟨[(.ref 76),(.ref 76),(.ref 76)]⟩),⟨[]⟩⟩
noncomputable def U5:Obj:=⟨(.type "builtin_function_or_method"),none,(.fields ⟨[(.builtin "object.__init_subclass__"),(.ref 76)]⟩),⟨[]⟩⟩
noncomputable def U6:Obj:=ae [(ar 0 290),(ar 1 291),(ar 2 292),(ar 3 293)] 0
noncomputable def VG:Obj:=⟨(.type "tuple_iterator"),none,(.fields ⟨[.none,(ak 4)]⟩),⟨[]⟩⟩
noncomputable def Vd:Obj:=ae [] 0
noncomputable def UR:Obj:=⟨(.type "StopIteration"),none,(.fields ⟨[(.ref 81),.none,.none,.none,(.bool false),.none]⟩),⟨[]⟩⟩
noncomputable def a5u (P:Params):List Obj:=[VO,Ur,Tr P,Tn,Us,TC,U4,Ui,UH P,Tm,Tx,U5,U6,VG,Vd,UR]
noncomputable def T4 (P:Params):BT:=a6 (a6 (a6 (bY (T3 P) 67 (a5u P)) 3 (a7e P)) 12 (a1r)) 39 (TR)
noncomputable def gt5 (P:Params):List DictEntry:=gt4 P ++ [ab P Tt 306 (.ref 89),ab P V9 313 (.ref 96),ab P Vk 320 (.ref 103),ab P VR 327 (.ref 110),ab P Uh 335 (.ref 117),ab P Ve 343 (.ref 124),ab P TE 356 (.ref 131),ab P Hq 365 (.ref 138),ab P k46 366 (.ref 138),ab P UJ 375 (.ref 145),ab P Tv 382 (.ref 152),ab P Tk 391 (.ref 159)]
noncomputable def a5Q (P:Params):Obj:=⟨(.type "dict"),none,.dict ⟨ab P qA 165 (.str nj 272) :: gt5 P⟩ 34,⟨[]⟩⟩
noncomputable def ct5:List Value:=ct4 ++ [(ak 21),(ak 0),(.ref 88),(ak 23),(ak 0),(.ref 95),(ak 27),(ak 0),(.ref 102),(ak 31),(ak 0),(.ref 109),(ak 35),(ak 0),(.ref 116),(ak 41),(ak 0),(.ref 123),(ak 43),(ak 0),(.ref 130),(ak 54),(ak 0),(.ref 137),(ak 57),(ak 0),(.ref 144),(ak 73),(ak 0),(.ref 151),(ak 75),(ak 0),(.ref 158)]
noncomputable def a0H:Obj:=⟨.none,none,.fields ⟨ct5⟩,⟨[]⟩⟩
noncomputable def Tq:Obj:=ae [] 0
noncomputable def UI:Obj:=⟨.none,none,(.fields ⟨[]⟩),⟨[]⟩⟩
noncomputable def UM:Obj:=ae [(.str P8 301),(.str k51 302),(.str k52 303)] 0
noncomputable def UN:Obj:=ae [] 0
noncomputable def Ue:Obj:=⟨.none,none,(.func ⟨Tt,Tt,aA (aa pB 12),.stmts (ay (aa pB 12)),am (aa pB 12),0,[],.none,.none,.none,.none,none,.none,.none,0⟩),⟨[]⟩⟩
noncomputable def Ts:Obj:=aP Tt 298 Tt 299 300 21 3 0 0 3 83 true 181 84 (.ref 85) (.ref 86) (.ref 87) 304 21 305
noncomputable def Tw:Obj:=aW Tt Tt (aa pB 12) [] .none .none .none (.str nj 272) none (.ref 88) .none 0
noncomputable def UU:Obj:=ae [] 0
noncomputable def Vw:Obj:=⟨.none,none,(.fields ⟨[]⟩),⟨[]⟩⟩
noncomputable def Vg:Obj:=ae [(.str P8 310)] 0
noncomputable def TM:Obj:=ae [] 0
noncomputable def U8:Obj:=⟨.none,none,(.func ⟨V9,V9,aA (aa pB 13),.stmts (ay (aa pB 13)),am (aa pB 13),0,[],.none,.none,.none,.none,none,.none,.none,0⟩),⟨[]⟩⟩
noncomputable def Uu:Obj:=aP V9 307 V9 308 309 23 1 0 0 3 90 true 181 91 (.ref 92) (.ref 93) (.ref 94) 311 23 312
noncomputable def Vy:Obj:=aW V9 V9 (aa pB 13) [] .none .none .none (.str nj 272) none (.ref 95) .none 0
noncomputable def Vc:Obj:=ae [] 0
noncomputable def Vm:Obj:=⟨.none,none,(.fields ⟨[]⟩),⟨[]⟩⟩
noncomputable def Vu:Obj:=ae [(.str P8 317)] 0
noncomputable def Kz:Obj:=ae [] 0
noncomputable def Kv:Obj:=⟨.none,none,(.func ⟨Vk,Vk,aA (aa pB 14),.stmts (ay (aa pB 14)),am (aa pB 14),0,[],.none,.none,.none,.none,none,.none,.none,0⟩),⟨[]⟩⟩
noncomputable def Nj:Obj:=aP Vk 314 Vk 315 316 27 1 0 0 3 97 true 181 98 (.ref 99) (.ref 100) (.ref 101) 318 27 319
noncomputable def JI:Obj:=aW Vk Vk (aa pB 14) [] .none .none .none (.str nj 272) none (.ref 102) .none 0
noncomputable def OV:Obj:=ae [] 0
noncomputable def KO:Obj:=⟨.none,none,(.fields ⟨[]⟩),⟨[]⟩⟩
noncomputable def Ow:Obj:=ae [(.str P8 324)] 0
noncomputable def PN:Obj:=ae [] 0
noncomputable def Lf:Obj:=⟨.none,none,(.func ⟨VR,VR,aA (aa pB 15),.stmts (ay (aa pB 15)),am (aa pB 15),0,[],.none,.none,.none,.none,none,.none,.none,0⟩),⟨[]⟩⟩
noncomputable def KP:Obj:=aP VR 321 VR 322 323 31 1 0 0 3 104 true 181 105 (.ref 106) (.ref 107) (.ref 108) 325 31 326
noncomputable def OU:Obj:=aW VR VR (aa pB 15) [] .none .none .none (.str nj 272) none (.ref 109) .none 0
noncomputable def MI:Obj:=ae [] 0
noncomputable def LP:Obj:=⟨.none,none,(.fields ⟨[]⟩),⟨[]⟩⟩
noncomputable def IV:Obj:=ae [(.str k53 331),(.str k54 332)] 0
noncomputable def JR:Obj:=ae [] 0
noncomputable def P2:Obj:=⟨.none,none,(.func ⟨Uh,Uh,aA (aa pB 16),.stmts (ay (aa pB 16)),am (aa pB 16),0,[],.none,.none,.none,.none,none,.none,.none,0⟩),⟨[]⟩⟩
noncomputable def NN:Obj:=aP Uh 328 Uh 329 330 35 2 0 0 3 111 true 181 112 (.ref 113) (.ref 114) (.ref 115) 333 35 334
noncomputable def Nl:Obj:=aW Uh Uh (aa pB 16) [] .none .none .none (.str nj 272) none (.ref 116) .none 0
noncomputable def Pf:Obj:=ae [] 0
noncomputable def OZ:Obj:=⟨.none,none,(.fields ⟨[]⟩),⟨[]⟩⟩
noncomputable def LD:Obj:=ae [(.str k55 339),(.str k56 340)] 0
noncomputable def JB:Obj:=ae [] 0
noncomputable def OJ:Obj:=⟨.none,none,(.func ⟨Ve,Ve,aA (aa pB 17),.stmts (ay (aa pB 17)),am (aa pB 17),0,[],.none,.none,.none,.none,none,.none,.none,0⟩),⟨[]⟩⟩
noncomputable def PQ:Obj:=aP Ve 336 Ve 337 338 41 2 0 0 3 118 true 181 119 (.ref 120) (.ref 121) (.ref 122) 341 41 342
noncomputable def My:Obj:=aW Ve Ve (aa pB 17) [] .none .none .none (.str nj 272) none (.ref 123) .none 0
noncomputable def MN:Obj:=ae [] 0
noncomputable def J2:Obj:=⟨.none,none,(.fields ⟨[]⟩),⟨[]⟩⟩
noncomputable def Mi:Obj:=ae [(.str P8 347),(.str k57 348),(.str k58 349),(.str k59 350),(.str k56 351),(.str k60 352),(.str k61 353)] 0
noncomputable def I4:Obj:=ae [] 0
noncomputable def LB:Obj:=⟨.none,none,(.func ⟨TE,TE,aA (aa pB 18),.stmts (ay (aa pB 18)),am (aa pB 18),0,[],.none,.none,.none,.none,none,.none,.none,0⟩),⟨[]⟩⟩
noncomputable def Kd:Obj:=aP TE 344 TE 345 346 43 1 0 0 3 125 true 181 126 (.ref 127) (.ref 128) (.ref 129) 354 43 355
noncomputable def Pu:Obj:=aW TE TE (aa pB 18) [] .none .none .none (.str nj 272) none (.ref 130) .none 0
noncomputable def Mz:Obj:=ae [] 0
noncomputable def LV:Obj:=⟨.none,none,(.fields ⟨[]⟩),⟨[]⟩⟩
noncomputable def Ps:Obj:=ae [(.str k62 360),(.str P8 361),(.str k63 362)] 0
noncomputable def J1:Obj:=ae [] 0
noncomputable def Ls:Obj:=⟨.none,none,(.func ⟨Hq,Hq,aA (aa pB 19),.stmts (ay (aa pB 19)),am (aa pB 19),0,[],.none,.none,.none,.none,none,.none,.none,0⟩),⟨[]⟩⟩
noncomputable def J5:Obj:=aP Hq 357 Hq 358 359 54 3 0 0 3 132 true 181 133 (.ref 134) (.ref 135) (.ref 136) 363 54 364
noncomputable def Ki:Obj:=aW Hq Hq (aa pB 19) [] .none .none .none (.str nj 272) none (.ref 137) .none 0
noncomputable def NZ:Obj:=ae [] 0
noncomputable def PK:Obj:=⟨.none,none,(.fields ⟨[]⟩),⟨[]⟩⟩
noncomputable def OB:Obj:=ae [(.str k64 370),(.str k65 371),(.str k66 372)] 0
noncomputable def NQ:Obj:=ae [] 0
noncomputable def Kx:Obj:=⟨.none,none,(.func ⟨UJ,UJ,aA (aa pB 21),.stmts (ay (aa pB 21)),am (aa pB 21),0,[],.none,.none,.none,.none,none,.none,.none,0⟩),⟨[]⟩⟩
noncomputable def Oa:Obj:=aP UJ 367 UJ 368 369 57 2 0 0 3 139 true 181 140 (.ref 141) (.ref 142) (.ref 143) 373 57 374
noncomputable def Jf:Obj:=aW UJ UJ (aa pB 21) [] .none .none .none (.str nj 272) none (.ref 144) .none 0
noncomputable def NE:Obj:=ae [] 0
noncomputable def JP:Obj:=⟨.none,none,(.fields ⟨[]⟩),⟨[]⟩⟩
noncomputable def OY:Obj:=ae [(.str k67 379)] 0
noncomputable def I8:Obj:=ae [] 0
noncomputable def Mf:Obj:=⟨.none,none,(.func ⟨Tv,Tv,aA (aa pB 22),.stmts (ay (aa pB 22)),am (aa pB 22),0,[],.none,.none,.none,.none,none,.none,.none,0⟩),⟨[]⟩⟩
noncomputable def MP:Obj:=aP Tv 376 Tv 377 378 73 1 0 0 3 146 true 181 147 (.ref 148) (.ref 149) (.ref 150) 380 73 381
noncomputable def NT:Obj:=aW Tv Tv (aa pB 22) [] .none .none .none (.str nj 272) none (.ref 151) .none 0
noncomputable def Jv:Obj:=ae [] 0
noncomputable def Of:Obj:=⟨.none,none,(.fields ⟨[]⟩),⟨[]⟩⟩
noncomputable def Pt:Obj:=ae [(.str P8 386),(.str k67 387),(.str k68 388)] 0
noncomputable def Jz:Obj:=ae [] 0
noncomputable def Oy:Obj:=⟨.none,none,(.func ⟨Tk,Tk,aA (aa pB 23),.stmts (ay (aa pB 23)),am (aa pB 23),0,[],.none,.none,.none,.none,none,.none,.none,0⟩),⟨[]⟩⟩
noncomputable def KJ:Obj:=aP Tk 383 Tk 384 385 75 3 0 0 3 153 true 181 154 (.ref 155) (.ref 156) (.ref 157) 389 75 390
noncomputable def O7:Obj:=aW Tk Tk (aa pB 23) [] .none .none .none (.str nj 272) none (.ref 158) .none 0
noncomputable def a4H (P:Params):List Obj:=[Tq,UI,UM,UN,Ue,Ts,Tw,UU,Vw,Vg,TM,U8,Uu,Vy,Vc,Vm,Vu,Kz,Kv,Nj,JI,OV,KO,Ow,PN,Lf,KP,OU,MI,LP,IV,JR,P2,NN,Nl,Pf,OZ,LD,JB,OJ,PQ,My,MN,J2,Mi,I4,LB,Kd,Pu,Mz,LV,Ps,J1,Ls,J5,Ki,NZ,PK,OB,NQ,Kx,Oa,Jf,NE,JP,OY,I8,Mf,MP,NT,Jv,Of,Pt,Jz,Oy,KJ,O7]
noncomputable def T5 (P:Params):BT:=a6 (a6 (bY (T4 P) 83 (a4H P)) 3 (a5Q P)) 12 (a0H)
noncomputable def gt6 (P:Params):List DictEntry:=gt5 P ++ [ab P Rp 491 (.ref 227)]
noncomputable def a4K (P:Params):Obj:=⟨(.type "dict"),none,.dict ⟨ab P qA 165 (.str nj 272) :: gt6 P⟩ 35,⟨[]⟩⟩
noncomputable def ct6:List Value:=ct5 ++ [(ak 77),(ak 0),(.ref 165)]
noncomputable def ZZ:Obj:=⟨.none,none,.fields ⟨ct6⟩,⟨[]⟩⟩
noncomputable def JD:Obj:=ae [] 0
noncomputable def Mh:Obj:=⟨(.type "builtin_function_or_method"),none,(.fields ⟨[(.builtin "type.__prepare__"),(.type "type")]⟩),⟨[]⟩⟩
noncomputable def N3 (P:Params):Obj:=e7 [ab P my 399 (.str nj 272),ab P Ir 401 (.str Rp 400),ab P mL 403 (ar 77 402),ab P fk 420 (.ref 174),ab P Ze 427 (.ref 181),ab P k71 435 (.ref 188),ab P k72 443 (.ref 195),ab P Hq 453 (.ref 202),ab P k73 461 (.ref 209),ab P k74 468 (.ref 216),ab P k75 478 (.ref 224),ab P mA 484 (.ref 225)] 12
noncomputable def NJ:Obj:=ae [] 0
noncomputable def JW:Obj:=⟨.none,none,(.fields ⟨[(ak 79),(ak 4),(.ref 173),(ak 88),(ak 4),(.ref 180),(ak 91),(ak 4),(.ref 187),(ak 94),(ak 4),(.ref 194),(ak 97),(ak 4),(.ref 201),(ak 101),(ak 4),(.ref 208),(ak 104),(ak 4),(.ref 215),(ak 107),(ak 4),(.ref 223)]⟩),⟨[]⟩⟩
noncomputable def JV:Obj:=aP Rp 394 Rp 395 396 77 0 0 0 0 163 false 181 164 .none .none .none 397 77 398
noncomputable def Kf:Obj:=⟨(.type "frame"),none,.plain,⟨[(some (.ref 165)),(some (.ref 3)),(some (.ref 162)),none,(some (.str nj 272)),none,(some (.ref 0))]⟩⟩
noncomputable def La:Obj:=ae [(ar 0 404),(ar 0 405),(ar 0 406),(ar 0 407),(ar 0 408)] 0
noncomputable def OC:Obj:=ae [] 0
noncomputable def Jn:Obj:=⟨.none,none,(.fields ⟨[]⟩),⟨[]⟩⟩
noncomputable def I6:Obj:=ae [(.str sT 412),(.str Zl 413),(.str k77 414),(.str k78 415),(.str k79 416),(.str k80 417)] 0
noncomputable def Lu:Obj:=ae [] 0
noncomputable def Ml:Obj:=⟨.none,none,(.func ⟨fk,k81,aA (aa (au (aa pB 24)) 0),.stmts (ay (aa (au (aa pB 24)) 0)),am (aa (au (aa pB 24)) 0),0,[],.none,.none,.none,.none,none,.none,.none,0⟩),⟨[]⟩⟩
noncomputable def Mr:Obj:=aP fk 409 k81 410 411 79 6 0 0 3 168 true 181 169 (.ref 170) (.ref 171) (.ref 172) 418 79 419
noncomputable def ML:Obj:=aW fk k81 (aa (au (aa pB 24)) 0) [] (.ref 167) .none .none (.str nj 272) none (.ref 173) .none 0
noncomputable def Js:Obj:=ae [] 0
noncomputable def KY:Obj:=⟨.none,none,(.fields ⟨[]⟩),⟨[]⟩⟩
noncomputable def Oq:Obj:=ae [(.str sT 424)] 0
noncomputable def Nx:Obj:=ae [] 0
noncomputable def Lw:Obj:=⟨.none,none,(.func ⟨Ze,k82,aA (aa (au (aa pB 24)) 1),.stmts (ay (aa (au (aa pB 24)) 1)),am (aa (au (aa pB 24)) 1),0,[],.none,.none,.none,.none,none,.none,.none,0⟩),⟨[]⟩⟩
noncomputable def Ol:Obj:=aP Ze 421 k82 422 423 88 1 0 0 3 175 true 181 176 (.ref 177) (.ref 178) (.ref 179) 425 88 426
noncomputable def PY:Obj:=aW Ze k82 (aa (au (aa pB 24)) 1) [] .none .none .none (.str nj 272) none (.ref 180) .none 0
noncomputable def JF:Obj:=ae [] 0
noncomputable def Ll:Obj:=⟨.none,none,(.fields ⟨[]⟩),⟨[]⟩⟩
noncomputable def Mq:Obj:=ae [(.str sT 431),(.str k83 432)] 0
noncomputable def NA:Obj:=ae [] 0
noncomputable def NR:Obj:=⟨.none,none,(.func ⟨k71,k84,aA (aa (au (aa pB 24)) 2),.stmts (ay (aa (au (aa pB 24)) 2)),am (aa (au (aa pB 24)) 2),0,[],.none,.none,.none,.none,none,.none,.none,0⟩),⟨[]⟩⟩
noncomputable def KK:Obj:=aP k71 428 k84 429 430 91 2 0 0 3 182 true 181 183 (.ref 184) (.ref 185) (.ref 186) 433 91 434
noncomputable def PC:Obj:=aW k71 k84 (aa (au (aa pB 24)) 2) [] .none .none .none (.str nj 272) none (.ref 187) .none 0
noncomputable def Og:Obj:=ae [] 0
noncomputable def LM:Obj:=⟨.none,none,(.fields ⟨[]⟩),⟨[]⟩⟩
noncomputable def Pq:Obj:=ae [(.str sT 439),(.str k83 440)] 0
noncomputable def OD:Obj:=ae [] 0
noncomputable def O0:Obj:=⟨.none,none,(.func ⟨k72,k85,aA (aa (au (aa pB 24)) 3),.stmts (ay (aa (au (aa pB 24)) 3)),am (aa (au (aa pB 24)) 3),0,[],.none,.none,.none,.none,none,.none,.none,0⟩),⟨[]⟩⟩
noncomputable def Nt:Obj:=aP k72 436 k85 437 438 94 2 0 0 3 189 true 181 190 (.ref 191) (.ref 192) (.ref 193) 441 94 442
noncomputable def J8:Obj:=aW k72 k85 (aa (au (aa pB 24)) 3) [] .none .none .none (.str nj 272) none (.ref 194) .none 0
noncomputable def LY:Obj:=ae [] 0
noncomputable def Mp:Obj:=⟨.none,none,(.fields ⟨[]⟩),⟨[]⟩⟩
noncomputable def Lx:Obj:=ae [(.str sT 447),(.str k62 448),(.str k77 449),(.str k79 450)] 0
noncomputable def I3:Obj:=ae [] 0
noncomputable def Li:Obj:=⟨.none,none,(.func ⟨Hq,k86,aA (aa (au (aa pB 24)) 4),.stmts (ay (aa (au (aa pB 24)) 4)),am (aa (au (aa pB 24)) 4),0,[],.none,.none,.none,.none,none,.none,.none,0⟩),⟨[]⟩⟩
noncomputable def Px:Obj:=aP Hq 444 k86 445 446 97 2 0 0 3 196 true 181 197 (.ref 198) (.ref 199) (.ref 200) 451 97 452
noncomputable def O8:Obj:=aW Hq k86 (aa (au (aa pB 24)) 4) [] .none .none .none (.str nj 272) none (.ref 201) .none 0
noncomputable def IY:Obj:=ae [] 0
noncomputable def PS:Obj:=⟨.none,none,(.fields ⟨[]⟩),⟨[]⟩⟩
noncomputable def PG:Obj:=ae [(.str sT 457),(.str k54 458)] 0
noncomputable def LJ:Obj:=ae [] 0
noncomputable def NM:Obj:=⟨.none,none,(.func ⟨k73,k87,aA (aa (au (aa pB 24)) 5),.stmts (ay (aa (au (aa pB 24)) 5)),am (aa (au (aa pB 24)) 5),0,[],.none,.none,.none,.none,none,.none,.none,0⟩),⟨[]⟩⟩
noncomputable def LC:Obj:=aP k73 454 k87 455 456 101 2 0 0 3 203 true 181 204 (.ref 205) (.ref 206) (.ref 207) 459 101 460
noncomputable def Ph:Obj:=aW k73 k87 (aa (au (aa pB 24)) 5) [] .none .none .none (.str nj 272) none (.ref 208) .none 0
noncomputable def NS:Obj:=ae [] 0
noncomputable def Nw:Obj:=⟨.none,none,(.fields ⟨[]⟩),⟨[]⟩⟩
noncomputable def IQ:Obj:=ae [(.str sT 465)] 0
noncomputable def OM:Obj:=ae [] 0
noncomputable def Lg:Obj:=⟨.none,none,(.func ⟨k74,k88,aA (aa (au (aa pB 24)) 6),.stmts (ay (aa (au (aa pB 24)) 6)),am (aa (au (aa pB 24)) 6),0,[],.none,.none,.none,.none,none,.none,.none,0⟩),⟨[]⟩⟩
noncomputable def OE:Obj:=aP k74 462 k88 463 464 104 1 0 0 3 210 true 181 211 (.ref 212) (.ref 213) (.ref 214) 466 104 467
noncomputable def Jm:Obj:=aW k74 k88 (aa (au (aa pB 24)) 6) [] .none .none .none (.str nj 272) none (.ref 215) .none 0
noncomputable def KC:Obj:=ae [(.str k89 469)] 0
noncomputable def Jd:Obj:=ae [] 0
noncomputable def Mx:Obj:=⟨.none,none,(.fields ⟨[]⟩),⟨[]⟩⟩
noncomputable def OT:Obj:=ae [(.str sT 473),(.str k68 474),(.str x8 475)] 0
noncomputable def JS:Obj:=ae [] 0
noncomputable def Ko:Obj:=⟨.none,none,(.func ⟨k75,k91,aA (aa (au (aa pB 24)) 7),.stmts (ay (aa (au (aa pB 24)) 7)),am (aa (au (aa pB 24)) 7),0,[],.none,.none,.none,.none,none,.none,.none,0⟩),⟨[]⟩⟩
noncomputable def Pr:Obj:=aP k75 470 k91 471 472 107 2 0 0 3 218 true 181 219 (.ref 220) (.ref 221) (.ref 222) 476 107 477
noncomputable def KI:Obj:=aW k75 k91 (aa (au (aa pB 24)) 7) [] (.ref 217) .none .none (.str nj 272) none (.ref 223) .none 0
noncomputable def PF:Obj:=ae [(.str k79 479),(.str k80 480),(.str k77 481),(.str k78 482),(.str Zl 483)] 0
noncomputable def NC (P:Params):Obj:=e7 [ab P my 399 (.str nj 272),ab P mL 403 (ar 77 402),ab P fk 420 (.ref 174),ab P Ze 427 (.ref 181),ab P k71 435 (.ref 188),ab P k72 443 (.ref 195),ab P Hq 453 (.ref 202),ab P k73 461 (.ref 209),ab P k74 468 (.ref 216),ab P k75 478 (.ref 224),ab P mA 484 (.ref 225),ab P sS 486 (.ref 228),ab P qS 488 (.ref 229),ab P k3 489 .none] 4
noncomputable def LU:Obj:=⟨(.type "type"),none,(.cls ⟨Rp,[(.type "object")],[(.ref 227),(.type "object")],226,Rp,true,[],[],false,none,false⟩),⟨[none,none,(some (.str Rp 392)),(some (.str Rp 400)),(some (.builtin "object.__new__")),(some (.bool true))]⟩⟩
noncomputable def LO:Obj:=⟨(.type "getset_descriptor"),none,(.fields ⟨[(.str sS 485),(.ref 227),(.builtin "function.__dict__"),(.builtin "function.__dict__#set")]⟩),⟨[]⟩⟩
noncomputable def Oo:Obj:=⟨(.type "getset_descriptor"),none,(.fields ⟨[(.str qS 487),(.ref 227),(.builtin "ExceptionGroup.__weakref__"),.none]⟩),⟨[]⟩⟩
noncomputable def MJ:Obj:=⟨(.type "super"),none,(.fields ⟨[(.ref 227),(.ref 227),(.ref 227)]⟩),⟨[]⟩⟩
noncomputable def Lq:Obj:=⟨(.type "builtin_function_or_method"),none,(.fields ⟨[(.builtin "object.__init_subclass__"),(.ref 227)]⟩),⟨[]⟩⟩
noncomputable def a47 (P:Params):List Obj:=[JD,Mh,N3 P,NJ,JW,JV,Kf,La,OC,Jn,I6,Lu,Ml,Mr,ML,Js,KY,Oq,Nx,Lw,Ol,PY,JF,Ll,Mq,NA,NR,KK,PC,Og,LM,Pq,OD,O0,Nt,J8,LY,Mp,Lx,I3,Li,Px,O8,IY,PS,PG,LJ,NM,LC,Ph,NS,Nw,IQ,OM,Lg,OE,Jm,KC,Jd,Mx,OT,JS,Ko,Pr,KI,PF,NC P,LU,LO,Oo,MJ,Lq]
noncomputable def T6 (P:Params):BT:=a6 (a6 (bY (T5 P) 160 (a47 P)) 3 (a4K P)) 12 (ZZ)
noncomputable def gt7 (P:Params):List DictEntry:=gt6 P ++ [ab P k93 502 (ar 0 494),ab P k94 503 (ar 1 495),ab P k95 504 (ar 2 496),ab P k96 505 (ar 3 497),ab P k97 506 (ar 4 498),ab P k98 507 (ar 5 499),ab P k99 508 (ar 6 500),ab P Z4 509 (ar 7 501),ab P a2n 517 (ar 8 510),ab P a0u 518 (ar 9 511),ab P a2K 519 (ar 10 512),ab P a0K 520 (ar 11 513),ab P a0R 521 (ar 12 514),ab P a1o 522 (ar 13 515),ab P a2E 523 (ar 14 516)]
noncomputable def a41 (P:Params):Obj:=⟨(.type "dict"),none,.dict ⟨ab P qA 165 (.str fZ 492) :: gt7 P⟩ 50,⟨[]⟩⟩
noncomputable def ct7:List Value:=ct6
noncomputable def J9:Obj:=ae [(ar 0 494),(ar 1 495),(ar 2 496),(ar 3 497),(ar 4 498),(ar 5 499),(ar 6 500),(ar 7 501)] 0
noncomputable def PO:Obj:=⟨(.type "tuple_iterator"),none,(.fields ⟨[.none,(ak 8)]⟩),⟨[]⟩⟩
noncomputable def P3:Obj:=ae [] 0
noncomputable def P4:Obj:=⟨(.type "StopIteration"),none,(.fields ⟨[(.ref 234),.none,.none,.none,(.bool false),.none]⟩),⟨[]⟩⟩
noncomputable def LQ:Obj:=ae [(ar 8 510),(ar 9 511),(ar 10 512),(ar 11 513),(ar 12 514),(ar 13 515),(ar 14 516)] 0
noncomputable def IT:Obj:=⟨(.type "tuple_iterator"),none,(.fields ⟨[.none,(ak 7)]⟩),⟨[]⟩⟩
noncomputable def IR:Obj:=ae [] 0
noncomputable def MA:Obj:=⟨(.type "StopIteration"),none,(.fields ⟨[(.ref 238),.none,.none,.none,(.bool false),.none]⟩),⟨[]⟩⟩
noncomputable def a6m (P:Params):List Obj:=[J9,PO,P3,P4,LQ,IT,IR,MA]
noncomputable def T7 (P:Params):BT:=a6 (bY (T6 P) 232 (a6m P)) 3 (a41 P)
noncomputable def gt8 (P:Params):List DictEntry:=gt7 P ++ [ab P a0U 527 (ar 0 524),ab P Z3 528 (ar 1 525),ab P a2B 529 (ar 2 526),ab P a01 534 (ar 0 530),ab P a0M 535 (ar 1 531),ab P a1n 536 (ar 2 532),ab P a25 537 (ar 3 533),ab P a1w 545 (ar 0 538),ab P Zw 546 (ar 1 539),ab P a05 547 (ar 2 540),ab P a1e 548 (ar 3 541),ab P a24 549 (ar 4 542),ab P a1z 550 (ar 5 543),ab P a0g 551 (ar 100 544),ab P u9 559 (.ref 258)]
noncomputable def a5o (P:Params):Obj:=⟨(.type "dict"),none,.dict ⟨ab P qA 165 (.str fZ 492) :: gt8 P⟩ 65,⟨[]⟩⟩
noncomputable def ct8:List Value:=ct7 ++ [(ak 120),(ak 0),(.ref 257)]
noncomputable def a1H:Obj:=⟨.none,none,.fields ⟨ct8⟩,⟨[]⟩⟩
noncomputable def Nn:Obj:=ae [(ar 0 524),(ar 1 525),(ar 2 526)] 0
noncomputable def Kw:Obj:=⟨(.type "tuple_iterator"),none,(.fields ⟨[.none,(ak 3)]⟩),⟨[]⟩⟩
noncomputable def JZ:Obj:=ae [] 0
noncomputable def IU:Obj:=⟨(.type "StopIteration"),none,(.fields ⟨[(.ref 242),.none,.none,.none,(.bool false),.none]⟩),⟨[]⟩⟩
noncomputable def Pm:Obj:=ae [(ar 0 530),(ar 1 531),(ar 2 532),(ar 3 533)] 0
noncomputable def Mb:Obj:=⟨(.type "tuple_iterator"),none,(.fields ⟨[.none,(ak 4)]⟩),⟨[]⟩⟩
noncomputable def Oi:Obj:=ae [] 0
noncomputable def NG:Obj:=⟨(.type "StopIteration"),none,(.fields ⟨[(.ref 246),.none,.none,.none,(.bool false),.none]⟩),⟨[]⟩⟩
noncomputable def PM:Obj:=ae [(ar 0 538),(ar 1 539),(ar 2 540),(ar 3 541),(ar 4 542),(ar 5 543),(ar 100 544)] 0
noncomputable def Om:Obj:=⟨(.type "tuple_iterator"),none,(.fields ⟨[.none,(ak 7)]⟩),⟨[]⟩⟩
noncomputable def Jc:Obj:=ae [] 0
noncomputable def Mk:Obj:=⟨(.type "StopIteration"),none,(.fields ⟨[(.ref 250),.none,.none,.none,(.bool false),.none]⟩),⟨[]⟩⟩
noncomputable def J6:Obj:=ae [] 0
noncomputable def Mj:Obj:=⟨.none,none,(.fields ⟨[]⟩),⟨[]⟩⟩
noncomputable def Na:Obj:=ae [(.str pX 555),(.str wm 556)] 0
noncomputable def KN:Obj:=ae [] 0
noncomputable def O4:Obj:=⟨.none,none,(.func ⟨u9,u9,aA (aa pB 31),.stmts (ay (aa pB 31)),am (aa pB 31),0,[],.none,.none,.none,.none,none,.none,.none,0⟩),⟨[]⟩⟩
noncomputable def Ni:Obj:=aP u9 552 u9 553 554 120 1 0 0 3 252 true 181 253 (.ref 254) (.ref 255) (.ref 256) 557 120 558
noncomputable def NF:Obj:=aW u9 u9 (aa pB 31) [] .none .none .none (.str fZ 492) none (.ref 257) .none 0
noncomputable def a6X (P:Params):List Obj:=[Nn,Kw,JZ,IU,Pm,Mb,Oi,NG,PM,Om,Jc,Mk,J6,Mj,Na,KN,O4,Ni,NF]
noncomputable def T8 (P:Params):BT:=a6 (a6 (bY (T7 P) 240 (a6X P)) 3 (a5o P)) 12 (a1H)
noncomputable def gt9 (P:Params):List DictEntry:=gt8 P ++ [ab P rY 600 (.ref 275)]
noncomputable def a5t (P:Params):Obj:=⟨(.type "dict"),none,.dict ⟨ab P qA 165 (.str fZ 492) :: gt9 P⟩ 66,⟨[]⟩⟩
noncomputable def ct9:List Value:=ct8 ++ [(ak 125),(ak 0),(.ref 264)]
noncomputable def a10:Obj:=⟨.none,none,.fields ⟨ct9⟩,⟨[]⟩⟩
noncomputable def O1:Obj:=ae [] 0
noncomputable def JL:Obj:=⟨(.type "builtin_function_or_method"),none,(.fields ⟨[(.builtin "type.__prepare__"),(.type "type")]⟩),⟨[]⟩⟩
noncomputable def M8 (P:Params):Obj:=e7 [ab P my 567 (.str fZ 492),ab P Ir 569 (.str rY 568),ab P mL 571 (ar 125 570),ab P fk 583 (.ref 272),ab P mA 593 (.ref 273)] 5
noncomputable def N4:Obj:=ae [] 0
noncomputable def Nq:Obj:=⟨.none,none,(.fields ⟨[(ak 127),(ak 4),(.ref 271)]⟩),⟨[]⟩⟩
noncomputable def MH:Obj:=aP rY 562 rY 563 564 125 0 0 0 0 262 false 181 263 .none .none .none 565 125 566
noncomputable def Lh:Obj:=⟨(.type "frame"),none,.plain,⟨[(some (.ref 264)),(some (.ref 3)),(some (.ref 261)),none,(some (.str fZ 492)),none,(some (.ref 0))]⟩⟩
noncomputable def MG:Obj:=ae [] 0
noncomputable def MR:Obj:=⟨.none,none,(.fields ⟨[]⟩),⟨[]⟩⟩
noncomputable def KR:Obj:=ae [(.str sT 575),(.str rK 576),(.str Zl 577),(.str a3p 578),(.str a3v 579),(.str pX 580)] 0
noncomputable def PV:Obj:=ae [] 0
noncomputable def PW:Obj:=⟨.none,none,(.func ⟨fk,XF,aA (aa (au (aa pB 32)) 0),.stmts (ay (aa (au (aa pB 32)) 0)),am (aa (au (aa pB 32)) 0),0,[],.none,.none,.none,.none,none,.none,.none,0⟩),⟨[]⟩⟩
noncomputable def Ja:Obj:=aP fk 572 XF 573 574 127 6 0 0 3 266 true 181 267 (.ref 268) (.ref 269) (.ref 270) 581 127 582
noncomputable def L5:Obj:=aW fk XF (aa (au (aa pB 32)) 0) [] .none .none .none (.str fZ 492) none (.ref 271) .none 0
noncomputable def L7:Obj:=ae [(.str a3v 584),(.str a3p 585),(.str pX 586),(.str rK 587),(.str k67 588),(.str k66 589),(.str a6p 590),(.str k57 591),(.str Zl 592)] 0
noncomputable def NO (P:Params):Obj:=e7 [ab P my 567 (.str fZ 492),ab P mL 571 (ar 125 570),ab P fk 583 (.ref 272),ab P mA 593 (.ref 273),ab P sS 595 (.ref 276),ab P qS 597 (.ref 277),ab P k3 598 .none] 4
noncomputable def Pn:Obj:=⟨(.type "type"),none,(.cls ⟨rY,[(.type "object")],[(.ref 275),(.type "object")],274,rY,true,[],[],false,none,false⟩),⟨[none,none,(some (.str rY 560)),(some (.str rY 568)),(some (.builtin "object.__new__")),(some (.bool true))]⟩⟩
noncomputable def K6:Obj:=⟨(.type "getset_descriptor"),none,(.fields ⟨[(.str sS 594),(.ref 275),(.builtin "function.__dict__"),(.builtin "function.__dict__#set")]⟩),⟨[]⟩⟩
noncomputable def Np:Obj:=⟨(.type "getset_descriptor"),none,(.fields ⟨[(.str qS 596),(.ref 275),(.builtin "ExceptionGroup.__weakref__"),.none]⟩),⟨[]⟩⟩
noncomputable def KG:Obj:=⟨(.type "super"),none,(.fields ⟨[(.ref 275),(.ref 275),(.ref 275)]⟩),⟨[]⟩⟩
noncomputable def OP:Obj:=⟨(.type "builtin_function_or_method"),none,(.fields ⟨[(.builtin "object.__init_subclass__"),(.ref 275)]⟩),⟨[]⟩⟩
noncomputable def a4W (P:Params):List Obj:=[O1,JL,M8 P,N4,Nq,MH,Lh,MG,MR,KR,PV,PW,Ja,L5,L7,NO P,Pn,K6,Np,KG,OP]
noncomputable def T9 (P:Params):BT:=a6 (a6 (bY (T8 P) 259 (a4W P)) 3 (a5t P)) 12 (a10)
noncomputable def a2i (P:Params):List DictEntry:=gt9 P ++ [ab P rO 634 (.ref 297)]
noncomputable def a1d (P:Params):Obj:=⟨(.type "dict"),none,.dict ⟨ab P qA 165 (.str fZ 492) :: a2i P⟩ 67,⟨[]⟩⟩
noncomputable def ZX:List Value:=ct9 ++ [(ak 139),(ak 0),(.ref 285)]
noncomputable def Ym:Obj:=⟨.none,none,.fields ⟨ZX⟩,⟨[]⟩⟩
noncomputable def yC:Obj:=ae [] 0
noncomputable def FT:Obj:=⟨(.type "builtin_function_or_method"),none,(.fields ⟨[(.builtin "type.__prepare__"),(.type "type")]⟩),⟨[]⟩⟩
noncomputable def xO (P:Params):Obj:=e7 [ab P my 608 (.str fZ 492),ab P Ir 610 (.str rO 609),ab P mL 612 (ar 139 611),ab P rK 613 (ar 6 500),ab P fk 623 (.ref 294),ab P mA 627 (.ref 295)] 6
noncomputable def AW:Obj:=ae [] 0
noncomputable def EQ:Obj:=⟨.none,none,(.fields ⟨[(ak 142),(ak 4),(.ref 293)]⟩),⟨[]⟩⟩
noncomputable def ET:Obj:=aP rO 603 rO 604 605 139 0 0 0 0 283 false 181 284 .none .none .none 606 139 607
noncomputable def EK:Obj:=⟨(.type "frame"),none,.plain,⟨[(some (.ref 285)),(some (.ref 3)),(some (.ref 282)),none,(some (.str fZ 492)),none,(some (.ref 0))]⟩⟩
noncomputable def yq:Obj:=ae [.none] 0
noncomputable def Fq:Obj:=ae [] 0
noncomputable def CZ:Obj:=⟨.none,none,(.fields ⟨[]⟩),⟨[]⟩⟩
noncomputable def GQ:Obj:=ae [(.str sT 617),(.str WW 618),(.str Nk 619),(.str a0Z 620)] 0
noncomputable def Bi:Obj:=ae [] 0
noncomputable def C6:Obj:=⟨.none,none,(.func ⟨fk,Yz,aA (aa (au (aa pB 33)) 1),.stmts (ay (aa (au (aa pB 33)) 1)),am (aa (au (aa pB 33)) 1),0,[],.none,.none,.none,.none,none,.none,.none,0⟩),⟨[]⟩⟩
noncomputable def yO:Obj:=aP fk 614 Yz 615 616 142 4 0 0 3 288 true 181 289 (.ref 290) (.ref 291) (.ref 292) 621 142 622
noncomputable def CO:Obj:=aW fk Yz (aa (au (aa pB 33)) 1) [] (.ref 287) .none .none (.str fZ 492) none (.ref 293) .none 0
noncomputable def Gs:Obj:=ae [(.str WW 624),(.str a0Z 625),(.str Nk 626)] 0
noncomputable def BH (P:Params):Obj:=e7 [ab P my 608 (.str fZ 492),ab P mL 612 (ar 139 611),ab P rK 613 (ar 6 500),ab P fk 623 (.ref 294),ab P mA 627 (.ref 295),ab P sS 629 (.ref 298),ab P qS 631 (.ref 299),ab P k3 632 .none] 4
noncomputable def Du:Obj:=⟨(.type "type"),none,(.cls ⟨rO,[(.type "object")],[(.ref 297),(.type "object")],296,rO,true,[],[],false,none,false⟩),⟨[none,none,(some (.str rO 601)),(some (.str rO 609)),(some (.builtin "object.__new__")),(some (.bool true))]⟩⟩
noncomputable def De:Obj:=⟨(.type "getset_descriptor"),none,(.fields ⟨[(.str sS 628),(.ref 297),(.builtin "function.__dict__"),(.builtin "function.__dict__#set")]⟩),⟨[]⟩⟩
noncomputable def DG:Obj:=⟨(.type "getset_descriptor"),none,(.fields ⟨[(.str qS 630),(.ref 297),(.builtin "ExceptionGroup.__weakref__"),.none]⟩),⟨[]⟩⟩
noncomputable def Hc:Obj:=⟨(.type "super"),none,(.fields ⟨[(.ref 297),(.ref 297),(.ref 297)]⟩),⟨[]⟩⟩
noncomputable def Cm:Obj:=⟨(.type "builtin_function_or_method"),none,(.fields ⟨[(.builtin "object.__init_subclass__"),(.ref 297)]⟩),⟨[]⟩⟩
noncomputable def a1C (P:Params):List Obj:=[yC,FT,xO P,AW,EQ,ET,EK,yq,Fq,CZ,GQ,Bi,C6,yO,CO,Gs,BH P,Du,De,DG,Hc,Cm]
noncomputable def T10 (P:Params):BT:=a6 (a6 (bY (T9 P) 280 (a1C P)) 3 (a1d P)) 12 (Ym)
noncomputable def ZV (P:Params):List DictEntry:=a2i P ++ [ab P q9 664 (.ref 318)]
noncomputable def a03 (P:Params):Obj:=⟨(.type "dict"),none,.dict ⟨ab P qA 165 (.str fZ 492) :: ZV P⟩ 68,⟨[]⟩⟩
noncomputable def a3s:List Value:=ZX ++ [(ak 152),(ak 0),(.ref 307)]
noncomputable def X0:Obj:=⟨.none,none,.fields ⟨a3s⟩,⟨[]⟩⟩
noncomputable def DS:Obj:=ae [] 0
noncomputable def zU:Obj:=⟨(.type "builtin_function_or_method"),none,(.fields ⟨[(.builtin "type.__prepare__"),(.type "type")]⟩),⟨[]⟩⟩
noncomputable def AY (P:Params):Obj:=e7 [ab P my 642 (.str fZ 492),ab P Ir 644 (.str q9 643),ab P mL 646 (ar 152 645),ab P rK 647 (ar 7 501),ab P fk 655 (.ref 315),ab P mA 657 (.ref 316)] 6
noncomputable def y8:Obj:=ae [] 0
noncomputable def zS:Obj:=⟨.none,none,(.fields ⟨[(ak 155),(ak 4),(.ref 314)]⟩),⟨[]⟩⟩
noncomputable def C3:Obj:=aP q9 637 q9 638 639 152 0 0 0 0 305 false 181 306 .none .none .none 640 152 641
noncomputable def By:Obj:=⟨(.type "frame"),none,.plain,⟨[(some (.ref 307)),(some (.ref 3)),(some (.ref 304)),none,(some (.str fZ 492)),none,(some (.ref 0))]⟩⟩
noncomputable def zY:Obj:=ae [] 0
noncomputable def BD:Obj:=⟨.none,none,(.fields ⟨[]⟩),⟨[]⟩⟩
noncomputable def BJ:Obj:=ae [(.str sT 651),(.str P8 652)] 0
noncomputable def DT:Obj:=ae [] 0
noncomputable def z8:Obj:=⟨.none,none,(.func ⟨fk,W4,aA (aa (au (aa pB 34)) 1),.stmts (ay (aa (au (aa pB 34)) 1)),am (aa (au (aa pB 34)) 1),0,[],.none,.none,.none,.none,none,.none,.none,0⟩),⟨[]⟩⟩
noncomputable def BW:Obj:=aP fk 648 W4 649 650 155 2 0 0 3 309 true 181 310 (.ref 311) (.ref 312) (.ref 313) 653 155 654
noncomputable def BQ:Obj:=aW fk W4 (aa (au (aa pB 34)) 1) [] .none .none .none (.str fZ 492) none (.ref 314) .none 0
noncomputable def yG:Obj:=ae [(.str P8 656)] 0
noncomputable def zN (P:Params):Obj:=e7 [ab P my 642 (.str fZ 492),ab P mL 646 (ar 152 645),ab P rK 647 (ar 7 501),ab P fk 655 (.ref 315),ab P mA 657 (.ref 316),ab P sS 659 (.ref 319),ab P qS 661 (.ref 320),ab P k3 662 .none] 4
noncomputable def zb:Obj:=⟨(.type "type"),none,(.cls ⟨q9,[(.type "object")],[(.ref 318),(.type "object")],317,q9,true,[],[],false,none,false⟩),⟨[none,none,(some (.str q9 635)),(some (.str q9 643)),(some (.builtin "object.__new__")),(some (.bool true))]⟩⟩
noncomputable def Cj:Obj:=⟨(.type "getset_descriptor"),none,(.fields ⟨[(.str sS 658),(.ref 318),(.builtin "function.__dict__"),(.builtin "function.__dict__#set")]⟩),⟨[]⟩⟩
noncomputable def FE:Obj:=⟨(.type "getset_descriptor"),none,(.fields ⟨[(.str qS 660),(.ref 318),(.builtin "ExceptionGroup.__weakref__"),.none]⟩),⟨[]⟩⟩
noncomputable def Ec:Obj:=⟨(.type "super"),none,(.fields ⟨[(.ref 318),(.ref 318),(.ref 318)]⟩),⟨[]⟩⟩
noncomputable def zc:Obj:=⟨(.type "builtin_function_or_method"),none,(.fields ⟨[(.builtin "object.__init_subclass__"),(.ref 318)]⟩),⟨[]⟩⟩
noncomputable def a2h (P:Params):List Obj:=[DS,zU,AY P,y8,zS,C3,By,zY,BD,BJ,DT,z8,BW,BQ,yG,zN P,zb,Cj,FE,Ec,zc]
noncomputable def T11 (P:Params):BT:=a6 (a6 (bY (T10 P) 302 (a2h P)) 3 (a03 P)) 12 (X0)
noncomputable def a0Y (P:Params):List DictEntry:=ZV P ++ [ab P rX 698 (.ref 339),ab P vw 704 (.ref 348),ab P a29 710 (.int (Int.negSucc 9999) 708),ab P Z9 711 (ar 10000 709)]
noncomputable def a0m (P:Params):Obj:=⟨(.type "dict"),none,.dict ⟨ab P qA 165 (.str b6 705) :: a0Y P⟩ 72,⟨[]⟩⟩
noncomputable def a16:List Value:=a3s ++ [(ak 157),(ak 0),(.ref 328),(ak 164),(ak 0),(.ref 347)]
noncomputable def X5:Obj:=⟨.none,none,.fields ⟨a16⟩,⟨[]⟩⟩
noncomputable def Ek:Obj:=ae [] 0
noncomputable def zg:Obj:=⟨(.type "builtin_function_or_method"),none,(.fields ⟨[(.builtin "type.__prepare__"),(.type "type")]⟩),⟨[]⟩⟩
noncomputable def Ee (P:Params):Obj:=e7 [ab P my 672 (.str fZ 492),ab P Ir 674 (.str rX 673),ab P mL 676 (ar 157 675),ab P rK 677 (ar 8 510),ab P fk 687 (.ref 336),ab P mA 691 (.ref 337)] 6
noncomputable def Gu:Obj:=ae [] 0
noncomputable def AO:Obj:=⟨.none,none,(.fields ⟨[(ak 160),(ak 4),(.ref 335)]⟩),⟨[]⟩⟩
noncomputable def zh:Obj:=aP rX 667 rX 668 669 157 0 0 0 0 326 false 181 327 .none .none .none 670 157 671
noncomputable def ym:Obj:=⟨(.type "frame"),none,.plain,⟨[(some (.ref 328)),(some (.ref 3)),(some (.ref 325)),none,(some (.str fZ 492)),none,(some (.ref 0))]⟩⟩
noncomputable def xK:Obj:=ae [] 0
noncomputable def Gj:Obj:=⟨.none,none,(.fields ⟨[]⟩),⟨[]⟩⟩
noncomputable def FZ:Obj:=ae [(.str sT 681),(.str a0w 682),(.str a18 683),(.str ZH 684)] 0
noncomputable def yL:Obj:=ae [] 0
noncomputable def AQ:Obj:=⟨.none,none,(.func ⟨fk,XV,aA (aa (au (aa pB 35)) 1),.stmts (ay (aa (au (aa pB 35)) 1)),am (aa (au (aa pB 35)) 1),0,[],.none,.none,.none,.none,none,.none,.none,0⟩),⟨[]⟩⟩
noncomputable def ye:Obj:=aP fk 678 XV 679 680 160 4 0 0 3 330 true 181 331 (.ref 332) (.ref 333) (.ref 334) 685 160 686
noncomputable def FC:Obj:=aW fk XV (aa (au (aa pB 35)) 1) [] .none .none .none (.str fZ 492) none (.ref 335) .none 0
noncomputable def EF:Obj:=ae [(.str ZH 688),(.str a18 689),(.str a0w 690)] 0
noncomputable def Fd (P:Params):Obj:=e7 [ab P my 672 (.str fZ 492),ab P mL 676 (ar 157 675),ab P rK 677 (ar 8 510),ab P fk 687 (.ref 336),ab P mA 691 (.ref 337),ab P sS 693 (.ref 340),ab P qS 695 (.ref 341),ab P k3 696 .none] 4
noncomputable def E4:Obj:=⟨(.type "type"),none,(.cls ⟨rX,[(.type "object")],[(.ref 339),(.type "object")],338,rX,true,[],[],false,none,false⟩),⟨[none,none,(some (.str rX 665)),(some (.str rX 673)),(some (.builtin "object.__new__")),(some (.bool true))]⟩⟩
noncomputable def Ep:Obj:=⟨(.type "getset_descriptor"),none,(.fields ⟨[(.str sS 692),(.ref 339),(.builtin "function.__dict__"),(.builtin "function.__dict__#set")]⟩),⟨[]⟩⟩
noncomputable def AC:Obj:=⟨(.type "getset_descriptor"),none,(.fields ⟨[(.str qS 694),(.ref 339),(.builtin "ExceptionGroup.__weakref__"),.none]⟩),⟨[]⟩⟩
noncomputable def AH:Obj:=⟨(.type "super"),none,(.fields ⟨[(.ref 339),(.ref 339),(.ref 339)]⟩),⟨[]⟩⟩
noncomputable def Bn:Obj:=⟨(.type "builtin_function_or_method"),none,(.fields ⟨[(.builtin "object.__init_subclass__"),(.ref 339)]⟩),⟨[]⟩⟩
noncomputable def x5:Obj:=ae [] 0
noncomputable def Az:Obj:=⟨.none,none,(.fields ⟨[]⟩),⟨[]⟩⟩
noncomputable def Fa:Obj:=⟨.none,none,(.func ⟨vw,vw,aA (aa pB 36),.stmts (ay (aa pB 36)),am (aa pB 36),0,[],.none,.none,.none,.none,none,.none,.none,0⟩),⟨[]⟩⟩
noncomputable def Ao:Obj:=aP vw 699 vw 700 701 164 1 0 0 3 344 true 181 345 .none .none (.ref 346) 702 164 703
noncomputable def yR:Obj:=aW vw vw (aa pB 36) [] .none .none .none (.str fZ 492) none (.ref 347) .none 0
noncomputable def Go:Obj:=ae [(.int (Int.negSucc 9999) 708),(ar 10000 709)] 0
noncomputable def Di:Obj:=⟨(.type "tuple_iterator"),none,(.fields ⟨[.none,(ak 2)]⟩),⟨[]⟩⟩
noncomputable def GX:Obj:=ae [] 0
noncomputable def xP:Obj:=⟨(.type "StopIteration"),none,(.fields ⟨[(.ref 351),.none,.none,.none,(.bool false),.none]⟩),⟨[]⟩⟩
noncomputable def a2g (P:Params):List Obj:=[Ek,zg,Ee P,Gu,AO,zh,ym,xK,Gj,FZ,yL,AQ,ye,FC,EF,Fd P,E4,Ep,AC,AH,Bn,x5,Az,Fa,Ao,yR,Go,Di,GX,xP]
noncomputable def T12 (P:Params):BT:=a6 (a6 (bY (T11 P) 323 (a2g P)) 3 (a0m P)) 12 (X5)
noncomputable def a08 (P:Params):List DictEntry:=a0Y P ++ [ab P a11 716 (ar 0 712),ab P a1k 717 (ar 1 713),ab P a23 718 (ar 2 714),ab P a2N 719 (ar 3 715),ab P a2e 722 (ar 0 720),ab P a12 723 (ar 1 721),ab P a3k 726 (ar 10001 725),ab P a2o 728 (ar 100000000 727),ab P a20 735 (.ref 361)]
noncomputable def a02 (P:Params):Obj:=⟨(.type "dict"),none,.dict ⟨ab P qA 165 (.str b6 705) :: a08 P⟩ 81,⟨[]⟩⟩
noncomputable def a5I:List Value:=a16
noncomputable def zv:Obj:=ae [(ar 0 712),(ar 1 713),(ar 2 714),(ar 3 715)] 0
noncomputable def An:Obj:=⟨(.type "tuple_iterator"),none,(.fields ⟨[.none,(ak 4)]⟩),⟨[]⟩⟩
noncomputable def Gn:Obj:=ae [] 0
noncomputable def EH:Obj:=⟨(.type "StopIteration"),none,(.fields ⟨[(.ref 355),.none,.none,.none,(.bool false),.none]⟩),⟨[]⟩⟩
noncomputable def yh:Obj:=ae [(ar 0 720),(ar 1 721)] 0
noncomputable def yB:Obj:=⟨(.type "tuple_iterator"),none,(.fields ⟨[.none,(ak 2)]⟩),⟨[]⟩⟩
noncomputable def zz:Obj:=ae [] 0
noncomputable def Aq:Obj:=⟨(.type "StopIteration"),none,(.fields ⟨[(.ref 359),.none,.none,.none,(.bool false),.none]⟩),⟨[]⟩⟩
noncomputable def Ed:Obj:=ae [(ar 0 729),(ar 0 730),(ar 0 731),(ar 0 732),(ar 0 733),(ar 0 734)] 0
noncomputable def a0V (P:Params):List Obj:=[zv,An,Gn,EH,yh,yB,zz,Aq,Ed]
noncomputable def T13 (P:Params):BT:=a6 (bY (T12 P) 353 (a0V P)) 3 (a02 P)
noncomputable def a1h (P:Params):List DictEntry:=a08 P ++ [ab P rv 786 (.ref 392)]
noncomputable def a2G (P:Params):Obj:=⟨(.type "dict"),none,.dict ⟨ab P qA 165 (.str b6 705) :: a1h P⟩ 82,⟨[]⟩⟩
noncomputable def a3d:List Value:=a5I ++ [(ak 184),(ak 0),(.ref 367)]
noncomputable def Wc:Obj:=⟨.none,none,.fields ⟨a3d⟩,⟨[]⟩⟩
noncomputable def AG:Obj:=ae [] 0
noncomputable def B4:Obj:=⟨(.type "builtin_function_or_method"),none,(.fields ⟨[(.builtin "type.__prepare__"),(.type "type")]⟩),⟨[]⟩⟩
noncomputable def Ej (P:Params):Obj:=e7 [ab P my 743 (.str b6 705),ab P Ir 745 (.str rv 744),ab P mL 747 (ar 184 746),ab P fk 756 (.ref 375),ab P MY 763 (.ref 382),ab P ou 772 (.ref 389),ab P mA 779 (.ref 390)] 7
noncomputable def zL:Obj:=ae [] 0
noncomputable def F7:Obj:=⟨.none,none,(.fields ⟨[(ak 186),(ak 4),(.ref 374),(ak 196),(ak 4),(.ref 381),(ak 201),(ak 4),(.ref 388)]⟩),⟨[]⟩⟩
noncomputable def DQ:Obj:=aP rv 738 rv 739 740 184 0 0 0 0 365 false 181 366 .none .none .none 741 184 742
noncomputable def Ab:Obj:=⟨(.type "frame"),none,.plain,⟨[(some (.ref 367)),(some (.ref 3)),(some (.ref 364)),none,(some (.str b6 705)),none,(some (.ref 0))]⟩⟩
noncomputable def DL:Obj:=ae [] 0
noncomputable def zA:Obj:=ae [(ar 0 748),(ar 1 749),(.ref 369),(ar 0 750)] 0
noncomputable def EB:Obj:=ae [] 0
noncomputable def xW:Obj:=⟨.none,none,(.fields ⟨[]⟩),⟨[]⟩⟩
noncomputable def yv:Obj:=⟨.none,none,(.func ⟨fk,Ys,aA (aa (au (aa pB 44)) 0),.stmts (ay (aa (au (aa pB 44)) 0)),am (aa (au (aa pB 44)) 0),0,[],.none,.none,.none,.none,none,.none,.none,0⟩),⟨[]⟩⟩
noncomputable def xS:Obj:=aP fk 751 Ys 752 753 186 6 0 0 3 371 true 181 372 .none .none (.ref 373) 754 186 755
noncomputable def DD:Obj:=aW fk Ys (aa (au (aa pB 44)) 0) [] (.ref 370) .none .none (.str b6 705) none (.ref 374) .none 0
noncomputable def C1:Obj:=ae [] 0
noncomputable def E9:Obj:=⟨.none,none,(.fields ⟨[]⟩),⟨[]⟩⟩
noncomputable def GR:Obj:=ae [(.str sT 760)] 0
noncomputable def GA:Obj:=ae [] 0
noncomputable def Dz:Obj:=⟨.none,none,(.func ⟨MY,WI,aA (aa (au (aa pB 44)) 1),.stmts (ay (aa (au (aa pB 44)) 1)),am (aa (au (aa pB 44)) 1),0,[],.none,.none,.none,.none,none,.none,.none,0⟩),⟨[]⟩⟩
noncomputable def A6:Obj:=aP MY 757 WI 758 759 196 1 0 0 3 376 true 181 377 (.ref 378) (.ref 379) (.ref 380) 761 196 762
noncomputable def CS:Obj:=aW MY WI (aa (au (aa pB 44)) 1) [] .none .none .none (.str b6 705) none (.ref 381) .none 0
noncomputable def zP:Obj:=ae [] 0
noncomputable def As:Obj:=⟨.none,none,(.fields ⟨[]⟩),⟨[]⟩⟩
noncomputable def Ba:Obj:=ae [(.str sT 767),(.str k53 768),(.str a53 769)] 0
noncomputable def z3:Obj:=ae [] 0
noncomputable def yp:Obj:=⟨.none,none,(.func ⟨ou,Yq,aA (aa (au (aa pB 44)) 2),.stmts (ay (aa (au (aa pB 44)) 2)),am (aa (au (aa pB 44)) 2),0,[],.none,.none,.none,.none,none,.none,.none,0⟩),⟨[]⟩⟩
noncomputable def Bq:Obj:=aP ou 764 Yq 765 766 201 2 0 0 3 383 true 181 384 (.ref 385) (.ref 386) (.ref 387) 770 201 771
noncomputable def GF:Obj:=aW ou Yq (aa (au (aa pB 44)) 2) [] .none .none .none (.str b6 705) none (.ref 388) .none 0
noncomputable def CA:Obj:=ae [(.str a6E 773),(.str a6R 774),(.str a6j 775),(.str a60 776),(.str LG 777),(.str Zl 778)] 0
noncomputable def AU (P:Params):Obj:=e7 [ab P my 743 (.str b6 705),ab P mL 747 (ar 184 746),ab P fk 756 (.ref 375),ab P MY 763 (.ref 382),ab P ou 772 (.ref 389),ab P mA 779 (.ref 390),ab P sS 781 (.ref 393),ab P qS 783 (.ref 394),ab P k3 784 .none] 4
noncomputable def y5:Obj:=⟨(.type "type"),none,(.cls ⟨rv,[(.type "object")],[(.ref 392),(.type "object")],391,rv,true,[],[],false,none,false⟩),⟨[none,none,(some (.str rv 736)),(some (.str rv 744)),(some (.builtin "object.__new__")),(some (.bool true))]⟩⟩
noncomputable def BY:Obj:=⟨(.type "getset_descriptor"),none,(.fields ⟨[(.str sS 780),(.ref 392),(.builtin "function.__dict__"),(.builtin "function.__dict__#set")]⟩),⟨[]⟩⟩
noncomputable def EP:Obj:=⟨(.type "getset_descriptor"),none,(.fields ⟨[(.str qS 782),(.ref 392),(.builtin "ExceptionGroup.__weakref__"),.none]⟩),⟨[]⟩⟩
noncomputable def CG:Obj:=⟨(.type "super"),none,(.fields ⟨[(.ref 392),(.ref 392),(.ref 392)]⟩),⟨[]⟩⟩
noncomputable def AZ:Obj:=⟨(.type "builtin_function_or_method"),none,(.fields ⟨[(.builtin "object.__init_subclass__"),(.ref 392)]⟩),⟨[]⟩⟩
noncomputable def a2q (P:Params):List Obj:=[AG,B4,Ej P,zL,F7,DQ,Ab,DL,zA,EB,xW,yv,xS,DD,C1,E9,GR,GA,Dz,A6,CS,zP,As,Ba,z3,yp,Bq,GF,CA,AU P,y5,BY,EP,CG,AZ]
noncomputable def T14 (P:Params):BT:=a6 (a6 (bY (T13 P) 362 (a2q P)) 3 (a2G P)) 12 (Wc)
noncomputable def a3o (P:Params):List DictEntry:=a1h P ++ [ab P sJ 825 (.ref 413)]
noncomputable def a2X (P:Params):Obj:=⟨(.type "dict"),none,.dict ⟨ab P qA 165 (.str b6 705) :: a3o P⟩ 83,⟨[]⟩⟩
noncomputable def a09:List Value:=a3d ++ [(ak 210),(ak 0),(.ref 402)]
noncomputable def YS:Obj:=⟨.none,none,.fields ⟨a09⟩,⟨[]⟩⟩
noncomputable def zk:Obj:=ae [] 0
noncomputable def Bl:Obj:=⟨(.type "builtin_function_or_method"),none,(.fields ⟨[(.builtin "type.__prepare__"),(.type "type")]⟩),⟨[]⟩⟩
noncomputable def Bh (P:Params):Obj:=e7 [ab P my 794 (.str b6 705),ab P Ir 796 (.str sJ 795),ab P mL 798 (ar 210 797),ab P fk 805 (.ref 410),ab P mA 818 (.ref 411)] 5
noncomputable def He:Obj:=ae [] 0
noncomputable def BZ:Obj:=⟨.none,none,(.fields ⟨[(ak 212),(ak 4),(.ref 409)]⟩),⟨[]⟩⟩
noncomputable def yT:Obj:=aP sJ 789 sJ 790 791 210 0 0 0 0 400 false 181 401 .none .none .none 792 210 793
noncomputable def Fg:Obj:=⟨(.type "frame"),none,.plain,⟨[(some (.ref 402)),(some (.ref 3)),(some (.ref 399)),none,(some (.str b6 705)),none,(some (.ref 0))]⟩⟩
noncomputable def zE:Obj:=ae [] 0
noncomputable def Cq:Obj:=⟨.none,none,(.fields ⟨[]⟩),⟨[]⟩⟩
noncomputable def yQ:Obj:=ae [(.str sT 802)] 0
noncomputable def C8:Obj:=ae [] 0
noncomputable def AE:Obj:=⟨.none,none,(.func ⟨fk,W8,aA (aa (au (aa pB 45)) 0),.stmts (ay (aa (au (aa pB 45)) 0)),am (aa (au (aa pB 45)) 0),0,[],.none,.none,.none,.none,none,.none,.none,0⟩),⟨[]⟩⟩
noncomputable def Bm:Obj:=aP fk 799 W8 800 801 212 1 0 0 3 404 true 181 405 (.ref 406) (.ref 407) (.ref 408) 803 212 804
noncomputable def DO:Obj:=aW fk W8 (aa (au (aa pB 45)) 0) [] .none .none .none (.str b6 705) none (.ref 409) .none 0
noncomputable def Dl:Obj:=ae [(.str a5b 806),(.str a55 807),(.str a7m 808),(.str a6N 809),(.str a6c 810),(.str a5F 811),(.str a6t 812),(.str a5f 813),(.str a1Y 814),(.str a4E 815),(.str a5y 816),(.str XW 817)] 0
noncomputable def Cs (P:Params):Obj:=e7 [ab P my 794 (.str b6 705),ab P mL 798 (ar 210 797),ab P fk 805 (.ref 410),ab P mA 818 (.ref 411),ab P sS 820 (.ref 414),ab P qS 822 (.ref 415),ab P k3 823 .none] 4
noncomputable def zG:Obj:=⟨(.type "type"),none,(.cls ⟨sJ,[(.type "object")],[(.ref 413),(.type "object")],412,sJ,true,[],[],false,none,false⟩),⟨[none,none,(some (.str sJ 787)),(some (.str sJ 795)),(some (.builtin "object.__new__")),(some (.bool true))]⟩⟩
noncomputable def DA:Obj:=⟨(.type "getset_descriptor"),none,(.fields ⟨[(.str sS 819),(.ref 413),(.builtin "function.__dict__"),(.builtin "function.__dict__#set")]⟩),⟨[]⟩⟩
noncomputable def A5:Obj:=⟨(.type "getset_descriptor"),none,(.fields ⟨[(.str qS 821),(.ref 413),(.builtin "ExceptionGroup.__weakref__"),.none]⟩),⟨[]⟩⟩
noncomputable def Ak:Obj:=⟨(.type "super"),none,(.fields ⟨[(.ref 413),(.ref 413),(.ref 413)]⟩),⟨[]⟩⟩
noncomputable def G8:Obj:=⟨(.type "builtin_function_or_method"),none,(.fields ⟨[(.builtin "object.__init_subclass__"),(.ref 413)]⟩),⟨[]⟩⟩
noncomputable def Zu (P:Params):List Obj:=[zk,Bl,Bh P,He,BZ,yT,Fg,zE,Cq,yQ,C8,AE,Bm,DO,Dl,Cs P,zG,DA,A5,Ak,G8]
noncomputable def T15 (P:Params):BT:=a6 (a6 (bY (T14 P) 397 (Zu P)) 3 (a2X P)) 12 (YS)
noncomputable def ZK (P:Params):List DictEntry:=a3o P ++ [ab P rd 862 (.ref 434)]
noncomputable def a2Q (P:Params):Obj:=⟨(.type "dict"),none,.dict ⟨ab P qA 165 (.str b6 705) :: ZK P⟩ 84,⟨[]⟩⟩
noncomputable def a0I:List Value:=a09 ++ [(ak 225),(ak 0),(.ref 423)]
noncomputable def Yt:Obj:=⟨.none,none,.fields ⟨a0I⟩,⟨[]⟩⟩
noncomputable def zx:Obj:=ae [] 0
noncomputable def Be:Obj:=⟨(.type "builtin_function_or_method"),none,(.fields ⟨[(.builtin "type.__prepare__"),(.type "type")]⟩),⟨[]⟩⟩
noncomputable def Dt (P:Params):Obj:=e7 [ab P my 833 (.str b6 705),ab P Ir 835 (.str rd 834),ab P mL 837 (ar 225 836),ab P fk 849 (.ref 431),ab P mA 855 (.ref 432)] 5
noncomputable def Fz:Obj:=ae [] 0
noncomputable def Af:Obj:=⟨.none,none,(.fields ⟨[(ak 227),(ak 4),(.ref 430)]⟩),⟨[]⟩⟩
noncomputable def DH:Obj:=aP rd 828 rd 829 830 225 0 0 0 0 421 false 181 422 .none .none .none 831 225 832
noncomputable def DE:Obj:=⟨(.type "frame"),none,.plain,⟨[(some (.ref 423)),(some (.ref 3)),(some (.ref 420)),none,(some (.str b6 705)),none,(some (.ref 0))]⟩⟩
noncomputable def Dy:Obj:=ae [] 0
noncomputable def zD:Obj:=⟨.none,none,(.fields ⟨[]⟩),⟨[]⟩⟩
noncomputable def Gm:Obj:=ae [(.str sT 841),(.str Lc 842),(.str ou 843),(.str Od 844),(.str WH 845),(.str a1U 846)] 0
noncomputable def Co:Obj:=ae [] 0
noncomputable def EV:Obj:=⟨.none,none,(.func ⟨fk,Yw,aA (aa (au (aa pB 46)) 0),.stmts (ay (aa (au (aa pB 46)) 0)),am (aa (au (aa pB 46)) 0),0,[],.none,.none,.none,.none,none,.none,.none,0⟩),⟨[]⟩⟩
noncomputable def Gw:Obj:=aP fk 838 Yw 839 840 227 6 0 0 3 425 true 181 426 (.ref 427) (.ref 428) (.ref 429) 847 227 848
noncomputable def FU:Obj:=aW fk Yw (aa (au (aa pB 46)) 0) [] .none .none .none (.str b6 705) none (.ref 430) .none 0
noncomputable def EA:Obj:=ae [(.str a1U 850),(.str WH 851),(.str Od 852),(.str ou 853),(.str Lc 854)] 0
noncomputable def FG (P:Params):Obj:=e7 [ab P my 833 (.str b6 705),ab P mL 837 (ar 225 836),ab P fk 849 (.ref 431),ab P mA 855 (.ref 432),ab P sS 857 (.ref 435),ab P qS 859 (.ref 436),ab P k3 860 .none] 4
noncomputable def zI:Obj:=⟨(.type "type"),none,(.cls ⟨rd,[(.type "object")],[(.ref 434),(.type "object")],433,rd,true,[],[],false,none,false⟩),⟨[none,none,(some (.str rd 826)),(some (.str rd 834)),(some (.builtin "object.__new__")),(some (.bool true))]⟩⟩
noncomputable def z9:Obj:=⟨(.type "getset_descriptor"),none,(.fields ⟨[(.str sS 856),(.ref 434),(.builtin "function.__dict__"),(.builtin "function.__dict__#set")]⟩),⟨[]⟩⟩
noncomputable def AI:Obj:=⟨(.type "getset_descriptor"),none,(.fields ⟨[(.str qS 858),(.ref 434),(.builtin "ExceptionGroup.__weakref__"),.none]⟩),⟨[]⟩⟩
noncomputable def DM:Obj:=⟨(.type "super"),none,(.fields ⟨[(.ref 434),(.ref 434),(.ref 434)]⟩),⟨[]⟩⟩
noncomputable def CQ:Obj:=⟨(.type "builtin_function_or_method"),none,(.fields ⟨[(.builtin "object.__init_subclass__"),(.ref 434)]⟩),⟨[]⟩⟩
noncomputable def a3q (P:Params):List Obj:=[zx,Be,Dt P,Fz,Af,DH,DE,Dy,zD,Gm,Co,EV,Gw,FU,EA,FG P,zI,z9,AI,DM,CQ]
noncomputable def T16 (P:Params):BT:=a6 (a6 (bY (T15 P) 418 (a3q P)) 3 (a2Q P)) 12 (Yt)
noncomputable def a1p (P:Params):List DictEntry:=ZK P ++ [ab P qV 900 (.ref 455),ab P u7 908 (.ref 466),ab P uV 915 (.ref 473),ab P vN 931 (.ref 480),ab P uL 939 (.ref 487),ab P vy 947 (.ref 494)]
noncomputable def a1F (P:Params):Obj:=⟨(.type "dict"),none,.dict ⟨ab P qA 165 (.str b6 705) :: a1p P⟩ 90,⟨[]⟩⟩
noncomputable def a2v:List Value:=a0I ++ [(ak 233),(ak 0),(.ref 444),(ak 242),(ak 0),(.ref 465),(ak 246),(ak 0),(.ref 472),(ak 248),(ak 0),(.ref 479),(ak 272),(ak 0),(.ref 486),(ak 280),(ak 0),(.ref 493)]
noncomputable def XU:Obj:=⟨.none,none,.fields ⟨a2v⟩,⟨[]⟩⟩
noncomputable def Db:Obj:=ae [] 0
noncomputable def Bf:Obj:=⟨(.type "builtin_function_or_method"),none,(.fields ⟨[(.builtin "type.__prepare__"),(.type "type")]⟩),⟨[]⟩⟩
noncomputable def Eg (P:Params):Obj:=e7 [ab P my 870 (.str b6 705),ab P Ir 872 (.str qV 871),ab P mL 874 (ar 233 873),ab P fk 886 (.ref 452),ab P mA 893 (.ref 453)] 5
noncomputable def FN:Obj:=ae [] 0
noncomputable def GC:Obj:=⟨.none,none,(.fields ⟨[(ak 235),(ak 4),(.ref 451)]⟩),⟨[]⟩⟩
noncomputable def GK:Obj:=aP qV 865 qV 866 867 233 0 0 0 0 442 false 181 443 .none .none .none 868 233 869
noncomputable def Cw:Obj:=⟨(.type "frame"),none,.plain,⟨[(some (.ref 444)),(some (.ref 3)),(some (.ref 441)),none,(some (.str b6 705)),none,(some (.ref 0))]⟩⟩
noncomputable def ya:Obj:=ae [] 0
noncomputable def EC:Obj:=⟨.none,none,(.fields ⟨[]⟩),⟨[]⟩⟩
noncomputable def AT:Obj:=ae [(.str sT 878),(.str ku 879),(.str Si 880),(.str a1j 881),(.str X6 882),(.str N7 883)] 0
noncomputable def Ha:Obj:=ae [] 0
noncomputable def yc:Obj:=⟨.none,none,(.func ⟨fk,WN,aA (aa (au (aa pB 47)) 0),.stmts (ay (aa (au (aa pB 47)) 0)),am (aa (au (aa pB 47)) 0),0,[],.none,.none,.none,.none,none,.none,.none,0⟩),⟨[]⟩⟩
noncomputable def Fj:Obj:=aP fk 875 WN 876 877 235 6 0 0 3 446 true 181 447 (.ref 448) (.ref 449) (.ref 450) 884 235 885
noncomputable def zO:Obj:=aW fk WN (aa (au (aa pB 47)) 0) [] .none .none .none (.str b6 705) none (.ref 451) .none 0
noncomputable def DY:Obj:=ae [(.str NY 887),(.str X6 888),(.str N7 889),(.str a1j 890),(.str ku 891),(.str Si 892)] 0
noncomputable def yA (P:Params):Obj:=e7 [ab P my 870 (.str b6 705),ab P mL 874 (ar 233 873),ab P fk 886 (.ref 452),ab P mA 893 (.ref 453),ab P sS 895 (.ref 456),ab P qS 897 (.ref 457),ab P k3 898 .none] 4
noncomputable def CP:Obj:=⟨(.type "type"),none,(.cls ⟨qV,[(.type "object")],[(.ref 455),(.type "object")],454,qV,true,[],[],false,none,false⟩),⟨[none,none,(some (.str qV 863)),(some (.str qV 871)),(some (.builtin "object.__new__")),(some (.bool true))]⟩⟩
noncomputable def EJ:Obj:=⟨(.type "getset_descriptor"),none,(.fields ⟨[(.str sS 894),(.ref 455),(.builtin "function.__dict__"),(.builtin "function.__dict__#set")]⟩),⟨[]⟩⟩
noncomputable def GM:Obj:=⟨(.type "getset_descriptor"),none,(.fields ⟨[(.str qS 896),(.ref 455),(.builtin "ExceptionGroup.__weakref__"),.none]⟩),⟨[]⟩⟩
noncomputable def Bk:Obj:=⟨(.type "super"),none,(.fields ⟨[(.ref 455),(.ref 455),(.ref 455)]⟩),⟨[]⟩⟩
noncomputable def Cd:Obj:=⟨(.type "builtin_function_or_method"),none,(.fields ⟨[(.builtin "object.__init_subclass__"),(.ref 455)]⟩),⟨[]⟩⟩
noncomputable def CV:Obj:=ae [] 0
noncomputable def z5:Obj:=⟨.none,none,(.fields ⟨[]⟩),⟨[]⟩⟩
noncomputable def D8:Obj:=ae [(.str ku 904),(.str P8 905)] 0
noncomputable def Eu:Obj:=ae [] 0
noncomputable def Cy:Obj:=⟨.none,none,(.func ⟨u7,u7,aA (aa pB 48),.stmts (ay (aa pB 48)),am (aa pB 48),0,[],.none,.none,.none,.none,none,.none,.none,0⟩),⟨[]⟩⟩
noncomputable def Aa:Obj:=aP u7 901 u7 902 903 242 1 0 0 3 460 true 181 461 (.ref 462) (.ref 463) (.ref 464) 906 242 907
noncomputable def EG:Obj:=aW u7 u7 (aa pB 48) [] .none .none .none (.str b6 705) none (.ref 465) .none 0
noncomputable def FH:Obj:=ae [] 0
noncomputable def zp:Obj:=⟨.none,none,(.fields ⟨[]⟩),⟨[]⟩⟩
noncomputable def B2:Obj:=ae [(.str wm 912)] 0
noncomputable def EN:Obj:=ae [] 0
noncomputable def DR:Obj:=⟨.none,none,(.func ⟨uV,uV,aA (aa pB 49),.stmts (ay (aa pB 49)),am (aa pB 49),0,[],.none,.none,.none,.none,none,.none,.none,0⟩),⟨[]⟩⟩
noncomputable def zJ:Obj:=aP uV 909 uV 910 911 246 1 0 0 3 467 true 181 468 (.ref 469) (.ref 470) (.ref 471) 913 246 914
noncomputable def za:Obj:=aW uV uV (aa pB 49) [] .none .none .none (.str b6 705) none (.ref 472) .none 0
noncomputable def xY:Obj:=ae [] 0
noncomputable def CL:Obj:=⟨.none,none,(.fields ⟨[]⟩),⟨[]⟩⟩
noncomputable def Cv:Obj:=ae [(.str pX 919),(.str ku 920),(.str x8 921),(.str a6e 922),(.str a58 923),(.str rJ 924),(.str wm 925),(.str rK 926),(.str QT 927),(.str Nk 928)] 0
noncomputable def zR:Obj:=ae [] 0
noncomputable def Ax:Obj:=⟨.none,none,(.func ⟨vN,vN,aA (aa pB 50),.stmts (ay (aa pB 50)),am (aa pB 50),0,[],.none,.none,.none,.none,none,.none,.none,0⟩),⟨[]⟩⟩
noncomputable def AL:Obj:=aP vN 916 vN 917 918 248 2 0 0 3 474 true 181 475 (.ref 476) (.ref 477) (.ref 478) 929 248 930
noncomputable def Ap:Obj:=aW vN vN (aa pB 50) [] .none .none .none (.str b6 705) none (.ref 479) .none 0
noncomputable def F8:Obj:=ae [] 0
noncomputable def BE:Obj:=⟨.none,none,(.fields ⟨[]⟩),⟨[]⟩⟩
noncomputable def Bg:Obj:=ae [(.str pX 935),(.str rJ 936)] 0
noncomputable def B8:Obj:=ae [] 0
noncomputable def yW:Obj:=⟨.none,none,(.func ⟨uL,uL,aA (aa pB 51),.stmts (ay (aa pB 51)),am (aa pB 51),0,[],.none,.none,.none,.none,none,.none,.none,0⟩),⟨[]⟩⟩
noncomputable def Hf:Obj:=aP uL 932 uL 933 934 272 2 0 0 3 481 true 181 482 (.ref 483) (.ref 484) (.ref 485) 937 272 938
noncomputable def Aj:Obj:=aW uL uL (aa pB 51) [] .none .none .none (.str b6 705) none (.ref 486) .none 0
noncomputable def Ac:Obj:=ae [] 0
noncomputable def zq:Obj:=⟨.none,none,(.fields ⟨[]⟩),⟨[]⟩⟩
noncomputable def z7:Obj:=ae [(.str HZ 943),(.str WW 944)] 0
noncomputable def BO:Obj:=ae [] 0
noncomputable def GP:Obj:=⟨.none,none,(.func ⟨vy,vy,aA (aa pB 52),.stmts (ay (aa pB 52)),am (aa pB 52),0,[],.none,.none,.none,.none,none,.none,.none,0⟩),⟨[]⟩⟩
noncomputable def Ex:Obj:=aP vy 940 vy 941 942 280 2 0 0 3 488 true 181 489 (.ref 490) (.ref 491) (.ref 492) 945 280 946
noncomputable def yU:Obj:=aW vy vy (aa pB 52) [] .none .none .none (.str b6 705) none (.ref 493) .none 0
noncomputable def Zy (P:Params):List Obj:=[Db,Bf,Eg P,FN,GC,GK,Cw,ya,EC,AT,Ha,yc,Fj,zO,DY,yA P,CP,EJ,GM,Bk,Cd,CV,z5,D8,Eu,Cy,Aa,EG,FH,zp,B2,EN,DR,zJ,za,xY,CL,Cv,zR,Ax,AL,Ap,F8,BE,Bg,B8,yW,Hf,Aj,Ac,zq,z7,BO,GP,Ex,yU]
noncomputable def T17 (P:Params):BT:=a6 (a6 (bY (T16 P) 439 (Zy P)) 3 (a1F P)) 12 (XU)
noncomputable def a3h (P:Params):List DictEntry:=a1p P ++ [ab P t3 956 (.ref 501),ab P sV 966 (.ref 508),ab P uW 974 (.ref 515),ab P ub 990 (.ref 522),ab P vF 999 (.ref 529),ab P vq 1005 (.ref 534),ab P sY 1015 (.ref 541),ab P td 1026 (.ref 548),ab P sU 1037 (.ref 555),ab P t8 1066 (.ref 562),ab P vH 1080 (.ref 569)]
noncomputable def a0X (P:Params):Obj:=⟨(.type "dict"),none,.dict ⟨ab P qA 165 (.str b6 705) :: a3h P⟩ 101,⟨[]⟩⟩
noncomputable def a0G:List Value:=a2v ++ [(ak 286),(ak 0),(.ref 500),(ak 291),(ak 0),(.ref 507),(ak 303),(ak 0),(.ref 514),(ak 305),(ak 0),(.ref 521),(ak 316),(ak 0),(.ref 528),(ak 322),(ak 0),(.ref 533),(ak 324),(ak 0),(.ref 540),(ak 337),(ak 0),(.ref 547),(ak 345),(ak 0),(.ref 554),(ak 352),(ak 0),(.ref 561),(ak 381),(ak 0),(.ref 568)]
noncomputable def XE:Obj:=⟨.none,none,.fields ⟨a0G⟩,⟨[]⟩⟩
noncomputable def Ey:Obj:=ae [] 0
noncomputable def FL:Obj:=⟨.none,none,(.fields ⟨[]⟩),⟨[]⟩⟩
noncomputable def DZ:Obj:=ae [(.str pX 951),(.str x8 952),(.str wm 953)] 0
noncomputable def AV:Obj:=ae [] 0
noncomputable def DN:Obj:=⟨.none,none,(.func ⟨t3,t3,aA (aa pB 53),.stmts (ay (aa pB 53)),am (aa pB 53),0,[],.none,.none,.none,.none,none,.none,.none,0⟩),⟨[]⟩⟩
noncomputable def AA:Obj:=aP t3 948 t3 949 950 286 1 0 0 3 495 true 181 496 (.ref 497) (.ref 498) (.ref 499) 954 286 955
noncomputable def B0:Obj:=aW t3 t3 (aa pB 53) [] .none .none .none (.str b6 705) none (.ref 500) .none 0
noncomputable def AX:Obj:=ae [] 0
noncomputable def zw:Obj:=⟨.none,none,(.fields ⟨[]⟩),⟨[]⟩⟩
noncomputable def Ea:Obj:=ae [(.str pX 960),(.str HZ 961),(.str x8 962),(.str wm 963)] 0
noncomputable def BF:Obj:=ae [] 0
noncomputable def GH:Obj:=⟨.none,none,(.func ⟨sV,sV,aA (aa pB 54),.stmts (ay (aa pB 54)),am (aa pB 54),0,[],.none,.none,.none,.none,none,.none,.none,0⟩),⟨[]⟩⟩
noncomputable def ze:Obj:=aP sV 957 sV 958 959 291 1 0 0 3 502 true 181 503 (.ref 504) (.ref 505) (.ref 506) 964 291 965
noncomputable def EO:Obj:=aW sV sV (aa pB 54) [] .none .none .none (.str b6 705) none (.ref 507) .none 0
noncomputable def Dn:Obj:=ae [] 0
noncomputable def zf:Obj:=⟨.none,none,(.fields ⟨[]⟩),⟨[]⟩⟩
noncomputable def GJ:Obj:=ae [(.str Hy 970),(.str k63 971)] 0
noncomputable def Au:Obj:=ae [] 0
noncomputable def At:Obj:=⟨.none,none,(.func ⟨uW,uW,aA (aa pB 55),.stmts (ay (aa pB 55)),am (aa pB 55),0,[],.none,.none,.none,.none,none,.none,.none,0⟩),⟨[]⟩⟩
noncomputable def CY:Obj:=aP uW 967 uW 968 969 303 2 0 0 3 509 true 181 510 (.ref 511) (.ref 512) (.ref 513) 972 303 973
noncomputable def Fc:Obj:=aW uW uW (aa pB 55) [] .none .none .none (.str b6 705) none (.ref 514) .none 0
noncomputable def CJ:Obj:=ae [] 0
noncomputable def GW:Obj:=⟨.none,none,(.fields ⟨[]⟩),⟨[]⟩⟩
noncomputable def Ad:Obj:=ae [(.str pX 978),(.str ku 979),(.str Hy 980),(.str x8 981),(.str rJ 982),(.str QT 983),(.str Nk 984),(.str a4O 985),(.str a4l 986),(.str ZA 987)] 0
noncomputable def yf:Obj:=ae [] 0
noncomputable def zj:Obj:=⟨.none,none,(.func ⟨ub,ub,aA (aa pB 56),.stmts (ay (aa pB 56)),am (aa pB 56),0,[],.none,.none,.none,.none,none,.none,.none,0⟩),⟨[]⟩⟩
noncomputable def x9:Obj:=aP ub 975 ub 976 977 305 2 0 0 3 516 true 181 517 (.ref 518) (.ref 519) (.ref 520) 988 305 989
noncomputable def xT:Obj:=aW ub ub (aa pB 56) [] .none .none .none (.str b6 705) none (.ref 521) .none 0
noncomputable def Ae:Obj:=ae [] 0
noncomputable def zm:Obj:=⟨.none,none,(.fields ⟨[]⟩),⟨[]⟩⟩
noncomputable def A4:Obj:=ae [(.str ku 994),(.str Xl 995),(.str HZ 996)] 0
noncomputable def Ff:Obj:=ae [] 0
noncomputable def Ei:Obj:=⟨.none,none,(.func ⟨vF,vF,aA (aa pB 57),.stmts (ay (aa pB 57)),am (aa pB 57),0,[],.none,.none,.none,.none,none,.none,.none,0⟩),⟨[]⟩⟩
noncomputable def Fe:Obj:=aP vF 991 vF 992 993 316 2 0 0 3 523 true 181 524 (.ref 525) (.ref 526) (.ref 527) 997 316 998
noncomputable def CE:Obj:=aW vF vF (aa pB 57) [] .none .none .none (.str b6 705) none (.ref 528) .none 0
noncomputable def BC:Obj:=ae [] 0
noncomputable def DF:Obj:=⟨.none,none,(.fields ⟨[]⟩),⟨[]⟩⟩
noncomputable def Dw:Obj:=⟨.none,none,(.func ⟨vq,vq,aA (aa pB 58),.stmts (ay (aa pB 58)),am (aa pB 58),0,[],.none,.none,.none,.none,none,.none,.none,0⟩),⟨[]⟩⟩
noncomputable def Dj:Obj:=aP vq 1000 vq 1001 1002 322 3 0 0 3 530 true 181 531 .none .none (.ref 532) 1003 322 1004
noncomputable def DC:Obj:=aW vq vq (aa pB 58) [] .none .none .none (.str b6 705) none (.ref 533) .none 0
noncomputable def Fh:Obj:=ae [] 0
noncomputable def FQ:Obj:=⟨.none,none,(.fields ⟨[]⟩),⟨[]⟩⟩
noncomputable def AD:Obj:=ae [(.str Zl 1009),(.str Hy 1010),(.str ZI 1011),(.str XG 1012)] 0
noncomputable def Gp:Obj:=ae [] 0
noncomputable def EW:Obj:=⟨.none,none,(.func ⟨sY,sY,aA (aa pB 59),.stmts (ay (aa pB 59)),am (aa pB 59),0,[],.none,.none,.none,.none,none,.none,.none,0⟩),⟨[]⟩⟩
noncomputable def Ai:Obj:=aP sY 1006 sY 1007 1008 324 2 0 0 3 535 true 181 536 (.ref 537) (.ref 538) (.ref 539) 1013 324 1014
noncomputable def E3:Obj:=aW sY sY (aa pB 59) [] .none .none .none (.str b6 705) none (.ref 540) .none 0
noncomputable def zo:Obj:=ae [] 0
noncomputable def A0:Obj:=⟨.none,none,(.fields ⟨[]⟩),⟨[]⟩⟩
noncomputable def ES:Obj:=ae [(.str ku 1019),(.str XG 1020),(.str QT 1021),(.str YL 1022),(.str x8 1023)] 0
noncomputable def zH:Obj:=ae [] 0
noncomputable def zQ:Obj:=⟨.none,none,(.func ⟨td,td,aA (aa pB 60),.stmts (ay (aa pB 60)),am (aa pB 60),0,[],.none,.none,.none,.none,none,.none,.none,0⟩),⟨[]⟩⟩
noncomputable def yl:Obj:=aP td 1016 td 1017 1018 337 3 0 0 3 542 true 181 543 (.ref 544) (.ref 545) (.ref 546) 1024 337 1025
noncomputable def yJ:Obj:=aW td td (aa pB 60) [] .none .none .none (.str b6 705) none (.ref 547) .none 0
noncomputable def Hd:Obj:=ae [] 0
noncomputable def EE:Obj:=⟨.none,none,(.fields ⟨[]⟩),⟨[]⟩⟩
noncomputable def DI:Obj:=ae [(.str ku 1030),(.str a1O 1031),(.str a0D 1032),(.str NY 1033),(.str x8 1034)] 0
noncomputable def xX:Obj:=ae [] 0
noncomputable def BR:Obj:=⟨.none,none,(.func ⟨sU,sU,aA (aa pB 61),.stmts (ay (aa pB 61)),am (aa pB 61),0,[],.none,.none,.none,.none,none,.none,.none,0⟩),⟨[]⟩⟩
noncomputable def Fp:Obj:=aP sU 1027 sU 1028 1029 345 4 0 0 3 549 true 181 550 (.ref 551) (.ref 552) (.ref 553) 1035 345 1036
noncomputable def EU:Obj:=aW sU sU (aa pB 61) [] .none .none .none (.str b6 705) none (.ref 554) .none 0
noncomputable def yo:Obj:=ae [] 0
noncomputable def Ef:Obj:=⟨.none,none,(.fields ⟨[]⟩),⟨[]⟩⟩
noncomputable def Ar:Obj:=ae [(.str a2j 1041),(.str Lc 1042),(.str a1m 1043),(.str a0D 1044),(.str rJ 1045),(.str QT 1046),(.str Nk 1047),(.str ZA 1048),(.str ku 1049),(.str a4Q 1050),(.str a3a 1051),(.str a2u 1052),(.str k53 1053),(.str YQ 1054),(.str ou 1055),(.str Hy 1056),(.str XG 1057),(.str Od 1058),(.str a6I 1059),(.str WH 1060),(.str a1O 1061),(.str a4o 1062),(.str a37 1063)] 0
noncomputable def B1:Obj:=ae [] 0
noncomputable def z4:Obj:=⟨.none,none,(.func ⟨t8,t8,aA (aa pB 62),.stmts (ay (aa pB 62)),am (aa pB 62),0,[],.none,.none,.none,.none,none,.none,.none,0⟩),⟨[]⟩⟩
noncomputable def A9:Obj:=aP t8 1038 t8 1039 1040 352 4 0 0 3 556 true 181 557 (.ref 558) (.ref 559) (.ref 560) 1064 352 1065
noncomputable def Bw:Obj:=aW t8 t8 (aa pB 62) [] .none .none .none (.str b6 705) none (.ref 561) .none 0
noncomputable def Bx:Obj:=ae [] 0
noncomputable def yy:Obj:=⟨.none,none,(.fields ⟨[]⟩),⟨[]⟩⟩
noncomputable def Bt:Obj:=ae [(.str a4U 1070),(.str a1Y 1071),(.str a3a 1072),(.str YQ 1073),(.str x8 1074),(.str NY 1075),(.str a6w 1076),(.str a4a 1077)] 0
noncomputable def Gf:Obj:=ae [] 0
noncomputable def yu:Obj:=⟨.none,none,(.func ⟨vH,vH,aA (aa pB 63),.stmts (ay (aa pB 63)),am (aa pB 63),0,[],.none,.none,.none,.none,none,.none,.none,0⟩),⟨[]⟩⟩
noncomputable def Dk:Obj:=aP vH 1067 vH 1068 1069 381 2 0 0 3 563 true 181 564 (.ref 565) (.ref 566) (.ref 567) 1078 381 1079
noncomputable def Gc:Obj:=aW vH vH (aa pB 63) [] .none .none .none (.str b6 705) none (.ref 568) .none 0
noncomputable def a17 (P:Params):List Obj:=[Ey,FL,DZ,AV,DN,AA,B0,AX,zw,Ea,BF,GH,ze,EO,Dn,zf,GJ,Au,At,CY,Fc,CJ,GW,Ad,yf,zj,x9,xT,Ae,zm,A4,Ff,Ei,Fe,CE,BC,DF,Dw,Dj,DC,Fh,FQ,AD,Gp,EW,Ai,E3,zo,A0,ES,zH,zQ,yl,yJ,Hd,EE,DI,xX,BR,Fp,EU,yo,Ef,Ar,B1,z4,A9,Bw,Bx,yy,Bt,Gf,yu,Dk,Gc]
noncomputable def T18 (P:Params):BT:=a6 (a6 (bY (T17 P) 495 (a17 P)) 3 (a0X P)) 12 (XE)
noncomputable def ZB (P:Params):List DictEntry:=a3h P ++ [ab P tK 1088 (.ref 576),ab P uE 1106 (.ref 583),ab P tV 1118 (.ref 590),ab P tR 1130 (.ref 597),ab P tH 1139 (.ref 604),ab P tB 1149 (.ref 611),ab P uh 1159 (.ref 618),ab P ug 1167 (.ref 625),ab P ue 1188 (.ref 632),ab P uU 1194 (.ref 637),ab P um 1208 (.ref 644)]
noncomputable def a2J (P:Params):Obj:=⟨(.type "dict"),none,.dict ⟨ab P qA 165 (.str ig 1119) :: ZB P⟩ 112,⟨[]⟩⟩
noncomputable def a0e:List Value:=a0G ++ [(ak 394),(ak 0),(.ref 575),(ak 400),(ak 0),(.ref 582),(ak 413),(ak 0),(.ref 589),(ak 424),(ak 0),(.ref 596),(ak 432),(ak 0),(.ref 603),(ak 439),(ak 0),(.ref 610),(ak 446),(ak 0),(.ref 617),(ak 449),(ak 0),(.ref 624),(ak 463),(ak 0),(.ref 631),(ak 486),(ak 0),(.ref 636),(ak 499),(ak 0),(.ref 643)]
noncomputable def YO:Obj:=⟨.none,none,.fields ⟨a0e⟩,⟨[]⟩⟩
noncomputable def Bc:Obj:=ae [] 0
noncomputable def D7:Obj:=⟨.none,none,(.fields ⟨[]⟩),⟨[]⟩⟩
noncomputable def Fv:Obj:=ae [(.str YQ 1084),(.str x8 1085)] 0
noncomputable def yj:Obj:=ae [] 0
noncomputable def Ay:Obj:=⟨.none,none,(.func ⟨tK,tK,aA (aa pB 64),.stmts (ay (aa pB 64)),am (aa pB 64),0,[],.none,.none,.none,.none,none,.none,.none,0⟩),⟨[]⟩⟩
noncomputable def EM:Obj:=aP tK 1081 tK 1082 1083 394 1 0 0 3 570 true 181 571 (.ref 572) (.ref 573) (.ref 574) 1086 394 1087
noncomputable def FX:Obj:=aW tK tK (aa pB 64) [] .none .none .none (.str b6 705) none (.ref 575) .none 0
noncomputable def Do:Obj:=ae [] 0
noncomputable def Eh:Obj:=⟨.none,none,(.fields ⟨[]⟩),⟨[]⟩⟩
noncomputable def GZ:Obj:=ae [(.str pX 1092),(.str ku 1093),(.str Si 1094),(.str XW 1095),(.str Xl 1096),(.str N7 1097),(.str X6 1098),(.str a2j 1099),(.str a1m 1100),(.str Lc 1101),(.str x8 1102),(.str NY 1103)] 0
noncomputable def FD:Obj:=ae [] 0
noncomputable def GD:Obj:=⟨.none,none,(.func ⟨uE,uE,aA (aa pB 65),.stmts (ay (aa pB 65)),am (aa pB 65),0,[],.none,.none,.none,.none,none,.none,.none,0⟩),⟨[]⟩⟩
noncomputable def zZ:Obj:=aP uE 1089 uE 1090 1091 400 6 0 0 3 577 true 181 578 (.ref 579) (.ref 580) (.ref 581) 1104 400 1105
noncomputable def Dr:Obj:=aW uE uE (aa pB 65) [] .none .none .none (.str b6 705) none (.ref 582) .none 0
noncomputable def A7:Obj:=ae [] 0
noncomputable def yH:Obj:=⟨.none,none,(.fields ⟨[]⟩),⟨[]⟩⟩
noncomputable def Ew:Obj:=ae [(.str pX 1110),(.str ku 1111),(.str Si 1112),(.str a4N 1113),(.str k61 1114),(.str a4i 1115)] 0
noncomputable def Gx:Obj:=ae [] 0
noncomputable def D9:Obj:=⟨.none,none,(.func ⟨tV,tV,aA (aa pB 66),.stmts (ay (aa pB 66)),am (aa pB 66),0,[],.none,.none,.none,.none,none,.none,.none,0⟩),⟨[]⟩⟩
noncomputable def EI:Obj:=aP tV 1107 tV 1108 1109 413 4 0 0 3 584 true 181 585 (.ref 586) (.ref 587) (.ref 588) 1116 413 1117
noncomputable def zB:Obj:=aW tV tV (aa pB 66) [] .none .none .none (.str b6 705) none (.ref 589) .none 0
noncomputable def D3:Obj:=ae [] 0
noncomputable def D1:Obj:=⟨.none,none,(.fields ⟨[]⟩),⟨[]⟩⟩
noncomputable def Bv:Obj:=ae [(.str a1X 1124),(.str k55 1125),(.str a6Q 1126),(.str k59 1127)] 0
noncomputable def AF:Obj:=ae [] 0
noncomputable def xU:Obj:=⟨.none,none,(.func ⟨tR,tR,aA (aa pB 68),.stmts (ay (aa pB 68)),am (aa pB 68),0,[],.none,.none,.none,.none,none,.none,.none,0⟩),⟨[]⟩⟩
noncomputable def zi:Obj:=aP tR 1121 tR 1122 1123 424 1 0 0 3 591 true 181 592 (.ref 593) (.ref 594) (.ref 595) 1128 424 1129
noncomputable def BL:Obj:=aW tR tR (aa pB 68) [] .none .none .none (.str ig 1119) none (.ref 596) .none 0
noncomputable def Cl:Obj:=ae [] 0
noncomputable def FA:Obj:=⟨.none,none,(.fields ⟨[]⟩),⟨[]⟩⟩
noncomputable def Bo:Obj:=ae [(.str Ql 1134),(.str a45 1135),(.str a4B 1136)] 0
noncomputable def EY:Obj:=ae [] 0
noncomputable def B9:Obj:=⟨.none,none,(.func ⟨tH,tH,aA (aa pB 69),.stmts (ay (aa pB 69)),am (aa pB 69),0,[],.none,.none,.none,.none,none,.none,.none,0⟩),⟨[]⟩⟩
noncomputable def En:Obj:=aP tH 1131 tH 1132 1133 432 2 0 0 3 598 true 181 599 (.ref 600) (.ref 601) (.ref 602) 1137 432 1138
noncomputable def y6:Obj:=aW tH tH (aa pB 69) [] .none .none .none (.str ig 1119) none (.ref 603) .none 0
noncomputable def zK:Obj:=ae [] 0
noncomputable def G9:Obj:=⟨.none,none,(.fields ⟨[]⟩),⟨[]⟩⟩
noncomputable def AM:Obj:=ae [(.str a4j 1143),(.str k83 1144),(.str a6h 1145),(.str a4g 1146)] 0
noncomputable def C9:Obj:=ae [] 0
noncomputable def Gg:Obj:=⟨.none,none,(.func ⟨tB,tB,aA (aa pB 70),.stmts (ay (aa pB 70)),am (aa pB 70),0,[],.none,.none,.none,.none,none,.none,.none,0⟩),⟨[]⟩⟩
noncomputable def Fn:Obj:=aP tB 1140 tB 1141 1142 439 2 0 0 3 605 true 181 606 (.ref 607) (.ref 608) (.ref 609) 1147 439 1148
noncomputable def Br:Obj:=aW tB tB (aa pB 70) [] .none .none .none (.str ig 1119) none (.ref 610) .none 0
noncomputable def zC:Obj:=ae [] 0
noncomputable def E0:Obj:=⟨.none,none,(.fields ⟨[]⟩),⟨[]⟩⟩
noncomputable def BN:Obj:=ae [(.str LG 1153),(.str Wu 1154),(.str HZ 1155),(.str wm 1156)] 0
noncomputable def B7:Obj:=ae [] 0
noncomputable def Ev:Obj:=⟨.none,none,(.func ⟨uh,uh,aA (aa pB 71),.stmts (ay (aa pB 71)),am (aa pB 71),0,[],.none,.none,.none,.none,none,.none,.none,0⟩),⟨[]⟩⟩
noncomputable def Ge:Obj:=aP uh 1150 uh 1151 1152 446 4 0 0 3 612 true 181 613 (.ref 614) (.ref 615) (.ref 616) 1157 446 1158
noncomputable def Bb:Obj:=aW uh uh (aa pB 71) [] .none .none .none (.str ig 1119) none (.ref 617) .none 0
noncomputable def yK:Obj:=ae [] 0
noncomputable def yi:Obj:=⟨.none,none,(.fields ⟨[]⟩),⟨[]⟩⟩
noncomputable def C7:Obj:=ae [(.str Ql 1163),(.str x8 1164)] 0
noncomputable def Al:Obj:=ae [] 0
noncomputable def FF:Obj:=⟨.none,none,(.func ⟨ug,ug,aA (aa pB 72),.stmts (ay (aa pB 72)),am (aa pB 72),0,[],.none,.none,.none,.none,none,.none,.none,0⟩),⟨[]⟩⟩
noncomputable def Dh:Obj:=aP ug 1160 ug 1161 1162 449 1 0 0 3 619 true 181 620 (.ref 621) (.ref 622) (.ref 623) 1165 449 1166
noncomputable def D5:Obj:=aW ug ug (aa pB 72) [] .none .none .none (.str ig 1119) none (.ref 624) .none 0
noncomputable def zt:Obj:=ae [] 0
noncomputable def AJ:Obj:=⟨.none,none,(.fields ⟨[]⟩),⟨[]⟩⟩
noncomputable def FP:Obj:=ae [(.str Ql 1171),(.str ku 1172),(.str LG 1173),(.str Wu 1174),(.str a26 1175),(.str a2D 1176),(.str a5l 1177),(.str a6H 1178),(.str Ze 1179),(.str wm 1180),(.str a7l 1181),(.str YL 1182),(.str a2U 1183),(.str a5m 1184),(.str HZ 1185)] 0
noncomputable def yD:Obj:=ae [] 0
noncomputable def FR:Obj:=⟨.none,none,(.func ⟨ue,ue,aA (aa pB 73),.stmts (ay (aa pB 73)),am (aa pB 73),0,[],.none,.none,.none,.none,none,.none,.none,0⟩),⟨[]⟩⟩
noncomputable def Ch:Obj:=aP ue 1168 ue 1169 1170 463 2 0 0 3 626 true 181 627 (.ref 628) (.ref 629) (.ref 630) 1186 463 1187
noncomputable def Ez:Obj:=aW ue ue (aa pB 73) [] .none .none .none (.str ig 1119) none (.ref 631) .none 0
noncomputable def yS:Obj:=ae [] 0
noncomputable def BG:Obj:=⟨.none,none,(.fields ⟨[]⟩),⟨[]⟩⟩
noncomputable def Dc:Obj:=⟨.none,none,(.func ⟨uU,uU,aA (aa pB 74),.stmts (ay (aa pB 74)),am (aa pB 74),0,[],.none,.none,.none,.none,none,.none,.none,0⟩),⟨[]⟩⟩
noncomputable def Ft:Obj:=aP uU 1189 uU 1190 1191 486 5 0 0 3 633 true 181 634 .none .none (.ref 635) 1192 486 1193
noncomputable def FY:Obj:=aW uU uU (aa pB 74) [] .none .none .none (.str ig 1119) none (.ref 636) .none 0
noncomputable def FS:Obj:=ae [] 0
noncomputable def Bp:Obj:=⟨.none,none,(.fields ⟨[]⟩),⟨[]⟩⟩
noncomputable def Cg:Obj:=ae [(.str xg 1198),(.str Lo 1199),(.str rJ 1200),(.str LG 1201),(.str a4c 1202),(.str Hy 1203),(.str a4Y 1204),(.str HZ 1205)] 0
noncomputable def Aw:Obj:=ae [] 0
noncomputable def Dq:Obj:=⟨.none,none,(.func ⟨um,um,aA (aa pB 75),.stmts (ay (aa pB 75)),am (aa pB 75),0,[],.none,.none,.none,.none,none,.none,.none,0⟩),⟨[]⟩⟩
noncomputable def yP:Obj:=aP um 1195 um 1196 1197 499 3 0 0 3 638 true 181 639 (.ref 640) (.ref 641) (.ref 642) 1206 499 1207
noncomputable def DW:Obj:=aW um um (aa pB 75) [] .none .none .none (.str ig 1119) none (.ref 643) .none 0
noncomputable def a2l (P:Params):List Obj:=[Bc,D7,Fv,yj,Ay,EM,FX,Do,Eh,GZ,FD,GD,zZ,Dr,A7,yH,Ew,Gx,D9,EI,zB,D3,D1,Bv,AF,xU,zi,BL,Cl,FA,Bo,EY,B9,En,y6,zK,G9,AM,C9,Gg,Fn,Br,zC,E0,BN,B7,Ev,Ge,Bb,yK,yi,C7,Al,FF,Dh,D5,zt,AJ,FP,yD,FR,Ch,Ez,yS,BG,Dc,Ft,FY,FS,Bp,Cg,Aw,Dq,yP,DW]
noncomputable def T19 (P:Params):BT:=a6 (a6 (bY (T18 P) 570 (a2l P)) 3 (a2J P)) 12 (YO)
noncomputable def a6n (P:Params):List DictEntry:=ZB P ++ [ab P tQ 1219 (.ref 651),ab P tD 1234 (.ref 658),ab P tf 1249 (.ref 665),ab P uT 1264 (.ref 672),ab P ur 1280 (.ref 679),ab P t9 1286 (.ref 684),ab P ui 1294 (.ref 691),ab P tY 1300 (.ref 696),ab P qa 1329 (.ref 703)]
noncomputable def VZ (P:Params):Obj:=⟨(.type "dict"),none,.dict ⟨ab P qA 165 (.str ig 1119) :: a6n P⟩ 121,⟨[]⟩⟩
noncomputable def a5N:List Value:=a0e ++ [(ak 516),(ak 0),(.ref 650),(ak 524),(ak 0),(.ref 657),(ak 538),(ak 0),(.ref 664),(ak 549),(ak 0),(.ref 671),(ak 564),(ak 0),(.ref 678),(ak 586),(ak 0),(.ref 683),(ak 594),(ak 0),(.ref 690),(ak 598),(ak 0),(.ref 695),(ak 606),(ak 0),(.ref 702)]
noncomputable def Lz:Obj:=⟨.none,none,.fields ⟨a5N⟩,⟨[]⟩⟩
noncomputable def Dg:Obj:=ae [] 0
noncomputable def DU:Obj:=⟨.none,none,(.fields ⟨[]⟩),⟨[]⟩⟩
noncomputable def yx:Obj:=ae [(.str k64 1212),(.str k65 1213),(.str k66 1214),(.str a2u 1215),(.str a4n 1216)] 0
noncomputable def zy:Obj:=ae [] 0
noncomputable def yb:Obj:=⟨.none,none,(.func ⟨tQ,tQ,aA (aa pB 76),.stmts (ay (aa pB 76)),am (aa pB 76),0,[],.none,.none,.none,.none,none,.none,.none,0⟩),⟨[]⟩⟩
noncomputable def Gb:Obj:=aP tQ 1209 tQ 1210 1211 516 2 0 0 3 645 true 181 646 (.ref 647) (.ref 648) (.ref 649) 1217 516 1218
noncomputable def F0:Obj:=aW tQ tQ (aa pB 76) [] .none .none .none (.str ig 1119) none (.ref 650) .none 0
noncomputable def yE:Obj:=ae [] 0
noncomputable def BA:Obj:=⟨.none,none,(.fields ⟨[]⟩),⟨[]⟩⟩
noncomputable def B3:Obj:=ae [(.str xg 1223),(.str Lo 1224),(.str rJ 1225),(.str ou 1226),(.str Lc 1227),(.str Hy 1228),(.str a14 1229),(.str ZI 1230),(.str Rf 1231)] 0
noncomputable def zX:Obj:=ae [] 0
noncomputable def zs:Obj:=⟨.none,none,(.func ⟨tD,tD,aA (aa pB 77),.stmts (ay (aa pB 77)),am (aa pB 77),0,[],.none,.none,.none,.none,none,.none,.none,0⟩),⟨[]⟩⟩
noncomputable def Hg:Obj:=aP tD 1220 tD 1221 1222 524 4 0 0 3 652 true 181 653 (.ref 654) (.ref 655) (.ref 656) 1232 524 1233
noncomputable def x7:Obj:=aW tD tD (aa pB 77) [] .none .none .none (.str ig 1119) none (.ref 657) .none 0
noncomputable def Cp:Obj:=ae [] 0
noncomputable def zn:Obj:=⟨.none,none,(.fields ⟨[]⟩),⟨[]⟩⟩
noncomputable def GG:Obj:=ae [(.str xg 1238),(.str Lo 1239),(.str rJ 1240),(.str Rf 1241),(.str NY 1242),(.str ku 1243),(.str YL 1244),(.str a5k 1245),(.str x8 1246)] 0
noncomputable def Eb:Obj:=ae [] 0
noncomputable def A3:Obj:=⟨.none,none,(.func ⟨tf,tf,aA (aa pB 78),.stmts (ay (aa pB 78)),am (aa pB 78),0,[],.none,.none,.none,.none,none,.none,.none,0⟩),⟨[]⟩⟩
noncomputable def Ah:Obj:=aP tf 1235 tf 1236 1237 538 5 0 0 3 659 true 181 660 (.ref 661) (.ref 662) (.ref 663) 1247 538 1248
noncomputable def C5:Obj:=aW tf tf (aa pB 78) [] .none .none .none (.str ig 1119) none (.ref 664) .none 0
noncomputable def Ck:Obj:=ae [] 0
noncomputable def yt:Obj:=⟨.none,none,(.fields ⟨[]⟩),⟨[]⟩⟩
noncomputable def CU:Obj:=ae [(.str xg 1253),(.str Lo 1254),(.str ou 1255),(.str Od 1256),(.str a5c 1257),(.str rJ 1258),(.str Rf 1259),(.str a3b 1260),(.str k55 1261)] 0
noncomputable def xM:Obj:=ae [] 0
noncomputable def GN:Obj:=⟨.none,none,(.func ⟨uT,uT,aA (aa pB 79),.stmts (ay (aa pB 79)),am (aa pB 79),0,[],.none,.none,.none,.none,none,.none,.none,0⟩),⟨[]⟩⟩
noncomputable def AR:Obj:=aP uT 1250 uT 1251 1252 549 5 0 0 3 666 true 181 667 (.ref 668) (.ref 669) (.ref 670) 1262 549 1263
noncomputable def Es:Obj:=aW uT uT (aa pB 79) [] .none .none .none (.str ig 1119) none (.ref 671) .none 0
noncomputable def Et:Obj:=ae [] 0
noncomputable def Fu:Obj:=⟨.none,none,(.fields ⟨[]⟩),⟨[]⟩⟩
noncomputable def ER:Obj:=ae [(.str xg 1268),(.str a4k 1269),(.str Lo 1270),(.str Od 1271),(.str x8 1272),(.str ou 1273),(.str rJ 1274),(.str a5w 1275),(.str Rf 1276),(.str a3b 1277)] 0
noncomputable def BP:Obj:=ae [] 0
noncomputable def B5:Obj:=⟨.none,none,(.func ⟨ur,ur,aA (aa pB 80),.stmts (ay (aa pB 80)),am (aa pB 80),0,[],.none,.none,.none,.none,none,.none,.none,0⟩),⟨[]⟩⟩
noncomputable def zT:Obj:=aP ur 1265 ur 1266 1267 564 2 0 0 3 673 true 181 674 (.ref 675) (.ref 676) (.ref 677) 1278 564 1279
noncomputable def GO:Obj:=aW ur ur (aa pB 80) [] .none .none .none (.str ig 1119) none (.ref 678) .none 0
noncomputable def Df:Obj:=ae [] 0
noncomputable def Fo:Obj:=⟨.none,none,(.fields ⟨[]⟩),⟨[]⟩⟩
noncomputable def Cf:Obj:=⟨.none,none,(.func ⟨t9,t9,aA (aa pB 81),.stmts (ay (aa pB 81)),am (aa pB 81),0,[],.none,.none,.none,.none,none,.none,.none,0⟩),⟨[]⟩⟩
noncomputable def Dx:Obj:=aP t9 1281 t9 1282 1283 586 1 0 0 3 680 true 181 681 .none .none (.ref 682) 1284 586 1285
noncomputable def C0:Obj:=aW t9 t9 (aa pB 81) [] .none .none .none (.str ig 1119) none (.ref 683) .none 0
noncomputable def CI:Obj:=ae [] 0
noncomputable def zM:Obj:=⟨.none,none,(.fields ⟨[]⟩),⟨[]⟩⟩
noncomputable def zF:Obj:=ae [(.str xg 1290),(.str N7 1291)] 0
noncomputable def BS:Obj:=ae [] 0
noncomputable def zl:Obj:=⟨.none,none,(.func ⟨ui,ui,aA (aa pB 82),.stmts (ay (aa pB 82)),am (aa pB 82),0,[],.none,.none,.none,.none,none,.none,.none,0⟩),⟨[]⟩⟩
noncomputable def y9:Obj:=aP ui 1287 ui 1288 1289 594 2 0 0 3 685 true 181 686 (.ref 687) (.ref 688) (.ref 689) 1292 594 1293
noncomputable def xN:Obj:=aW ui ui (aa pB 82) [] .none .none .none (.str ig 1119) none (.ref 690) .none 0
noncomputable def BX:Obj:=ae [] 0
noncomputable def Fs:Obj:=⟨.none,none,(.fields ⟨[]⟩),⟨[]⟩⟩
noncomputable def DK:Obj:=⟨.none,none,(.func ⟨tY,tY,aA (aa pB 83),.stmts (ay (aa pB 83)),am (aa pB 83),0,[],.none,.none,.none,.none,none,.none,.none,0⟩),⟨[]⟩⟩
noncomputable def GV:Obj:=aP tY 1295 tY 1296 1297 598 2 0 0 3 692 true 181 693 .none .none (.ref 694) 1298 598 1299
noncomputable def AS:Obj:=aW tY tY (aa pB 83) [] .none .none .none (.str ig 1119) none (.ref 695) .none 0
noncomputable def Gi:Obj:=ae [] 0
noncomputable def x6:Obj:=⟨.none,none,(.fields ⟨[]⟩),⟨[]⟩⟩
noncomputable def Ce:Obj:=ae [(.str a1X 1304),(.str Ql 1305),(.str ku 1306),(.str a2U 1307),(.str a38 1308),(.str a6M 1309),(.str a14 1310),(.str LG 1311),(.str Wu 1312),(.str a26 1313),(.str a5z 1314),(.str a5p 1315),(.str x8 1316),(.str a5g 1317),(.str a4b 1318),(.str a6v 1319),(.str XW 1320),(.str Xl 1321),(.str N7 1322),(.str a6u 1323),(.str xg 1324)] 0
noncomputable def AB:Obj:=ae [(.str a4q 1325),(.str a2D 1326)] 0
noncomputable def E5:Obj:=⟨.none,none,(.func ⟨qa,qa,aA (aa pB 84),.stmts (ay (aa pB 84)),am (aa pB 84),0,[],.none,.none,.none,.none,none,.none,.none,0⟩),⟨[]⟩⟩
noncomputable def kJ:Obj:=aP qa 1301 qa 1302 1303 606 1 0 0 3 697 true 181 698 (.ref 699) (.ref 700) (.ref 701) 1327 606 1328
noncomputable def sH:Obj:=aW qa qa (aa pB 84) [] .none .none .none (.str ig 1119) none (.ref 702) .none 0
noncomputable def a1T (P:Params):List Obj:=[Dg,DU,yx,zy,yb,Gb,F0,yE,BA,B3,zX,zs,Hg,x7,Cp,zn,GG,Eb,A3,Ah,C5,Ck,yt,CU,xM,GN,AR,Es,Et,Fu,ER,BP,B5,zT,GO,Df,Fo,Cf,Dx,C0,CI,zM,zF,BS,zl,y9,xN,BX,Fs,DK,GV,AS,Gi,x6,Ce,AB,E5,kJ,sH]
noncomputable def T20 (P:Params):BT:=a6 (a6 (bY (T19 P) 645 (a1T P)) 3 (VZ P)) 12 (Lz)
noncomputable def a6a (P:Params):List Obj:=[boot_o_0 P,boot_o_1 P,boot_o_2 P,VZ P,boot_o_4 P,boot_o_5 P,boot_o_6 P,boot_o_7 P,boot_o_8 P,boot_o_9 P,boot_o_10 P,Jx,Lz,J0,Ks,Tu,UY,Ul,TF,TS,Wb,Uv,US,UA,Uc P,VH,Uq,UX,VS,TL,Vs,TK,TT,Ty,VJ,VF,VU,Ug,Uw P,TR,UL,TV,VN,V7,U9,Vp P,UW,TW,Vj,TA]
noncomputable def a6F (P:Params):List Obj:=[Tz,UD P,Ub,U3,Ux,TG,UV,UK P,TZ,UP,TJ,U7,Uj,VP P,UT,Ti,Vt,VO,Ur,Tr P,Tn,Us,TC,U4,Ui,UH P,Tm,Tx,U5,U6,VG,Vd,UR,Tq,UI,UM,UN,Ue,Ts,Tw,UU,Vw,Vg,TM,U8,Uu,Vy,Vc,Vm,Vu]
noncomputable def a6A (P:Params):List Obj:=[Kz,Kv,Nj,JI,OV,KO,Ow,PN,Lf,KP,OU,MI,LP,IV,JR,P2,NN,Nl,Pf,OZ,LD,JB,OJ,PQ,My,MN,J2,Mi,I4,LB,Kd,Pu,Mz,LV,Ps,J1,Ls,J5,Ki,NZ,PK,OB,NQ,Kx,Oa,Jf,NE,JP,OY,I8]
noncomputable def a7a (P:Params):List Obj:=[Mf,MP,NT,Jv,Of,Pt,Jz,Oy,KJ,O7,JD,Mh,N3 P,NJ,JW,JV,Kf,La,OC,Jn,I6,Lu,Ml,Mr,ML,Js,KY,Oq,Nx,Lw,Ol,PY,JF,Ll,Mq,NA,NR,KK,PC,Og,LM,Pq,OD,O0,Nt,J8,LY,Mp,Lx,I3]
noncomputable def a6L (P:Params):List Obj:=[Li,Px,O8,IY,PS,PG,LJ,NM,LC,Ph,NS,Nw,IQ,OM,Lg,OE,Jm,KC,Jd,Mx,OT,JS,Ko,Pr,KI,PF,NC P,LU,LO,Oo,MJ,Lq,J9,PO,P3,P4,LQ,IT,IR,MA,Nn,Kw,JZ,IU,Pm,Mb,Oi,NG,PM,Om]
noncomputable def a5S (P:Params):List Obj:=[Jc,Mk,J6,Mj,Na,KN,O4,Ni,NF,O1,JL,M8 P,N4,Nq,MH,Lh,MG,MR,KR,PV,PW,Ja,L5,L7,NO P,Pn,K6,Np,KG,OP,yC,FT,xO P,AW,EQ,ET,EK,yq,Fq,CZ,GQ,Bi,C6,yO,CO,Gs,BH P,Du,De,DG]
noncomputable def a4x (P:Params):List Obj:=[Hc,Cm,DS,zU,AY P,y8,zS,C3,By,zY,BD,BJ,DT,z8,BW,BQ,yG,zN P,zb,Cj,FE,Ec,zc,Ek,zg,Ee P,Gu,AO,zh,ym,xK,Gj,FZ,yL,AQ,ye,FC,EF,Fd P,E4,Ep,AC,AH,Bn,x5,Az,Fa,Ao,yR,Go]
noncomputable def a4L (P:Params):List Obj:=[Di,GX,xP,zv,An,Gn,EH,yh,yB,zz,Aq,Ed,AG,B4,Ej P,zL,F7,DQ,Ab,DL,zA,EB,xW,yv,xS,DD,C1,E9,GR,GA,Dz,A6,CS,zP,As,Ba,z3,yp,Bq,GF,CA,AU P,y5,BY,EP,CG,AZ,zk,Bl,Bh P]
noncomputable def a5R (P:Params):List Obj:=[He,BZ,yT,Fg,zE,Cq,yQ,C8,AE,Bm,DO,Dl,Cs P,zG,DA,A5,Ak,G8,zx,Be,Dt P,Fz,Af,DH,DE,Dy,zD,Gm,Co,EV,Gw,FU,EA,FG P,zI,z9,AI,DM,CQ,Db,Bf,Eg P,FN,GC,GK,Cw,ya,EC,AT,Ha]
noncomputable def a6Y (P:Params):List Obj:=[yc,Fj,zO,DY,yA P,CP,EJ,GM,Bk,Cd,CV,z5,D8,Eu,Cy,Aa,EG,FH,zp,B2,EN,DR,zJ,za,xY,CL,Cv,zR,Ax,AL,Ap,F8,BE,Bg,B8,yW,Hf,Aj,Ac,zq,z7,BO,GP,Ex,yU,Ey,FL,DZ,AV,DN]
noncomputable def a06 (P:Params):List Obj:=[AA,B0,AX,zw,Ea,BF,GH,ze,EO,Dn,zf,GJ,Au,At,CY,Fc,CJ,GW,Ad,yf,zj,x9,xT,Ae,zm,A4,Ff,Ei,Fe,CE,BC,DF,Dw,Dj,DC,Fh,FQ,AD,Gp,EW,Ai,E3,zo,A0,ES,zH,zQ,yl,yJ,Hd]
noncomputable def a2I (P:Params):List Obj:=[EE,DI,xX,BR,Fp,EU,yo,Ef,Ar,B1,z4,A9,Bw,Bx,yy,Bt,Gf,yu,Dk,Gc,Bc,D7,Fv,yj,Ay,EM,FX,Do,Eh,GZ,FD,GD,zZ,Dr,A7,yH,Ew,Gx,D9,EI,zB,D3,D1,Bv,AF,xU,zi,BL,Cl,FA]
noncomputable def a1f (P:Params):List Obj:=[Bo,EY,B9,En,y6,zK,G9,AM,C9,Gg,Fn,Br,zC,E0,BN,B7,Ev,Ge,Bb,yK,yi,C7,Al,FF,Dh,D5,zt,AJ,FP,yD,FR,Ch,Ez,yS,BG,Dc,Ft,FY,FS,Bp,Cg,Aw,Dq,yP,DW,Dg,DU,yx,zy,yb]
noncomputable def a3j (P:Params):List Obj:=[Gb,F0,yE,BA,B3,zX,zs,Hg,x7,Cp,zn,GG,Eb,A3,Ah,C5,Ck,yt,CU,xM,GN,AR,Es,Et,Fu,ER,BP,B5,zT,GO,Df,Fo,Cf,Dx,C0,CI,zM,zF,BS,zl,y9,xN,BX,Fs,DK,GV,AS,Gi,x6,Ce]
noncomputable def a22 (P:Params):List Obj:=[AB,E5,kJ,sH]
noncomputable def a36 (P:Params):List Obj:=a6a P ++ a6F P ++ a6A P ++ a7a P ++ a6L P ++ a5S P ++ a4x P ++ a4L P ++ a5R P ++ a6Y P ++ a06 P ++ a2I P ++ a1f P ++ a3j P ++ a22 P
noncomputable def dt:Env:={ scope:=pT.main.scope,locals:=mainNs,globals:=mainNs,cells:=[],code:=.ref 13,frame:=some 14 }
noncomputable def cM:Code:=.body (behindTheImports pT) dt
noncomputable abbrev Le:Pos:=⟨0,0,0,0⟩
noncomputable abbrev BM:List Frame:=[topFrame Le]
noncomputable abbrev cR:Option Value:=some (.ref 6)
noncomputable def di:Life:={}
noncomputable def a2b:List Stmt:=(pB.drop 0).take 3
noncomputable def ZW:List Stmt:=(pB.drop 3).take 1
noncomputable def a1G:List Stmt:=(pB.drop 4).take 1
noncomputable def Qt:List Stmt:=(pB.drop 5).take 7
noncomputable def ZS:List Stmt:=(pB.drop 12).take 12
noncomputable def a1E:List Stmt:=(pB.drop 24).take 1
noncomputable def RH:List Stmt:=(pB.drop 25).take 3
noncomputable def Qr:List Stmt:=(pB.drop 28).take 4
noncomputable def a2P:List Stmt:=(pB.drop 32).take 1
noncomputable def TN:List Stmt:=(pB.drop 33).take 1
noncomputable def Vi:List Stmt:=(pB.drop 34).take 1
noncomputable def BU:List Stmt:=(pB.drop 35).take 4
noncomputable def y7:List Stmt:=(pB.drop 39).take 5
noncomputable def Uo:List Stmt:=(pB.drop 44).take 1
noncomputable def VL:List Stmt:=(pB.drop 45).take 1
noncomputable def UQ:List Stmt:=(pB.drop 46).take 1
noncomputable def Tp:List Stmt:=(pB.drop 47).take 6
noncomputable def Un:List Stmt:=(pB.drop 53).take 11
noncomputable def Um:List Stmt:=(pB.drop 64).take 12
noncomputable def VE:List Stmt:=(pB.drop 76).take 9
noncomputable def S0 (w:World) (os:OsState):SharedT:=⟨T0 w.params,15,di,⟨[]⟩,boot_drawn,187,os⟩
noncomputable def S1 (w:World) (os:OsState):SharedT:=⟨T1 w.params,43,di,⟨[]⟩,boot_drawn,224,os⟩
noncomputable def S2 (w:World) (os:OsState):SharedT:=⟨T2 w.params,55,di,⟨[]⟩,boot_drawn,240,os⟩
noncomputable def S3 (w:World) (os:OsState):SharedT:=⟨T3 w.params,67,di,⟨[]⟩,boot_drawn,256,os⟩
noncomputable def S4 (w:World) (os:OsState):SharedT:=⟨T4 w.params,83,di,⟨[]⟩,boot_drawn,298,os⟩
noncomputable def S5 (w:World) (os:OsState):SharedT:=⟨T5 w.params,160,di,⟨[]⟩,boot_drawn,392,os⟩
noncomputable def S6 (w:World) (os:OsState):SharedT:=⟨T6 w.params,232,di,⟨[]⟩,boot_drawn,492,os⟩
noncomputable def S7 (w:World) (os:OsState):SharedT:=⟨T7 w.params,240,di,⟨[]⟩,boot_drawn,524,os⟩
noncomputable def S8 (w:World) (os:OsState):SharedT:=⟨T8 w.params,259,di,⟨[]⟩,boot_drawn,560,os⟩
noncomputable def S9 (w:World) (os:OsState):SharedT:=⟨T9 w.params,280,di,⟨[]⟩,boot_drawn,601,os⟩
noncomputable def S10 (w:World) (os:OsState):SharedT:=⟨T10 w.params,302,di,⟨[]⟩,boot_drawn,635,os⟩
noncomputable def S11 (w:World) (os:OsState):SharedT:=⟨T11 w.params,323,di,⟨[]⟩,boot_drawn,665,os⟩
noncomputable def Zh (w:World) (os:OsState):SharedT:=⟨T12 w.params,353,di,⟨[]⟩,boot_drawn,712,os⟩
noncomputable def S13 (w:World) (os:OsState):SharedT:=⟨T13 w.params,362,di,⟨[]⟩,boot_drawn,736,os⟩
noncomputable def S14 (w:World) (os:OsState):SharedT:=⟨T14 w.params,397,di,⟨[]⟩,boot_drawn,787,os⟩
noncomputable def S15 (w:World) (os:OsState):SharedT:=⟨T15 w.params,418,di,⟨[]⟩,boot_drawn,826,os⟩
noncomputable def S16 (w:World) (os:OsState):SharedT:=⟨T16 w.params,439,di,⟨[]⟩,boot_drawn,863,os⟩
noncomputable def S17 (w:World) (os:OsState):SharedT:=⟨T17 w.params,495,di,⟨[]⟩,boot_drawn,948,os⟩
noncomputable def S18 (w:World) (os:OsState):SharedT:=⟨T18 w.params,570,di,⟨[]⟩,boot_drawn,1081,os⟩
noncomputable def S19 (w:World) (os:OsState):SharedT:=⟨T19 w.params,645,di,⟨[]⟩,boot_drawn,1209,os⟩
noncomputable def S20 (w:World) (os:OsState):SharedT:=⟨T20 w.params,704,di,⟨[]⟩,boot_drawn,1330,os⟩
end
section
set_option maxRecDepth 100000
set_option maxHeartbeats 0
theorem a67:∀ w:World,(fun os=>topGo treeTable pT w 11 cR 12 ⟨boot_heap w.params,⟨[]⟩,boot_drawn,boot_toks,os⟩ (topStub pT))=fun os=>some (⟨UO w.params,⟨[]⟩,boot_drawn,187,os⟩,⟨denote treeTable cM,cM,Le,BM⟩):=by
  rw [PySem.W.Fast.te15667345088766844465,PySem.W.Fast.te14364793385576792824,PySem.W.Fast.te11892475500146522536]; intro w; kernel_rfl
theorem XZ:∀ w:World,(fun os=>segRun treeTable pT w 11 cR 1 1 ⟨UO w.params,⟨[]⟩,boot_drawn,187,os⟩ (blockOf (behindTheImports pT) dt cM Le BM))=fun os=>some (.next,(S0 w os).abs,cM,Le):=by
  rw [PySem.W.Fast.te14374325043358763698,PySem.W.Fast.te14364793385576792824]; intro w; kernel_rfl
theorem YM:∀ w:World,(fun os=>segRunT treeTable pT (w) 11 cR 1 259 (S0 (w) os) (piecesOf a2b dt cM Le BM))=fun os=>some (.next,S1 (w) os,cM,⟨5,0,8,28⟩):=by
  rw [PySem.W.Fast.te10110043849684766642,PySem.W.Fast.te14364793385576792824]; intro w; kernel_rfl
theorem Xc:∀ w:World,(fun os=>segRunT treeTable pT (w) 11 cR 1 214 (S1 (w) os) (piecesOf ZW dt cM ⟨5,0,8,28⟩ BM))=fun os=>some (.next,S2 (w) os,cM,⟨9,0,10,8⟩):=by
  rw [PySem.W.Fast.te10110043849684766642,PySem.W.Fast.te14364793385576792824]; intro w; kernel_rfl
theorem W0:∀ w:World,(fun os=>segRunT treeTable pT (w) 11 cR 1 214 (S2 (w) os) (piecesOf a1G dt cM ⟨9,0,10,8⟩ BM))=fun os=>some (.next,S3 (w) os,cM,⟨11,0,12,8⟩):=by
  rw [PySem.W.Fast.te10110043849684766642,PySem.W.Fast.te14364793385576792824]; intro w; kernel_rfl
theorem RT:∀ w:World,(fun os=>segRunT treeTable pT (w.withFollow "special-get-raises" false) 11 cR 1 384 (S3 (w.withFollow "special-get-raises" false) os) (piecesOf Qt dt cM ⟨11,0,12,8⟩ BM))=fun os=>some (.next,S4 (w.withFollow "special-get-raises" false) os,cM,⟨20,19,20,24⟩):=by
  rw [PySem.W.Fast.te10110043849684766642,PySem.W.Fast.te14364793385576792824]; intro w; kernel_rfl
theorem Qj:∀ w:World,(fun os=>segRunT treeTable pT (w.withFollow "special-get-raises" true) 11 cR 1 384 (S3 (w.withFollow "special-get-raises" true) os) (piecesOf Qt dt cM ⟨11,0,12,8⟩ BM))=fun os=>some (.next,S4 (w.withFollow "special-get-raises" true) os,cM,⟨20,19,20,24⟩):=by
  rw [PySem.W.Fast.te10110043849684766642,PySem.W.Fast.te14364793385576792824]; intro w; kernel_rfl
theorem Xa:∀ w:World,(fun os=>segRunT treeTable pT (w) 11 cR 1 384 (S3 (w) os) (piecesOf Qt dt cM ⟨11,0,12,8⟩ BM))=fun os=>some (.next,S4 (w) os,cM,⟨20,19,20,24⟩):=byRow2 "special-get-raises" RT Qj
theorem WA:∀ w:World,(fun os=>segRunT treeTable pT (w) 11 cR 1 346 (S4 (w) os) (piecesOf ZS dt cM ⟨20,19,20,24⟩ BM))=fun os=>some (.next,S5 (w) os,cM,⟨75,0,76,81⟩):=by
  rw [PySem.W.Fast.te10110043849684766642,PySem.W.Fast.te14364793385576792824]; intro w; kernel_rfl
theorem WL:∀ w:World,(fun os=>segRunT treeTable pT (w) 11 cR 1 464 (S5 (w) os) (piecesOf a1E dt cM ⟨75,0,76,81⟩ BM))=fun os=>some (.next,S6 (w) os,cM,⟨77,0,113,20⟩):=by
  rw [PySem.W.Fast.te10110043849684766642,PySem.W.Fast.te14364793385576792824]; intro w; kernel_rfl
theorem So:∀ w:World,(fun os=>segRunT treeTable pT (w.withFollow "special-get-raises" false) 11 cR 1 338 (S6 (w.withFollow "special-get-raises" false) os) (piecesOf RH dt cM ⟨77,0,113,20⟩ BM))=fun os=>some (.next,S7 (w.withFollow "special-get-raises" false) os,cM,⟨116,43,116,48⟩):=by
  rw [PySem.W.Fast.te10110043849684766642,PySem.W.Fast.te14364793385576792824]; intro w; kernel_rfl
theorem SZ:∀ w:World,(fun os=>segRunT treeTable pT (w.withFollow "special-get-raises" true) 11 cR 1 338 (S6 (w.withFollow "special-get-raises" true) os) (piecesOf RH dt cM ⟨77,0,113,20⟩ BM))=fun os=>some (.next,S7 (w.withFollow "special-get-raises" true) os,cM,⟨116,43,116,48⟩):=by
  rw [PySem.W.Fast.te10110043849684766642,PySem.W.Fast.te14364793385576792824]; intro w; kernel_rfl
theorem Wz:∀ w:World,(fun os=>segRunT treeTable pT (w) 11 cR 1 338 (S6 (w) os) (piecesOf RH dt cM ⟨77,0,113,20⟩ BM))=fun os=>some (.next,S7 (w) os,cM,⟨116,43,116,48⟩):=byRow2 "special-get-raises" So SZ
theorem QZ:∀ w:World,(fun os=>segRunT treeTable pT (w.withFollow "special-get-raises" false) 11 cR 1 370 (S7 (w.withFollow "special-get-raises" false) os) (piecesOf Qr dt cM ⟨116,43,116,48⟩ BM))=fun os=>some (.next,S8 (w.withFollow "special-get-raises" false) os,cM,⟨120,0,124,16⟩):=by
  rw [PySem.W.Fast.te10110043849684766642,PySem.W.Fast.te14364793385576792824]; intro w; kernel_rfl
theorem SU:∀ w:World,(fun os=>segRunT treeTable pT (w.withFollow "special-get-raises" true) 11 cR 1 370 (S7 (w.withFollow "special-get-raises" true) os) (piecesOf Qr dt cM ⟨116,43,116,48⟩ BM))=fun os=>some (.next,S8 (w.withFollow "special-get-raises" true) os,cM,⟨120,0,124,16⟩):=by
  rw [PySem.W.Fast.te10110043849684766642,PySem.W.Fast.te14364793385576792824]; intro w; kernel_rfl
theorem Yx:∀ w:World,(fun os=>segRunT treeTable pT (w) 11 cR 1 370 (S7 (w) os) (piecesOf Qr dt cM ⟨116,43,116,48⟩ BM))=fun os=>some (.next,S8 (w) os,cM,⟨120,0,124,16⟩):=byRow2 "special-get-raises" QZ SU
theorem XY:∀ w:World,(fun os=>segRunT treeTable pT (w) 11 cR 1 235 (S8 (w) os) (piecesOf a2P dt cM ⟨120,0,124,16⟩ BM))=fun os=>some (.next,S9 (w) os,cM,⟨125,0,138,27⟩):=by
  rw [PySem.W.Fast.te10110043849684766642,PySem.W.Fast.te14364793385576792824]; intro w; kernel_rfl
theorem QJ:∀ w:World,(fun os=>segRunT treeTable pT (w) 11 cR 1 241 (S9 (w) os) (piecesOf TN dt cM ⟨125,0,138,27⟩ BM))=fun os=>some (.next,S10 (w) os,cM,⟨139,0,151,28⟩):=by
  rw [PySem.W.Fast.te10110043849684766642,PySem.W.Fast.te14364793385576792824]; intro w; kernel_rfl
theorem RJ:∀ w:World,(fun os=>segRunT treeTable pT (w) 11 cR 1 236 (S10 (w) os) (piecesOf Vi dt cM ⟨139,0,151,28⟩ BM))=fun os=>some (.next,S11 (w) os,cM,⟨152,0,156,40⟩):=by
  rw [PySem.W.Fast.te10110043849684766642,PySem.W.Fast.te14364793385576792824]; intro w; kernel_rfl
theorem Pv:∀ w:World,(fun os=>segRunT treeTable pT (w.withFollow "special-get-raises" false) 11 cR 1 345 (S11 (w.withFollow "special-get-raises" false) os) (piecesOf BU dt cM ⟨152,0,156,40⟩ BM))=fun os=>some (.next,Zh (w.withFollow "special-get-raises" false) os,cM,⟨178,7,178,13⟩):=by
  rw [PySem.W.Fast.te10110043849684766642,PySem.W.Fast.te14364793385576792824]; intro w; kernel_rfl
theorem Oe:∀ w:World,(fun os=>segRunT treeTable pT (w.withFollow "special-get-raises" true) 11 cR 1 345 (S11 (w.withFollow "special-get-raises" true) os) (piecesOf BU dt cM ⟨152,0,156,40⟩ BM))=fun os=>some (.next,Zh (w.withFollow "special-get-raises" true) os,cM,⟨178,7,178,13⟩):=by
  rw [PySem.W.Fast.te10110043849684766642,PySem.W.Fast.te14364793385576792824]; intro w; kernel_rfl
theorem Qi:∀ w:World,(fun os=>segRunT treeTable pT (w) 11 cR 1 345 (S11 (w) os) (piecesOf BU dt cM ⟨152,0,156,40⟩ BM))=fun os=>some (.next,Zh (w) os,cM,⟨178,7,178,13⟩):=byRow2 "special-get-raises" Pv Oe
theorem JA:∀ w:World,(fun os=>segRunT treeTable pT (w.withFollow "special-get-raises" false) 11 cR 1 208 (Zh (w.withFollow "special-get-raises" false) os) (piecesOf y7 dt cM ⟨178,7,178,13⟩ BM))=fun os=>some (.next,S13 (w.withFollow "special-get-raises" false) os,cM,⟨183,0,183,7⟩):=by
  rw [PySem.W.Fast.te10110043849684766642,PySem.W.Fast.te14364793385576792824]; intro w; kernel_rfl
theorem Kk:∀ w:World,(fun os=>segRunT treeTable pT (w.withFollow "special-get-raises" true) 11 cR 1 208 (Zh (w.withFollow "special-get-raises" true) os) (piecesOf y7 dt cM ⟨178,7,178,13⟩ BM))=fun os=>some (.next,S13 (w.withFollow "special-get-raises" true) os,cM,⟨183,0,183,7⟩):=by
  rw [PySem.W.Fast.te10110043849684766642,PySem.W.Fast.te14364793385576792824]; intro w; kernel_rfl
theorem Rn:∀ w:World,(fun os=>segRunT treeTable pT (w) 11 cR 1 208 (Zh (w) os) (piecesOf y7 dt cM ⟨178,7,178,13⟩ BM))=fun os=>some (.next,S13 (w) os,cM,⟨183,0,183,7⟩):=byRow2 "special-get-raises" JA Kk
theorem Tc:∀ w:World,(fun os=>segRunT treeTable pT (w) 11 cR 1 294 (S13 (w) os) (piecesOf Uo dt cM ⟨183,0,183,7⟩ BM))=fun os=>some (.next,S14 (w) os,cM,⟨184,0,209,54⟩):=by
  rw [PySem.W.Fast.te10110043849684766642,PySem.W.Fast.te14364793385576792824]; intro w; kernel_rfl
theorem R7:∀ w:World,(fun os=>segRunT treeTable pT (w) 11 cR 1 233 (S14 (w) os) (piecesOf VL dt cM ⟨184,0,209,54⟩ BM))=fun os=>some (.next,S15 (w) os,cM,⟨210,0,224,32⟩):=by
  rw [PySem.W.Fast.te10110043849684766642,PySem.W.Fast.te14364793385576792824]; intro w; kernel_rfl
theorem Sj:∀ w:World,(fun os=>segRunT treeTable pT (w) 11 cR 1 231 (S15 (w) os) (piecesOf UQ dt cM ⟨210,0,224,32⟩ BM))=fun os=>some (.next,S16 (w) os,cM,⟨225,0,232,28⟩):=by
  rw [PySem.W.Fast.te10110043849684766642,PySem.W.Fast.te14364793385576792824]; intro w; kernel_rfl
theorem SB:∀ w:World,(fun os=>segRunT treeTable pT (w) 11 cR 1 389 (S16 (w) os) (piecesOf Tp dt cM ⟨225,0,232,28⟩ BM))=fun os=>some (.next,S17 (w) os,cM,⟨280,0,285,25⟩):=by
  rw [PySem.W.Fast.te10110043849684766642,PySem.W.Fast.te14364793385576792824]; intro w; kernel_rfl
theorem Q9:∀ w:World,(fun os=>segRunT treeTable pT (w) 11 cR 1 374 (S17 (w) os) (piecesOf Un dt cM ⟨280,0,285,25⟩ BM))=fun os=>some (.next,S18 (w) os,cM,⟨381,0,393,25⟩):=by
  rw [PySem.W.Fast.te10110043849684766642,PySem.W.Fast.te14364793385576792824]; intro w; kernel_rfl
theorem Sm:∀ w:World,(fun os=>segRunT treeTable pT (w) 11 cR 1 376 (S18 (w) os) (piecesOf Um dt cM ⟨381,0,393,25⟩ BM))=fun os=>some (.next,S19 (w) os,cM,⟨499,0,515,15⟩):=by
  rw [PySem.W.Fast.te10110043849684766642,PySem.W.Fast.te14364793385576792824]; intro w; kernel_rfl
theorem Ra:∀ w:World,(fun os=>segRunT treeTable pT (w) 11 cR 1 316 (S19 (w) os) (piecesOf VE dt cM ⟨499,0,515,15⟩ BM))=fun os=>some (.next,S20 (w) os,cM,⟨606,0,628,16⟩):=by
  rw [PySem.W.Fast.te10110043849684766642,PySem.W.Fast.te14364793385576792824]; intro w; kernel_rfl
end
section
set_option maxRecDepth 100000
set_option maxHeartbeats 0
noncomputable def H1 (P:Params):Heap:=⟨⟨a36 P⟩,{}⟩
theorem a5Z:∀ w:World,(fun os=>topRun treeTable pT w 11 cR 2 (S20 w os).abs (Thread.mk (doneF .next) cM ⟨606,0,628,16⟩ BM))=fun os=>some ⟨H1 w.params,⟨[]⟩,boot_drawn,1330,os⟩:=by
  rw [PySem.W.Fast.te14082659384304107361,PySem.W.Fast.te14364793385576792824]; intro w; kernel_rfl
theorem a2O:behindTheImports pT=a2b ++ (ZW ++ (a1G ++ (Qt ++ (ZS ++ (a1E ++ (RH ++ (Qr ++ (a2P ++ (TN ++ (Vi ++ (BU ++ (y7 ++ (Uo ++ (VL ++ (UQ ++ (Tp ++ (Un ++ (Um ++ (VE ++ []))))))))))))))))))):=by kernel_rfl
noncomputable abbrev MM:Nat:=12+(1+(259+(214+(214+(384+(346+(464+(338+(370+(235+(241+(236+(345+(208+(294+(233+(231+(389+(374+(376+(316+(2))))))))))))))))))))))
theorem a4A:∀ (w:World) (os:OsState),topRun treeTable pT w 11 cR MM ⟨boot_heap w.params,⟨[]⟩,boot_drawn,boot_toks,os⟩ (topStub pT)=some ⟨H1 w.params,⟨[]⟩,boot_drawn,1330,os⟩:=by
  intro w os
  refine go_top (congrFun (a67 w) os) (piece_block (congrFun (XZ w) os) ?_)
  rw [a2O]
  refine piece_app (segRun_of (congrFun (YM w) os)) ?_
  refine piece_app (segRun_of (congrFun (Xc w) os)) ?_
  refine piece_app (segRun_of (congrFun (W0 w) os)) ?_
  refine piece_app (segRun_of (congrFun (Xa w) os)) ?_
  refine piece_app (segRun_of (congrFun (WA w) os)) ?_
  refine piece_app (segRun_of (congrFun (WL w) os)) ?_
  refine piece_app (segRun_of (congrFun (Wz w) os)) ?_
  refine piece_app (segRun_of (congrFun (Yx w) os)) ?_
  refine piece_app (segRun_of (congrFun (XY w) os)) ?_
  refine piece_app (segRun_of (congrFun (QJ w) os)) ?_
  refine piece_app (segRun_of (congrFun (RJ w) os)) ?_
  refine piece_app (segRun_of (congrFun (Qi w) os)) ?_
  refine piece_app (segRun_of (congrFun (Rn w) os)) ?_
  refine piece_app (segRun_of (congrFun (Tc w) os)) ?_
  refine piece_app (segRun_of (congrFun (R7 w) os)) ?_
  refine piece_app (segRun_of (congrFun (Sj w) os)) ?_
  refine piece_app (segRun_of (congrFun (SB w) os)) ?_
  refine piece_app (segRun_of (congrFun (Q9 w) os)) ?_
  refine piece_app (segRun_of (congrFun (Sm w) os)) ?_
  refine piece_app (segRun_of (congrFun (Ra w) os)) ?_
  exact piece_nil (congrFun (a5Z w) os)
end
section
set_option maxRecDepth 100000
set_option maxHeartbeats 0
noncomputable def qT:Program:={ pT with main:={ pT.main with body:=[aa pB 84] } }
noncomputable def mj:List Str:=[Uf,qb,Sy,RN,Qn,k29,k30,k31,k32,k33,k34,k35,k36,Tt,V9,Vk,VR,Uh,Ve,TE,Hq,k46,UJ,Tv,Tk,Rp,k93,k94,k95,k96,k97,k98,k99,Z4,a2n,a0u,a2K,a0K,a0R,a1o,a2E,a0U,Z3,a2B,a01,a0M,a1n,a25,a1w,Zw,a05,a1e,a24,a1z,a0g,u9,rY,rO,q9,rX,vw,a29,Z9,a11,a1k,a23,a2N,a2e,a12,a3k,a2o,a20,rv,sJ,rd,qV,u7,uV,vN,uL,vy,t3,sV,uW,ub,vF,vq,sY,td,sU,t8,vH,tK,uE,tV,tR,tH,tB,uh,ug,ue,uU,um,tQ,tD,tf,uT,ur,t9,ui,tY]
noncomputable abbrev ssT (w:World) (os:OsState):Shared:=⟨H1 w.params,⟨[]⟩,boot_drawn,1330,os⟩
theorem a0q:∀ w:World,((boot_heap w.params).isNs mainGlobals && (⟨[]⟩:Array GenState).size == 0,(boot_heap w.params).objs.size,(boot_heap w.params).nsMap mainGlobals "__annotations__")=(true,11,cR):=by
  rw [PySem.W.Fast.te8920871248978507458]; intro w; kernel_rfl
theorem lk1:∀ w:World,staticsOk (importedModules pT.main.body) (boot_heap w.params) (H1 w.params)=true:=by
  rw [PySem.W.Fast.te5923862056798008813]; intro w; kernel_rfl
theorem lk2:∀ w:World,namesBound pT (H1 w.params)=true:=by intro w; kernel_rfl
theorem lk3:∀ (w:World) (os:OsState),gensDone (ssT w os)=true:=by intro w os; kernel_rfl
theorem lk4:∀ w:World,laidKept (boot_heap w.params) (H1 w.params)=true:=by intro w; kernel_rfl
theorem lk5:∀ (w:World) (os:OsState),openSeen qT mj (importedModules pT.main.body) (fun _=>true) true (ssT w os)=openGood qT mj:=by
  rw [PySem.W.Fast.te4187177175401517315,PySem.W.Fast.te5923862056798008813]; intro w os; kernel_rfl
end
section
set_option maxRecDepth 100000
set_option maxHeartbeats 0
noncomputable abbrev rT:OpenLaw:=PySem.Challenge.rw_sq0055_01
theorem a2R:LeftO pT qT mj (fun _=>true) (fun s=>s.heap) (fun w=>H1 w.params) 20000:=by
  refine LeftO.of_pieces (H₀:=boot_heap) (H₁:=H1) (gs₀:=⟨[]⟩) (gs₁:=⟨[]⟩) (d₀:=boot_drawn) (d₁:=boot_drawn) (k₀:=boot_toks) (k₁:=1330) (m₀:=11) (ann:=cR) (M:=MM) ?_ a0q a4A (by kernel_rfl) ?_
  · exact boot_open (by kernel_rfl) (by kernel_rfl) (by intro s; kernel_rfl)
  · intro w
    funext os
    refine Prod.ext ?_ (Prod.ext ?_ rfl)
    · show (staticsOk _ _ _ && namesBound _ _ && gensDone _ && laidKept _ _)=true
      rw [lk1,lk2,lk3,lk4]; rfl
    · exact lk5 w os
def Yi (w:World) (h:Heap):Prop:=∀ b o,(H1 w.params).get? b=some o→h.get? b=some o
noncomputable def dT:DefRec:={ name:=qa,params:=aA (aa pB 84),body:=ay (aa pB 84),scope:=am (aa pB 84),pos:=⟨606,0,628,16⟩ }
theorem d1:defOf qT rT.row.name=some (dT,[]):=by kernel_rfl
theorem d2:rT.prog.theDef rT.row.name=some (dT.params,dT.body,dT.scope):=by kernel_rfl
theorem d3:kwWritten? dT.params.kwonlyargs dT.params.kw_defaults=some []:=by kernel_rfl
theorem d4:(chainsOk qT && opensWell rT.prog && (frees rT.row.toRowW && rT.row.within.isEmpty))=true:=by
  refine look_both (look_both ?_ (look_both ?_ ?_)) ?_ <;> as_aux_lemma=>kernel_rfl
theorem d5:rT.row.promised:=⟨[.list []],by kernel_rfl,by kernel_rfl⟩
theorem d6:rT.prog.bare:=⟨rfl,rfl,rfl,rfl,rfl,by decide +kernel⟩
theorem ZU (call:WalkO qT mj (fun _ _=>True) Yi rT.row.toRowW dT [] fun f vs=>PySem.call f vs):PySem.Challenge.rw_sq0055_01.Holds:=by
  refine a2p fun k1=>?_
  exact holds_open (q:=qT) (loose:=mj) (Xt:=fun _=>true) (XP:=fun _ _=>True) (Yf:=fun s=>s.heap) (Ya:=fun w=>H1 w.params) (YP:=Yi) (d:=dT) (kwd:=[]) (N:=20000) a2R
    (fun w s e b o h=>by have e':s.heap=H1 w.params:=e; rw [e']; exact h) (fun w h h' a k b o e=>k b o (a b o e)) (fun _ _=>trivial) (fun _ _ _ _ _=>trivial) d1 d2 d3 (fun s _=>recFacts_nil rfl) rfl k1 d4 d6 d5 call
end
section
set_option backward.match.sparseCases false
noncomputable section
inductive BI where
  | abs | len | min | max | sorted | isinstance | divmod | list | tuple | int | bool | range | enumerate | zip
inductive MV where
  | none
  | bool (b:Bool)
  | int (i:Int)
  | str (s:Str)
  | tup (xs:List MV)
  | fl (xs:List MV)
  | inst (id:Option Nat) (C:Addr) (fs:List (Str × MV))
  | ref (i:Nat)
  | bi (b:BI)
  | fn (a:Addr)
  | cls (a:Addr)
  | clos (args:Arguments) (body:List Stmt) (scope:Scope) (cs:List (Str × Nat))
inductive MO where
  | list (xs:List MV)
  | idict (es:List (Int × MV))
  | sdict (es:List (Str × MV))
  | obj (C:Addr) (fs:List (Str × MV))
  | cell (v:Option MV)
noncomputable def nth {α:Type}:List α→Nat→Option α
  | [],_=>none
  | a :: _,0=>some a
  | _ :: r,i+1=>nth r i
noncomputable def aL {α:Type}:List α→α→List α
  | [],x=>[x]
  | a :: r,x=>a :: aL r x
noncomputable def upd {α:Type}:List α→Nat→α→List α
  | [],_,_=>[]
  | _ :: r,0,x=>x :: r
  | a :: r,i+1,x=>a :: upd r i x
noncomputable def tk {α:Type}:List α→List α→List α
  | [],_=>[]
  | _,[]=>[]
  | _ :: r,b :: s=>b :: tk r s
structure St where
  l:List MO
  u:Nat
noncomputable def ln {α:Type}:List α→Nat
  | []=>0
  | _ :: r=>ln r+1
noncomputable def St.n (st:St):Nat:=ln st.l
noncomputable def St.h (st:St) (i:Nat):Option MO:=nth st.l i
noncomputable def St.new (st:St) (o:MO):St:=⟨aL st.l o,st.u⟩
noncomputable def St.put (st:St) (i:Nat) (o:MO):St:=⟨upd st.l i o,st.u⟩
noncomputable def Kh:List Nat→List Nat→Bool
  | [],[]=>true
  | a :: x,b :: y=>match Nat.beq a b with
    | true=>Kh x y
    | false=>false
  | _,_=>false
noncomputable def bB (a b:Str):Bool:=Kh a.cps.toList b.cps.toList
noncomputable def look {α:Type}(x:Str):List (Str × α)→Option α
  | []=>none
  | (y,v) :: r=>match bB y x with
    | true=>some v
    | false=>look x r
noncomputable def setL {α:Type}(x:Str) (v:α):List (Str × α)→List (Str × α)
  | []=>[(x,v)]
  | (y,w) :: r=>match bB y x with
    | true=>(y,v) :: r
    | false=>(y,w) :: setL x v r
noncomputable def ah {α:Type}(k:Int):List (Int × α)→Option α
  | []=>none
  | (y,v) :: r=>if y=k then some v else ah k r
noncomputable def cn {α:Type}(k:Int) (v:α):List (Int × α)→List (Int × α)
  | []=>[(k,v)]
  | (y,w) :: r=>if y=k then (y,v) :: r else (y,w) :: cn k v r
mutual
noncomputable def ce:MV→Bool
  | .tup xs=>aY xs
  | .ref _=>false
  | .clos _ _ _ _=>false
  | _=>true
noncomputable def aY:List MV→Bool
  | []=>true
  | x :: r=>match ce x with
    | true=>aY r
    | false=>false
end
noncomputable abbrev aF:=List (Str × MV)
structure cA where
  scope:Scope
  cel:List (Str × Nat)
inductive Pol where
  | pure | keep | drop
structure c6 where
  names:List Str
  dflts:List MV
  body:List Stmt
  scope:Scope
  pol:Pol
inductive CK where
  | opn | val | mark
structure uY where
  init:c6
  kind:CK
structure Wd where
  glob:Str→Option MV
  fn:Addr→Option c6
  cls:Addr→Option uY
  iget:Addr→Str→Bool
  iset:Addr→Str→Bool
  cget:Addr→Str→Option MV
  meth:Addr→Str→Option Addr
  chg:Nat→Bool
  dl:Nat→Bool
noncomputable abbrev aE:=MV→St→Prop
noncomputable abbrev ms:=MV→List MV→St→aE→Prop
inductive Fl where
  | next | brk | cont
  | ret (v:MV)
noncomputable abbrev aq:=Fl→aF→St→Prop
def aI (c:Bool) (a b:Prop):Prop:=match c with
  | true=>a
  | false=>b
def bw (c:Bool) (a:Prop):Prop:=match c with
  | true=>a
  | false=>False
noncomputable def dg:Str:=⟨⟨[95,95,100,101,98,117,103,95,95]⟩⟩
noncomputable def oA:Str:=⟨⟨[95,95,99,108,97,115,115,100,105,99,116,95,95]⟩⟩
def bW (p:Prop) [Decidable p] (K:Prop):Prop:=match decide p with
  | true=>K
  | false=>False
theorem w7 {p K:Prop} [Decidable p] (h:bW p K):p∧K:=by
  unfold bW at h
  cases e:decide p with
  | true=>rw [e] at h; exact ⟨of_decide_eq_true e,h⟩
  | false=>rw [e] at h; exact h.elim
theorem bW.p {p K:Prop} [Decidable p] (h:bW p K):p:=(w7 h).1
theorem bW.q {p K:Prop} [Decidable p] (h:bW p K):K:=(w7 h).2
def ad {α:Type}(o:Option α) (K:α→Prop):Prop:=match o with
  | some v=>K v
  | none=>False
def kH {α:Type}(o:Option α) (K:α→Prop) (L:Prop):Prop:=match o with
  | some v=>K v
  | none=>L
noncomputable def aH {α β:Type}(o:Option α) (f:α→Option β):Option β:=match o with
  | some x=>f x
  | none=>none
noncomputable def dn {α β:Type}(o:Option α) (f:α→Option β) (g:Option β):Option β:=match o with
  | some x=>f x
  | none=>g
noncomputable def Zn {α:Type}(c:Bool) (x:α):Option α:=match c with
  | true=>some x
  | false=>none
noncomputable def qe:List MV→Option MV
  | [a]=>some a
  | _=>none
noncomputable def wM:List MV→Option (MV × MV)
  | [a,b]=>some (a,b)
  | _=>none
noncomputable def ua:MV→Option Unit
  | .none=>some ()
  | _=>none
noncomputable def oY:MV→Option Bool
  | .bool b=>some b
  | _=>none
noncomputable def ga:MV→Option Int
  | .int i=>some i
  | _=>none
noncomputable def q8:MV→Option Str
  | .str s=>some s
  | _=>none
noncomputable def jw:MV→Option (List MV)
  | .tup xs=>some xs
  | _=>none
noncomputable def yn:MV→Option (List MV)
  | .fl xs=>some xs
  | _=>none
noncomputable def oo:MV→Option Nat
  | .ref i=>some i
  | _=>none
noncomputable def biO:MV→Option BI
  | .bi b=>some b
  | _=>none
noncomputable def PL:MV→Option Nat
  | .inst (some i) _ _=>some i
  | _=>none
noncomputable def Xg:Int→Option Nat
  | .ofNat n=>some n
  | .negSucc _=>none
noncomputable def we:Option MO→Option (List MV)
  | some (.list xs)=>some xs
  | _=>none
noncomputable def LZ:Option MO→Option (List (Int × MV))
  | some (.idict es)=>some es
  | _=>none
noncomputable def sdO:Option MO→Option (List (Str × MV))
  | some (.sdict es)=>some es
  | _=>none
noncomputable def RO:Option MO→Option (Addr × List (Str × MV))
  | some (.obj C fs)=>some (C,fs)
  | _=>none
noncomputable def JU:Option MO→Option (Option MV)
  | some (.cell v)=>some v
  | _=>none
noncomputable def ry (st:St) (a:MV):Option (List MV):=dn (yn a) some (aH (oo a) fun i=>we (st.h i))
noncomputable def vR (st:St) (a:MV):Option (List (Int × MV)):=aH (oo a) fun i=>LZ (st.h i)
noncomputable def sdM (st:St) (a:MV):Option (List (Str × MV)):=aH (oo a) fun i=>sdO (st.h i)
def pJ (W:Wd) (fr:cA) (x:Str) (loc:aF) (st:St) (Q:aE):Prop:=ad (look x fr.scope.names) fun k=>match k with
  | .local=>ad (look x loc) fun v=>Q v st
  | .cell=>ad (look x fr.cel) fun i=>ad (aH (JU (st.h i)) id) fun v=>Q v st
  | .free=>bw (!bB x oA) (ad (look x fr.cel) fun i=>ad (aH (JU (st.h i)) id) fun v=>Q v st)
  | .globalImplicit=>ad (W.glob x) fun v=>Q v st
  | _=>False
noncomputable def ju {α:Type}:List α→(List α→Prop)→Prop
  | [],k=>k []
  | a :: r,k=>ju r fun r'=>k (a :: r')
def iC (fr:cA) (x:Str) (v:MV) (loc:aF) (st:St) (Q:aF→St→Prop):Prop:=ad (look x fr.scope.names) fun k=>match k with
  | .local=>ju (setL x v loc) fun l=>Q l st
  | .cell=>ad (look x fr.cel) fun i=>ad (JU (st.h i)) fun _=>ju (upd st.l i (.cell (some v))) fun l=>Q loc ⟨l,st.u⟩
  | _=>False
def jN (st:St) (o:MO) (Q:aE):Prop:=ju (aL st.l o) fun l=>Q (.ref st.n) ⟨l,st.u⟩
def ul (st:St) (i:Nat) (o:MO) (Q:St→Prop):Prop:=ju (upd st.l i o) fun l=>Q ⟨l,st.u⟩
noncomputable abbrev cB (a b:Int):Prop:=a.natAbs<2 ^ 63∨b.natAbs<2 ^ 63
def pV (a:MV) (K:Int→Prop):Prop:=ad (ga a) K
def n7 (a b:MV) (K:Int→Int→Prop):Prop:=pV a fun x=>pV b fun y=>K x y
def mP (op:Operator) (a b:MV) (st:St) (Q:aE):Prop:=match op with
  | .Add=>kH (ga a) (fun x=>pV b fun y=>Q (.int (x+y)) st) (kH (jw a) (fun xs=>ad (jw b) fun ys=>bW (xs.length≠0∧ys.length≠0∧xs.length+ys.length≤100000) (Q (.tup (xs ++ ys)) st))
      (ad (yn a) fun xs=>ad (yn b) fun ys=>bW (xs.length+ys.length≤100000) (Q (.fl (xs ++ ys)) st)))
  | .Sub=>n7 a b fun x y=>Q (.int (x - y)) st
  | .Mult=>n7 a b fun x y=>bW (cB x y) (Q (.int (x * y)) st)
  | .FloorDiv=>n7 a b fun x y=>bW (y≠0∧y.natAbs<2 ^ 2000) (Q (.int (x.fdiv y)) st)
  | .Mod=>n7 a b fun x y=>bW (y≠0) (Q (.int (x.fmod y)) st)
  | .Pow=>n7 a b fun x y=>bW (0≤y∧y≤1000∧x.natAbs<2 ^ 63) (Q (.int (x ^ y.toNat)) st)
  | _=>False
def H0 (op:Operator) (a b:MV) (st:St) (Q:aE):Prop:=match op with
  | .Add=>n7 a b fun x y=>Q (.int (x+y)) st
  | .Sub=>n7 a b fun x y=>Q (.int (x - y)) st
  | _=>False
def unW (op:UnaryOp) (a:MV) (st:St) (Q:aE):Prop:=match op with
  | .Not=>ad (oY a) fun b=>Q (.bool (!b)) st
  | .USub=>pV a fun x=>Q (.int (-x)) st
  | _=>False
noncomputable def ci:List MV→Option (List Int)
  | []=>some []
  | .int i :: r=>(ci r).map (i :: ·)
  | _ :: _=>none
noncomputable def isN:MV→Option Bool
  | .none=>some true
  | .bi _=>none
  | _=>some false
noncomputable def isM (a b:MV):Option Bool:=dn (ua b) (fun _=>isN a) (aH (PL b) fun j=>aH (PL a) fun i=>some (decide (i=j)))
noncomputable def M9 {α β:Type}(xs:List α) (ys:List β):Option Bool:=match xs with
  | []=>match ys with
    | []=>some true
    | _ :: _=>some false
  | _ :: _=>match ys with
    | []=>some false
    | _ :: _=>none
noncomputable def eqM (st:St) (a b:MV):Option Bool :=
  dn (ga a) (fun x=>dn (ga b) (fun y=>some (decide (x=y))) (aH (q8 b) fun _=>some false)) (dn (oY a) (fun x=>aH (oY b) fun y=>some (decide (x=y)))
  (dn (q8 a) (fun x=>aH (q8 b) fun y=>some (decide (x=y))) (dn (jw a) (fun xs=>aH (jw b) (M9 xs)) (dn (vR st a) (fun es=>aH (vR st b) (M9 es))
  (dn (ry st a) (fun xs=>aH (ry st b) (M9 xs)) (aH (ua a) fun _=>aH (q8 b) fun _=>some false))))))
noncomputable def inM (st:St) (a b:MV):Option Bool:=aH (ga a) fun k=>dn (vR st b) (fun es=>some (ah k es).isSome) (aH (ry st b) fun xs=>(ci xs).map fun l=>decide (k∈l))
noncomputable def OQ (a b:MV) (f:Int→Int→Bool):Option Bool:=aH (ga a) fun x=>aH (ga b) fun y=>some (f x y)
noncomputable def eY (st:St) (op:CmpOp) (a b:MV):Option Bool:=match op with
  | .Eq=>eqM st a b
  | .NotEq=>(eqM st a b).map (!·)
  | .Lt=>OQ a b fun x y=>decide (x<y)
  | .LtE=>OQ a b fun x y=>decide (x≤y)
  | .Gt=>OQ a b fun x y=>decide (x > y)
  | .GtE=>OQ a b fun x y=>decide (x≥y)
  | .Is=>isM a b
  | .IsNot=>(isM a b).map (!·)
  | .In=>inM st a b
  | .NotIn=>(inM st a b).map (!·)
def dF (v:MV) (K:Bool→Prop):Prop:=ad (oY v) K
noncomputable def VV:MV→Option (Addr × List (Str × MV))
  | .inst _ C fs=>some (C,fs)
  | _=>none
noncomputable def XT (st:St) (v:MV):Option (Addr × List (Str × MV)):=dn (VV v) some (aH (oo v) fun i=>RO (st.h i))
noncomputable def jH (W:Wd) (v:MV) (name:Str) (st:St):Option MV:=aH (XT st v) fun p=>dn (look name p.2) (fun x=>Zn (W.iget p.1 name) x) (W.cget p.1 name)
noncomputable def bq (xs:List MV) (k:Int):Option MV:=aH (Xg k) (nth xs)
noncomputable def Cn:Str:=⟨⟨[97,112,112,101,110,100]⟩⟩
noncomputable def Yl:Str:=⟨⟨[103,101,116]⟩⟩
noncomputable def iP (st:St) (o i:MV):Option MV:=dn (ga i) (fun k=>dn (jw o) (fun xs=>bq xs k) (dn (ry st o) (fun xs=>bq xs k) (aH (vR st o) (ah k)))) (aH (q8 i) fun k=>aH (sdM st o) (look k))
@[irreducible] noncomputable def aT (a:MV):Bool:=match ga a with
  | some k=>decide (k<100000)
  | none=>true
noncomputable def EL (a:MV):Option (Option Int):=dn (ua a) (fun _=>some none) (aH (ga a) fun i=>some (some i))
noncomputable def dD {α:Type}(xs:List α) (lo hi st:Option Int):List α:=(sliceRange (sliceBounds lo hi st xs.length).1 (sliceBounds lo hi st xs.length).2.1 (sliceBounds lo hi st xs.length).2.2).filterMap (xs[·]?)
noncomputable def Ji (lo hi sp:Option Int):Option Int:=dn hi (fun _=>none) (dn sp (fun _=>none) lo)
def Mu (o:MV) (lo hi sp:Option Int) (st:St) (Q:aE):Prop:=kH (jw o) (fun xs=>ad (Ji lo hi sp) fun k=>bW (1≤k∧k.toNat≤xs.length∧xs.length≤100000) (Q (.tup (xs.drop k.toNat)) st))
  (ad (ry st o) fun xs=>bW (sp≠some 0∧xs.length≤100000) (Q (.fl (dD xs lo hi sp)) st))
inductive d8 where
  | seq (xs:List MV)
  | lst (i:Nat) (xs:List MV)
  | rng (n:Int)
  | enum (xs:List MV)
  | zip (xs ys:List MV)
noncomputable def WF:Nat→Nat→List MV
  | 0,_=>[]
  | m+1,k=>.int k :: WF m (k+1)
noncomputable def a1S (n:Int):List MV:=WF n.toNat 0
noncomputable def cp (k:Nat):List MV→List MV
  | []=>[]
  | x :: r=>.tup [.int k,x] :: cp (k+1) r
noncomputable def OO:List MV→List MV→List MV
  | x :: xs,y :: ys=>.tup [x,y] :: OO xs ys
  | _,_=>[]
noncomputable def bU:d8→List MV
  | .seq xs=>xs
  | .lst _ xs=>xs
  | .rng n=>a1S n
  | .enum xs=>cp 0 xs
  | .zip xs ys=>OO xs ys
noncomputable def cP (st':St):d8→Prop
  | .lst i xs=>st'.h i=some (.list xs)
  | _=>True
noncomputable def iL (st:St) (a:MV):Option d8:=dn (yn a) (fun xs=>some (.seq xs)) (dn (jw a) (fun xs=>some (.seq xs)) (aH (oo a) fun i=>(we (st.h i)).map (.lst i)))
noncomputable def cutL:List Str→aF→aF
  | [],_=>[]
  | x :: r,loc=>match look x loc with
    | some v=>(x,v) :: cutL r loc
    | none=>cutL r loc
noncomputable def bH:aF→List Str
  | []=>[]
  | (x,_) :: r=>x :: bH r
def yz (o o':MO):Prop:=match o' with
  | .list _=>True
  | .idict _=>True
  | o'=>o'=o
noncomputable def iS:List MO→List MO→Prop
  | [],_=>True
  | o :: r,l=>match l with
    | o' :: r'=>yz o o'∧iS r r'
    | []=>False
def dq (l0:List MO) (st:St) (K:St→Prop):Prop:=iS l0 st.l∧ju (tk l0 st.l) fun l=>K ⟨l,st.u⟩
noncomputable def Q2 (n:Nat):List (Str × Nat)→Bool
  | []=>true
  | p :: r=>match Nat.ble (p.2+1) n with
    | true=>Q2 n r
    | false=>false
mutual
noncomputable def uj (n:Nat):MV→Bool
  | .ref i=>Nat.ble (i+1) n
  | .tup xs=>Qz n xs
  | .clos _ _ _ cs=>Q2 n cs
  | _=>true
noncomputable def Qz (n:Nat):List MV→Bool
  | []=>true
  | x :: r=>match uj n x with
    | true=>Qz n r
    | false=>false
end
noncomputable def RZ (n:Nat):aF→Bool
  | []=>true
  | p :: r=>match uj n p.2 with
    | true=>RZ n r
    | false=>false
noncomputable def Qd (c:Bool) (l:List MO):Option (List MO):=match c with
  | true=>some l
  | false=>none
def qg (d:Option (List MO)) (I:d8) (ns:List Str) (loc:aF) (st:St) (K:aF→St→Prop):Prop:=match d with
  | none=>cP st I∧ju (cutL ns loc) fun loc=>K loc st
  | some l0=>iS l0 st.l∧ju (tk l0 st.l) fun l=>cP ⟨l,st.u⟩ I∧ju (cutL ns loc) fun loc=>bw (RZ (ln l0) loc) (K loc ⟨l,st.u⟩)
noncomputable def Ih (asg:MV→aF→St→(aF→St→Prop)→Prop) (body:aF→St→aq→Prop) (ns:List Str) (d:Option (List MO)) (I:d8):List MV→aF→St→aq→Prop
  | [],loc,st,Q=>Q .next loc st
  | x :: xs,loc,st,Q=>asg x loc st fun loc st=>body loc st fun fl loc st=>match fl with
    | .next=>qg d I ns loc st fun loc st=>Ih asg body ns d I xs loc st Q
    | .cont=>qg d I ns loc st fun loc st=>Ih asg body ns d I xs loc st Q
    | .brk=>ju (cutL ns loc) fun loc=>Q .next loc st
    | .ret v=>Q (.ret v) loc st
noncomputable def ox (test:aF→St→(Bool→St→Prop)→Prop) (body:aF→St→aq→Prop) (ns:List Str):Nat→aF→St→aq→Prop
  | 0,_,_,_=>False
  | n+1,loc,st,Q=>test loc st fun c st=>aI c (body loc st fun fl loc st=>match fl with
    | .next=>ju (cutL ns loc) fun loc=>ox test body ns n loc st Q
    | .cont=>ju (cutL ns loc) fun loc=>ox test body ns n loc st Q
    | .brk=>ju (cutL ns loc) fun loc=>Q .next loc st
    | .ret v=>Q (.ret v) loc st) (Q .next loc st)
noncomputable def qo (asg:MV→aF→St→(aF→St→Prop)→Prop) (tests:aF→St→(Bool→St→Prop)→Prop) (elt:aF→St→aE→Prop) (I:d8):List MV→List MV→St→(List MV→St→Prop)→Prop
  | [],acc,st,Q=>Q acc st
  | x :: xs,acc,st,Q=>asg x [] st fun loc st=>tests loc st fun c st=>aI c
      (elt loc st fun v st=>bw (ce v) (cP st I∧qo asg tests elt I xs (aL acc v) st Q))
      (cP st I∧qo asg tests elt I xs acc st Q)
inductive Me where
  | append (i:Nat)
  | get (i:Nat)
  | fn (a:Addr) (self:MV)
noncomputable def TB (W:Wd) (v:MV) (name:Str) (st:St):Option Me:=dn (XT st v) (fun p=>dn (look name p.2) (fun _=>none) ((W.meth p.1 name).map fun a=>.fn a v))
  (aH (oo v) fun i=>dn (LZ (st.h i)) (fun es=>Zn (bB name Yl) (.get i)) (aH (we (st.h i)) fun xs=>Zn (bB name Cn) (.append i)))
def Am (cal:ms) (m:Me) (args:List MV) (st:St) (Q:aE):Prop:=match m with
  | .append i=>ad (qe args) fun x=>ad (we (st.h i)) fun xs=>bw (ce x) (bW (xs.length<100000) (ul st i (.list (aL xs x)) fun st=>Q .none st))
  | .get i=>ad (LZ (st.h i)) fun es=>kH (qe args) (fun a=>pV a fun k=>Q ((ah k es).getD .none) st) (ad (wM args) fun p=>pV p.1 fun k=>Q ((ah k es).getD p.2) st)
  | .fn a self=>cal (.fn a) (self :: args) st Q
def kh (o i v:MV) (st:St) (Q:St→Prop):Prop:=ad (oo o) fun r=>kH (ga i) (fun k=>bw (ce v) (kH (we (st.h r)) (fun xs=>ad (Xg k) fun j=>bW (j<xs.length∧j<100000) (ul st r (.list (upd xs j v)) Q))
    (ad (LZ (st.h r)) fun es=>bW (es.length<100000) (ul st r (.idict (cn k v es)) Q))))
  (ad (q8 i) fun k=>ad (sdO (st.h r)) fun es=>bW (es.length<100000) (ju (setL k v es) fun es=>ul st r (.sdict es) Q))
def uy (W:Wd) (o:MV) (name:Str) (v:MV) (st:St) (Q:St→Prop):Prop:=ad (oo o) fun i=>ad (RO (st.h i)) fun p=>bw (W.iset p.1 name) (bw (ce v) (bW (p.2.length<900) (ju (setL name v p.2) fun fs=>ul st i (.obj p.1 fs) Q)))
noncomputable def sb:List (MV × MV)→Option (List (Str × MV))
  | []=>some []
  | p :: r=>aH (q8 p.1) fun k=>(sb r).map ((k,p.2) :: ·)
noncomputable def a0S:List (MV × MV)→Option (MV × MV)
  | [p]=>some p
  | _=>none
noncomputable def rZ:List (Str × MV)→Bool
  | []=>true
  | (x,_) :: r=>match look x r with
    | none=>rZ r
    | some _=>false
def a0P (str:Bool) (kvs:List (MV × MV)) (st:St) (Q:aE):Prop:=match str with
  | true=>ad (sb kvs) fun es=>bw (rZ es) (jN st (.sdict es) Q)
  | false=>ad (a0S kvs) fun p=>pV p.1 fun i=>bw (ce p.2) (jN st (.idict [(i,p.2)]) Q)
noncomputable def wi:List (aF→St→aE→Prop)→List (aF→St→aE→Prop)→aF→St→(List (MV × MV)→St→Prop)→Prop
  | [],[],_,st,Q=>Q [] st
  | k :: ks,v :: vs,loc,st,Q=>k loc st fun a st=>v loc st fun b st=>wi ks vs loc st fun kvs st=>Q ((a,b) :: kvs) st
  | _,_,_,_,_=>False
noncomputable def KM (a b:Int × Int):Bool:=a.1<b.1 || (a.1 == b.1 && a.2≤b.2)
noncomputable def dH:List MV→Option (List (Int × Int))
  | []=>some []
  | x :: r=>aH (aH (jw x) fun ys=>aH (wM ys) fun q=>aH (ga q.1) fun i=>aH (ga q.2) fun j=>some (i,j)) fun p=>(dH r).map (p :: ·)
noncomputable def pL:List Int→Option Int
  | []=>none
  | x :: r=>some (r.foldl (fun a b=>if b<a then b else a) x)
noncomputable def uC:List Int→Option Int
  | []=>none
  | x :: r=>some (r.foldl (fun a b=>if b > a then b else a) x)
noncomputable def sv:List (Int × Int)→Option (Int × Int)
  | []=>none
  | x :: r=>some (r.foldl (fun a b=>if KM a b then a else b) x)
noncomputable def isB:BI→Option Bool
  | .int=>some true
  | .bool=>some false
  | _=>none
def biW (b:BI) (chg:Bool) (args:List MV) (st:St) (Q:aE):Prop:=kH (qe args) (fun a=>match b with
    | .abs=>pV a fun x=>Q (.int x.natAbs) st
    | .len=>ad (ry st a) fun xs=>bW (xs.length≤100000) (Q (.int xs.length) st)
    | .min=>ad (yn a) fun xs=>bW (xs.length≤1000) (kH (ci xs) (fun l=>ad (pL l) fun m=>Q (.int m) st) (ad (dH xs) fun l=>ad (sv l) fun m=>Q (.tup [.int m.1,.int m.2]) st))
    | .max=>ad (yn a) fun xs=>ad (ci xs) fun l=>ad (uC l) fun m=>Q (.int m) st
    | .sorted=>ad (vR st a) fun es=>bW (es.length<64) (Q (.fl (((es.map (·.1)).mergeSort (fun a b=>decide (a≤b))).map .int)) st)
    | .int=>dF a fun b=>Q (.int (if b then 1 else 0)) st
    | .list=>kH (jw a) (fun xs=>bW (xs.length≤1000) (bw chg (bw (aY xs) (jN st (.list xs) Q))))
        (ad (ry st a) fun xs=>bW (xs.length≤100000) (match chg with
          | true=>jN st (.list xs) Q
          | false=>Q (.fl xs) st))
    | .tuple=>ad (ry st a) fun xs=>bW (xs.length≤100000) (Q (.tup xs) st)
    | _=>False)
  (ad (wM args) fun p=>match b with
    | .min=>n7 p.1 p.2 fun x y=>Q (.int (if y<x then y else x)) st
    | .max=>n7 p.1 p.2 fun x y=>Q (.int (if y > x then y else x)) st
    | .isinstance=>pV p.1 fun _=>ad (biO p.2) fun k=>ad (isB k) fun r=>Q (.bool r) st
    | .divmod=>n7 p.1 p.2 fun x y=>bW (y≠0∧x.natAbs<2 ^ 2000∧y.natAbs<2 ^ 2000) (Q (.tup [.int (x.fdiv y),.int (x.fmod y)]) st)
    | _=>False)
noncomputable def aX:List Expr→Bool
  | []=>true
  | .Starred _ _ :: _=>false
  | _ :: r=>aX r
noncomputable def lF:Expr→Bool
  | .Call _ _ _ _=>false
  | _=>true
noncomputable def nh (a b c d:Bool):Bool:=match a with
  | true=>match b with
    | true=>match c with
      | true=>d
      | false=>false
    | false=>false
  | false=>false
noncomputable def Jh (o:Expr) (apos pos:Pos) (args:List Expr):Bool:=nh (lF o) (aX args) (Nat.ble args.length 20) (Nat.beq apos.endLine pos.line)
noncomputable def oP:Option NameKind→Bool
  | some .local=>true
  | _=>false
noncomputable def Oc:Option NameKind→Bool
  | some .free=>true
  | _=>false
noncomputable def Uk:Option NameKind→Bool
  | some .cell=>true
  | some .free=>true
  | _=>false
noncomputable def uw (fr:cA) (all:List (Str × NameKind)) (x:Str):NameKind→Bool
  | .local=>oP (look x all)
  | .free=>nh (Oc (look x all)) (look x fr.cel).isSome (Uk (look x fr.scope.names)) true
  | .globalImplicit=>true
  | _=>false
noncomputable def fH (fr:cA) (all:List (Str × NameKind)):List (Str × NameKind)→Bool
  | []=>true
  | p :: r=>match uw fr all p.1 p.2 with
    | true=>fH fr all r
    | false=>false
noncomputable def j7 (fr:cA) (sc:Scope):Bool:=match sc.kind with
  | .function=>fH fr sc.names sc.names
  | _=>false
noncomputable def Lv:Expr→Bool
  | .Tuple _ _ _=>true
  | _=>false
noncomputable def Wn (I:d8) (t:Expr):Bool:=match I with
  | .enum _=>Lv t
  | .zip _ _=>Lv t
  | _=>true
noncomputable def kt:List (Option Expr)→Bool
  | []=>true
  | some _ :: r=>kt r
  | none :: _=>false
noncomputable def Yu:Expr→Bool
  | .Constant (.str _) _ _=>true
  | _=>false
noncomputable def pM:List (Option Expr)→Bool
  | []=>true
  | some k :: r=>match Yu k with
    | true=>pM r
    | false=>false
  | none :: _=>false
inductive Sw where
  | yes | no | bad
noncomputable def Sw.both (a b:Sw):Sw:=match a with
  | .bad=>.bad
  | .yes=>b
  | .no=>match b with
    | .bad=>.bad
    | _=>.no
noncomputable def swK (same:Bool):Option NameKind→Sw
  | some .local=>match same with
    | true=>.yes
    | false=>.bad
  | some .cell=>.no
  | _=>.bad
noncomputable def Zb (fr:cA) (line:Nat):Expr→Sw
  | .Name x p=>swK (Nat.beq p.line line) (look x fr.scope.names)
  | _=>.no
noncomputable def P7 (fr:cA) (line:Nat):List Expr→Sw
  | []=>.yes
  | e :: r=>(Zb fr line e).both (P7 fr line r)
noncomputable def cx:List Expr→List Str
  | []=>[]
  | .Name x _ :: r=>x :: cx r
  | _ :: r=>cx r
noncomputable def rM (x:Str):List Str→Bool
  | []=>false
  | y :: r=>match bB y x with
    | true=>true
    | false=>rM x r
noncomputable def jZ:List Str→Bool
  | []=>true
  | x :: r=>match rM x r with
    | true=>false
    | false=>jZ r
noncomputable def ncN:Nat→Expr→Bool
  | _,.Name x _=>!bB x dg
  | n+1,.Subscript v _ _=>ncN n v
  | _,.Call _ _ _ _=>true
  | _,.Attribute _ _ _=>true
  | _,.List _ _=>true
  | _,.Dict _ _ _=>true
  | _,.ListComp _ _ _ _=>true
  | _,_=>false
noncomputable def vk:List Expr→Bool
  | []=>false
  | e :: r=>match ncN 8 e with
    | true=>true
    | false=>vk r
noncomputable def j8:List Expr→Nat
  | []=>0
  | e :: _=>e.pos.line
noncomputable def Sl:Nat→Bool
  | 2=>true
  | 3=>true
  | _=>false
noncomputable def Sw.then (a:Sw) (b:Sw):Sw:=match a with
  | .yes=>b
  | a=>a
noncomputable def JK (a b c:Bool):Sw:=match a with
  | true=>match b with
    | true=>.no
    | false=>match c with
      | true=>.yes
      | false=>.bad
  | false=>.bad
noncomputable def WV (a b:Bool) (s:Sw):Sw:=match a with
  | true=>match b with
    | true=>s
    | false=>.bad
  | false=>.bad
noncomputable def qz (fr:cA) (ts vs:List Expr):Sw:=match Sl ts.length with
  | false=>.no
  | true=>WV (Nat.beq vs.length ts.length) (aX vs) ((P7 fr (j8 ts) ts).then (JK (jZ (cx ts)) (vs.all (foldedForSure 8)) (vk vs)))
noncomputable def jj (x:Str):List (Str × NameKind)→Bool
  | []=>true
  | (y,_) :: r=>match bB y x with
    | true=>false
    | false=>jj x r
noncomputable def a0F (fr:cA) (x:Str) (p:Pos) (sc:Scope) (q:Pos):Bool:=nh (oP (look x fr.scope.names)) (Nat.beq p.line q.line) (jj x sc.names) true
def GE (cal:ms) (chg:Bool) (f:MV) (args:List MV) (st:St) (Q:aE):Prop:=kH (biO f) (fun b=>biW b chg args st Q) (cal f args st Q)
noncomputable def gk (W:Wd) (fr:cA) (x:Str):Option BI:=match isG (look x fr.scope.names) with
  | true=>match W.glob x with
    | some (.bi b)=>some b
    | _=>none
  | false=>none
where isG:Option NameKind→Bool
  | some .globalImplicit=>true
  | _=>false
section
variable (W:Wd) (cal:ms)
mutual
noncomputable def cj (fr:cA):Expr→aF→St→aE→Prop
  | .Constant c _ _,_,st,Q=>match c with
    | .none=>Q .none st
    | .bool b=>Q (.bool b) st
    | .int i=>Q (.int i) st
    | .str s=>Q (.str s) st
    | _=>False
  | .Name x _,loc,st,Q=>bw (!bB x dg) (pJ W fr x loc st Q)
  | .BoolOp op vs _,loc,st,Q=>rS fr op vs loc st Q
  | .BinOp l op r _,loc,st,Q=>cj fr l loc st fun a st=>cj fr r loc st fun b st=>mP op a b st Q
  | .UnaryOp op x _,loc,st,Q=>cj fr x loc st fun a st=>unW op a st Q
  | .IfExp t b o _,loc,st,Q=>Hp fr t (cj fr t) loc st fun c st=>aI c (cj fr b loc st Q) (cj fr o loc st Q)
  | .Compare l ops cs _,loc,st,Q=>bw (nh (!lastMarks ops cs) (Nat.beq ops.length cs.length) true true) (cj fr l loc st fun a st=>ly fr a ops cs loc st fun b st=>Q (.bool b) st)
  | .Call f args kw pos,loc,st,Q=>match kw with
    | []=>match f with
      | .Attribute o name apos=>bw (Jh o apos pos args) (cj fr o loc st fun v st=>ad (TB W v name st) fun m=>jK fr args loc st fun vs st=>Am cal m vs st Q)
      | f=>bw (aX args) (cj fr f loc st fun v st=>jK fr args loc st fun vs st=>GE cal (W.chg pos.line) v vs st Q)
    | _=>False
  | .Attribute o name _,loc,st,Q=>bw (lF o) (cj fr o loc st fun v st=>ad (jH W v name st) fun x=>Q x st)
  | .Subscript o i _,loc,st,Q=>cj fr o loc st fun v st=>match i with
    | .Slice lo hi sp _=>wpO fr lo loc st fun a st=>wpO fr hi loc st fun b st=>wpO fr sp loc st fun c st=>ad (EL a) fun a=>ad (EL b) fun b=>ad (EL c) fun c=>Mu v a b c st Q
    | i=>cj fr i loc st fun k st=>ad (iP st v k) fun x=>bw (aT k) (Q x st)
  | .List es pos,loc,st,Q=>bw (aX es) (jK fr es loc st fun vs st=>bw (aY vs) (bW (vs.length≤1000) (match W.chg pos.line with
    | true=>jN st (.list vs) Q
    | false=>Q (.fl vs) st)))
  | .Tuple es _ _,loc,st,Q=>bw (aX es) (jK fr es loc st fun vs st=>bW (vs.length≤1000) (Q (.tup vs) st))
  | .Dict ks vs _,loc,st,Q=>bw (nh (Nat.ble ks.length 15) (Nat.beq ks.length vs.length) (kt ks) true) (match ks with
    | []=>jN st (.idict []) Q
    | _ :: _=>wi (Rh fr ks) (wpL fr vs) loc st fun kvs st=>a0P (pM ks) kvs st Q)
  | .ListComp elt gens scope _,loc,st,Q=>match gens with
    | [⟨target,iter,ifs,0⟩]=>bw (j7 fr scope) (re fr iter (cj fr iter) loc st fun I st=>bw (Wn I target) (bW ((bU I).length≤100000) (qo (jI ⟨scope,fr.cel⟩ target) (Ob ⟨scope,fr.cel⟩ ifs) (cj ⟨scope,fr.cel⟩ elt) I (bU I) [] st fun ys st=>Q (.fl ys) st)))
    | _=>False
  | _,_,_,_=>False
noncomputable def Hp (fr:cA):Expr→(aF→St→aE→Prop)→aF→St→(Bool→St→Prop)→Prop
  | .UnaryOp op x _,_,loc,st,Q=>match op with
    | .Not=>Hp fr x (cj fr x) loc st fun b st=>Q (!b) st
    | _=>False
  | .BoolOp op vs _,_,loc,st,Q=>AK fr op vs loc st Q
  | .Compare l ops cs _,_,loc,st,Q=>bw (nh (!lastMarks ops cs) (Nat.beq ops.length cs.length) true true) (cj fr l loc st fun a st=>ly fr a ops cs loc st Q)
  | .Name _ _,whole,loc,st,Q=>whole loc st fun v st=>dF v fun b=>Q b st
  | .Call _ _ _ _,whole,loc,st,Q=>whole loc st fun v st=>dF v fun b=>Q b st
  | .Attribute _ _ _,whole,loc,st,Q=>whole loc st fun v st=>dF v fun b=>Q b st
  | .Subscript _ _ _,whole,loc,st,Q=>whole loc st fun v st=>dF v fun b=>Q b st
  | _,_,_,_,_=>False
noncomputable def AK (fr:cA):BoolOp→List Expr→aF→St→(Bool→St→Prop)→Prop
  | op,[],_,st,Q=>Q (match op with
    | .And=>true
    | .Or=>false) st
  | op,x :: r,loc,st,Q=>Hp fr x (cj fr x) loc st fun b st=>match op with
    | .And=>aI b (AK fr .And r loc st Q) (Q false st)
    | .Or=>aI b (Q true st) (AK fr .Or r loc st Q)
noncomputable def rS (fr:cA):BoolOp→List Expr→aF→St→aE→Prop
  | _,[],_,_,_=>False
  | op,x :: r,loc,st,Q=>cj fr x loc st fun v st=>match r with
    | []=>Q v st
    | _ :: _=>dF v fun b=>match op with
      | .And=>aI b (rS fr .And r loc st Q) (Q v st)
      | .Or=>aI b (Q v st) (rS fr .Or r loc st Q)
noncomputable def ly (fr:cA) (a:MV):List CmpOp→List Expr→aF→St→(Bool→St→Prop)→Prop
  | op :: ops,e :: r,loc,st,Q=>cj fr e loc st fun b st=>ad (eY st op a b) fun c=>match ops with
    | []=>match r with
      | []=>Q c st
      | _ :: _=>False
    | _ :: _=>match r with
      | []=>False
      | _ :: _=>aI c (ly fr b ops r loc st Q) (Q false st)
  | _,_,_,_,_=>False
noncomputable def jK (fr:cA):List Expr→aF→St→(List MV→St→Prop)→Prop
  | [],_,st,Q=>Q [] st
  | e :: r,loc,st,Q=>cj fr e loc st fun v st=>jK fr r loc st fun vs st=>Q (v :: vs) st
noncomputable def wpO (fr:cA):Option Expr→aF→St→aE→Prop
  | none,_,st,Q=>Q .none st
  | some e,loc,st,Q=>cj fr e loc st Q
noncomputable def wpL (fr:cA):List Expr→List (aF→St→aE→Prop)
  | []=>[]
  | e :: r=>cj fr e :: wpL fr r
noncomputable def Rh (fr:cA):List (Option Expr)→List (aF→St→aE→Prop)
  | []=>[]
  | some e :: r=>cj fr e :: Rh fr r
  | none :: r=>(fun _ _ _=>False) :: Rh fr r
noncomputable def Ob (fr:cA):List Expr→aF→St→(Bool→St→Prop)→Prop
  | [],_,st,Q=>Q true st
  | e :: r,loc,st,Q=>match r with
    | []=>Hp fr e (cj fr e) loc st Q
    | _=>False
noncomputable def re (fr:cA):Expr→(aF→St→aE→Prop)→aF→St→(d8→St→Prop)→Prop
  | .Call f args kw _,whole,loc,st,Q=>match f with
    | .Name x _=>match gk W fr x with
      | some .enumerate=>bw (!bB x dg) (match kw with
        | []=>bw (aX args) (jK fr args loc st fun vs st=>ad (aH (qe vs) yn) fun xs=>Q (.enum xs) st)
        | _=>False)
      | some .range=>bw (!bB x dg) (match kw with
        | []=>bw (aX args) (jK fr args loc st fun vs st=>ad (aH (qe vs) ga) fun n=>bW (0≤n∧n≤100000) (Q (.rng n) st))
        | _=>False)
      | some .zip=>bw (!bB x dg) (match kw with
        | []=>bw (aX args) (jK fr args loc st fun vs st=>ad (wM vs) fun p=>ad (yn p.1) fun xs=>ad (yn p.2) fun ys=>Q (.zip xs ys) st)
        | _=>False)
      | _=>whole loc st fun v st=>ad (iL st v) fun I=>Q I st
    | _=>False
  | .Name _ _,whole,loc,st,Q=>whole loc st fun v st=>ad (iL st v) fun I=>Q I st
  | .Subscript _ _ _,whole,loc,st,Q=>whole loc st fun v st=>ad (iL st v) fun I=>Q I st
  | .Tuple _ _ _,whole,loc,st,Q=>whole loc st fun v st=>ad (iL st v) fun I=>Q I st
  | .Attribute _ _ _,whole,loc,st,Q=>whole loc st fun v st=>ad (iL st v) fun I=>Q I st
  | _,_,_,_,_=>False
noncomputable def jI (fr:cA):Expr→MV→aF→St→(aF→St→Prop)→Prop
  | .Name x _,v,loc,st,Q=>iC fr x v loc st Q
  | .Attribute o name _,v,loc,st,Q=>cj fr o loc st fun ov st=>uy W ov name v st fun st=>Q loc st
  | .Subscript o i _,v,loc,st,Q=>cj fr o loc st fun ov st=>cj fr i loc st fun iv st=>kh ov iv v st fun st=>Q loc st
  | .Tuple es _ _,v,loc,st,Q=>ad (jw v) fun vs=>bw (nh (aX es) (Nat.beq es.length vs.length) true true) (wL fr es vs loc st Q)
  | _,_,_,_,_=>False
noncomputable def wL (fr:cA):List Expr→List MV→aF→St→(aF→St→Prop)→Prop
  | [],[],loc,st,Q=>Q loc st
  | e :: es,v :: vs,loc,st,Q=>jI fr e v loc st fun loc st=>wL fr es vs loc st Q
  | _,_,_,_,_=>False
end
mutual
noncomputable def II (fr:cA):Stmt→aF→St→aq→Prop
  | .Expr e _,loc,st,Q=>match e with
    | .ListComp _ _ _ _=>False
    | e=>cj W cal fr e loc st fun _ st=>Q .next loc st
  | .Pass _,loc,st,Q=>Q .next loc st
  | .Continue _,loc,st,Q=>Q .cont loc st
  | .Break _,loc,st,Q=>False
  | .Return v _,loc,st,Q=>match v with
    | none=>Q (.ret .none) loc st
    | some e=>cj W cal fr e loc st fun v st=>Q (.ret v) loc st
  | .Assign ts e _,loc,st,Q=>match ts with
    | [t]=>match t with
      | .Tuple xs k p=>match e with
        | .Tuple vs k' p'=>match qz fr xs vs with
          | .no=>cj W cal fr (.Tuple vs k' p') loc st fun v st=>jI W cal fr (.Tuple xs k p) v loc st fun loc st=>Q .next loc st
          | .yes=>cj W cal fr (.Tuple vs k' p') loc st fun v st=>ad (jw v) fun us=>bw (Nat.beq us.length xs.length) (wL W cal fr xs.reverse us.reverse loc st fun loc st=>Q .next loc st)
          | .bad=>False
        | e=>cj W cal fr e loc st fun v st=>jI W cal fr (.Tuple xs k p) v loc st fun loc st=>Q .next loc st
      | .Name x p=>bw (match e with
          | .ListComp _ _ sc q=>a0F fr x p sc q
          | _=>true) (cj W cal fr e loc st fun v st=>jI W cal fr (.Name x p) v loc st fun loc st=>Q .next loc st)
      | t=>cj W cal fr e loc st fun v st=>jI W cal fr t v loc st fun loc st=>Q .next loc st
    | _=>False
  | .AugAssign t op e _,loc,st,Q=>match t with
    | .Name x _=>pJ W fr x loc st fun a st=>cj W cal fr e loc st fun b st=>H0 op a b st fun v st=>iC fr x v loc st fun loc st=>Q .next loc st
    | .Subscript o i _=>cj W cal fr o loc st fun ov st=>cj W cal fr i loc st fun iv st=>ad (iP st ov iv) fun a=>bw (aT iv) (cj W cal fr e loc st fun b st=>H0 op a b st fun v st=>kh ov iv v st fun st=>Q .next loc st)
    | _=>False
  | .If t b o _,loc,st,Q=>Hp W cal fr t (cj W cal fr t) loc st fun c st=>aI c (jx fr b loc st Q) (jx fr o loc st Q)
  | .While t b els _,loc,st,Q=>match els with
    | []=>∃ n,ox (Hp W cal fr t (cj W cal fr t)) (jx fr b) (bH loc) n loc st Q
    | _=>False
  | .For t it b els pos,loc,st,Q=>match els with
    | []=>re W cal fr it (cj W cal fr it) loc st fun I st=>bw (Wn I t) (Ih (jI W cal fr t) (jx fr b) (bH loc) (Qd (W.dl pos.line) st.l) I (bU I) loc st Q)
    | _=>False
  | _,_,_,_=>False
noncomputable def jx (fr:cA):List Stmt→aF→St→aq→Prop
  | [],loc,st,Q=>Q .next loc st
  | s :: r,loc,st,Q=>II fr s loc st fun fl loc st=>match fl with
    | .next=>jx fr r loc st Q
    | .brk=>Q .brk loc st
    | .cont=>Q .cont loc st
    | .ret v=>Q (.ret v) loc st
end
end
noncomputable def dz:List (Str × NameKind)→aF→St→List (Str × Nat)→(List (Str × Nat)→St→Prop)→Prop
  | [],_,st,acc,Q=>Q acc st
  | (x,k) :: r,b,st,acc,Q=>match k with
    | .cell=>ju (aL st.l (.cell (look x b))) fun l=>dz r b ⟨l,st.u⟩ ((x,st.n) :: acc) Q
    | _=>dz r b st acc Q
noncomputable def cU (sc:Scope):aF→aF
  | []=>[]
  | (x,v) :: r=>match oP (look x sc.names) with
    | true=>(x,v) :: cU sc r
    | false=>cU sc r
noncomputable def js (all:List (Str × NameKind)):List Str→Bool
  | []=>true
  | x :: r=>match look x all with
    | some .local=>js all r
    | some .cell=>js all r
    | _=>false
noncomputable def iY:List (Str × NameKind)→Bool
  | []=>true
  | (_,k) :: r=>match k with
    | .cell=>false
    | _=>iY r
noncomputable def c7:List (Str × NameKind)→List Str
  | []=>[]
  | (x,k) :: r=>match k with
    | .cell=>x :: c7 r
    | _=>c7 r
noncomputable def lj (all:List (Str × NameKind)):List Str→Bool
  | []=>true
  | x :: r=>match look x all with
    | some .cell=>lj all r
    | _=>false
noncomputable def PD (sc:Scope):Bool:=match sc.kind with
  | .function=>match sc.isGenerator with
    | false=>!sc.isCoroutine
    | true=>false
  | _=>false
noncomputable def P0 (names:List Str) (sc:Scope):Bool:=nh (jZ names) (js sc.names names) (PD sc) (nh (jZ (c7 sc.names)) (lj sc.names (c7 sc.names)) true true)
noncomputable def gU (a:Arguments):Bool:=nh a.posonlyargs.isEmpty a.vararg.isNone a.kwonlyargs.isEmpty a.kwarg.isNone
noncomputable def qJ (names:List Str) (dflts args:List MV):Option aF :=
  if args.length≤names.length∧names.length - args.length≤dflts.length∧dflts.length≤names.length then some (names.zip (args ++ dflts.drop (dflts.length - (names.length - args.length)))) else none
set_option backward.match.sparseCases true
def OI (W:Wd) (cal:ms) (names:List Str) (dflts:List MV) (body:List Stmt) (scope:Scope) (cs:List (Str × Nat)) (args:List MV) (st:St) (Q:aE):Prop :=
  bw (P0 names scope) (ad (qJ names dflts args) fun b=>dz scope.names b st cs fun cel st=>ju (cU scope b) fun l=>jx W cal ⟨scope,cel⟩ body l st fun fl _ st=>match fl with
    | .ret v=>Q v st
    | .next=>Q .none st
    | _=>False)
noncomputable def fzR (n:Nat) (l:List MO) (v:MV):Option MV:=dn (oo v) (fun r=>aH (Zn (Nat.ble n r) (nth l r)) fun o=>dn (we o) (fun xs=>some (.fl xs)) (aH (RO o) fun p=>some (.inst none p.1 p.2))) (Zn (ce v) v)
noncomputable def fzL (n:Nat) (l:List MO):List MV→Option (List MV)
  | []=>some []
  | v :: r=>aH (fzR n l v) fun v=>aH (fzL n l r) fun r=>some (v :: r)
noncomputable def fz (n:Nat) (l:List MO) (v:MV):Option MV:=dn (jw v) (fun xs=>aH (fzL n l xs) fun xs=>some (.tup xs)) (fzR n l v)
noncomputable def ek (W:Wd) (cal:ms):ms:=fun f args st Q=>match f with
    | .fn a=>ad (W.fn a) fun F=>match F.pol with
      | .pure=>bw (aY args) (OI W cal F.names F.dflts F.body F.scope [] args ⟨[],st.u⟩ fun v s=>ad (fz 0 s.l v) fun v=>Q v ⟨st.l,s.u⟩)
      | .keep=>OI W cal F.names F.dflts F.body F.scope [] args st Q
      | .drop=>OI W cal F.names F.dflts F.body F.scope [] args st fun v s=>ad (fz (ln st.l) s.l v) fun v=>dq st.l s fun st=>Q v st
    | .clos a body scope cs=>bw (nh (gU a) (iY scope.names) true true) (OI W cal (a.args.map (·.arg)) [] body scope cs args st Q)
    | .cls C=>ad (W.cls C) fun k=>bw (aY args) (OI W cal k.init.names k.init.dflts k.init.body k.init.scope [] (.ref 0 :: args) ⟨[.obj C []],st.u⟩ fun r s=>match r with
      | .none=>match nth s.l 0 with
        | some (.obj C' fs)=>bw (Nat.beq C' C) (match k.kind with
          | .opn=>jN ⟨st.l,s.u⟩ (.obj C fs) Q
          | .val=>Q (.inst none C fs) ⟨st.l,s.u⟩
          | .mark=>Q (.inst (some s.u) C fs) ⟨st.l,s.u+1⟩)
        | _=>False
      | _=>False)
    | _=>False
noncomputable def lT (W:Wd):Nat→ms
  | 0=>fun _ _ _ _=>False
  | m+1=>ek W (lT W m)
end
end
section
inductive Tg where
  | no
  | prv (o:Obj)
  | frz (o:Obj)
  | cur (i:Nat) (o:Obj)
  | dof (i:Nat) (o:Obj)
  | fin (i:Nat) (o:Obj)
noncomputable def Tg.obj:Tg→Option Obj
  | .no=>none
  | .prv o=>some o
  | .frz o=>some o
  | .cur _ o=>some o
  | .dof _ o=>some o
  | .fin _ o=>some o
noncomputable def Tg.free:Tg→Bool
  | .no=>true
  | .prv _=>true
  | _=>false
noncomputable abbrev Gh:=Addr→Tg
noncomputable def Gh.ov (G:Gh):List (Addr × Tg)→Gh
  | [],a=>G a
  | (b,t) :: r,a=>if a=b then t else G.ov r a
theorem bg (G:Gh) (a:Addr) (t:Tg) (r:List (Addr × Tg)):G.ov ((a,t) :: r) a=t:=if_pos rfl
theorem bp (G:Gh) {a b:Addr}(t:Tg) (r:List (Addr × Tg)) (h:a≠b):G.ov ((b,t) :: r) a=G.ov r a:=if_neg h
noncomputable def All {α:Type}(P:α→Prop):List α→Prop
  | []=>True
  | x :: r=>P x∧All P r
noncomputable def km:BI→Value
  | .abs=>.builtin "abs"
  | .len=>.builtin "len"
  | .min=>.builtin "min"
  | .max=>.builtin "max"
  | .sorted=>.builtin "sorted"
  | .isinstance=>.builtin "isinstance"
  | .divmod=>.builtin "divmod"
  | .list=>.type "list"
  | .tuple=>.type "tuple"
  | .int=>.type "int"
  | .bool=>.type "bool"
  | .range=>.type "range"
  | .enumerate=>.type "enumerate"
  | .zip=>.type "zip"
noncomputable abbrev iN (vs:Array Value) (n:Nat):Obj:={ cls:=.type "tuple",data:=.seq vs n }
noncomputable abbrev bR (vs:Array Value) (n:Nat):Obj:={ cls:=.type "list",data:=.seq vs n }
def IM (o:Obj) (m:Str→Option Value):Prop:=o.cls=.type "dict"∧o.dict=none∧∃ es ep,o.data=.dict es ep∧StrKeys es∧UniqKeys es∧∀ name,nsFind es name=m name
theorem IM.ns1 {h:Heap}{a:Addr}{o:Obj}{m:Str→Option Value}(e:h.get? a=some o) (x:IM o m):h.Ns1 a m∧h.ExactDictFk a :=
  let ⟨hc,hd,es,ep,r⟩:=x; ⟨⟨o,es,ep,e,r⟩,o,e,hc,hd⟩
theorem IM.of {h:Heap}{a:Addr}{m:Str→Option Value}(x:h.Ns1 a m) (y:h.ExactDictFk a):∃ o,h.get? a=some o∧IM o m:=by
  obtain ⟨o,es,ep,e,r⟩:=x
  obtain ⟨o',e',hc,hd⟩:=y
  rw [e] at e'; cases e'
  exact ⟨o,e,hc,hd,es,ep,r⟩
def YY (C a d:Addr) (o:Obj):Prop:=o.cls=.ref C∧(∀ c,o.data≠.cls c)∧o.dict=some d∧d≠a
def ZP (args:Arguments) (body:List Stmt) (scope:Scope) (o co:Obj) (fd:FuncData) (cd:Addr):Prop:=o.data=.func fd∧fd.params=args∧fd.body=.stmts body ∧
  fd.scope=scope∧fd.defaults=.none∧fd.kwdefaults=.none∧fd.globals=mainGlobals∧fd.builtins=builtinsNs∧fd.code=.ref cd∧∃ vs t,co.data=.fields vs∧vs[1]?=some (.str fd.qualname t)
noncomputable def tgI:Option Nat→Obj→Tg
  | none,o=>.frz o
  | some i,o=>.fin i o
noncomputable def a7F (x:Str):List (Str × MV)→Option MV:=look x
mutual
noncomputable def aw (G:Gh):MV→Value→Prop
  | .none,v=>v=.none
  | .bool b,v=>v=.bool b
  | .int i,v=>∃ t,v=.int i t
  | .str x,v=>∃ t,v=.str x t
  | .tup xs,v=>∃ a vs n,v=.ref a∧G a=.frz (iN vs n)∧al G xs vs.toList
  | .fl xs,v=>∃ a vs n,v=.ref a∧G a=.frz (bR vs n)∧aY xs=true∧al G xs vs.toList
  | .inst id C fs,v=>∃ a d o od m,v=.ref a∧G a=tgI id o∧YY C a d o∧G d=.frz od∧IM od m∧(∀ x,look x fs=none→m x=none)∧eH G fs m
  | .ref i,v=>∃ a o,v=.ref a∧G a=.cur i o
  | .bi b,v=>v=km b
  | .fn a,v=>v=.ref a
  | .cls a,v=>v=.ref a
  | .clos args body scope cs,v=>∃ a o co fd cd,v=.ref a∧G a=.frz o∧G cd=.frz co∧ZP args body scope o co fd cd∧∀ x i,look x cs=some i→∃ c o,fd.closure.lookup x=some c∧G c=.cur i o
noncomputable def al (G:Gh):List MV→List Value→Prop
  | [],[]=>True
  | x :: xs,v :: vs=>aw G x v∧al G xs vs
  | _,_=>False
noncomputable def eH (G:Gh):List (Str × MV)→(Str→Option Value)→Prop
  | [],_=>True
  | (x,v) :: r,m=>((∃ mv,m x=some mv∧aw G v mv)∧ce v=true∧look x r=none)∧eH G r m
end
theorem cV {x:MV}{r:List MV}(h:aY (x :: r)=true):ce x=true∧aY r=true:=by
  unfold aY at h
  cases e:ce x with
  | true=>rw [e] at h; exact ⟨rfl,h⟩
  | false=>rw [e] at h; cases h
noncomputable abbrev mT:Nat→Prop:=fun _=>True
mutual
noncomputable def RP (P:Nat→Prop):MV→Prop
  | .ref i=>P i
  | .tup xs=>Qb P xs
  | .clos _ _ _ cs=>∀ x i,look x cs=some i→P i
  | _=>True
noncomputable def Qb (P:Nat→Prop):List MV→Prop
  | []=>True
  | x :: r=>RP P x∧Qb P r
end
mutual
theorem UF {P:Nat→Prop}(h:∀ i,P i):∀ v,RP P v
  | .ref i=>h i
  | .tup xs=>wq h xs
  | .clos _ _ _ _=>fun _ i _=>h i
  | .none=>trivial
  | .bool _=>trivial
  | .int _=>trivial
  | .str _=>trivial
  | .fl _=>trivial
  | .inst _ _ _=>trivial
  | .bi _=>trivial
  | .fn _=>trivial
  | .cls _=>trivial
theorem wq {P:Nat→Prop}(h:∀ i,P i):∀ v,Qb P v
  | []=>trivial
  | x :: r=>⟨UF h x,wq h r⟩
end
mutual
theorem sD {P:Nat→Prop}:∀ v,ce v=true→RP P v
  | .tup xs,h=>eS xs h
  | .none,_=>trivial
  | .bool _,_=>trivial
  | .int _,_=>trivial
  | .str _,_=>trivial
  | .fl _,_=>trivial
  | .inst _ _ _,_=>trivial
  | .bi _,_=>trivial
  | .fn _,_=>trivial
  | .cls _,_=>trivial
  | .ref _,h=>Bool.noConfusion h
  | .clos _ _ _ _,h=>Bool.noConfusion h
theorem eS {P:Nat→Prop}:∀ v,aY v=true→Qb P v
  | [],_=>trivial
  | x :: r,h=>⟨sD x (cV h).1,eS r (cV h).2⟩
end
structure Mo (P:Nat→Prop) (G G':Gh):Prop where
  frz:∀ a o,G a=.frz o→G' a=.frz o
  fin:∀ a i o,G a=.fin i o→G' a=.fin i o
  cur:∀ i,P i→∀ a o,G a=.cur i o→∃ o',G' a=.cur i o'
theorem Mo.tgI {P:Nat→Prop}{G G':Gh}(M:Mo P G G') {a:Addr}{o:Obj}:∀ {id:Option Nat},G a=tgI id o→G' a=tgI id o
  | none=>M.frz a o
  | some i=>M.fin a i o
mutual
theorem aw.mr {P:Nat→Prop}{G G':Gh}(M:Mo P G G'):∀ (v:MV) (mv:Value),RP P v→aw G v mv→aw G' v mv
  | .none,_,_,h=>h
  | .bool _,_,_,h=>h
  | .int _,_,_,h=>h
  | .str _,_,_,h=>h
  | .tup xs,_,p,h=>by
    obtain ⟨a,vs,n,e,g,r⟩:=h
    exact ⟨a,vs,n,e,M.frz _ _ g,al.mr M xs _ p r⟩
  | .fl xs,_,_,h=>by
    obtain ⟨a,vs,n,e,g,p,r⟩:=h
    exact ⟨a,vs,n,e,M.frz _ _ g,p,al.mr M xs _ (eS xs p) r⟩
  | .inst _ _ fs,_,_,h=>by
    obtain ⟨a,d,o,od,m,e,g,i,gd,k,l,f⟩:=h
    exact ⟨a,d,o,od,m,e,M.tgI g,i,M.frz _ _ gd,k,l,eH.mr M fs m f⟩
  | .ref _,_,p,h=>by
    obtain ⟨a,o,e,g⟩:=h
    obtain ⟨o',g'⟩:=M.cur _ p a o g
    exact ⟨a,o',e,g'⟩
  | .bi _,_,_,h=>h
  | .fn _,_,_,h=>h
  | .cls _,_,_,h=>h
  | .clos _ _ _ _,_,p,h=>by
    obtain ⟨a,o,co,fd,cd,e,g,gc,k,l⟩:=h
    refine ⟨a,o,co,fd,cd,e,M.frz _ _ g,M.frz _ _ gc,k,fun x i h=>?_⟩
    obtain ⟨c,o,q,gc⟩:=l x i h
    obtain ⟨o',g'⟩:=M.cur _ (p x i h) c o gc
    exact ⟨c,o',q,g'⟩
theorem al.mr {P:Nat→Prop}{G G':Gh}(M:Mo P G G'):∀ (xs:List MV) (vs:List Value),Qb P xs→al G xs vs→al G' xs vs
  | [],[],_,_=>trivial
  | x :: xs,v :: vs,p,h=>⟨aw.mr M x v p.1 h.1,al.mr M xs vs p.2 h.2⟩
  | [],_ :: _,_,h=>h.elim
  | _ :: _,[],_,h=>h.elim
theorem eH.mr {P:Nat→Prop}{G G':Gh}(M:Mo P G G'):∀ (fs:List (Str × MV)) (m:Str→Option Value),eH G fs m→eH G' fs m
  | [],_,_=>trivial
  | (x,v) :: r,m,h=>⟨⟨h.1.1.imp fun mv q=>⟨q.1,aw.mr M v mv (sD v h.1.2.1) q.2⟩,h.1.2⟩,eH.mr M r m h.2⟩
end
section
variable {G G':Gh}(M:Mo mT G G')
include M
theorem aw.mo {v:MV}{mv:Value}(h:aw G v mv):aw G' v mv:=h.mr M _ _ (UF (fun _=>trivial) v)
theorem al.mo {v:List MV}{mv:List Value}(h:al G v mv):al G' v mv:=h.mr M _ _ (wq (fun _=>trivial) v)
theorem eH.mo {v:List (Str × MV)}{m:Str→Option Value}(h:eH G v m):eH G' v m:=h.mr M _ _
end
end
section
structure Bs where
  p:Program
  w:World
  B:Addr→Option Obj
  os:OsState
noncomputable def Kp (l:Prop):Tg→Tg→Prop
  | .no,_=>True
  | .prv o,t=>¬ l→t=.prv o
  | .frz o,t=>t=.frz o
  | .fin i o,t=>t=.fin i o
  | .cur i _,t=>∃ o,t=.cur i o
  | .dof _ _,_=>True
def aV (L:Addr→Prop) (G G':Gh):Prop:=∀ a,Kp (L a) (G a) (G' a)
noncomputable abbrev gE:Addr→Prop:=fun _=>False
noncomputable abbrev gT (x:Addr):Addr→Prop:=fun a=>a=x
section
variable {L L':Addr→Prop}{G G' G'':Gh}{a:Addr}
theorem Kp.refl (l:Prop):∀ t,Kp l t t
  | .no=>trivial
  | .prv _=>fun _=>rfl
  | .frz _=>rfl
  | .fin _ _=>rfl
  | .cur _ o=>⟨o,rfl⟩
  | .dof _ _=>trivial
theorem aV.at (X:aV L G G') {t:Tg}(e:G a=t):Kp (L a) t (G' a):=e ▸ X a
theorem aV.frz (X:aV L G G') {o:Obj}(e:G a=.frz o):G' a=.frz o:=X.at e
theorem aV.fin (X:aV L G G') {i:Nat}{o:Obj}(e:G a=.fin i o):G' a=.fin i o:=X.at e
theorem aV.cur (X:aV L G G') {i:Nat}{o:Obj}(e:G a=.cur i o):∃ o',G' a=.cur i o':=X.at e
theorem aV.prv (X:aV L G G') {o:Obj}(e:G a=.prv o) (h:¬ L a):G' a=.prv o:=X.at e h
theorem aV.mo (X:aV L G G'):Mo mT G G':=⟨fun _ _=>X.frz,fun _ _ _=>X.fin,fun _ _ _ _=>X.cur⟩
theorem aV.refl (L:Addr→Prop) (G:Gh):aV L G G:=fun a=>Kp.refl _ _
theorem aV.tr (X:aV L G G') (Y:aV L' G' G'') (h:∀ a o,L' a→G a=.prv o→L a):aV L G G'':=fun a=>by
  cases e:G a with
  | no=>trivial
  | prv o=>exact fun l=>Y.prv (X.prv e l) fun l'=>l (h a o l' e)
  | frz o=>exact Y.frz (X.frz e)
  | fin i o=>exact Y.fin (X.fin e)
  | cur i o=>exact (X.cur e).elim fun _ e'=>Y.cur e'
  | dof i o=>trivial
theorem aV.trans (X:aV L G G') (Y:aV L G' G''):aV L G G'':=X.tr Y fun _ _ h _=>h
theorem aV.then (X:aV L G G') (Y:aV gE G' G''):aV L G G'':=X.tr Y fun _ _ h _=>h.elim
theorem aV.sub (X:aV L G G') (h:∀ a,L a→L' a):aV L' G G':=(aV.refl L' G).tr X fun a _ l _=>h a l
theorem aV.or (X:aV L G G') (Y:aV L' G' G''):aV (fun a=>L a∨L' a) G G'':=(X.sub fun _=>.inl).tr Y fun _ _ l _=>.inr l
theorem aV.weak (X:aV gE G G'):aV L G G':=(aV.refl L G).then X
theorem aw.mono (X:aV L G G') {v:MV}{mv:Value}(h:aw G v mv):aw G' v mv:=h.mo X.mo
theorem al.mono (X:aV L G G') {v:List MV}{mv:List Value}(h:al G v mv):al G' v mv:=h.mo X.mo
theorem eH.mono (X:aV L G G') {v:List (Str × MV)}{m:Str→Option Value}(h:eH G v m):eH G' v m:=h.mo X.mo
end
noncomputable def nv (G:Gh):Option MV→Option Value→Prop
  | none,none=>True
  | some x,some v=>aw G x v
  | _,_=>False
noncomputable def gY (b:Bs) (G:Gh) (i:Nat) (a:Addr):MO→Obj→Prop
  | .list xs,o=>aY xs=true∧∃ vs n,o=bR vs n∧al G xs vs.toList
  | .idict es,o=>aY (es.map (·.2))=true∧∃ kvs,o.IsDictOf (intKind b.p b.w) kvs∧kvs.map (·.1)=es.map (·.1)∧al G (es.map (·.2)) (kvs.map (·.2))
  | .sdict es,o=>∃ kvs,o.IsDictOf (strKind b.p b.w) kvs∧kvs.map (·.1)=es.map (·.1)∧al G (es.map (·.2)) (kvs.map (·.2))
  | .obj C fs,o=>∃ d od m,YY C a d o∧G d=.dof i od∧IM od m∧(∀ x,look x fs=none→m x=none)∧eH G fs m
  | .cell v,o=>∃ v',o.data=.cell v'∧nv G v v'
structure ee (b:Bs) (G:Gh) (st:St) (h:Heap):Prop where
  fact:∀ a o,(G a).obj=some o→h.get? a=some o
  base:∀ a o,b.B a=some o→G a=.frz o
  cur:∀ i mo,nth st.l i=some mo→∃ a o,G a=.cur i o∧gY b G i a mo o
  uni:∀ a c i o o',G a=.cur i o→G c=.cur i o'→a=c
  bnd:∀ a i o,G a=.cur i o→i<ln st.l
  fun1:∀ a c i o o',G a=.fin i o→G c=.fin i o'→a=c
  fbnd:∀ a i o,G a=.fin i o→i<st.u
section
variable {b:Bs}{G G':Gh}{st:St}{h h':Heap}{a:Addr}{i:Nat}{o:Obj}{L:Addr→Prop}
theorem nv.mo (M:Mo mT G G'):∀ {v:Option MV}{v':Option Value},nv G v v'→nv G' v v'
  | none,none,h=>h
  | some _,some _,h=>aw.mo M h
  | none,some _,h=>h.elim
  | some _,none,h=>h.elim
theorem gY.mo (M:Mo mT G G') (hd:∀ d od,G d=.dof i od→G' d=.dof i od):∀ {mo:MO},gY b G i a mo o→gY b G' i a mo o
  | .list _,h=>⟨h.1,h.2.imp fun vs=>Exists.imp fun n h=>⟨h.1,h.2.mo M⟩⟩
  | .idict _,h=>⟨h.1,h.2.imp fun kvs h=>⟨h.1,h.2.1,h.2.2.mo M⟩⟩
  | .sdict _,h=>h.imp fun kvs h=>⟨h.1,h.2.1,h.2.2.mo M⟩
  | .obj _ _,h=>h.imp fun d=>Exists.imp fun od=>Exists.imp fun m h=>⟨h.1,hd _ _ h.2.1,h.2.2.1,h.2.2.2.1,h.2.2.2.2.mo M⟩
  | .cell _,h=>h.imp fun v' h=>⟨h.1,h.2.mo M⟩
theorem ee.at (R:ee b G st h) {t:Tg}(e:G a=t) (ht:t.obj=some o):h.get? a=some o:=R.fact a o (e ▸ ht)
theorem ee.no (R:ee b G st h) {c:Nat}(hc:h.objs.size≤c):G c=.no:=by
  cases e:G c with
  | no=>rfl
  | _=>exact absurd (Heap.lt_size (R.at e rfl)) (Nat.not_lt.mpr hc)
noncomputable def Tg.lay (h':Heap) (a:Addr):Tg→Prop
  | .no=>True
  | .prv o=>h'.get? a=some o
  | .frz o=>h'.get? a=some o
  | _=>False
theorem Tg.lay_at {h':Heap}{a:Addr}{o:Obj}:∀ {t:Tg},t.lay h' a→t.obj=some o→h'.get? a=some o
  | .no,_,e=>nomatch e
  | .prv _,h,e=>Eq.trans h e
  | .frz _,h,e=>Eq.trans h e
  | .cur _ _,h,_=>False.elim h
  | .dof _ _,h,_=>False.elim h
  | .fin _ _,h,_=>False.elim h
def XD (h h':Heap) (a:Addr) (t t':Tg):Prop:=(t'=t∧∀ o,h.get? a=some o→h'.get? a=some o)∨(t.free=true∧t'.lay h' a)
theorem XD.nf {t t':Tg}(s:XD h h' a t t') (f:t.free=false):t'=t:=s.elim And.left fun k=>absurd k.1 (f ▸ nofun)
theorem XD.bk {t t':Tg}(s:XD h h' a t t') (f:¬ t'.lay h' a):t=t':=s.elim (fun k=>k.1.symm) fun k=>absurd k.2 f
theorem XD.frz {t':Tg}(s:XD h h' a (.frz o) t'):t'=.frz o:=s.nf rfl
theorem ee.step (R:ee b G st h) (hs:∀ a,XD h h' a (G a) (G' a)):ee b G' st h'∧Mo mT G G':=by
  have nf:∀ {a t},G a=t→t.free=false→G' a=t:=fun {a t} e f=>by have:=hs a; rw [e] at this; exact this.nf f
  have bc:∀ {a i o},G' a=.cur i o→G a=.cur i o:=fun {a i o} e=>by have:=hs a; rw [e] at this; exact this.bk id
  have bf:∀ {a i o},G' a=.fin i o→G a=.fin i o:=fun {a i o} e=>by have:=hs a; rw [e] at this; exact this.bk id
  have M:Mo mT G G':=⟨fun a o e=>nf e rfl,fun a i o e=>nf e rfl,fun _ a i o e=>⟨o,nf e rfl⟩⟩
  have cu:∀ i mo,nth st.l i=some mo→∃ a o,G' a=.cur i o∧gY b G' i a mo o:=fun i mo e=>by
    obtain ⟨a,o,g,r⟩:=R.cur i mo e
    exact ⟨a,o,nf g rfl,r.mo M fun d od e=>nf e rfl⟩
  have fa:∀ a o,(G' a).obj=some o→h'.get? a=some o:=fun a o e=>(hs a).elim (fun k=>k.2 _ (R.fact a o (by rw [← k.1]; exact e))) fun k=>Tg.lay_at k.2 e
  exact ⟨⟨fa,fun a o e=>nf (R.base a o e) rfl,cu,fun a c i o o' e e'=>R.uni a c i o o' (bc e) (bc e'),fun a i o e=>R.bnd a i o (bc e),fun a c i o o' e e'=>R.fun1 a c i o o' (bf e) (bf e'),fun a i o e=>R.fbnd a i o (bf e)⟩,M⟩
theorem aV.of {G G':Gh}(M:Mo mT G G') (hp:∀ a o,¬ L a→G a=.prv o→G' a=.prv o):aV L G G':=fun a=>by
  cases e:G a with
  | no=>trivial
  | prv o=>exact fun l=>hp a o l e
  | frz o=>exact M.frz _ _ e
  | fin i o=>exact M.fin _ _ _ e
  | cur i o=>exact M.cur _ trivial _ _ e
  | dof i o=>trivial
def Lay (G:Gh) (h':Heap) (p:Addr × Tg):Prop:=(G p.1).free=true∧p.2.lay h' p.1
theorem Jp (a:Addr):∀ (l:List (Addr × Tg)),(∃ p∈l,a=p.1∧G.ov l a=p.2)∨(All (fun p=>a≠p.1) l∧G.ov l a=G a)
  | []=>.inr ⟨trivial,rfl⟩
  | p :: r=>by
    by_cases e:a=p.1
    · exact .inl ⟨p,List.mem_cons_self,e,if_pos e⟩
    · have k:G.ov (p :: r) a=G.ov r a:=if_neg e
      rw [k]
      exact (Jp a r).imp (fun ⟨q,h1,h2⟩=>⟨q,List.mem_cons_of_mem _ h1,h2⟩) fun h=>⟨⟨e,h.1⟩,h.2⟩
theorem All.mem {α:Type}{P:α→Prop}{x:α}:∀ {l:List α},All P l→x∈l→P x
  | y :: r,h,m=>(List.mem_cons.mp m).elim (fun e=>e ▸ h.1) fun m=>All.mem h.2 m
theorem ee.ov (R:ee b G st h) {l:List (Addr × Tg)}(hl:All (Lay G h') l) (hk:∀ c o,All (fun p=>c≠p.1) l→h.get? c=some o→h'.get? c=some o) (hL:All (fun p=>L p.1∨G p.1=.no) l):ee b (G.ov l) st h'∧aV L G (G.ov l):=by
  have M:=R.step (G':=G.ov l) (h':=h') fun a=>by
    rcases Jp (G:=G) a l with ⟨p,hp,rfl,e⟩ | ⟨q,e⟩
    · rw [e]; exact .inr (hl.mem hp)
    · rw [e]; exact .inl ⟨rfl,fun o=>hk a o q⟩
  refine ⟨M.1,aV.of M.2 fun a o hn e=>?_⟩
  rcases Jp (G:=G) a l with ⟨p,hp,rfl,_⟩ | ⟨_,k⟩
  · exact (hL.mem hp).elim (fun k=>absurd k hn) fun k=>by rw [k] at e; cases e
  · exact k.trans e
theorem ee.keep (R:ee b G st h) (hk:∀ b o,h.get? b=some o→h'.get? b=some o):ee b G st h':=(R.step fun a=>.inl ⟨rfl,hk a⟩).1
end
end
section
section
variable {α:Type}
theorem u6 (x:α):∀ (l:List α) (i:Nat),nth (aL l x) i=if i=ln l then some x else nth l i
  | [],0=>rfl
  | [],_+1=>rfl
  | _ :: r,0=>rfl
  | _ :: r,i+1=>by
    show nth (aL r x) i=if i+1=ln r+1 then some x else nth r i
    rw [u6 x r i]; simp only [Nat.add_right_cancel_iff]
theorem Xk:∀ {l:List α}{i:Nat}{x:α},nth l i=some x→i<ln l
  | _ :: _,0,_,_=>Nat.zero_lt_succ _
  | _ :: _,_+1,_,h=>Nat.succ_lt_succ (Xk h)
theorem Bz (x:α):∀ (l:List α) (i j:Nat),nth (upd l i x) j=if j=i then (nth l i).map (fun _=>x) else nth l j
  | [],i,j=>by split <;> rfl
  | _ :: _,0,0=>rfl
  | _ :: _,0,_+1=>rfl
  | _ :: _,_+1,0=>rfl
  | _ :: r,i+1,j+1=>by
    show nth (upd r i x) j=if j+1=i+1 then _ else nth r j
    rw [Bz x r i j]; simp only [Nat.add_right_cancel_iff]; rfl
theorem sC (x:α):∀ l:List α,ln (aL l x)=ln l+1
  | []=>rfl
  | _ :: r=>congrArg (·+1) (sC x r)
theorem Mw (x:α):∀ (l:List α) (i:Nat),ln (upd l i x)=ln l
  | [],_=>rfl
  | _ :: _,0=>rfl
  | _ :: r,i+1=>congrArg (·+1) (Mw x r i)
theorem b9:∀ (l:List α) (k:List α→Prop),ju l k=k l
  | [],_=>rfl
  | a :: r,k=>b9 r fun r'=>k (a :: r')
end
theorem gH (G:Gh) (a:Addr) (t:Tg):G.ov [(a,t)] a=t:=if_pos rfl
theorem bO (G:Gh) {a c:Addr}(t:Tg) (h:c≠a):G.ov [(a,t)] c=G c:=if_neg h
section
variable {b:Bs}{G G':Gh}{st:St}{h h':Heap}{a d:Addr}{i:Nat}{o od od' o':Obj}{L:Addr→Prop}{mo:MO}
theorem ee.any {st':St}(R:ee b G st h) (M:Mo mT G G') (hf:∀ a o,(G' a).obj=some o→h'.get? a=some o) (hc:∀ i mo,nth st'.l i=some mo→∃ a o,G' a=.cur i o∧gY b G' i a mo o) (hu:st'.u=st.u) (hn:ln st.l≤ln st'.l)
    (bc:∀ c i o,G' c=.cur i o→(∃ o',G c=.cur i o')∨(c=a∧i=ln st.l∧ln st.l<ln st'.l)) (bf:∀ c i o,G' c=.fin i o→G c=.fin i o):ee b G' st' h':=by
  refine ⟨hf,fun a o e=>M.frz _ _ (R.base a o e),hc,fun c1 c2 i o1 o2 e1 e2=>?_,fun c i o e=>?_,fun c1 c2 i o1 o2 e1 e2=>R.fun1 _ _ _ _ _ (bf _ _ _ e1) (bf _ _ _ e2),fun c i o e=>hu ▸ R.fbnd _ _ _ (bf _ _ _ e)⟩
  · rcases bc _ _ _ e1 with ⟨_,k1⟩ | ⟨k1,z1,_⟩ <;> rcases bc _ _ _ e2 with ⟨_,k2⟩ | ⟨k2,z2,_⟩
    · exact R.uni _ _ _ _ _ k1 k2
    · exact absurd (R.bnd _ _ _ k1) (by rw [z2]; exact Nat.lt_irrefl _)
    · exact absurd (R.bnd _ _ _ k2) (by rw [z1]; exact Nat.lt_irrefl _)
    · exact k1.trans k2.symm
  · rcases bc _ _ _ e with ⟨_,k⟩ | ⟨_,z,l⟩
    · exact Nat.lt_of_lt_of_le (R.bnd _ _ _ k) hn
    · rw [z]; exact l
def IO (t t':Tg) (i n:Nat):Prop:=(t.free=true∧(∃ o,t'=.cur n o)∧i=n)∨(∃ o o',t=.cur i o∧t'=.cur i o')∨∃ o o',t=.dof i o∧t'=.dof i o'
theorem IO.m {t t':Tg}{n:Nat}(T:IO t t' i n) (e:G a=t):Mo mT G (G.ov [(a,t')]):=by
  refine ⟨fun c o g=>?_,fun c j o g=>?_,fun j _ c o g=>?_⟩ <;> by_cases q:c=a
  · rw [q,e] at g; rw [g] at T; rcases T with ⟨k,_⟩ | ⟨_,_,k,_⟩ | ⟨_,_,k,_⟩ <;> cases k
  · rw [bO G _ q]; exact g
  · rw [q,e] at g; rw [g] at T; rcases T with ⟨k,_⟩ | ⟨_,_,k,_⟩ | ⟨_,_,k,_⟩ <;> cases k
  · rw [bO G _ q]; exact g
  · rw [q,e] at g; rw [g] at T; rcases T with ⟨k,_⟩ | ⟨_,o',k,k'⟩ | ⟨_,_,k,_⟩ <;> cases k
    exact ⟨o',by rw [q,gH,k']⟩
  · exact ⟨o,by rw [bO G _ q]; exact g⟩
theorem IO.bf {t t':Tg}{n:Nat}(T:IO t t' i n) {c:Addr}{j:Nat}{o:Obj}(g:G.ov [(a,t')] c=.fin j o):G c=.fin j o:=by
  by_cases q:c=a
  · rw [q,gH] at g; rw [g] at T; rcases T with ⟨_,⟨_,k⟩,_⟩ | ⟨_,_,_,k⟩ | ⟨_,_,_,k⟩ <;> cases k
  · rw [bO G _ q] at g; exact g
theorem IO.bc {t t':Tg}{n:Nat}(T:IO t t' i n) (e:G a=t) {c:Addr}{j:Nat}{o:Obj}(g:G.ov [(a,t')] c=.cur j o):(∃ o',G c=.cur j o')∨(c=a∧j=n∧i=n∧t.free=true):=by
  by_cases q:c=a
  · rw [q,gH] at g; rw [g] at T; rcases T with ⟨f,⟨_,k⟩,z⟩ | ⟨o,_,k',k⟩ | ⟨_,_,_,k⟩ <;> cases k
    · exact .inr ⟨q,rfl,z,f⟩
    · exact .inl ⟨o,by rw [q,e,k']⟩
  · rw [bO G _ q] at g; exact .inl ⟨o,g⟩
theorem IO.fact {t':Tg}(R:ee b G st h) (ho:t'.obj=some o') (ha:h'.get? a=some o') (hk:∀ c o,c≠a→h.get? c=some o→h'.get? c=some o) (c:Addr) (o:Obj) (e:(G.ov [(a,t')] c).obj=some o):h'.get? c=some o:=by
  by_cases q:c=a
  · rw [q,gH,ho] at e; rw [q,← e]; exact ha
  · rw [bO G _ q] at e; exact hk c o q (R.fact c o e)
theorem Gd {c:Addr}{t t':Tg}(e:G a=t) (g:G c=t') (n:t≠t'):c≠a:=fun q=>by rw [q,e] at g; exact n g
theorem ee.new1 (R:ee b G st h) (f:(G a).free=true) (ha:h'.get? a=some o) (hk:∀ c o,c≠a→h.get? c=some o→h'.get? c=some o) (hr:Mo mT G (G.ov [(a,.cur (ln st.l) o)])→gY b (G.ov [(a,.cur (ln st.l) o)]) (ln st.l) a mo o) :
    ee b (G.ov [(a,.cur (ln st.l) o)]) ⟨aL st.l mo,st.u⟩ h'∧aV (gT a) G (G.ov [(a,.cur (ln st.l) o)]):=by
  have T:IO (G a) (.cur (ln st.l) o) (ln st.l) (ln st.l):=.inl ⟨f,⟨o,rfl⟩,rfl⟩
  have M:=T.m rfl
  have nf:∀ {c t},G c=t→t.free=false→c≠a:=fun {c t} e k q=>by rw [← e,q,f] at k; cases k
  refine ⟨R.any (a:=a) M (IO.fact R rfl ha hk) (fun i mo' e=>?_) rfl (Nat.le_of_lt (Nat.lt_of_lt_of_eq (Nat.lt_succ_self _) (sC mo st.l).symm)) (fun c i o e=>(T.bc rfl e).imp id fun k=>⟨k.1,k.2.1,Nat.lt_of_lt_of_eq (Nat.lt_succ_self _) (sC mo st.l).symm⟩) fun c i o=>T.bf,aV.of M fun c o' hc e=>(bO G _ hc).trans e⟩
  have e:=(u6 mo st.l i).symm.trans e
  by_cases q:i=ln st.l
  · rw [if_pos q] at e; cases e; subst q
    exact ⟨a,o,gH ..,hr M⟩
  · rw [if_neg q] at e
    obtain ⟨c,o',g,r⟩:=R.cur i mo' e
    exact ⟨c,o',(bO G _ (nf g rfl)).trans g,r.mo M fun d od g=>(bO G _ (nf g rfl)).trans g⟩
theorem ee.new (R:ee b G st h) (f:(G a).free=true) (ha:h'.get? a=some o) (hk:∀ c o,c≠a→h.get? c=some o→h'.get? c=some o) (hr:∀ G',G' a=.cur (ln st.l) o→Mo mT G G'→gY b G' (ln st.l) a mo o) :
    ee b (G.ov [(a,.cur (ln st.l) o)]) ⟨aL st.l mo,st.u⟩ h'∧aV (gT a) G (G.ov [(a,.cur (ln st.l) o)]):=R.new1 f ha hk fun M=>hr _ (gH ..) M
theorem ee.chg (R:ee b G st h) {t t':Tg}(e:G a=t) (T0:(∃ o o',t=.cur i o∧t'=.cur i o')∨∃ o o',t=.dof i o∧t'=.dof i o') (ho:t'.obj=some o') (ha:h'.get? a=some o') (hk:∀ c o,c≠a→h.get? c=some o→h'.get? c=some o) (hr:∀ G' c o,G'=G.ov [(a,t')]→Mo mT G G'→G' c=.cur i o→gY b G' i c mo o) :
    ee b (G.ov [(a,t')]) ⟨upd st.l i mo,st.u⟩ h'∧aV gE G (G.ov [(a,t')]):=by
  have T:IO t t' i (ln st.l):=.inr T0
  have M:=T.m e
  have nfr:t.free=false:=by
    rcases T0 with ⟨_,_,k,_⟩ | ⟨_,_,k,_⟩ <;> rw [k] <;> rfl
  refine ⟨R.any (a:=a) M (IO.fact R ho ha hk) (fun j mo' q=>?_) rfl (Nat.le_of_eq (Mw mo st.l i).symm) (fun c i o g=>(T.bc e g).imp id fun k=>by rw [nfr] at k; exact absurd k.2.2.2 nofun) fun c i o=>T.bf,aV.of M fun c o _ g=>(bO G _ (Gd e g fun z=>by rw [z] at nfr; cases nfr)).trans g⟩
  have q:=(Bz mo st.l i j).symm.trans q
  by_cases k:j=i
  · subst k
    rw [if_pos rfl] at q
    obtain ⟨mo1,q1,rfl⟩:=Option.map_eq_some_iff.mp q
    obtain ⟨c,o,g,r⟩:=R.cur _ _ q1
    obtain ⟨o1,g1⟩:=M.cur _ trivial _ _ g
    exact ⟨c,o1,g1,hr _ c o1 rfl M g1⟩
  · rw [if_neg k] at q
    obtain ⟨c,o,g,r⟩:=R.cur _ _ q
    have n:∀ {t1},t1=.cur j o∨(∃ o,t1=.dof j o)→t≠t1:=fun {t1} z w=>by
      rcases T0 with ⟨_,_,z1,_⟩ | ⟨_,_,z1,_⟩
      · rcases z with z | ⟨_,z⟩ <;> (rw [z1,z] at w; cases w)
        exact k rfl
      · rcases z with z | ⟨_,z⟩ <;> (rw [z1,z] at w; cases w)
        exact k rfl
    exact ⟨c,o,(bO G _ (Gd e g (n (.inl rfl)))).trans g,r.mo M fun d od gd=>(bO G _ (Gd e gd (n (.inr ⟨_,rfl⟩)))).trans gd⟩
end
end
section
section
variable {α β:Type}{o:Option α}{C L:Prop}
theorem aj {K:α→Prop}(h:ad o K) (c:∀ x,o=some x→K x→C):C:=match o,h with
  | some x,h=>c x rfl h
theorem du {K:α→Prop}(h:kH o K L) (c:∀ x,o=some x→K x→C) (d:L→C):C:=match o,h with
  | some x,h=>c x rfl h
  | none,h=>d h
theorem ao {f:α→Option β}{y:β}(h:aH o f=some y) (c:∀ x,o=some x→f x=some y→C):C:=match o,h with
  | some x,h=>c x rfl h
theorem be {f:α→Option β}{g:Option β}{y:β}(h:dn o f g=some y) (c:∀ x,o=some x→f x=some y→C) (d:g=some y→C):C:=match o,h with
  | some x,h=>c x rfl h
  | none,h=>d h
theorem kE {f:α→Option β}{g:Option β}{y:β}(h:dn o f g=some y) (c:∀ x,o=some x→f x=some y→C) (d:o=none→g=some y→C):C:=match o,h with
  | some x,h=>c x rfl h
  | none,h=>d rfl h
theorem fT {f:α→β}{y:β}(h:o.map f=some y) (c:∀ x,o=some x→f x=y→C):C:=match o,h with
  | some x,h=>c x rfl (Option.some.inj h)
theorem pA {c:Bool}{x y:α}(h:Zn c x=some y) (k:c=true→x=y→C):C:=match c,h with
  | true,h=>k rfl (Option.some.inj h)
theorem aQ {c:Bool}{p:Prop}(h:bw c p) (k:c=true→p→C):C:=match c,h with
  | true,h=>k rfl h
theorem nn {x:α}(h:none=some x):C:=nomatch h
end
theorem XX {a b:Nat}{x y:List Nat}:Kh (a :: x) (b :: y)=match Nat.beq a b with
    | true=>Kh x y
    | false=>false:=rfl
theorem ew {α:Type}{x y:Str}{v:α}{r:List (Str × α)}:look x ((y,v) :: r)=match bB y x with
    | true=>some v
    | false=>look x r:=rfl
theorem wO {α:Type}{x y:Str}{v w:α}{r:List (Str × α)}:setL x v ((y,w) :: r)=match bB y x with
    | true=>(y,v) :: r
    | false=>(y,w) :: setL x v r:=rfl
theorem BK:∀ a b:List Nat,Kh a b=true↔a=b
  | [],[]=>⟨fun _=>rfl,fun _=>rfl⟩
  | [],_ :: _=>⟨nofun,nofun⟩
  | _ :: _,[]=>⟨nofun,nofun⟩
  | a :: x,b :: y=>by
    rw [XX]
    cases e:Nat.beq a b with
    | true=>simp only [List.cons.injEq,BK x y,Nat.eq_of_beq_eq_true e,true_and]
    | false=>simp only [Bool.false_eq_true,List.cons.injEq,Nat.ne_of_beq_eq_false e,false_and]
theorem b7:∀ a b:Str,bB a b=true↔a=b
  | ⟨⟨a⟩⟩,⟨⟨b⟩⟩=>(BK a b).trans ⟨fun h=>h ▸ rfl,fun h=>by cases h; rfl⟩
theorem dI (a:Str):bB a a=true:=(b7 a a).mpr rfl
theorem gA {a b:Str}(h:bB a b=false):a≠b:=fun e=>by rw [e,dI] at h; cases h
theorem b8 {α:Type}(x:Str):∀ l:List (Str × α),look x l=l.lookup x
  | []=>rfl
  | (y,v) :: r=>by
    rw [List.lookup_cons,ew]
    cases e:bB y x with
    | true=>rw [(b7 y x).mp e,beq_self_eq_true]
    | false=>rw [beq_eq_false_iff_ne.mpr (gA e).symm]; exact b8 x r
theorem jm {α:Type}(x:Str) (v:α) (y:Str):∀ l:List (Str × α),look y (setL x v l)=if y=x then some v else look y l
  | []=>by
    show look y [(x,v)]=_
    rw [ew]
    by_cases h:y=x
    · rw [h,dI,if_pos rfl]
    · rw [if_neg h]; cases e:bB x y with
      | true=>exact absurd ((b7 _ _).mp e).symm h
      | false=>rfl
  | (z,w) :: r=>by
    rw [wO]
    cases e:bB z x with
    | true =>
      rw [(b7 _ _).mp e]
      show look y ((x,v) :: r)=if y=x then some v else look y ((x,w) :: r)
      rw [ew,ew]
      by_cases h:y=x
      · rw [h,dI,if_pos rfl]
      · cases e:bB x y with
        | true=>exact absurd ((b7 _ _).mp e).symm h
        | false=>rw [if_neg h]
    | false =>
      show look y ((z,w) :: setL x v r)=_
      rw [ew,ew]
      cases k:bB z y with
      | true=>rw [if_neg fun q=>gA e (((b7 _ _).mp k).trans q)]
      | false=>exact jm x v y r
structure Ok (b:Bs) (G:Gh) (st:St) (s:Shared):Prop where
  rep:ee b G st s.heap
  gens:s.gens=#[]
  os:s.os=b.os
structure Cx extends Bs where
  A:Around
  W:Wd
  cal:ms
  E:Value→Shared→Prop
noncomputable abbrev wp (X:Cx) {α:Type}(m:Sem α) (Q:α→Shared→Prop) (s:Shared):Prop:=wpAny (model X.p X.w) X.A m Q X.E s
def KV (X:Cx) (G:Gh) (Q:aE) (Φ:Value→Shared→Prop):Prop:=∀ v s' G' st' mv,Ok X.1 G' st' s'→aV gE G G'→aw G' mv v→Q mv st'→Φ v s'
def KU (X:Cx) (G:Gh) (Q:St→Prop) (Φ:Shared→Prop):Prop:=∀ s' G' st',Ok X.1 G' st' s'→aV gE G G'→Q st'→Φ s'
section
variable {X:Cx}{b:Bs}{G G':Gh}{st:St}{s:Shared}{Q:aE}{Φ:Value→Shared→Prop}{v va vb:Value}{a c mv:MV}{i:Nat}{x:Addr}{o:Obj}{mo:MO}
theorem Ok.toks (R:Ok b G st s) (t:Nat):Ok b G st { s with toks:=t }:=⟨R.rep,R.gens,R.os⟩
theorem Ok.heap {st':St}{h':Heap}(R:Ok b G st s) (r:ee b G' st' h') (t:Nat):Ok b G' st' { s with heap:=h',toks:=t }:=⟨r,R.gens,R.os⟩
theorem Ok.frz (R:Ok b G st s) (e:G x=.frz o):s.heap.get? x=some o:=R.rep.at e rfl
theorem Ok.prv (R:Ok b G st s) (e:G x=.prv o):s.heap.get? x=some o:=R.rep.at e rfl
theorem Ok.curO (R:Ok b G st s) (e:G x=.cur i o):s.heap.get? x=some o:=R.rep.at e rfl
theorem Ok.base (R:Ok b G st s) (e:b.B x=some o):s.heap.get? x=some o:=R.frz (R.rep.base _ _ e)
theorem Ok.keep (R:Ok b G st s) {h':Heap}(hk:∀ b o,s.heap.get? b=some o→h'.get? b=some o):Ok b G st { s with heap:=h' }:=⟨R.rep.keep hk,R.gens,R.os⟩
theorem kz (R:Ok X.1 G st s) (k:KV X G Q Φ) (V:aw G mv v) (q:Q mv st):Φ v s:=k v s G st mv R (aV.refl gE G) V q
theorem kI (R:Ok X.1 G st s) (k:KV X G Q Φ) {x:Int}(q:Q (.int x) st) (t:Tok) (tk:Nat):Φ (.int x t) { s with toks:=tk }:=kz (mv:=.int x) (R.toks tk) k ⟨t,rfl⟩ q
theorem kB (R:Ok X.1 G st s) (k:KV X G Q Φ) {x:Bool}(q:Q (.bool x) st):Φ (.bool x) s:=kz (mv:=.bool x) R k rfl q
theorem Ok.push (R:Ok b G st s) (o:Obj) (hf:o.isFreed=false) (t:Nat):Ok b (G.ov [(s.heap.objs.size,.frz o)]) st { s with heap:=s.heap.push o,toks:=t }∧aV gE G (G.ov [(s.heap.objs.size,.frz o)]) :=
  have n:=R.rep.no (Nat.le_refl _)
  let r:=R.rep.ov (L:=gE) (l:=[(s.heap.objs.size,.frz o)]) ⟨⟨by rw [n]; rfl,Heap.get?_push_size _ hf⟩,trivial⟩ (fun c o _ e=>Heap.get?_push_of_some _ e) ⟨.inr n,trivial⟩
  ⟨R.heap r.1 t,r.2⟩
theorem J4 (R:Ok X.1 G st s) (k:KV X G Q Φ) {xs:List MV}{vs:Array Value}(V:al G xs vs.toList) (q:Q (.tup xs) st) (t:Nat):Φ (.ref s.heap.objs.size) { s with heap:=s.heap.push (iN vs 0),toks:=t } :=
  let r:=R.push (iN vs 0) rfl t
  k _ _ _ _ (.tup xs) r.1 r.2 ⟨_,vs,0,rfl,gH ..,V.mono r.2⟩ q
theorem kFl (R:Ok X.1 G st s) (k:KV X G Q Φ) {xs:List MV}{vs:Array Value}(p:aY xs=true) (V:al G xs vs.toList) (q:Q (.fl xs) st) (t:Nat):Φ (.ref s.heap.objs.size) { s with heap:=s.heap.push (bR vs 0),toks:=t } :=
  let r:=R.push (bR vs 0) rfl t
  k _ _ _ _ (.fl xs) r.1 r.2 ⟨_,vs,0,rfl,gH ..,p,V.mono r.2⟩ q
theorem ZC (R:Ok X.1 G st s) (k:KV X G Q Φ) (hf:o.isFreed=false) (hr:∀ G',G' s.heap.objs.size=.cur (ln st.l) o→Mo mT G G'→gY X.1 G' (ln st.l) s.heap.objs.size mo o) (q:jN st mo Q) (t:Nat):Φ (.ref s.heap.objs.size) { s with heap:=s.heap.push o,toks:=t }:=by
  have n:=R.rep.no (Nat.le_refl _)
  have r:=R.rep.new (by rw [n]; rfl) (Heap.get?_push_size _ hf) (fun c o _ e=>Heap.get?_push_of_some _ e) hr
  unfold jN at q
  rw [b9] at q
  exact k _ _ _ _ (.ref (ln st.l)) (R.heap r.1 t) (fun c=>by by_cases e:c=s.heap.objs.size; rw [e,n]; trivial; exact aV.of r.2.mo (fun a o _ g=>(r.2.prv g fun z=>by rw [z,n] at g; cases g)) c) ⟨_,_,rfl,gH ..⟩ q
theorem Ok.cur {C:Value→Prop}(R:Ok b G st s) (V:aw G (.ref i) v) (e:nth st.l i=some mo) (c:∀ a o,G a=.cur i o→gY b G i a mo o→s.heap.get? a=some o→C (.ref a)):C v:=by
  obtain ⟨a,o,e1,r⟩:=R.rep.cur i mo e
  obtain ⟨a',o',rfl,e2⟩:=V
  cases R.rep.uni _ _ _ _ _ e1 e2
  exact c _ _ e1 r (R.curO e1)
theorem al.length {G:Gh}:∀ {xs:List MV}{vs:List Value},al G xs vs→xs.length=vs.length
  | [],[],_=>rfl
  | _ :: _,_ :: _,h=>congrArg (·+1) h.2.length
  | [],_ :: _,h=>h.elim
  | _ :: _,[],h=>h.elim
theorem al.size {xs:List MV}{vs:Array Value}(h:al G xs vs.toList):xs.length=vs.size:=h.length.trans Array.length_toList
theorem al.append {G:Gh}:∀ {xs:List MV}{vs:List Value}{ys:List MV}{ws:List Value},al G xs vs→al G ys ws→al G (xs ++ ys) (vs ++ ws)
  | [],[],_,_,_,h=>h
  | _ :: _,_ :: _,_,_,h,h'=>⟨h.1,al.append h.2 h'⟩
  | [],_ :: _,_,_,h,_=>h.elim
  | _ :: _,[],_,_,h,_=>h.elim
theorem fA:∀ {xs ys:List MV},aY xs=true→aY ys=true→aY (xs ++ ys)=true
  | [],_,_,h=>h
  | x :: xs,ys,h,h'=>by
    have k:=cV h
    show (match ce x with | true=>aY (xs ++ ys) | false=>false)=true
    rw [k.1]; exact fA k.2 h'
theorem PR {a:MV}{x:Unit}(h:ua a=some x):a=.none:=by
  cases a with
  | none=>rfl
  | _=>exact nn h
theorem PU {a:MV}{x:Bool}(h:oY a=some x):a=.bool x:=by
  cases a with
  | bool=>rw [Option.some.inj h]
  | _=>exact nn h
theorem nA {a:MV}{x:Int}(h:ga a=some x):a=.int x:=by
  cases a with
  | int=>rw [Option.some.inj h]
  | _=>exact nn h
theorem Sg {a:MV}{x:Str}(h:q8 a=some x):a=.str x:=by
  cases a with
  | str=>rw [Option.some.inj h]
  | _=>exact nn h
theorem GS {a:MV}{x:List MV}(h:jw a=some x):a=.tup x:=by
  cases a with
  | tup=>rw [Option.some.inj h]
  | _=>exact nn h
theorem XB {a:MV}{x:List MV}(h:yn a=some x):a=.fl x:=by
  cases a with
  | fl=>rw [Option.some.inj h]
  | _=>exact nn h
theorem sq {a:MV}{x:Nat}(h:oo a=some x):a=.ref x:=by
  cases a with
  | ref=>rw [Option.some.inj h]
  | _=>exact nn h
theorem Xz {a:MV}{x:BI}(h:biO a=some x):a=.bi x:=by
  cases a with
  | bi=>rw [Option.some.inj h]
  | _=>exact nn h
theorem tI {a:MV}{x:Nat}(h:PL a=some x):∃ C fs,a=.inst (some x) C fs:=by
  cases a with
  | inst id C fs=>cases id with
    | none=>exact nn h
    | some i=>exact ⟨C,fs,by rw [Option.some.inj h]⟩
  | _=>exact nn h
theorem NV {a:MV}{p:Addr × List (Str × MV)}(h:VV a=some p):∃ id,a=.inst id p.1 p.2:=by
  cases a with
  | inst id C fs=>exact ⟨id,by rw [← Option.some.inj h]⟩
  | _=>exact nn h
theorem kM {k:Int}{n:Nat}(h:Xg k=some n):k=n:=by
  cases k with
  | ofNat m=>rw [Option.some.inj h]; rfl
  | negSucc m=>exact nn h
theorem jr {o:Option MO}{x:List MV}(h:we o=some x):o=some (.list x):=by
  cases o with
  | none=>exact nn h
  | some mo=>cases mo with
    | list=>rw [Option.some.inj h]
    | _=>exact nn h
theorem nI {o:Option MO}{x:List (Int × MV)}(h:LZ o=some x):o=some (.idict x):=by
  cases o with
  | none=>exact nn h
  | some mo=>cases mo with
    | idict=>rw [Option.some.inj h]
    | _=>exact nn h
theorem OW {o:Option MO}{x:List (Str × MV)}(h:sdO o=some x):o=some (.sdict x):=by
  cases o with
  | none=>exact nn h
  | some mo=>cases mo with
    | sdict=>rw [Option.some.inj h]
    | _=>exact nn h
theorem rh {o:Option MO}{p:Addr × List (Str × MV)}(h:RO o=some p):o=some (.obj p.1 p.2):=by
  cases o with
  | none=>exact nn h
  | some mo=>cases mo with
    | obj=>rw [← Option.some.inj h]
    | _=>exact nn h
theorem yk {o:Option MO}{x:Option MV}(h:JU o=some x):o=some (.cell x):=by
  cases o with
  | none=>exact nn h
  | some mo=>cases mo with
    | cell=>rw [Option.some.inj h]
    | _=>exact nn h
theorem oS {C:Value→Prop}{x:Unit}(V:aw G a v) (e:ua a=some x) (c:C .none):C v:=by rw [PR e] at V; rw [V]; exact c
theorem je {C:Value→Prop}{x:Bool}(V:aw G a v) (e:oY a=some x) (c:C (.bool x)):C v:=by rw [PU e] at V; rw [V]; exact c
theorem dB {C:Value→Prop}{x:Int}(V:aw G a v) (e:ga a=some x) (c:∀ t,C (.int x t)):C v:=by rw [nA e] at V; obtain ⟨t,rfl⟩:=V; exact c t
theorem ib {C:Value→Prop}{x:Str}(V:aw G a v) (e:q8 a=some x) (c:∀ t,C (.str x t)):C v:=by rw [Sg e] at V; obtain ⟨t,rfl⟩:=V; exact c t
theorem dY {C:Value→Prop}{xs:List MV}(V:aw G a v) (e:jw a=some xs) (c:∀ l vs n,G l=.frz (iN vs n)→al G xs vs.toList→C (.ref l)):C v:=by rw [GS e] at V; obtain ⟨l,vs,n,rfl,h⟩:=V; exact c l vs n h.1 h.2
theorem iq {C:Value→Prop}{xs:List MV}(V:aw G a v) (e:yn a=some xs) (c:∀ l vs n,G l=.frz (bR vs n)→aY xs=true→al G xs vs.toList→C (.ref l)):C v:=by rw [XB e] at V; obtain ⟨l,vs,n,rfl,h⟩:=V; exact c l vs n h.1 h.2.1 h.2.2
theorem M2 {C:Value→Prop}{x:BI}(V:aw G a v) (e:biO a=some x) (c:C (km x)):C v:=by rw [Xz e] at V; rw [V]; exact c
theorem Ok.ref {C:Value→Prop}(R:Ok b G st s) (V:aw G a v) (e:oo a=some i) (q:nth st.l i=some mo) (c:∀ l o,G l=.cur i o→gY b G i l mo o→s.heap.get? l=some o→C (.ref l)):C v:=by rw [sq e] at V; exact R.cur V q c
theorem Ok.seq {C:Value→Prop}{xs:List MV}(R:Ok b G st s) (V:aw G a v) (e:ry st a=some xs) (c:∀ l vs n,IsL s.heap l vs n→aY xs=true→al G xs vs.toList→C (.ref l)):C v :=
  be e (fun ys e q=>iq V (e.trans q) fun l vs n g=>c l vs n (R.frz g)) fun q=>ao q fun i e q=>R.ref V e (jr q) fun l o g r e=>r.2.elim fun vs h=>h.elim fun n h=>c l vs n (e.trans (congrArg some h.1)) r.1 h.2
theorem Ok.dic {C:Value→Prop}{es:List (Int × MV)}(R:Ok b G st s) (V:aw G a v) (e:vR st a=some es) (c:∀ i d o kvs,G d=.cur i o→s.heap.DictOf (intKind b.p b.w) d kvs→kvs.map (·.1)=es.map (·.1)→al G (es.map (·.2)) (kvs.map (·.2))→C (.ref d)):C v :=
  ao e fun i e q=>R.ref V e (nI q) fun l o g r e=>r.2.elim fun kvs h=>c i l o kvs g (Heap.dictOf_iff.mpr ⟨o,e,h.1⟩) h.2.1 h.2.2
theorem Ok.sdic {C:Value→Prop}{es:List (Str × MV)}(R:Ok b G st s) (V:aw G a v) (e:sdM st a=some es) (c:∀ d kvs,s.heap.DictOf (strKind b.p b.w) d kvs→kvs.map (·.1)=es.map (·.1)→al G (es.map (·.2)) (kvs.map (·.2))→C (.ref d)):C v :=
  ao e fun i e q=>R.ref V e (OW q) fun l o g r e=>r.elim fun kvs h=>c l kvs (Heap.dictOf_iff.mpr ⟨o,e,h.1⟩) h.2.1 h.2.2
theorem IsL.isList {h:Heap}{a:Addr}{vs:Array Value}{n:Nat}(x:IsL h a vs n):h.IsList a vs:=⟨_,x,rfl,n,rfl⟩
theorem IsT.isTuple {h:Heap}{a:Addr}{vs:Array Value}{n:Nat}(x:IsT h a vs n):h.IsTuple a vs:=⟨_,x,rfl,n,rfl⟩
theorem eX {C:Value→Prop}{K:Int→Prop}(ha:aw G a va) (h:pV a K) (d:∀ x t,K x→C (.int x t)):C va:=aj h fun x e h=>dB ha e fun t=>d x t h
theorem dp {C:Value→Value→Prop}{K:Int→Int→Prop}(ha:aw G a va) (hb:aw G c vb) (h:n7 a c K) (d:∀ x y t u,K x y→C (.int x t) (.int y u)):C va vb :=
  eX (C:=fun va=>C va vb) ha h fun x t h=>eX (C:=C _) hb h fun y u h=>d x y t u h
theorem zW {a:Int}{k:Nat}(h:a.natAbs<2 ^ k):Builtin.Int.intBits a≤k:=by
  unfold Builtin.Int.intBits
  first
  | exact Nat.size_le.mpr h
  | (split
     · lia
     · rename_i hn
       have hz:a.natAbs≠0:=by simpa using hn
       exact (Nat.log2_lt hz).mpr h)
theorem Xh {a b:Int}(h:cB a b):IntMulOk a b:=by
  rcases h with h | h
  · exact IntMulOk.of_left (Nat.le_trans (zW h) (by decide))
  · have:Builtin.Int.intBits b≤64:=Nat.le_trans (zW h) (by decide)
    have h':¬ (Builtin.Int.intBits b > shortFactorBits):=Nat.not_lt.mpr this
    unfold IntMulOk; rw [decide_eq_false h']; simp
theorem pO {a b:Int}(h:b.natAbs<2 ^ 2000):Builtin.divisionGoesByPylong a b=false:=by
  unfold Builtin.divisionGoesByPylong
  simp only [gt_iff_lt,Bool.and_eq_false_iff,decide_eq_false_iff_not,Nat.not_lt]
  refine .inl ?_
  split
  · exact Nat.zero_le _
  · rename_i hn
    have hz:b.natAbs≠0:=by simpa using hn
    have:b.natAbs.log2<2000:=(Nat.log2_lt hz).mpr h
    lia
theorem MT {xs:List MV}{vs:Array Value}(V:al G xs vs.toList) (h:xs.length≠0):¬ vs.isEmpty=true:=fun e=>h (by rw [V.size,Array.isEmpty_iff_size_eq_zero.mp e])
theorem Q7 (R:Ok X.1 G st s) (ha:aw G a va) (hb:aw G c vb) (h:mP .Add a c st Q) (k:KV X G Q Φ):wp X (binaryOp .Add va vb) Φ s :=
  du h (fun x e h=>dB (C:=fun va=>wp X (binaryOp .Add va vb) Φ s) ha e fun t=>eX (C:=fun vb=>wp X (binaryOp .Add _ vb) Φ s) hb h fun y u h=>add_int (kI R k h _ _)) fun h =>
  du h (fun xs e h=>dY (C:=fun va=>wp X (binaryOp .Add va vb) Φ s) ha e fun l1 vs n g1 V1=>aj h fun ys e h=>dY (C:=fun vb=>wp X (binaryOp .Add _ vb) Φ s) hb e fun l2 ws m g2 V2 =>
    P.add_tuple (R.frz g1) (R.frz g2) (MT V1 h.p.1) (MT V2 h.p.2.1) (J4 R k (by rw [Array.toList_append]; exact V1.append V2) h.q _) (by rw [← V1.size,← V2.size]; have:=h.p.2.2; have:sizeLine=16777216:=rfl; lia)) fun h =>
  aj h fun xs e h=>iq (C:=fun va=>wp X (binaryOp .Add va vb) Φ s) ha e fun l1 vs n g1 p1 V1=>aj h fun ys e h=>iq (C:=fun vb=>wp X (binaryOp .Add _ vb) Φ s) hb e fun l2 ws m g2 p2 V2 =>
    P.add_list (R.frz g1) (R.frz g2) (kFl R k (fA p1 p2) (by rw [Array.toList_append]; exact V1.append V2) h.q _) (by rw [← V1.size,← V2.size]; have:=h.p; have:sizeLine=16777216:=rfl; lia)
theorem RL (R:Ok X.1 G st s) (ha:aw G a va) (hb:aw G c vb) (k:KV X G Q Φ):∀ op,mP op a c st Q→wp X (binaryOp op va vb) Φ s
  | .Add,h=>Q7 R ha hb h k
  | .Sub,h=>dp (C:=fun va vb=>wp X (binaryOp .Sub va vb) Φ s) ha hb h fun x y t u h=>sub_int (kI R k h _ _)
  | .Mult,h=>dp (C:=fun va vb=>wp X (binaryOp .Mult va vb) Φ s) ha hb h fun x y t u h=>mul_int (kI R k h.q _ _) (Xh h.p)
  | .FloorDiv,h=>dp (C:=fun va vb=>wp X (binaryOp .FloorDiv va vb) Φ s) ha hb h fun x y t u h=>floordiv_int h.p.1 (kI R k h.q _ _) (.inl (pO h.p.2))
  | .Mod,h=>dp (C:=fun va vb=>wp X (binaryOp .Mod va vb) Φ s) ha hb h fun x y t u h=>mod_int h.p (kI R k h.q _ _)
  | .Pow,h=>dp (C:=fun va vb=>wp X (binaryOp .Pow va vb) Φ s) ha hb h fun x y t u h=>pow_int_small h.p.1 (by have:=h.p.2.1; lia) (Nat.lt_trans h.p.2.2 (by decide)) (kI R k h.q _ _)
theorem CM (R:Ok X.1 G st s) (ha:aw G a va) (hb:aw G c vb) (k:KV X G Q Φ):∀ op,H0 op a c st Q→wp X (inplaceOp op va vb) Φ s
  | .Add,h=>dp (C:=fun va vb=>wp X (inplaceOp .Add va vb) Φ s) ha hb h fun x y t u h=>iadd_int (kI R k h _ _)
  | .Sub,h=>dp (C:=fun va vb=>wp X (inplaceOp .Sub va vb) Φ s) ha hb h fun x y t u h=>isub_int (kI R k h _ _)
theorem lX {K:Bool→Prop}{Ψ:Bool→Shared→Prop}(ha:aw G a va) (h:dF a K) (k:∀ b,K b→Ψ b s):wp X (truthy va) Ψ s :=
  aj h fun b e h=>je (C:=fun va=>wp X (truthy va) Ψ s) ha e (wpAny_truthy_bool (k b h))
theorem XL (R:Ok X.1 G st s) (ha:aw G a va) (k:KV X G Q Φ):∀ op,unW op a st Q→wp X (unaryOp op va) Φ s
  | .Not,h=>aj h fun b e h=>je (C:=fun va=>wp X (unaryOp .Not va) Φ s) ha e (not_of (wpAny_truthy_bool (kB R k h)))
  | .USub,h=>eX (C:=fun va=>wp X (unaryOp .USub va) Φ s) ha h fun x t h=>neg_int (kI R k h _ _)
end
end
section
theorem wo {K:Type} [DecidableEq K] {G:Gh}{lk:List (K × MV)→Option MV}{k:K}(h1:∀ x r,lk ((k,x) :: r)=some x) (h2:∀ y x r,y≠k→lk ((y,x) :: r)=lk r) {v:MV}(h0:lk []=none) :
    ∀ {es:List (K × MV)} {kvs:List (K × Value)},kvs.map (·.1)=es.map (·.1)→al G (es.map (·.2)) (kvs.map (·.2))→(lk es=none∧valueAt kvs k=none)∨∃ v mv,lk es=some v∧valueAt kvs k=some mv∧aw G v mv
  | [],kvs,h,_=>.inl ⟨h0,by rw [List.map_eq_nil_iff.mp h]; rfl⟩
  | (e1,x) :: es,[],h,V=>V.elim
  | (e1,x) :: es,(z,y) :: kvs,h,V=>by
    have hz:=(List.cons.inj h).1
    have hz:z=e1:=hz
    rw [← hz]
    by_cases hk:z=k
    · rw [hk,h1]; exact .inr ⟨x,y,rfl,by unfold valueAt; rw [List.find?_cons,decide_eq_true rfl]; rfl,V.1⟩
    · rw [h2 _ _ _ hk,show valueAt ((z,y) :: kvs) k=valueAt kvs k by unfold valueAt; rw [List.find?_cons,decide_eq_false hk]]
      exact wo h1 h2 (v:=v) h0 (List.cons.inj h).2 V.2
theorem pp {G:Gh}{es:List (Int × MV)}{kvs:List (Int × Value)}(h:kvs.map (·.1)=es.map (·.1)) (V:al G (es.map (·.2)) (kvs.map (·.2))) (k:Int):(ah k es=none∧valueAt kvs k=none)∨∃ v mv,ah k es=some v∧valueAt kvs k=some mv∧aw G v mv :=
  wo (lk:=ah k) (fun _ _=>if_pos rfl) (fun _ _ _ n=>if_neg n) (v:=.none) rfl h V
theorem It {G:Gh}{es:List (Int × MV)}{kvs:List (Int × Value)}(h:kvs.map (·.1)=es.map (·.1)) (V:al G (es.map (·.2)) (kvs.map (·.2))) {k:Int}{v:MV}(e:ah k es=some v):∃ mv,valueAt kvs k=some mv∧aw G v mv:=by
  rcases pp h V k with ⟨e',_⟩ | ⟨v',mv,e',r⟩
  · exact nn (e'.symm.trans e)
  · rw [Option.some.inj (e.symm.trans e')]; exact ⟨mv,r⟩
theorem qi {G:Gh}{es:List (Int × MV)}{kvs:List (Int × Value)}(h:kvs.map (·.1)=es.map (·.1)) (V:al G (es.map (·.2)) (kvs.map (·.2))) (k:Int):(valueAt kvs k).isSome=(ah k es).isSome:=by
  rcases pp h V k with ⟨e',e⟩ | ⟨v',mv,e',e,r⟩ <;> rw [e,e'] <;> rfl
theorem HJ {α:Type}(x:Str) (v:α) (r:List (Str × α)):look x ((x,v) :: r)=some v:=by rw [ew,dI]
theorem Qw {α:Type}{x y:Str}(n:y≠x) (v:α) (r:List (Str × α)):look x ((y,v) :: r)=look x r:=by
  cases e:bB y x with
  | true=>exact absurd ((b7 _ _).mp e) n
  | false=>rw [ew,e]
theorem M7 {G:Gh}{es:List (Str × MV)}{kvs:List (Str × Value)}(h:kvs.map (·.1)=es.map (·.1)) (V:al G (es.map (·.2)) (kvs.map (·.2))) {k:Str}{v:MV}(e:look k es=some v):∃ mv,valueAt kvs k=some mv∧aw G v mv:=by
  rcases wo (lk:=look k) (fun _ _=>HJ ..) (fun _ _ _ n=>Qw n ..) (v:=.none) rfl h V with ⟨e',_⟩ | ⟨v',mv,e',r⟩
  · exact nn (e'.symm.trans e)
  · rw [Option.some.inj (e.symm.trans e')]; exact ⟨mv,r⟩
section
variable {X:Cx}{b:Bs}{G G':Gh}{st:St}{s:Shared}{Q:aE}{Φ:Value→Shared→Prop}{v va vb:Value}{a c mv:MV}{i:Nat}{x:Addr}{o:Obj}{mo:MO}{r:Bool}
theorem oq (V:aw G a va) (h:isN a=some r):plainIs va .none=true∧(va == .none)=r:=by
  have e:r=(isN a).getD false:=by rw [h]; rfl
  rw [e]
  cases a with
  | bi z=>exact nn h
  | none=>rw [show va=.none from V]; exact ⟨rfl,rfl⟩
  | bool=>rw [show va=_ from V]; exact ⟨rfl,rfl⟩
  | fn=>rw [show va=_ from V]; exact ⟨rfl,rfl⟩
  | cls=>rw [show va=_ from V]; exact ⟨rfl,rfl⟩
  | int=>obtain ⟨_,rfl⟩:=V; exact ⟨rfl,rfl⟩
  | str=>obtain ⟨_,rfl⟩:=V; exact ⟨rfl,rfl⟩
  | tup=>obtain ⟨_,_,_,rfl,_⟩:=V; exact ⟨rfl,rfl⟩
  | fl=>obtain ⟨_,_,_,rfl,_⟩:=V; exact ⟨rfl,rfl⟩
  | inst=>obtain ⟨_,_,_,_,_,rfl,_⟩:=V; exact ⟨rfl,rfl⟩
  | ref=>obtain ⟨_,_,rfl,_⟩:=V; exact ⟨rfl,rfl⟩
  | clos=>obtain ⟨_,_,_,_,_,rfl,_⟩:=V; exact ⟨rfl,rfl⟩
theorem JO (hp:plainIs va vb=true) (neg:Bool) (q:Φ (.bool (neg ^^ (va == vb))) s):wp X (compareOp (if neg then .IsNot else .Is) va vb) Φ s:=by
  cases neg with
  | false=>exact wpAny_is_plain hp (by rw [Bool.false_xor] at q; exact q)
  | true=>exact wpAny_isNot_plain hp (by rw [Bool.true_xor] at q; exact q)
theorem JQ {i j:Nat}{C D:Addr}{fs gs:List (Str × MV)}(R:Ok X.1 G st s) (ha:aw G (.inst (some i) C fs) va) (hb:aw G (.inst (some j) D gs) vb) (neg:Bool) (q:Φ (.bool (neg ^^ decide (i=j))) s):wp X (compareOp (if neg then .IsNot else .Is) va vb) Φ s:=by
  obtain ⟨a1,d1,o1,_,_,rfl,e1,hc1,-⟩:=ha
  obtain ⟨a2,d2,o2,_,_,rfl,e2,hc2,-⟩:=hb
  have g1:=R.rep.at e1 rfl
  have g2:=R.rep.at e2 rfl
  have n1:∀ k,o1.cls≠.type k:=by rw [hc1.1]; nofun
  by_cases hij:i=j
  · rw [decide_eq_true hij] at q
    rw [← hij] at e2
    rw [← R.rep.fun1 _ _ _ _ _ e1 e2]
    cases neg with
    | false=>exact wpAny_is_ref_self q
    | true=>exact wpAny_isNot_ref_self q
  · rw [decide_eq_false hij] at q
    have hne:a1≠a2:=fun z=>hij (congrArg (fun t=>match t with | .fin i _=>i | _=>0) (e1.symm.trans (z ▸ e2)))
    cases neg with
    | false=>exact wpAny_is_ref_other hne g1 g2 (by rw [hc1.1]; nofun) q
    | true=>exact wpAny_isNot_ref_other hne g1 g2 (by rw [hc1.1]; nofun) q
theorem PZ (R:Ok X.1 G st s) (ha:aw G a va) (hb:aw G c vb) (h:isM a c=some r) (neg:Bool) (q:Φ (.bool (neg ^^ r)) s):wp X (compareOp (if neg then .IsNot else .Is) va vb) Φ s :=
  be h (fun _ e h=>oS (C:=fun vb=>wp X (compareOp (if neg then .IsNot else .Is) va vb) Φ s) hb e (JO (oq ha h).1 neg (by rw [(oq ha h).2]; exact q))) fun h =>
  ao h fun j e h=>ao h fun i e' h=>by
    obtain ⟨_,_,rfl⟩:=tI e
    obtain ⟨_,_,rfl⟩:=tI e'
    exact JQ R ha hb neg (by rw [Option.some.inj h]; exact q)
theorem bd {α:Type} [BEq α] [LawfulBEq α] [DecidableEq α] (x y:α):(x == y)=decide (x=y):=by by_cases h:x=y <;> simp [h]
theorem kG {α β:Type}{xs:List α}{ys:List β}(h:M9 xs ys=some r):(xs.length == ys.length)=r∧min xs.length ys.length=0:=by
  cases xs <;> cases ys <;> cases h <;> simp
theorem iB (hS:∃ o,b.B sysModules=some o) (R:Ok b G st s) (e:G x=.cur i o):(x == sysModules)=false:=by
  obtain ⟨o',h⟩:=hS
  rw [beq_eq_false_iff_ne]; intro z; subst z
  have:=(R.rep.base _ _ h).symm.trans e
  cases this
noncomputable abbrev ik (neg:Bool):CmpOp:=if neg then .NotEq else .Eq
theorem PT (hu:X.A.units<cLine) {vs ws:Array Value}{la lb n m:Nat}(t:Bool) (h1:s.heap.get? la=some (if t then iN vs n else bR vs n)) (h2:s.heap.get? lb=some (if t then iN ws m else bR ws m)) (hr:(vs.size == ws.size)=r) (hm:min vs.size ws.size=0) (neg:Bool) (q:Φ (.bool (neg ^^ r)) s):wp X (compareOp (ik neg) (.ref la) (.ref lb)) Φ s:=by
  have he:∀ j (h1:j<vs.size) (h2:j<ws.size),SeqAt.EqAt X.A.in1 s vs[j] ws[j] true:=fun j h1 h2=>by lia
  cases t with
  | true =>
    cases neg with
    | false=>exact SeqAt.eq_tupleAt (e:=fun _=>true) (IsT.isTuple h1) (IsT.isTuple h2) hu he (by rw [hm,hr]; simpa using q)
    | true=>exact cmp_ofNotEq (SeqAt.RcNeAt.tuples (e:=fun _=>true) (IsT.isTuple h1) (IsT.isTuple h2) hu he X.p X.w X.E Φ (by rw [hm,hr]; simpa using q))
  | false =>
    have h1:IsL s.heap la vs n:=h1
    have h2:IsL s.heap lb ws m:=h2
    by_cases hl:vs.size=ws.size
    · have hz:vs.size=0:=by lia
      have hr:true=r:=by rw [← hr,hl]; simp
      subst hr
      cases neg with
      | false=>exact SeqAt.eq_listAt (e:=fun _=>true) h1.isList h2.isList hl hu he (by rw [hz]; simpa using q)
      | true=>exact cmp_ofNotEq (SeqAt.RcNeAt.lists (e:=fun _=>true) h1.isList h2.isList hl hu he X.p X.w X.E Φ (by rw [hz]; simpa using q))
    · have hne:(vs.size != ws.size)=true:=by simp [hl]
      have hr:false=r:=by rw [← hr]; simp [hl]
      subst hr
      cases neg with
      | false=>exact SeqAt.eq_list_lengthsAt h1.isList h2.isList hne hu (by simpa using q)
      | true=>exact cmp_ofNotEq (SeqAt.RcNeAt.lists_lengths h1.isList h2.isList hne hu X.p X.w X.E Φ (by simpa using q))
theorem both {op:CmpOp}(neg:Bool) {r:Bool}(kz:Φ (.bool r) s→wp X (compareOp .Eq va vb) Φ s) (k1:Φ (.bool (!r)) s→wp X (compareOp .NotEq va vb) Φ s) (q:Φ (.bool (neg ^^ r)) s):wp X (compareOp (ik neg) va vb) Φ s:=match neg,q with
  | false,q=>kz (by rw [Bool.false_xor] at q; exact q)
  | true,q=>k1 (by rw [Bool.true_xor] at q; exact q)
theorem QL {d1 d2:Addr}{es es':List (Int × MV)}{kas kbs:List (Int × Value)}(hu:X.A.units<cLine) (n1:(d1 == sysModules)=false) (n2:(d2 == sysModules)=false) (h1:s.heap.DictOf (intKind X.p X.w) d1 kas) (h2:s.heap.DictOf (intKind X.p X.w) d2 kbs) (m1:kas.map (·.1)=es.map (·.1)) (m2:kbs.map (·.1)=es'.map (·.1)) (h:M9 es es'=some r) (neg:Bool) (q:Φ (.bool (neg ^^ r)) s):wp X (compareOp (ik neg) (.ref d1) (.ref d2)) Φ s:=by
  have l1:kas.length=es.length:=by simpa using congrArg List.length m1
  have l2:kbs.length=es'.length:=by simpa using congrArg List.length m2
  have k:=kG h
  rw [← l1,← l2] at k
  have hk:kas.length=kbs.length→KeqHits X.A.in1 s kbs kas true:=fun hl=>by
    rw [List.eq_nil_of_length_eq_zero (show kas.length=0 by lia)]; exact .nil
  have e:(kas.length == kbs.length && true)=r:=by rw [Bool.and_true]; exact k.1
  exact both (op:=.Eq) neg (fun q=>keq_eq n1 n2 h1 h2 hu hk (by rw [e]; exact q)) (fun q=>keq_ne n1 n2 h1 h2 hu hk (by rw [e]; exact q)) q
theorem P5 (hS:∃ o,X.B sysModules=some o) (hu:X.A.units<cLine) (R:Ok X.1 G st s) (ha:aw G a va) (hb:aw G c vb) (h:eqM st a c=some r) (neg:Bool) (q:Φ (.bool (neg ^^ r)) s):wp X (compareOp (ik neg) va vb) Φ s :=
  be h (fun x e h=>dB (C:=fun va=>wp X (compareOp (ik neg) va vb) Φ s) ha e fun t=>be h
      (fun y e h=>dB (C:=fun vb=>wp X (compareOp (ik neg) _ vb) Φ s) hb e fun u=>both (op:=.Eq) (r:=r) neg (fun q=>eq_int (by rw [bd,Option.some.inj h]; exact q)) (fun q=>ne_int (by rw [bne,bd,Option.some.inj h]; exact q)) q)
      fun h=>ao h fun y e h=>ib (C:=fun vb=>wp X (compareOp (ik neg) _ vb) Φ s) hb e fun u=>both (op:=.Eq) (r:=r) neg (fun q=>EqMixed.eq_int_str (by rw [Option.some.inj h]; exact q)) (fun q=>EqMixed.ne_int_str (by have:=Option.some.inj h; subst this; exact q)) q) fun h =>
  be h (fun x e h=>je (C:=fun va=>wp X (compareOp (ik neg) va vb) Φ s) ha e (ao h fun y e h=>je (C:=fun vb=>wp X (compareOp (ik neg) _ vb) Φ s) hb e (both (op:=.Eq) (r:=r) neg (fun q=>eq_bool (by rw [bd,Option.some.inj h]; exact q)) (fun q=>ne_bool (by rw [bne,bd,Option.some.inj h]; exact q)) q))) fun h =>
  be h (fun x e h=>ib (C:=fun va=>wp X (compareOp (ik neg) va vb) Φ s) ha e fun t=>ao h fun y e h=>ib (C:=fun vb=>wp X (compareOp (ik neg) _ vb) Φ s) hb e fun u=>both (op:=.Eq) (r:=r) neg (fun q=>eq_str (by rw [bd,Option.some.inj h]; exact q)) (fun q=>ne_str (by rw [bne,bd,Option.some.inj h]; exact q)) q) fun h =>
  be h (fun xs e h=>dY (C:=fun va=>wp X (compareOp (ik neg) va vb) Φ s) ha e fun l1 vs n g1 V1=>ao h fun ys e h=>dY (C:=fun vb=>wp X (compareOp (ik neg) _ vb) Φ s) hb e fun l2 ws m g2 V2=>PT hu true (R.frz g1) (R.frz g2) (by rw [← V1.size,← V2.size]; exact (kG h).1) (by rw [← V1.size,← V2.size]; exact (kG h).2) neg q) fun h =>
  be h (fun es e h=>R.dic (C:=fun va=>wp X (compareOp (ik neg) va vb) Φ s) ha e fun _ d1 _ kas g1 h1 m1 _=>ao h fun es' e h=>R.dic (C:=fun vb=>wp X (compareOp (ik neg) _ vb) Φ s) hb e fun _ d2 _ kbs g2 h2 m2 _=>QL hu (iB hS R g1) (iB hS R g2) h1 h2 m1 m2 h neg q) fun h =>
  be h (fun xs e h=>R.seq (C:=fun va=>wp X (compareOp (ik neg) va vb) Φ s) ha e fun l1 vs n g1 _ V1=>ao h fun ys e h=>R.seq (C:=fun vb=>wp X (compareOp (ik neg) _ vb) Φ s) hb e fun l2 ws m g2 _ V2=>PT hu false g1 g2 (by rw [← V1.size,← V2.size]; exact (kG h).1) (by rw [← V1.size,← V2.size]; exact (kG h).2) neg q) fun h =>
  ao h fun _ e h=>oS (C:=fun va=>wp X (compareOp (ik neg) va vb) Φ s) ha e (ao h fun y e h=>ib (C:=fun vb=>wp X (compareOp (ik neg) _ vb) Φ s) hb e fun u=>both (op:=.Eq) (r:=r) neg (fun q=>EqNone.eq_none_str (by rw [Option.some.inj h]; exact q)) (fun q=>EqNone.ne_none_str (by have:=Option.some.inj h; subst this; exact q)) q)
theorem nB:∀ {xs:List MV}{vs:List Value}{l:List Int},ci xs=some l→al G xs vs→IntsAre vs l
  | [],[],l,h,_=>by rw [← Option.some.inj h]; exact .nil
  | x :: xs,v :: vs,l,h,V=>by
    cases x with
    | int i=>exact fT (show (ci xs).map (i :: ·)=some l from h) fun l' h' e=>V.1.elim fun t ev=>e ▸ ev ▸ .cons _ _ (nB h' V.2)
    | _=>exact nn h
  | [],_ :: _,_,_,V=>V.elim
  | _ :: _,[],_,_,V=>V.elim
theorem oU (l:List Int) (k:Int):(l.any fun x=>x == k)=decide (k∈l):=by
  induction l with
  | nil=>rfl
  | cons a l ih =>
    simp only [List.any_cons,ih,List.mem_cons,Bool.decide_or,bd]
    congr 1
    exact decide_eq_decide.mpr eq_comm
theorem NH (hS:∃ o,X.B sysModules=some o) (R:Ok X.1 G st s) (ha:aw G a va) (hb:aw G c vb) (h:inM st a c=some r) (neg:Bool) (q:∀ t,Φ (.bool (neg ^^ r)) { s with toks:=t }):wp X (compareOp (if neg then .NotIn else .In) va vb) Φ s :=
  ao h fun k e h=>dB (C:=fun va=>wp X (compareOp (if neg then .NotIn else .In) va vb) Φ s) ha e fun t=>be h
    (fun es e h=>R.dic (C:=fun vb=>wp X (compareOp (if neg then .NotIn else .In) _ vb) Φ s) hb e fun _ d1 _ kas g1 h1 m1 V=>by
      have hv:=(qi m1 V k).trans (Option.some.inj h)
      cases neg with
      | false=>exact wpAny_in_of (intKind_is ..) (iB hS R g1) h1.mapOf (by rw [hv]; have:=q; simp only [Bool.false_xor] at this; exact this _)
      | true=>exact wpAny_notIn_of (intKind_is ..) (iB hS R g1) h1.mapOf (by rw [hv]; have:=q; simp only [Bool.true_xor] at this; exact this _)) fun h =>
    ao h fun xs e h=>R.seq (C:=fun vb=>wp X (compareOp (if neg then .NotIn else .In) _ vb) Φ s) hb e fun l1 vs n h1 _ V1=>fT h fun l hl hr=>by
      have hi:=nB hl V1
      have h1':s.heap.IsList l1 vs.toList.toArray:=by rw [Array.toArray_toList]; exact h1.isList
      have q:=q s.toks
      cases neg with
      | false=>exact in_list_ints h1' hi (by rw [oU,hr]; rw [Bool.false_xor] at q; exact q)
      | true=>exact notin_list_ints h1' hi (by rw [oU,hr]; rw [Bool.true_xor] at q; exact q)
theorem nC {C:Value→Value→Prop}{f:Int→Int→Bool}(ha:aw G a va) (hb:aw G c vb) (h:OQ a c f=some r) (k:∀ x y t u,f x y=r→C (.int x t) (.int y u)):C va vb :=
  ao h fun x e h=>dB (C:=fun va=>C va vb) ha e fun t=>ao h fun y e h=>dB (C:=C _) hb e fun u=>k x y t u (Option.some.inj h)
theorem kg (hS:∃ o,X.B sysModules=some o) (hu:X.A.units<cLine) (R:Ok X.1 G st s) (ha:aw G a va) (hb:aw G c vb) (k:∀ t,Φ (.bool r) { s with toks:=t }):∀ op,eY st op a c=some r→wp X (compareOp op va vb) Φ s
  | .Eq,h=>P5 hS hu R ha hb h false (by rw [Bool.false_xor]; exact k s.toks)
  | .NotEq,h=>fT h fun r hr e=>P5 hS hu R ha hb hr true (by rw [Bool.true_xor,e]; exact k s.toks)
  | .Is,h=>PZ R ha hb h false (by rw [Bool.false_xor]; exact k s.toks)
  | .IsNot,h=>fT h fun r hr e=>PZ R ha hb hr true (by rw [Bool.true_xor,e]; exact k s.toks)
  | .In,h=>NH hS R ha hb h false (by simp only [Bool.false_xor]; exact k)
  | .NotIn,h=>fT h fun r hr e=>NH hS R ha hb hr true (by simp only [Bool.true_xor,e]; exact k)
  | .Lt,h=>nC (C:=fun va vb=>wp X (compareOp .Lt va vb) Φ s) ha hb h fun x y t u e=>lt_int (by rw [e]; exact k s.toks)
  | .LtE,h=>nC (C:=fun va vb=>wp X (compareOp .LtE va vb) Φ s) ha hb h fun x y t u e=>le_int (by rw [e]; exact k s.toks)
  | .Gt,h=>nC (C:=fun va vb=>wp X (compareOp .Gt va vb) Φ s) ha hb h fun x y t u e=>gt_int (by rw [e]; exact k s.toks)
  | .GtE,h=>nC (C:=fun va vb=>wp X (compareOp .GtE va vb) Φ s) ha hb h fun x y t u e=>ge_int (by rw [e]; exact k s.toks)
end
end
section
set_option maxRecDepth 4000
section
variable {X:Cx}{b:Bs}{G G':Gh}{st:St}{s:Shared}{Q:St→Prop}{Φ:Value→Shared→Prop}{Ψ:Shared→Prop}{v va vb vc:Value}{a c d mv:MV}{i:Nat}{x:Addr}{o o':Obj}{mo:MO}{r:Bool}{h h':Heap}{xs:List MV}{vs:List Value}
theorem ee.put (R:ee b G st h) (e:G x=.cur i o) (ha:h'.get? x=some o') (hk:∀ c o,c≠x→h.get? c=some o→h'.get? c=some o) (hr:∀ G',Mo mT G G'→gY b G' i x mo o'):ee b (G.ov [(x,.cur i o')]) ⟨upd st.l i mo,st.u⟩ h'∧aV gE G (G.ov [(x,.cur i o')]) :=
  R.chg e (.inl ⟨o,o',rfl,rfl⟩) rfl ha hk fun G' c o1 z M g=>by
    subst z
    have:c=x:=by
      by_cases q:c=x
      · exact q
      · rw [bO G _ q] at g; exact R.uni _ _ _ _ _ g e
    subst this
    rw [gH] at g; cases g
    exact hr _ M
theorem K5 (R:Ok X.1 G st s) (k:KU X G Q Ψ) (e:G x=.cur i o) {h':Heap}(ha:h'.get? x=some o') (hk:Heap.SameBut x s.heap h') (hr:∀ G',Mo mT G G'→gY X.1 G' i x mo o') (q:ul st i mo Q) (t:Nat):Ψ { s with heap:=h',toks:=t }:=by
  have r:=R.rep.put e ha hk.extBut hr
  unfold ul at q
  rw [b9] at q
  exact k _ _ _ (R.heap r.1 t) r.2 q
theorem al.nth:∀ {xs:List MV}{vs:List Value}{n:Nat}{v:MV},al G xs vs→nth xs n=some v→∃ mv,vs[n]?=some mv∧aw G v mv
  | _ :: _,_ :: _,0,_,V,e=>by cases e; exact ⟨_,rfl,V.1⟩
  | _ :: _,_ :: _,n+1,_,V,e=>al.nth (n:=n) V.2 e
  | _ :: _,[],_,_,V,_=>V.elim
theorem xV {vs:Array Value}{k:Int}{v:MV}{C:Prop}(V:al G xs vs.toList) (e:bq xs k=some v) (c:∀ n:Nat,k=n→n<vs.size→∀ mv,vs[n]?=some mv→aw G v mv→C):C :=
  ao e fun n e q=>(V.nth q).elim fun mv h=>have h1:=(Array.getElem?_toList (xs:=vs) (i:=n)).symm.trans h.1; c n (kM e) (Array.getElem?_eq_some_iff.mp h1).1 mv h1 h.2
theorem lu (slice:Expr) (o i:Value):∃ vs,subscripted slice false o i=operate vs (getItem o i):=by
  cases slice <;> try exact ⟨_,rfl⟩
  rename_i a b c p
  cases c <;> exact ⟨_,rfl⟩
def GI (s:Shared) (vo:Value):Prop:=∃ T id,s.TypeIs vo T∧typeLookup (.type T) "__getitem__"=pure (some (.builtin id))
theorem uR {env:Env}{value slice:Expr}{pos:Pos}(h:wp X (eval value env) (fun o s₁=>wp X (eval slice env) (fun i s₂=>GI s₂ o∧wp X (getItem o i) Φ s₂) s₁) s):wp X (eval (.Subscript value slice pos) env) Φ s:=by
  unfold wp
  rw [eval_Subscript]
  refine wpAny_bind (wpAny_mono h (fun o s₁ h₁=>wpAny_bind (wpAny_holding (wpAny_mono h₁ (fun i s₂ h₂=>wpAny_bind (wpAny_standAt ?_)) fun _ _ x=>x))) fun _ _ x=>x)
  obtain ⟨⟨T,id,hT,hl⟩,hg⟩:=h₂
  refine wpAny_bind ?_
  rw [getitemInPython_of_ne hT.not_modules]
  refine wpAny_bind (wpAny_specialOf hT hl ?_)
  refine wpAny_pure (wpAny_bind ?_)
  obtain ⟨vs,e⟩:=lu slice o i
  rw [e]
  exact wpAny_operating (wpAny_mono hg (fun r s₃ h₃=>wpAny_bind (wpAny_letTemporaryGo (wpAny_pure h₃))) fun _ _ x=>x)
theorem qW {n k:Nat}(h:k<n):seqIndex? (k:Int) n=some k:=by
  unfold seqIndex?
  simp only
  rw [if_neg (by lia:¬ ((k:Int)<0))]
  rw [if_pos (by simp only [Bool.and_eq_true,decide_eq_true_eq]; lia)]
  simp
theorem C4 (R:Ok X.1 G st s) (ho:aw G a va) (hi:aw G c vb) (h:iP st a c=some d) (hs:aT c=true) (k:∀ mv t,aw G d mv→Φ mv { s with toks:=t }):GI s va∧wp X (getItem va vb) Φ s :=
  be h (fun i e h=>by
    rw [nA e] at hs
    unfold aT at hs
    have hs:i<100000:=of_decide_eq_true hs
    exact dB (C:=fun vb=>GI s va∧wp X (getItem va vb) Φ s) hi e fun u=>be h
      (fun xs e h=>dY (C:=fun va=>GI s va∧wp X (getItem va _) Φ s) ho e fun l vs n g V=>xV V h fun j e hj mv e2 V1 =>
        ⟨⟨"tuple",_,⟨_,R.frz g,rfl⟩,F.slot_tuple_getitem.lookup⟩,by rw [e]; exact P.getItem_tuple (R.frz g) (by lia) (by lia) (qW hj) e2 (k mv s.toks V1)⟩) fun h=>be h
      (fun xs e h=>R.seq (C:=fun va=>GI s va∧wp X (getItem va _) Φ s) ho e fun l vs n g _ V=>xV V h fun j e hj mv e2 V1 =>
        ⟨⟨"list",_,⟨_,g,rfl⟩,slot_list_getitem.lookup⟩,by rw [e]; exact wpAny_getItem_list g.isList (Int.natCast_nonneg j) (by lia) e2 (k mv s.toks V1)⟩) fun h =>
      ao h fun es e h=>R.dic (C:=fun va=>GI s va∧wp X (getItem va _) Φ s) ho e fun _ d1 _ kvs _ h1 m1 V=>(It m1 V h).elim fun mv q =>
        ⟨⟨"dict",_,h1.typeIs,slot_dict_getitem.lookup⟩,wpAny_getItem_of (intKind_is ..) h1.mapOf q.1 (k mv _ q.2)⟩) fun h =>
  ao h fun y e h=>ib (C:=fun vb=>GI s va∧wp X (getItem va vb) Φ s) hi e fun u=>ao h fun es e h=>R.sdic (C:=fun va=>GI s va∧wp X (getItem va _) Φ s) ho e fun d1 kvs h1 m1 V=>(M7 m1 V h).elim fun mv q =>
    ⟨⟨"dict",_,h1.typeIs,slot_dict_getitem.lookup⟩,wpAny_getItem_of (strKind_is ..) h1.mapOf q.1 (k mv _ q.2)⟩
theorem qc {l n:Nat}{items:Array Value}{k:Int}{t:Tok}{v:Value}{Q:Unit→Shared→Prop}(hl:IsL s.heap l items n) (h0:0≤k) (hfit:k<100000) (hn:k.toNat<items.size)
    (hQ:∀ h' m,IsL h' l (items.setIfInBounds k.toNat v) m→Heap.SameBut l s.heap h'→Q () { s with heap:=h' }):wp X (setItem (.ref l) (.int k t) v) Q s:=by
  have hT:s.TypeIs (.ref l) "list":=⟨_,hl,rfl⟩
  have hf:Builtin.List.listFitsIndex k=true:=fitsIndex_of h0 (by lia)
  unfold setItem
  refine wpAny_holding ?_
  refine wpAny_bind (wpAny_sequenceKey hT (by decide) ?_)
  refine wpAny_bind (wpAny_callSpecial?_slot (name:=Str.ofString "__setitem__") hT slot_list_setitem (wpAny_call_entry slot_list_setitem hT entry_list_setitem ?_ (args_list_setitem _ _ _)))
  show wpAny _ _ (Builtin.List.listSubscript? (.int k t) >>= _) _ _ s
  refine wpAny_bind (wpAny_listSubscript_int hf ?_)
  clear hf hfit
  obtain ⟨j,rfl⟩:=Int.eq_ofNat_of_zero_le h0
  have hj:j<items.size:=hn
  have hx':items[j]?=some items[j]:=Array.getElem?_eq_getElem hj
  show wpAny _ _ ((seqItemAt l j >>= fun r=>pure (r.map (j,·))) >>= _) _ _ s
  refine wpAny_bind (wpAny_bind (wpAny_seqItemAt hl rfl (wpAny_pure ?_)))
  rw [hx']
  show wpAny _ _ (setSeqItemAt l j v >>= _) _ _ s
  have fin:=hQ _ _ (IsL.update hl (·.setIfInBounds j v)) (Heap.SameBut.update ..)
  refine wpAny_bind (wpAny_setSeqItemAt hl rfl ?_)
  first
    | exact wpAny_bind (wpAny_pure (wpAny_pure ⟨.none,rfl,wpAny_pure fin⟩))
    | exact wpAny_pure ⟨.none,rfl,wpAny_pure fin⟩
theorem lQ {K:Type} [DecidableEq K] (k:K) (v x:Value) (r:List (K × Value)) (h:k ∉ r.map (·.1)):stored ((k,x) :: r) k v=(k,v) :: r:=by
  unfold stored
  rw [if_pos (by simp),List.map_cons,if_pos rfl,map_store_of_not_mem r k v h]
theorem oF {K:Type} [DecidableEq K] (k:K) (v:Value) (y:K × Value) (r:List (K × Value)) (h:y.1≠k):stored (y :: r) k v=y :: stored r k v:=by
  unfold stored
  simp only [List.any_cons,decide_eq_false h,Bool.false_or,List.map_cons,if_neg h]
  split <;> simp
def VB {K:Type} [DecidableEq K] (G:Gh) (es es':List (K × MV)) (kvs:List (K × Value)) (k:K) (mv:Value):Prop:=(stored kvs k mv).map (·.1)=es'.map (·.1)∧al G (es'.map (·.2)) ((stored kvs k mv).map (·.2))
theorem jS {K:Type} [DecidableEq K] {set:List (K × MV)→List (K × MV)}{k:K}{v:MV}{mv:Value}(hv:aw G v mv) (h0:set []=[(k,v)]) (h1:∀ x r,set ((k,x) :: r)=(k,v) :: r) (h2:∀ y x r,y≠k→set ((y,x) :: r)=(y,x) :: set r) :
    ∀ {es:List (K × MV)} {kvs:List (K × Value)},kvs.map (·.1)=es.map (·.1)→al G (es.map (·.2)) (kvs.map (·.2))→(kvs.map (·.1)).Nodup→VB G es (set es) kvs k mv
  | [],kvs,h,_,_=>by rw [h0,List.map_eq_nil_iff.mp h]; exact ⟨rfl,hv,trivial⟩
  | _ :: _,[],_,V,_=>V.elim
  | (e1,x) :: es,(z,y) :: kvs,h,V,hn=>by
    have hz:=(List.cons.inj h).1
    have hz:z=e1:=hz
    have hn:=List.nodup_cons.mp hn
    rw [← hz]
    unfold VB
    by_cases hk:z=k
    · rw [hk,h1,lQ _ _ _ _ (hk ▸ hn.1)]
      exact ⟨congrArg (k :: ·) (List.cons.inj h).2,hv,V.2⟩
    · rw [h2 _ _ _ hk,oF _ _ _ _ hk]
      have ih:=jS hv h0 h1 h2 (List.cons.inj h).2 V.2 hn.2
      exact ⟨congrArg (z :: ·) ih.1,V.1,ih.2⟩
theorem al.upd:∀ {xs:List MV}{vs:List Value}{n:Nat},al G xs vs→aw G a v→al G (upd xs n a) (vs.set n v)
  | [],[],_,_,_=>trivial
  | _ :: _,_ :: _,0,V,hv=>⟨hv,V.2⟩
  | _ :: _,_ :: _,n+1,V,hv=>⟨V.1,al.upd (n:=n) V.2 hv⟩
  | [],_ :: _,_,V,_=>V.elim
  | _ :: _,[],_,V,_=>V.elim
theorem qu:∀ {xs:List MV}{n:Nat},aY xs=true→ce a=true→aY (Sq.upd xs n a)=true
  | [],_,h,_=>h
  | x :: xs,0,h,p=>by show (match ce a with | true=>aY xs | false=>false)=true; rw [p]; exact (cV h).2
  | x :: xs,n+1,h,p=>by have k:=cV h; show (match ce x with | true=>aY (Sq.upd xs n a) | false=>false)=true; rw [k.1]; exact qu k.2 p
theorem qU {k:Int}{v:MV}(p:ce v=true):∀ {es:List (Int × MV)},aY (es.map (·.2))=true→aY ((cn k v es).map (·.2))=true
  | [],_=>by show (match ce v with | true=>true | false=>false)=true; rw [p]
  | (e,x) :: r,h=>by
    have q:=cV (show aY (x :: r.map (·.2))=true from h)
    show aY ((if e=k then (e,v) :: r else (e,x) :: cn k v r).map (·.2))=true
    by_cases c:e=k
    · rw [if_pos c]; show (match ce v with | true=>aY (r.map (·.2)) | false=>false)=true; rw [p]; exact q.2
    · rw [if_neg c]; show (match ce x with | true=>aY ((cn k v r).map (·.2)) | false=>false)=true; rw [q.1]; exact qU p q.2
theorem Ii {α:Type}(x:Str) (v w:α) (r:List (Str × α)):setL x v ((x,w) :: r)=(x,v) :: r:=by rw [wO,dI]
theorem Re {α:Type}{x y:Str}(n:y≠x) (v w:α) (r:List (Str × α)):setL x v ((y,w) :: r)=(y,w) :: setL x v r:=by
  cases e:bB y x with
  | true=>exact absurd ((b7 _ _).mp e) n
  | false=>rw [wO,e]
theorem oi {K:Type} [DecidableEq K] {prog:Program}{w:World}{knd:PySem.KeyKind prog w K}{o:Obj}{kvs:List (K × Value)}(h:o.IsDictOf knd kvs):(kvs.map (·.1)).Nodup:=by
  obtain ⟨_,_,_,_,_,_,h⟩:=h
  exact h
theorem room {n:Nat}(h:n<100000):n * 8+100≤sizeLine:=by have:sizeLine=16777216:=rfl; lia
theorem mE (R:Ok X.1 G st s) (ho:aw G a va) (hi:aw G c vb) (hv:aw G d vc) (h:kh a c d st Q) (k:KU X G Q Ψ):wp X (setItem va vb vc) (fun _=>Ψ) s :=
  aj h fun r er h=>du h
    (fun j e h=>dB (C:=fun vb=>wp X (setItem va vb vc) (fun _=>Ψ) s) hi e fun u=>aQ h fun p h=>du h
      (fun xs e h=>R.ref (C:=fun va=>wp X (setItem va _ vc) (fun _=>Ψ) s) ho er (jr e) fun l o g r e=>aj h fun n en h=>r.2.elim fun vs rr=>rr.elim fun m rr =>
        qc (rr.1 ▸ e) (kM en ▸ Int.natCast_nonneg n) (by rw [kM en]; have:=h.p.2; lia) (by rw [kM en,Int.toNat_natCast,← rr.2.size]; exact h.p.1) fun h' m hl hs =>
          K5 (mo:=.list (Sq.upd xs n d)) R k g hl hs (fun G' M=>⟨qu r.1 p,_,m,rfl,by rw [Array.toList_setIfInBounds,kM en]; exact (rr.2.mo M).upd (hv.mo M)⟩) h.q s.toks) fun h =>
      aj h fun es e h=>R.ref (C:=fun va=>wp X (setItem va _ vc) (fun _=>Ψ) s) ho er (nI e) fun l o g r e=>r.2.elim fun kvs rr =>
        wpAny_setItem_pairs (intKind_is ..) (Heap.dictOf_iff.mpr ⟨o,e,rr.1⟩) (fun h' hd' hs=>(Heap.dictOf_iff.mp hd').elim fun o' ho' =>
          K5 (mo:=.idict (cn j d es)) R k g ho'.1 hs (fun G' M=>⟨qU p r.1,_,ho'.2,jS (set:=cn j d) (hv.mo M) rfl (fun _ _=>if_pos rfl) (fun _ _ _ n=>if_neg n) rr.2.1 (rr.2.2.mo M) (oi rr.1)⟩) h.q _)
          (by have:=room h.p; have:=congrArg List.length rr.2.1; simp only [List.length_map] at this; lia)) fun h =>
  aj h fun y e h=>ib (C:=fun vb=>wp X (setItem va vb vc) (fun _=>Ψ) s) hi e fun u=>aj h fun es e h=>R.ref (C:=fun va=>wp X (setItem va _ vc) (fun _=>Ψ) s) ho er (OW e) fun l o g r e=>r.elim fun kvs rr =>
    wpAny_setItem_pairs (strKind_is ..) (Heap.dictOf_iff.mpr ⟨o,e,rr.1⟩) (fun h' hd' hs=>(Heap.dictOf_iff.mp hd').elim fun o' ho' =>
      K5 (mo:=.sdict (setL y d es)) R k g ho'.1 hs (fun G' M=>⟨_,ho'.2,jS (set:=setL y d) (hv.mo M) rfl (fun _ _=>Ii ..) (fun _ _ _ n=>Re n ..) rr.2.1 (rr.2.2.mo M) (oi rr.1)⟩) (cast (b9 (setL y d es) _) h.q) _)
      (by have:=room h.p; have:=congrArg List.length rr.2.1; simp only [List.length_map] at this; lia)
theorem pt {p:Option Int}(ha:aw G a va) (h:EL a=some p):IsPart va p :=
  be h (fun _ e h=>oS (C:=(IsPart · p)) ha e (by rw [← Option.some.inj h]; exact .none)) fun h=>ao h fun i e h=>dB (C:=(IsPart · p)) ha e fun t=>by rw [← Option.some.inj h]; exact .int _ _
theorem al.get:∀ {xs:List MV}{vs:List Value},al G xs vs→∀ i:Nat,(xs[i]?=none∧vs[i]?=none)∨∃ x v,xs[i]?=some x∧vs[i]?=some v∧aw G x v
  | [],[],_,_=>.inl ⟨rfl,rfl⟩
  | x :: _,v :: _,V,0=>.inr ⟨x,v,rfl,rfl,V.1⟩
  | _ :: _,_ :: _,V,i+1=>al.get V.2 i
  | [],_ :: _,V,_=>V.elim
  | _ :: _,[],V,_=>V.elim
theorem tv:∀ {xs:List MV}{i:Nat}{x:MV},aY xs=true→xs[i]?=some x→ce x=true
  | _ :: _,0,_,p,e=>Option.some.inj e ▸ (cV p).1
  | _ :: _,i+1,_,p,e=>tv (i:=i) (cV p).2 e
theorem jB {vs:List Value}(p:aY xs=true) (V:al G xs vs):∀ is:List Nat,aY (is.filterMap (xs[·]?))=true∧al G (is.filterMap (xs[·]?)) (is.filterMap (vs[·]?))
  | []=>⟨rfl,trivial⟩
  | i :: is=>by
    have ih:=jB p V is
    rw [List.filterMap_cons,List.filterMap_cons]
    rcases V.get i with ⟨e1,e2⟩ | ⟨x,v,e1,e2,V1⟩
    · rw [e1,e2]; exact ih
    · rw [e1,e2]; exact ⟨by show (match ce x with | true=>aY (is.filterMap (xs[·]?)) | false=>false)=true; rw [tv p e1]; exact ih.1,V1,ih.2⟩
theorem al.drop:∀ {xs:List MV}{vs:List Value},al G xs vs→∀ n:Nat,al G (xs.drop n) (vs.drop n)
  | _,_,V,0=>V
  | [],[],_,_+1=>trivial
  | _ :: _,_ :: _,V,n+1=>al.drop V.2 n
  | [],_ :: _,V,_=>V.elim
  | _ :: _,[],V,_=>V.elim
theorem Iy {lo hi sp:Option Int}{k:Int}(h:Ji lo hi sp=some k):lo=some k∧hi=none∧sp=none:=by
  cases hi with
  | some _=>exact nn h
  | none=>cases sp with
    | some _=>exact nn h
    | none=>exact ⟨h,rfl,rfl⟩
theorem qw (h:IsPart v none):v=.none:=by cases h; rfl
theorem H7 {k:Int}(h:IsPart v (some k)):∃ t,v=.int k t:=by cases h; exact ⟨_,rfl⟩
noncomputable abbrev w9 (va vb vc:Value):Obj:={ cls:=.type "slice",data:=.fields #[va,vb,vc] }
theorem IG {lo hi sp:Option Int}{vo v1 v2 v3:Value}{Q:aE}(R0:Ok X.1 G st s) (ho:aw G a vo) (p1:IsPart v1 lo) (p2:IsPart v2 hi) (p3:IsPart v3 sp) (h:Mu a lo hi sp st Q) (k:KV X G Q Φ) :
    GI { s with heap:=s.heap.push (w9 v1 v2 v3) } vo∧wp X (getItem vo (.ref s.heap.objs.size)) Φ { s with heap:=s.heap.push (w9 v1 v2 v3) }:=by
  have R:=R0.keep (h':=s.heap.push (w9 v1 v2 v3)) fun b o e=>Heap.get?_push_of_some _ e
  have S:=Heap.IsSliceOf.new s.heap v1 v2 v3
  refine du h (fun xs e h=>dY (C:=fun vo=>GI _ vo∧wp X (getItem vo _) Φ _) ho e fun l vs n g V=>aj h fun i e h=>?_) fun h =>
    aj h fun xs e h=>R.seq (C:=fun vo=>GI _ vo∧wp X (getItem vo _) Φ _) ho e fun l vs n g p V=>?_
  · obtain ⟨rfl,rfl,rfl⟩:=Iy e
    have e2:=qw p2
    have e3:=qw p3
    obtain ⟨t,e1⟩:=H7 p1
    obtain ⟨j,rfl⟩:=Int.eq_ofNat_of_zero_le (show 0≤i by have:=h.p.1; lia)
    rw [e1,e2,e3] at R S ⊢
    have l1:=V.size
    exact ⟨⟨"tuple",_,⟨_,R.frz g,rfl⟩,F.slot_tuple_getitem.lookup⟩,PyProof.Rows.getItem_tuple_from (a:=j) ⟨_,R.frz g,rfl,n,rfl⟩ S (by have:=h.p.1; lia) (by have:=h.p.2.1; rw [Int.toNat_natCast] at this; lia) (J4 R k (V.drop j) h.q _) (by have:sizeLine=16777216:=rfl; have:=h.p.2.2; lia)⟩
  · have F:=jB p V (sliceRange (sliceBounds lo hi sp vs.size).1 (sliceBounds lo hi sp vs.size).2.1 (sliceBounds lo hi sp vs.size).2.2)
    have l1:=V.size
    exact ⟨⟨"list",_,⟨_,g,rfl⟩,slot_list_getitem.lookup⟩,wpAny_getItem_list_slice g.isList S p1 p2 p3 h.p.1 (kFl R k (by unfold dD; rw [l1]; exact F.1) (by unfold dD slicePick; rw [l1]; simpa using F.2) h.q _) (by have:sizeLine=16777216:=rfl; have:=h.p.2; lia)⟩
end
end
section
theorem qq:dg=("__debug__":Str):=by decide +kernel
theorem p9:oA=("__classdict__":Str):=by decide +kernel
def IP (o:Obj) (m:Str→Option Value):Prop:=∃ es ep,o.data=.dict es ep∧StrKeys es∧∀ name,nsFind es name=m name
theorem cW {h:Heap}{a:Addr}{m:Str→Option Value}:h.Ns a m↔∃ o,h.get? a=some o∧IP o m :=
  ⟨fun ⟨o,es,ep,ho,r⟩=>⟨o,ho,es,ep,r⟩,fun ⟨o,ho,es,ep,r⟩=>⟨o,es,ep,ho,r⟩⟩
def Sb (G:Gh) (loc:aF) (m:Str→Option Value):Prop:=∀ x v,look x loc=some v→∃ mv,m x=some mv∧aw G v mv
def Ly (G:Gh) (fr:cA) (env:Env):Prop:=∀ x i,look x fr.cel=some i→(look x fr.scope.names=some .cell∨look x fr.scope.names=some .free)→∃ c o,env.cells.lookup x=some c∧G c=.cur i o
structure EnvR (fr:cA) (env:Env):Prop where
  kind:env.scope.kind=.function
  names:∀ x k,look x fr.scope.names=some k→env.kindOf x=some k∨(k=.free∧env.kindOf x=some .cell)
  glob:env.globals=mainGlobals
  bnt:env.builtins=builtinsNs
structure bJ (G:Gh) (fr:cA) (env:Env) (loc:aF):Prop extends EnvR fr env where
  cells:Ly G fr env
  locs:∃ oL m,G env.locals=.prv oL∧IP oL m∧Sb G loc m
section
variable {X:Cx}{b:Bs}{G G':Gh}{st:St}{s:Shared}{Q:aE}{Φ:Value→Shared→Prop}{Ψ:Shared→Prop}{v va vb vc:Value}{a c d mv:MV}{i:Nat}{x:Addr}{o o':Obj}{fr:cA}{env:Env}{loc:aF}{name:Str}{L:Addr→Prop}{fs:List (Str × MV)}{m:Str→Option Value}
theorem Sb.mono (X:aV L G G') (h:Sb G loc m):Sb G' loc m:=fun x v e=>(h x v e).imp fun mv k=>⟨k.1,k.2.mono X⟩
theorem Ly.mono (X:aV L G G') (h:Ly G fr env):Ly G' fr env:=fun x i e k=>(h x i e k).elim fun c h=>h.elim fun o h=>(X.cur h.2).elim fun o' e=>⟨c,o',h.1,e⟩
theorem bJ.ext (F:bJ G fr env loc) (X:aV L G G') (hL:¬ L env.locals):bJ G' fr env loc :=
  ⟨F.toEnvR,F.cells.mono X,F.locs.imp fun oL=>Exists.imp fun m h=>⟨X.prv h.1 hL,h.2.1,h.2.2.mono X⟩⟩
theorem bJ.extN (F:bJ G fr env loc) (X:aV gE G G'):bJ G' fr env loc:=F.ext X id
theorem bJ.kindIs (F:bJ G fr env loc) {x:Str}{k:NameKind}(h:look x fr.scope.names=some k) (n:k≠.free):env.kindOf x=some k:=(F.names x k h).elim id fun h=>absurd h.1 n
structure Sk where
  nm:Str
  q:Str
  bs:List Value
  sn:List Str
  sub:List Value
  col:Option Bool
  dd:Option Addr
  kz:Option Value
  k1:Option Value
  k2:Option Value
  k3:Option Value
  k5:Option Value
  newId:String
noncomputable abbrev Sk.obj (P:Sk) (C N:Addr):Obj:=excClassObj P.nm P.q C N P.bs [.type "object"] true P.sn P.sub false P.col P.dd P.kz P.k1 P.k2 P.k3 P.k5 P.newId
def qR (B:Addr→Option Obj) (C N:Addr) (mN:Str→Option Value):Prop:=(∃ P:Sk,ObjNewFacts P.newId∧B C=some (P.obj C N))∧∃ oN,B N=some oN∧IP oN mN
structure Xx (b:Bs) (W:Wd):Prop where
  sys:∃ o,b.B sysModules=some o
  dbg:W.glob dg=none
  glob:∀ x v,W.glob x=some v→∃ mv mg og,(∀ G:Gh,(∀ a o,b.B a=some o→G a=.frz o)→aw G v mv)∧b.B mainGlobals=some og∧IP og mg∧(mg x=some mv∨(mg x=none∧∃ ob mb,b.B builtinsNs=some ob∧IP ob mb∧mb x=some mv))
  iget:∀ C name,W.iget C name=true→∃ N mN,qR b.B C N mN∧mN "__getattribute__"=none∧mN name=none∧typeLookup (.type "object") name=pure none
  iset:∀ C name,W.iset C name=true→∃ N mN,qR b.B C N mN∧mN "__setattr__"=none∧mN name=none∧typeLookup (.type "object") name=pure none
  cget:∀ C name v,W.cget C name=some v→∃ N mN i t y,qR b.B C N mN∧mN "__getattribute__"=none∧v=.int i∧mN name=some (.int i t)∧typeLookup (.type "object") name=pure y ∧
    (["__module__","__name__","__qualname__","__doc__","__annotations__"]:List Str).contains name=false
  meth:∀ C name f,W.meth C name=some f→∃ N mN fo y,qR b.B C N mN∧mN "__getattribute__"=none∧mN "__getattr__"=none∧mN name=some (.ref f)∧b.B f=some fo∧fo.cls=.type "function"∧typeLookup (.type "object") name=pure y
theorem Ca (R:Ok X.1 G st s) (F:bJ G fr env loc) {x:Str}(hk:look x fr.scope.names=some .cell∨look x fr.scope.names=some .free) (h:ad (look x fr.cel) fun i=>ad (aH (JU (st.h i)) id) fun v=>Q v st) (k:KV X G Q Φ) (c:∀ a v,env.cells.lookup x=some a→s.heap.IsCell a (some v)→Φ v s→wp X (loadName env x) Φ s):wp X (loadName env x) Φ s :=
  aj h fun i e h=>aj h fun v q h=>ao q fun u q e'=>(F.cells x i e hk).elim fun a g=>g.elim fun o g=>by
    obtain ⟨a',o',e1,v',hd,hv⟩:=R.rep.cur i _ (yk q)
    rw [R.rep.uni _ _ _ _ _ g.2 e1] at g
    cases u with
    | none=>exact nn e'
    | some u =>
      cases v' with
      | none=>exact hv.elim
      | some mv =>
        rw [show u=v from Option.some.inj e'] at hv
        exact c a' mv g.1 ⟨o',R.curO e1,hd⟩ (kz R k hv h)
theorem to (hW:Xx X.1 X.W) (R:Ok X.1 G st s) (F:bJ G fr env loc) {x:Str}(h:pJ X.W fr x loc st Q) (k:KV X G Q Φ):wp X (loadName env x) Φ s :=
  aj h fun kd hk h=>match kd,hk,h with
  | .local,hk,h=>aj h fun v e q=>F.locs.elim fun oL g=>g.elim fun m g=>(g.2.2 x v e).elim fun mv V=>wpAny_loadName_local F.kind (F.kindIs hk nofun) (cW.mpr ⟨oL,R.prv g.1,g.2.1⟩) V.1 (kz R k V.2 q)
  | .cell,hk,h=>Ca R F (.inl hk) h k fun a v e1 e2 q=>wpAny_loadName_cell F.kind (F.kindIs hk nofun) e1 e2 q
  | .free,hk,h=>aQ h fun n h=>Ca R F (.inr hk) h k fun a v e1 e2 q=>(F.names x _ hk).elim
      (fun z=>wpAny_loadName_free F.kind z e1 e2 q (by
        rw [beq_eq_false_iff_ne,← p9]; intro z; rw [z,dI] at n; cases n))
      fun z=>wpAny_loadName_cell F.kind z.2 e1 e2 q
  | .globalImplicit,hk,h=>aj h fun v e q=>by
    obtain ⟨mv,mg,og,hV,hB,hN,hc⟩:=hW.glob x v e
    refine ks_loadName_global F.kind (F.kindIs hk nofun) ?_
    have q:=kz R k (hV G R.rep.base) q
    have hg:s.heap.Ns env.globals mg:=by rw [F.glob]; exact cW.mpr ⟨og,R.base hB,hN⟩
    exact hc.elim (fun hc=>PySem.Calls.loadGlobal_global hg hc q) fun ⟨hn,ob,mb,hb,hbn,hc⟩=>PySem.Calls.loadGlobal_builtin hg hn (by rw [F.bnt]; exact cW.mpr ⟨ob,R.base hb,hbn⟩) hc q
theorem vB (hW:Xx X.1 X.W) (R:Ok X.1 G st s) (F:bJ G fr env loc) {x:Str}{p:Pos}(h:bw (!bB x dg) (pJ X.W fr x loc st Q)) (k:KV X G Q Φ):wp X (eval (.Name x p) env) Φ s :=
  aQ h fun n h=>wpAny_Name (to hW R F h k) (by rw [beq_eq_false_iff_ne,← qq]; intro z; rw [z,dI] at n; cases n)
def KL (X:Cx) (G:Gh) (fr:cA) (env:Env) (Q:aF→St→Prop) (Ψ:Shared→Prop):Prop:=∀ s' G' st' loc',Ok X.1 G' st' s'→aV (gT env.locals) G G'→bJ G' fr env loc'→Q loc' st'→Ψ s'
theorem g9 (R:Ok X.1 G st s) (F:bJ G fr env loc) {x:Str}(V:aw G a v) {Q:aF→St→Prop}(h:iC fr x a loc st Q) (k:KL X G fr env Q Ψ):wp X (storeName env x v) (fun _=>Ψ) s :=
  aj h fun kd hk h=>match kd,hk,h with
  | .local,hk,h=>F.locs.elim fun oL g=>g.elim fun m g=>wpAny_storeName_local (F.kindIs hk nofun) (cW.mpr ⟨oL,R.prv g.1,g.2.1⟩) (fun h' hn hs=>(cW.mp hn).elim fun oL' g'=>by
      have r:=R.rep.ov (L:=gT env.locals) (l:=[(env.locals,.prv oL')]) ⟨⟨by rw [g.1]; rfl,g'.1⟩,trivial⟩ (fun c o n e=>hs.extBut _ _ n.1 e) ⟨.inl rfl,trivial⟩
      refine k _ _ st (setL x a loc) (R.heap r.1 _) r.2 ⟨F.toEnvR,F.cells.mono r.2,oL',_,gH ..,g'.2,fun y u e=>?_⟩ (cast (b9 (setL x a loc) _) h)
      rw [jm] at e
      by_cases hy:y=x
      · rw [if_pos hy] at e ⊢; exact ⟨v,rfl,Option.some.inj e ▸ V.mono r.2⟩
      · rw [if_neg hy] at e ⊢; exact g.2.2.mono r.2 y u e) (by rw [F.kind]; rfl)
  | .cell,hk,h=>aj h fun i e h=>aj h fun v0 q h=>(F.cells x i e (.inl hk)).elim fun c g=>g.elim fun o g=>by
      obtain ⟨a',o',e1,v',hd,hv⟩:=R.rep.cur i _ (yk q)
      rw [R.rep.uni _ _ _ _ _ g.2 e1] at g
      exact wpAny_storeName_cell F.kind (F.kindIs hk nofun) g.1 ⟨o',R.curO e1,hd⟩ fun h' hc hs=>hc.elim fun o1 hc=>K5 (Q:=Q loc) (mo:=.cell (some a)) R (fun s' G' st' R' Y q=>k s' G' st' loc R' Y.weak (F.extN Y) q) e1 hc.1 hs (fun G' M=>⟨some v,hc.2,V.mo M⟩) h _
theorem X1 (V:aw G a v):handedOut v=pure v:=by
  cases a with
  | bi z=>rw [show v=km z from V]; cases z <;> first | rfl | (unfold handedOut; decide +kernel)
  | none=>rw [show v=.none from V]; rfl
  | bool=>rw [show v=_ from V]; rfl
  | fn=>rw [show v=_ from V]; rfl
  | cls=>rw [show v=_ from V]; rfl
  | int=>obtain ⟨_,rfl⟩:=V; rfl
  | str=>obtain ⟨_,rfl⟩:=V; rfl
  | tup=>obtain ⟨_,_,_,rfl,_⟩:=V; rfl
  | fl=>obtain ⟨_,_,_,rfl,_⟩:=V; rfl
  | inst=>obtain ⟨_,_,_,_,_,rfl,_⟩:=V; rfl
  | ref=>obtain ⟨_,_,rfl,_⟩:=V; rfl
  | clos=>obtain ⟨_,_,_,_,_,rfl,_⟩:=V; rfl
theorem eH.at:∀ {fs:List (Str × MV)},eH G fs m→∀ {x:Str}{a:MV},look x fs=some a→∃ v,m x=some v∧aw G a v
  | (y,w) :: r,h,x,a,e=>by
    rw [ew] at e
    cases q:bB y x with
    | true=>rw [q] at e; rw [← (b7 _ _).mp q,← Option.some.inj e]; exact h.1.1
    | false=>rw [q] at e; exact eH.at h.2 e
theorem QI:∀ {id:Option Nat}{o:Obj},(tgI id o).obj=some o
  | none,_=>rfl
  | some _,_=>rfl
theorem Ok.fld {C:Value→Prop}{p:Addr × List (Str × MV)}(R:Ok b G st s) (V:aw G a v) (e:XT st a=some p) (c:∀ l m,s.heap.InstFk l p.1 m→(∀ x,look x p.2=none→m x=none)→eH G p.2 m→aw G a (.ref l)→C (.ref l)):C v :=
  be e (fun q e z=>by
      rw [Option.some.inj z] at e
      obtain ⟨id,rfl⟩:=NV e
      have V0:=V
      obtain ⟨l,d,o,od,m,rfl,g,hi,gd,k,n,f⟩:=V0
      exact c l m ⟨o,R.rep.at g QI,hi.1,hi.2.1,.inr ⟨d,hi.2.2.1,hi.2.2.2,IM.ns1 (R.frz gd) k⟩⟩ n f V) fun q=>ao q fun i e q=>R.ref V e (rh q) fun l o g r e'=>by
      obtain ⟨d,od,m,hi,gd,k,n,f⟩:=r
      exact c l m ⟨o,e',hi.1,hi.2.1,.inr ⟨d,hi.2.2.1,hi.2.2.2,IM.ns1 (R.rep.at gd rfl) k⟩⟩ n f (by rw [sq e]; exact ⟨l,o,rfl,g⟩)
theorem Jk (hW:Xx X.1 X.W) (R:Ok X.1 G st s) (V:aw G a v) (h:jH X.W a name st=some c) (bb:Bool) (k:∀ mv t,aw G c mv→Φ mv { s with toks:=t }):wp X (getAttr v name bb) Φ s :=
  ao h fun p e h=>R.fld (C:=fun v=>wp X (getAttr v name bb) Φ s) V e fun l m hi n f _=>kE h
    (fun x e h=>pA h fun hg hx=>(f.at e).elim fun mv q=>by
      obtain ⟨N,mN,⟨⟨_,_,hC⟩,oN,hN,hNs⟩,h1,h2,h3⟩:=hW.iget _ name hg
      exact load_attrFk (R.base hC) (cW.mpr ⟨oN,R.base hN,hNs⟩) h1 h2 h3 hi q.1 (X1 q.2) (k mv _ (hx ▸ q.2))) fun e h=>by
      obtain ⟨N,mN,i,t,y,⟨⟨_,_,hC⟩,oN,hN,hNs⟩,h1,rfl,h2,h3,h4⟩:=hW.cget _ name _ h
      exact load_const (R.base hC) (cW.mpr ⟨oN,R.base hN,hNs⟩) h1 h2 h3 hi (n _ e) noGet_int h4 rfl (k _ _ ⟨_,rfl⟩)
noncomputable def upM (m:Str→Option Value) (name:Str) (v:Value):Str→Option Value:=fun x=>if x=name then some v else m x
theorem IX {y:Str}(h:bB y name=false):upM m name v y=m y:=if_neg (gA h)
theorem eH.off:∀ {fs:List (Str × MV)},eH G fs m→look name fs=none→eH G fs (upM m name v)
  | [],_,_=>trivial
  | (z,u) :: r,h,n=>by
    rw [ew] at n
    cases q:bB z name with
    | true=>rw [q] at n; exact nn n.symm
    | false=>rw [q] at n; exact ⟨⟨h.1.1.imp fun mv h=>⟨(IX q).trans h.1,h.2⟩,h.1.2⟩,eH.off h.2 n⟩
theorem eH.setL (V:aw G a v) (p:ce a=true):∀ {fs:List (Str × MV)},eH G fs m→eH G (Sq.setL name a fs) (upM m name v)
  | [],_=>⟨⟨⟨v,if_pos rfl,V⟩,p,rfl⟩,trivial⟩
  | (y,w) :: r,h=>by
    unfold Sq.setL
    cases q:bB y name with
    | true =>
      have q:=(b7 _ _).mp q
      exact ⟨⟨⟨v,if_pos q,V⟩,p,h.1.2.2⟩,h.2.off (q ▸ h.1.2.2)⟩
    | false=>exact ⟨⟨h.1.1.imp fun mv h=>⟨(IX q).trans h.1,h.2⟩,h.1.2.1,by rw [jm,if_neg (gA q)]; exact h.1.2.2⟩,eH.setL V p h.2⟩
theorem tM {Q:St→Prop}(hW:Xx X.1 X.W) (R:Ok X.1 G st s) (Vo:aw G c vb) (Vv:aw G a va) (h:uy X.W c name a st Q) (k:KU X G Q Ψ):wp X (setAttr vb name va) (fun _=>Ψ) s :=
  aj h fun i er h=>aj h fun p e h=>aQ h fun hg h=>aQ h fun pu h=>by
    refine R.ref (C:=fun vb=>wp X (setAttr vb name va) (fun _=>Ψ) s) Vo er (rh e) fun l o g r e'=>?_
    obtain ⟨d,od,m,hi,gd,hN,hn,hf⟩:=r
    obtain ⟨N,mN,⟨⟨_,hnew,hC⟩,oN,hN',hNs⟩,h1,h2,h3⟩:=hW.iset _ name hg
    have hI:s.heap.InstFk l p.1 m:=⟨o,e',hi.1,hi.2.1,.inr ⟨d,hi.2.2.1,hi.2.2.2,IM.ns1 (R.rep.at gd rfl) hN⟩⟩
    have haC:l≠p.1:=fun z=>by have:=(R.rep.base _ _ hC).symm.trans (z ▸ g); cases this
    refine store_attrFk (ns:=p.2.map (·.1)) PySem.F.store_object (R.base hC) (cW.mpr ⟨oN,R.base hN',hNs⟩) h1 h2 h3 haC hI (fun h' tk' I hk hsame=>?_) (fun y hy=>?_) (by rw [List.length_map]; have:sizeLine=16777216:=rfl; have:=h.p; lia)
    · obtain ⟨o1,g1,c1,d1,sl1,dd1⟩:=hsame o e'
      have:o1=o:=by
        obtain ⟨x1,x2,x3,x4⟩:=o1; obtain ⟨y1,y2,y3,y4⟩:=o
        have:=dd1 d hi.2.2.1
        simp only at c1 d1 sl1 this
        have h3:y2=some d:=hi.2.2.1
        rw [c1,d1,sl1,this,h3]
      subst this
      obtain ⟨o2,g2,_,_,r2⟩:=I
      rw [Option.some.inj (g1.symm.trans g2)] at *
      rcases r2 with ⟨r2,_⟩ | ⟨d',r2,_,r3,r4⟩
      · exact nn (r2.symm.trans hi.2.2.1)
      · rw [← Option.some.inj (hi.2.2.1.symm.trans r2)] at r3 r4
        obtain ⟨od',g3,n3⟩:=IM.of r3 r4
        have r:=R.rep.chg (mo:=.obj p.1 (Sq.setL name a p.2)) gd (.inr ⟨od,od',rfl,rfl⟩) rfl g3 (fun b ob hb eb=>by
          by_cases hba:b=l
          · rw [hba] at eb ⊢; rw [← eb,e']; exact g1
          · exact hk b ob hba (fun o₀ dx g4 g5=>by rw [← Option.some.inj (e'.symm.trans g4)] at g5; rw [← Option.some.inj (hi.2.2.1.symm.trans g5)]; exact hb) eb) fun G' c1 o1 z M gc=>by
            have hc:c1=l:=by
              obtain ⟨o',g'⟩:=M.cur _ trivial _ _ g
              subst z
              by_cases q:c1=d
              · rw [q,gH] at gc; cases gc
              · rw [bO G _ q] at gc; exact R.rep.uni _ _ _ _ _ gc g
            subst hc
            have ho:o1=o2:=by
              subst z
              rw [bO G _ (Ne.symm hi.2.2.2)] at gc
              have:=gc.symm.trans g; cases this; rfl
            subst ho
            refine ⟨d,od',_,hi,by rw [z]; exact gH ..,n3,fun y e=>?_,(hf.mo M).setL (Vv.mo M) pu⟩
            rw [jm] at e
            by_cases hy:y=name
            · rw [if_pos hy] at e; cases e
            · rw [if_neg hy] at e; rw [if_neg hy]; exact hn y e
        exact k _ _ _ (R.heap r.1 tk') r.2 (by have:=h.q; rw [b9] at this; unfold ul at this; rw [b9] at this; exact this)
    · cases hu:look y p.2 with
      | none=>exact absurd (hn y hu) hy
      | some u=>rw [b8] at hu; exact List.mem_map.mpr ⟨(y,u),mem_of_lookup hu,rfl⟩
end
end
section
def KE (X:Cx) (G:Gh) (fr:cA) (env:Env) (loc:aF) (Q:aE) (Φ:Value→Shared→Prop):Prop:=∀ v s' G' st' mv,Ok X.1 G' st' s'→aV (gT env.locals) G G'→bJ G' fr env loc→aw G' mv v→Q mv st'→Φ v s'
section
variable {X:Cx}{b:Bs}{G G':Gh}{st:St}{s:Shared}{Q:aE}{Φ:Value→Shared→Prop}{v va vb:Value}{a c mv:MV}{i:Nat}{x:Addr}{o:Obj}{fr:cA}{env:Env}{loc:aF}{m:Str→Option Value}{C:Prop}
theorem KE.toV (k:KE X G fr env loc Q Φ) (F:bJ G fr env loc):KV X G Q Φ:=fun v s' G' st' mv R Y V q=>k v s' G' st' mv R Y.weak (F.extN Y) V q
noncomputable def dZ (h:Heap) (L:Nat):Heap:=⟨h.objs.extract 0 L,h.life⟩
noncomputable def ic (h:Heap) (L:Nat):List (Nat × Obj):=(List.range h.objs.size).filterMap fun a=>if L<a then (h.get? a).map (a,·) else none
theorem rH {h:Heap}{L b:Nat}(hb:b<L):(dZ h L).get? b=h.get? b:=by
  unfold Heap.get? dZ
  have sz:(h.objs.extract 0 L).size=min L h.objs.size - 0:=Array.size_extract
  have:(h.objs.extract 0 L)[b]?=h.objs[b]?:=by
    by_cases hs:b<h.objs.size
    · have hs':b<(h.objs.extract 0 L).size:=by lia
      rw [Array.getElem?_eq_getElem hs,Array.getElem?_eq_getElem hs']
      simp
    · have hs':(h.objs.extract 0 L).size≤b:=by lia
      have hs2:h.objs.size≤b:=by lia
      rw [Array.getElem?_eq_none hs2,Array.getElem?_eq_none hs']
  rw [this]
theorem oz {h:Heap}{L:Nat}(hL:L<h.objs.size):(dZ h L).objs.size=L:=by
  unfold dZ; simp only [Array.size_extract]; lia
theorem MZ {h:Heap}{L b:Nat}(hL:L<h.objs.size) (hb:L≤b):(dZ h L).get? b=none:=by
  cases e:(dZ h L).get? b with
  | none=>rfl
  | some o =>
    have h1:b<(dZ h L).objs.size:=Heap.lt_size e
    rw [oz hL] at h1
    exact absurd h1 (Nat.not_lt.mpr hb)
theorem Ov {h:Heap}{L:Nat}{m:Str→Option Value}(hn:h.Ns L m):Fr (dZ h L) L h m∧News (dZ h L) L h (ic h L):=by
  have hL:L<h.objs.size:=hn.lt
  refine ⟨⟨hn,fun b o e=>?_,Nat.le_of_eq (oz hL)⟩,fun p hp=>?_⟩
  · have hb:b<L:=by have h1:=Heap.lt_size e; rwa [oz hL] at h1
    rw [rH hb] at e; exact e
  · obtain ⟨a,_,hp⟩:=List.mem_filterMap.mp hp
    split at hp
    · rename_i ha
      obtain ⟨o,ho,rfl⟩:=Option.map_eq_some_iff.mp hp
      exact ⟨ho,Nat.ne_of_gt ha,MZ hL (Nat.le_of_lt ha)⟩
    · cases hp
theorem qO {h:Heap}{L b:Nat}{o:Obj}(hb:L<b) (e:h.get? b=some o):(b,o)∈ic h L:=List.mem_filterMap.mpr ⟨b,List.mem_range.mpr (Heap.lt_size e),by rw [if_pos hb,e]; rfl⟩
theorem Rd {h h':Heap}{L:Nat}{m:Str→Option Value}(F:Fr (dZ h L) L h' m) (N:∀ p∈ic h L,h'.get? p.1=some p.2):Heap.ExtBut L h h':=fun b o hb e =>
  (Nat.lt_or_ge b L).elim (fun hl=>F.keep b o (by rw [rH hl]; exact e)) fun hl=>N (b,o) (qO (Nat.lt_of_le_of_ne hl (Ne.symm hb)) e)
structure Xj (X:Cx) (G:Gh) (st:St) (s:Shared) (fr:cA) (env:Env) (loc:aF) (m:Str→Option Value):Prop where
  h0:Fr (dZ s.heap env.locals) env.locals s.heap m
  news:News (dZ s.heap env.locals) env.locals s.heap (ic s.heap env.locals)
  lt:env.locals<s.heap.objs.size
  back:∀ {h':Heap} (t:Nat),Fr (dZ s.heap env.locals) env.locals h' m→(∀ p∈ic s.heap env.locals,h'.get? p.1=some p.2)→∃ o,Ok X.1 (G.ov [(env.locals,.prv o)]) st { s with heap:=h',toks:=t }∧aV (gT env.locals) G (G.ov [(env.locals,.prv o)])∧bJ (G.ov [(env.locals,.prv o)]) fr env loc
theorem vm (R:Ok X.1 G st s) (F:bJ G fr env loc) (c:∀ m,Xj X G st s fr env loc m→C):C :=
  F.locs.elim fun oL g=>g.elim fun m g =>
    have hn:=cW.mpr ⟨oL,R.prv g.1,g.2.1⟩
    c m ⟨(Ov hn).1,(Ov hn).2,Heap.lt_size (R.prv g.1),fun {h'} t F' N=>(cW.mp F'.ns).elim fun o g' =>
      let r:=R.rep.ov (L:=gT env.locals) (l:=[(env.locals,.prv o)]) (h':=h') ⟨⟨by rw [g.1]; rfl,g'.1⟩,trivial⟩ (fun c o n e=>Rd F' N c o n.1 e) ⟨.inl rfl,trivial⟩
      ⟨o,R.heap r.1 t,r.2,F.toEnvR,F.cells.mono r.2,o,m,gH ..,g'.2,g.2.2.mono r.2⟩⟩
theorem Xj.int (H:Xj X G st s fr env loc m) (k:KE X G fr env loc Q Φ) {i:Int}{t:Tok}{tk:Nat}{h':Heap}(F':Fr (dZ s.heap env.locals) env.locals h' m) (N:News (dZ s.heap env.locals) env.locals h' (ic s.heap env.locals)) (q:Q (.int i) st):Φ (.int i t) { s with heap:=h',toks:=tk } :=
  (H.back tk F' fun p hp=>(N p hp).1).elim fun o r=>k _ _ _ _ (.int i) r.1 r.2.1 r.2.2 ⟨t,rfl⟩ q
theorem KE.fl (k:KE X G fr env loc Q Φ) (Y:aV (gT env.locals) G G') {D:Addr}{xs:List MV}{vs:Array Value}{n tk:Nat}{h':Heap}(R:Ok X.1 G' st { s with heap:=h',toks:=tk }) (F:bJ G' fr env loc) (hD:G' D=.no) (g:h'.get? D=some (bR vs n)) (p:aY xs=true) (V:al G' xs vs.toList) (q:Q (.fl xs) st):Φ (.ref D) { s with heap:=h',toks:=tk } :=
  have r:=R.rep.ov (L:=gE) (l:=[(D,.frz (bR vs n))]) (h':=h') ⟨⟨by rw [hD]; rfl,g⟩,trivial⟩ (fun c o _ e=>e) ⟨.inr hD,trivial⟩
  k _ _ _ _ (.fl xs) ⟨r.1,R.gens,R.os⟩ (Y.then r.2) (F.extN r.2) ⟨D,vs,n,rfl,gH ..,p,V.mono r.2⟩ q
theorem KE.new (k:KE X G fr env loc (fun v st=>Q v st) Φ) (Y:aV (gT env.locals) G G') {D:Addr}{mo:MO}{o:Obj}{tk:Nat}{h':Heap}(R:Ok X.1 G' st { s with heap:=h',toks:=tk }) (F:bJ G' fr env loc) (hD:G' D=.no) (g:h'.get? D=some o) (hr:∀ G1,G1 D=.cur (ln st.l) o→Mo mT G' G1→gY X.1 G1 (ln st.l) D mo o) (q:jN st mo Q):Φ (.ref D) { s with heap:=h',toks:=tk }:=by
  have r:=R.rep.new (h':=h') (by rw [hD]; rfl) g (fun c o _ e=>e) hr
  unfold jN at q
  rw [b9] at q
  have Y2:aV gE G' _:=aV.of r.2.mo fun c o _ g=>r.2.prv g fun z=>by rw [show c=D from z,hD] at g; cases g
  exact k _ _ _ _ (.ref (ln st.l)) ⟨r.1,R.gens,R.os⟩ (Y.then Y2) (F.extN Y2) ⟨_,_,rfl,gH ..⟩ q
theorem Xj.fresh (R:Ok X.1 G st s) (H:Xj X G st s fr env loc m) {h':Heap}{D:Addr}{o o':Obj}{news:List (Addr × Obj)}(N:News (dZ s.heap env.locals) env.locals h' ((D,o) :: news)) (hn:∀ p∈ic s.heap env.locals,p∈news) (hD:∀ q∈news,q.1<D):G.ov [(env.locals,.prv o')] D=.no:=by
  obtain ⟨n1,n2,n3⟩:=N (D,o) List.mem_cons_self
  have n2:D≠env.locals:=n2
  rw [bO G _ n2]
  have:∀ t,G D=t→t.obj=none:=fun t e=>by
    cases q:t.obj with
    | none=>rfl
    | some x =>
      have e1:=R.rep.at e q
      rcases Nat.lt_or_ge D env.locals with hl | hl
      · have n3:(dZ s.heap env.locals).get? D=none:=n3
        rw [rH hl,e1] at n3; cases n3
      · exact absurd (hD _ (hn _ (qO (Nat.lt_of_le_of_ne hl (Ne.symm n2)) e1))) (Nat.lt_irrefl _)
  cases e:G D with
  | no=>rfl
  | _=>exact nn (this _ e).symm
theorem Xj.fl (R:Ok X.1 G st s) (H:Xj X G st s fr env loc m) (k:KE X G fr env loc Q Φ) {tk:Nat}{h':Heap}{D:Addr}{xs:List MV}{vs:Array Value}{c:Nat}(F':Fr (dZ s.heap env.locals) env.locals h' m)
    (N:News (dZ s.heap env.locals) env.locals h' ((D,PySem.W.listOf vs c) :: ic s.heap env.locals)) (hD:∀ q∈ic s.heap env.locals,q.1<D) (p:aY xs=true) (V:al G xs vs.toList) (chg:Bool) (q:match chg with | true=>jN st (.list xs) Q | false=>Q (.fl xs) st):Φ (.ref D) { s with heap:=h',toks:=tk } :=
  (H.back tk F' fun p hp=>(N p (List.mem_cons_of_mem _ hp)).1).elim fun o r =>
    have e:=H.fresh (o':=o) R N (fun _ h=>h) hD
    have g:h'.get? D=some (bR vs c):=(N _ List.mem_cons_self).1
    match chg,q with
    | false,q=>k.fl r.2.1 r.1 r.2.2 e g p (V.mono r.2.1) q
    | true,q=>KE.new (mo:=.list xs) k r.2.1 r.1 r.2.2 e g (fun G1 _ M=>⟨p,vs,c,rfl,(V.mono r.2.1).mo M⟩) q
theorem uA:∀ (r:List Int) (x:Int),(r.foldl (fun a b=>if b<a then b else a) x∈x :: r)∧∀ a∈x :: r,r.foldl (fun a b=>if b<a then b else a) x≤a
  | [],x=>by simp
  | y :: r,x=>by
    simp only [List.foldl_cons]
    obtain ⟨i1,i2⟩:=uA r (if y<x then y else x)
    have hh:=i2 _ List.mem_cons_self
    refine ⟨?_,fun a ha=>?_⟩
    · rcases List.mem_cons.mp i1 with h | h
      · rw [h]; split <;> simp
      · exact List.mem_cons_of_mem _ (List.mem_cons_of_mem _ h)
    · by_cases hc:y<x
      · simp only [if_pos hc] at *
        rcases List.mem_cons.mp ha with h | h
        · subst h; lia
        · rcases List.mem_cons.mp h with h | h
          · subst h; exact hh
          · exact i2 a (List.mem_cons_of_mem _ h)
      · simp only [if_neg hc] at *
        rcases List.mem_cons.mp ha with h | h
        · subst h; exact hh
        · rcases List.mem_cons.mp h with h | h
          · subst h; lia
          · exact i2 a (List.mem_cons_of_mem _ h)
theorem vx:∀ (r:List Int) (x:Int),(r.foldl (fun a b=>if b > a then b else a) x∈x :: r)∧∀ a∈x :: r,a≤r.foldl (fun a b=>if b > a then b else a) x
  | [],x=>by simp
  | y :: r,x=>by
    simp only [List.foldl_cons]
    obtain ⟨i1,i2⟩:=vx r (if y > x then y else x)
    have hh:=i2 _ List.mem_cons_self
    refine ⟨?_,fun a ha=>?_⟩
    · rcases List.mem_cons.mp i1 with h | h
      · rw [h]; split <;> simp
      · exact List.mem_cons_of_mem _ (List.mem_cons_of_mem _ h)
    · by_cases hc:y > x
      · simp only [if_pos hc] at *
        rcases List.mem_cons.mp ha with h | h
        · subst h; lia
        · rcases List.mem_cons.mp h with h | h
          · subst h; exact hh
          · exact i2 a (List.mem_cons_of_mem _ h)
      · simp only [if_neg hc] at *
        rcases List.mem_cons.mp ha with h | h
        · subst h; exact hh
        · rcases List.mem_cons.mp h with h | h
          · subst h; lia
          · exact i2 a (List.mem_cons_of_mem _ h)
theorem SM {l:List Int}{M m:Int}(h1:M∈l) (h2:∀ a∈l,M≤a) (e:pL l=some m):M=m:=by
  cases l with
  | nil=>cases e
  | cons x r =>
    simp only [pL,Option.some.injEq] at e
    obtain ⟨k1,k2⟩:=uA r x
    rw [e] at k1 k2
    have a1:=h2 _ k1
    have a2:=k2 _ h1
    lia
theorem Rr {l:List Int}{M m:Int}(h1:M∈l) (h2:∀ a∈l,a≤M) (e:uC l=some m):M=m:=by
  cases l with
  | nil=>cases e
  | cons x r =>
    simp only [uC,Option.some.injEq] at e
    obtain ⟨k1,k2⟩:=vx r x
    rw [e] at k1 k2
    have a1:=h2 _ k1
    have a2:=k2 _ h1
    lia
theorem al.nil_rel:∀ {vs:List Value},al G [] vs→vs=[]
  | [],_=>rfl
  | _ :: _,V=>V.elim
theorem al.cons_rel {C:List Value→Prop}{xs:List MV}:∀ {vs:List Value},al G (a :: xs) vs→(∀ v r,aw G a v→al G xs r→C (v :: r))→C vs
  | v :: r,V,c=>c v r V.1 V.2
  | [],V,_=>V.elim
theorem Sz {xs:List MV}(e:qe xs=some a):xs=[a]:=by
  cases xs with
  | nil=>exact nn e
  | cons x r=>cases r with
    | nil=>rw [Option.some.inj e]
    | cons=>exact nn e
theorem AP {xs:List MV}{p:MV × MV}(e:wM xs=some p):xs=[p.1,p.2]:=by
  cases xs with
  | nil=>exact nn e
  | cons x r=>cases r with
    | nil=>exact nn e
    | cons y r=>cases r with
      | nil=>rw [← Option.some.inj e]
      | cons=>exact nn e
theorem lz {C:List Value→Prop}{xs:List MV}{vs:List Value}(V:al G xs vs) (e:qe xs=some a) (c:∀ v,aw G a v→C [v]):C vs:=by
  rw [Sz e] at V
  exact V.cons_rel fun v r h V=>(show C (v :: r) by rw [V.nil_rel]; exact c v h)
theorem rp {C:List Value→Prop}{p:MV × MV}{xs:List MV}{vs:List Value}(V:al G xs vs) (e:wM xs=some p) (c:∀ v u,aw G p.1 v→aw G p.2 u→C [v,u]):C vs:=by
  rw [AP e] at V
  exact V.cons_rel fun v r h V=>V.cons_rel (C:=fun r=>C (v :: r)) fun u r h' V=>(show C (v :: u :: r) by rw [V.nil_rel]; exact c v u h h')
theorem Th {l:List Int}{m:Int}(e:pL l=some m):l≠[]:=fun h=>by rw [h] at e; cases e
theorem Sr {l:List Int}{m:Int}(e:uC l=some m):l≠[]:=fun h=>by rw [h] at e; cases e
end
end
section
section
variable {X:Cx}{b:Bs}{G G':Gh}{st:St}{s:Shared}{Q:aE}{Φ:Value→Shared→Prop}{v va vb:Value}{a c mv:MV}{i:Nat}{x:Addr}{o:Obj}{fr:cA}{env:Env}{loc:aF}{m:Str→Option Value}{C:Prop}
noncomputable def eB (p q:Int × Int):Bool:=decide (p.1<q.1∨(p.1=q.1∧p.2<q.2))
theorem X9 {a b:Addr}{x1 x2 y1 y2:Int}{t1 t2 u1 u2:Tok}{n m:Nat}{Q:Value→Shared→Prop}(ha:IsT s.heap a #[.int x1 t1,.int x2 t2] n) (hb:IsT s.heap b #[.int y1 u1,.int y2 u2] m) (hu:X.A.units<cLine) (h:Q (.bool (eB (x1,x2) (y1,y2))) s) :
    wpAny (model X.p X.w) X.A (richCompare .Lt (.ref a) (.ref b)) Q X.E s:=by
  refine wpAny_richCompare_same_room (op:=.Lt) ⟨_,ha,rfl⟩ ⟨_,hb,rfl⟩ F.slot_tuple_lt (wpAny_call_entry F.slot_tuple_lt ⟨_,ha,rfl⟩ F.entry_tuple_lt ?_ (F.args_tuple_lt_2 _ _)) hu
  show wpAny _ _ (isInstance (.ref b) (.type "tuple") >>= _) _ _ s
  refine wpAny_bind (wpAny_isInstance ⟨_,hb,rfl⟩ isSubtype_tuple_tuple ?_)
  simp only [Bool.not_true,Bool.false_eq_true,if_false]
  refine wpAny_bind (wpAny_tupleItemsOf ha rfl ?_)
  refine wpAny_bind (wpAny_tupleItemsOf hb rfl ?_)
  simp only [List.zip_cons_cons,List.zip_nil_left,List.forIn_cons,List.forIn_nil]
  refine wpAny_bind ?_
  refine wpAny_bind ?_
  refine wpAny_bind (wpAny_eqBool_int ?_)
  by_cases e1:x1=y1
  · have:(x1 == y1)=true:=by simp [e1]
    simp only [this,Bool.not_true,Bool.false_eq_true,if_false]
    refine wpAny_pure ?_
    refine wpAny_bind ?_
    refine wpAny_bind (wpAny_eqBool_int ?_)
    by_cases e2:x2=y2
    · have:(x2 == y2)=true:=by simp [e2]
      simp only [this,Bool.not_true,Bool.false_eq_true,if_false]
      refine wpAny_pure ?_
      refine wpAny_pure ?_
      have:eB (x1,x2) (y1,y2)=false:=by simp [eB,e1,e2]
      rw [this] at h
      exact wpAny_pure ⟨_,rfl,nofun,h⟩
    · have:(x2 == y2)=false:=by simp [e2]
      simp only [this,Bool.not_false,if_true]
      refine wpAny_bind (wpAny_rule (wpAny_bind (lt_int (wpAny_bind ?_))))
      have:eB (x1,x2) (y1,y2)=decide (x2<y2):=by simp [eB,e1]
      rw [this] at h
      exact wpAny_pure (wpAny_pure (wpAny_pure (wpAny_pure ⟨_,rfl,nofun,h⟩)))
  · have:(x1 == y1)=false:=by simp [e1]
    simp only [this,Bool.not_false,if_true]
    refine wpAny_bind (wpAny_rule (wpAny_bind (lt_int (wpAny_bind ?_))))
    have:eB (x1,x2) (y1,y2)=decide (x1<y1):=by simp [eB,e1]
    rw [this] at h
    exact wpAny_pure (wpAny_pure (wpAny_pure (wpAny_pure ⟨_,rfl,nofun,h⟩)))
def KF (L:List (Addr × Obj)) (h:Heap):Prop:=∀ p∈L,h.get? p.1=some p.2
def Yp (X:Cx) (L:List (Addr × Obj)) (P:Nat→Value→Prop) (bt:Nat→Nat→Bool):Prop :=
  ∀ i j vi vj (s:Shared) (Q:Value→Shared→Prop) (E:Value→Shared→Prop),KF L s.heap→P i vi→P j vj→Q (.bool (bt i j)) s→wpAny (model X.p X.w) X.A.in1 (richCompare .Lt vi vj) Q E s
section
variable {R:Result→Shared→Prop}{I:Addr}{fp wr:List Addr}{n:Nat}{P:Nat→Value→Prop}{Sa:Nat→Heap→Prop}{L:List (Addr × Obj)}
theorem KF.keep {h h':Heap}{wr:List Addr}(k:KF L h) (hw:∀ p∈L,p.1 ∉ wr) (hk:∀ b o,b ∉ wr→h.get? b=some o→h'.get? b=some o):KF L h':=fun p hp=>hk _ _ (hw p hp) (k p hp)
theorem KF.upd {h:Heap}{S:Addr}{o:Obj→Obj}(k:KF L h) (hS:∀ p∈L,p.1≠S):KF L (h.update S o):=fun p hp=>(Heap.get?_update_other _ _ (Ne.symm (hS p hp))).trans (k p hp)
theorem HI (W:Walks X.p X.w X.A.in1 I fp wr n P Sa) (bt:Nat→Nat→Bool) (hcmp:Yp X L P bt) (S:Addr) (hSf:S ∉ fp) (hw:∀ p∈L,p.1 ∉ wr) (hSL:∀ p∈L,p.1≠S) :
    ∀ (k j:Nat) (s:Shared) (vb:Value) (c:Nat),n - (j+1)=k→j+1≤n→Sa (j+1) s.heap→P (argBest bt j) vb→KF L s.heap →
    s.heap.get? S=some { cls:=.type "list",dict:=none,data:=.seq #[vb,vb] c,slots:=#[] } →
    (∀ v h' tk,P (argBest bt (n - 1)) v→(∀ b o,b ∉ wr→b≠S→s.heap.get? b=some o→h'.get? b=some o)→R (.ok (.ret v)) { s with heap:=h',toks:=tk }) →
    codeAny (model X.p X.w) X.A (.builtin "min.loop" ⟨[.ref I,.none,.ref S],[]⟩) R s:=by
  have hSw:S ∉ wr:=fun h=>hSf (W.sub _ h)
  have hname:(toString "min" ++ toString ".loop":String)="min.loop":=by decide
  intro k
  induction k with
  | zero =>
    intro j s vb c hk hj hst hPb hK hS hR
    have hin:j+1=n:=Nat.le_antisymm hj (Nat.sub_eq_zero_iff_le.mp hk)
    refine codeAny_builtin F.entry_min_loop ?_
    rw [Around.under_plainId F.plain_min_loop _]
    show wpAny _ X.A.in1 (seqItems? (.ref S) >>= _) _ _ s
    refine wpAny_bind (wpAny_seqItems hS rfl ?_)
    show wpAny _ X.A.in1 (tryCatch (pyNext (.ref I)) _ >>= _) _ _ s
    refine wpAny_bind (wpAny_tryCatch (W.done s _ _ (hin ▸ hst) fun h' tk hk'=>?_))
    have hS':=hk' S _ hSw hS
    show wpAny _ X.A.in1 (updateSeq S (fun _=>#[]) >>= _) _ _ _
    refine wpAny_bind ?_
    refine wpAny_updateSeq hS' rfl (wpAny_bind (wpAny_letGo (wpAny_pure ?_)))
    refine hR vb _ tk (by rw [← hin]; exact hPb) fun b o hbw hbS e=>(Heap.get?_update_other _ _ (Ne.symm hbS)).trans (hk' b o hbw e)
  | succ k ih =>
    intro j s vb c hk hj hst hPb hK hS hR
    have hlt:j+1<n:=Nat.lt_of_sub_pos (by rw [hk]; exact Nat.succ_pos k)
    have hk2:n - (j+1+1)=k:=(Nat.sub_succ ..).trans (congrArg Nat.pred hk)
    refine codeAny_builtin F.entry_min_loop ?_
    rw [Around.under_plainId F.plain_min_loop _]
    show wpAny _ X.A.in1 (seqItems? (.ref S) >>= _) _ _ s
    refine wpAny_bind (wpAny_seqItems hS rfl ?_)
    show wpAny _ X.A.in1 (tryCatch (pyNext (.ref I)) _ >>= _) _ _ s
    refine wpAny_bind (wpAny_tryCatch (W.item (j+1) s _ _ hlt hst fun v h' tk hP hst' hk'=>?_))
    have hS':=hk' S _ hSw hS
    have hK':=hK.keep hw hk'
    show wpAny _ X.A.in1 (tryCatch (holding [v,v] (richCompare .Lt v vb >>= _)) _ >>= _) _ _ _
    refine wpAny_bind (wpAny_tryCatch (wpAny_holding (wpAny_bind (hcmp (j+1) (argBest bt j) v vb _ _ _ hK' hP hPb ?_))))
    refine wpAny_bind (wpAny_holding (wpAny_truthy_bool ?_))
    refine wpAny_bind (wpAny_letGo (wpAny_pure ?_))
    cases hb:bt (j+1) (argBest bt j) with
    | true =>
      simp only [if_true]
      refine wpAny_bind ?_
      refine wpAny_updateSeq hS' rfl (wpAny_bind (wpAny_letGo ?_))
      rw [hname]
      refine wpAny_pure ⟨plainId_quiet F.plain_min_loop _,ih (j+1) _ v _ hk2 hlt (W.frame _ _ _ hst' fun b hbf o e=>?_) (by simp only [argBest,hb,if_true]; exact hP) (hK'.upd hSL) (Heap.get?_update_self _ hS' rfl)
        fun v' h'' tk'' hP' hk''=>?_⟩
      · exact (Heap.get?_update_other _ _ (fun h:S=b=>hSf (by rw [h]; exact hbf))).trans e
      · exact hR v' h'' tk'' hP' fun b o hbw hbS e=>hk'' b o hbw hbS ((Heap.get?_update_other _ _ (Ne.symm hbS)).trans (hk' b o hbw e))
    | false =>
      simp only [Bool.false_eq_true,if_false]
      refine wpAny_bind (wpAny_letGo ?_)
      rw [hname]
      refine wpAny_pure ⟨plainId_quiet F.plain_min_loop _,ih (j+1) _ vb c hk2 hlt hst' (by simp only [argBest,hb,Bool.false_eq_true,if_false]; exact hPb) hK' hS' fun v' h'' tk'' hP' hk''=>?_⟩
      exact hR v' h'' tk'' hP' fun b o hbw hbS e=>hk'' b o hbw hbS (hk' b o hbw e)
theorem ww (W:Walks X.p X.w X.A.in1 I fp wr n P Sa) (bt:Nat→Nat→Bool) (hcmp:Yp X L P bt) (S:Addr) (hSf:S ∉ fp) (hw:∀ p∈L,p.1 ∉ wr) (hSL:∀ p∈L,p.1≠S) (hn:0<n) {s:Shared}{c:Nat}(hst:Sa 0 s.heap) (hK:KF L s.heap)
    (hS:s.heap.get? S=some { cls:=.type "list",dict:=none,data:=.seq #[] c,slots:=#[] })
    (hR:∀ v h' tk,P (argBest bt (n - 1)) v→(∀ b o,b ∉ wr→b≠S→s.heap.get? b=some o→h'.get? b=some o)→R (.ok (.ret v)) { s with heap:=h',toks:=tk }) :
    codeAny (model X.p X.w) X.A (.builtin "min.loop" ⟨[.ref I,.none,.ref S],[]⟩) R s:=by
  have hSw:S ∉ wr:=fun h=>hSf (W.sub _ h)
  have hname:(toString "min" ++ toString ".loop":String)="min.loop":=by decide
  refine codeAny_builtin F.entry_min_loop ?_
  rw [Around.under_plainId F.plain_min_loop _]
  show wpAny _ X.A.in1 (seqItems? (.ref S) >>= _) _ _ s
  refine wpAny_bind (wpAny_seqItems hS rfl ?_)
  show wpAny _ X.A.in1 (tryCatch (pyNext (.ref I)) _ >>= _) _ _ s
  refine wpAny_bind (wpAny_tryCatch (W.item 0 s _ _ hn hst fun v h' tk hP hst' hk'=>?_))
  have hS':=hk' S _ hSw hS
  have hK':=hK.keep hw hk'
  show wpAny _ X.A.in1 (updateSeq S (fun _=>#[v,v]) >>= _) _ _ _
  refine wpAny_bind ?_
  refine wpAny_updateSeq hS' rfl ?_
  rw [hname]
  refine wpAny_pure ⟨plainId_quiet F.plain_min_loop _,HI W bt hcmp S hSf hw hSL _ 0 _ v _ rfl hn (W.frame _ _ _ hst' fun b hbf o e=>?_) hP (hK'.upd hSL) (Heap.get?_update_self _ hS' rfl) fun v' h'' tk'' hP' hk''=>?_⟩
  · exact (Heap.get?_update_other _ _ (fun h:S=b=>hSf (by rw [h]; exact hbf))).trans e
  · exact hR v' h'' tk'' hP' fun b o hbw hbS e=>hk'' b o hbw hbS ((Heap.get?_update_other _ _ (Ne.symm hbS)).trans (hk' b o hbw e))
theorem Hv {x:Value}{Q:Value→Shared→Prop}
    (h:wpAny (model X.p X.w) X.A.in1 (pyIter x) (fun it s₂=>∃ I fp wr n P Sa bt L,it=.ref I∧Walks X.p X.w X.A.in1 I fp wr n P Sa∧Sa 0 s₂.heap∧(∀ b∈fp,b<s₂.heap.objs.size)∧0<n∧Yp X L P bt∧KF L s₂.heap∧(∀ p∈L,p.1 ∉ wr) ∧
      ∀ v h' tk,P (argBest bt (n - 1)) v→(∀ b o,b ∉ wr→s₂.heap.get? b=some o→h'.get? b=some o)→Q v { s₂ with heap:=h',toks:=tk }) X.E s) :
    wpAny (model X.p X.w) X.A (call (.builtin "min") [x]) Q X.E s:=by
  have hname:(toString "min" ++ toString ".loop":String)="min.loop":=by decide
  refine call_function_tree F.kind_min F.plain_min F.entry_min (F.args_min1 _) ?_
  show wpAny _ X.A.in1 (Builtin.Builtins.bindParams "min" ["key","default"] 0 ⟨[],[]⟩ >>= _) _ _ s
  refine wpAny_bind (wpAny_of_eq (show Builtin.Builtins.bindParams "min" ["key","default"] 0 ⟨[],[]⟩=pure [none,none] from rfl) ?_)
  refine wpAny_bind (wpAny_pure ?_)
  refine wpAny_bind (wpAny_mono h (fun it s₂ h₂=>?_) fun _ _ e=>e)
  obtain ⟨I,fp,wr,n,P,Sa,bt,L,rfl,W,hst,hfp,hn,hcmp,hK,hw,hQ⟩:=h₂
  refine wpAny_bind (wpAny_newObj_type ?_)
  have hSf:s₂.heap.objs.size ∉ fp:=fun hm=>Nat.lt_irrefl _ (hfp _ hm)
  rw [hname]
  refine wpAny_pure ⟨plainId_quiet F.plain_min_loop _,ww W bt hcmp s₂.heap.objs.size hSf hw (fun p hp=>Nat.ne_of_lt (Heap.lt_size (hK p hp))) hn (W.frame _ _ _ hst fun b _ o e=>Heap.get?_push_of_some _ e) (fun p hp=>Heap.get?_push_of_some _ (hK p hp)) (Heap.get?_push_size _ rfl) fun v h' tk hP hk=>?_⟩
  exact hQ v h' tk hP fun b o hbw e=>hk b o hbw (Nat.ne_of_lt (Heap.lt_size e)) (Heap.get?_push_of_some _ e)
end
noncomputable abbrev sr (x:Int) (t:Tok) (y:Int) (u:Tok) (n:Nat):Obj:={ cls:=.type "tuple",data:=.seq #[.int x t,.int y u] n }
theorem xl {x:MV}{xs:List MV}{l:List (Int × Int)}(e:dH (x :: xs)=some l) (c:∀ a b l',x=.tup [.int a,.int b]→dH xs=some l'→l=(a,b) :: l'→C):C :=
  ao e fun p h e=>ao h fun ys h1 h2=>ao h2 fun q h2 h3=>ao h3 fun i h3 h4=>ao h4 fun j h4 h5=>fT e fun l' h6 h7=>c i j l' (by rw [GS h1,AP h2,nA h3,nA h4]) h6 (by rw [← h7,← Option.some.inj h5])
theorem xc {a b:Int}{v:Value}(R:Ok X.1 G st s) (V:aw G (.tup [.int a,.int b]) v):∃ p t u n,v=.ref p∧s.heap.get? p=some (sr a t b u n):=by
  obtain ⟨p,us,n,rfl,g,V2⟩:=V
  refine V2.cons_rel (C:=fun l=>us.toList=l→_) (fun v1 r h1 V2=>V2.cons_rel (C:=fun l=>us.toList=v1 :: l→_) fun v2 r h2 V2 e=>?_) rfl
  obtain ⟨t,rfl⟩:=h1
  obtain ⟨u,rfl⟩:=h2
  rw [V2.nil_rel] at e
  have e3:us=#[.int a t,.int b u]:=by rw [← Array.toList_inj]; exact e
  subst e3
  exact ⟨p,t,u,n,rfl,R.frz g⟩
def PP (G:Gh) (L:List (Addr × Obj)) (l:List (Int × Int)) (i:Nat) (v:Value):Prop:=∃ (a:Addr) (x y:Int) (t u:Tok) (n:Nat),v=.ref a∧(a,sr x t y u n)∈L∧l[i]?=some (x,y)∧aw G (.tup [.int x,.int y]) v
theorem PP.tail {L:List (Addr × Obj)}{l:List (Int × Int)}{q:Addr × Obj}{y:Int × Int}:PP G L l i v→PP G (q :: L) (y :: l) (i+1) v:=fun h =>
  h.imp fun a=>Exists.imp fun x=>Exists.imp fun y=>Exists.imp fun t=>Exists.imp fun u=>Exists.imp fun n h=>⟨h.1,List.mem_cons_of_mem _ h.2.1,h.2.2⟩
theorem uD (R:Ok X.1 G st s):∀ {xs:List MV}{vs:List Value}{l:List (Int × Int)},dH xs=some l→al G xs vs→vs.length=l.length∧∃ L,KF L s.heap∧∀ (i:Nat) (v:Value),vs[i]?=some v→PP G L l i v
  | [],[],l,e,_=>by
    have e:some []=some l:=e
    rw [← Option.some.inj e]
    exact ⟨rfl,[],fun p hp=>absurd hp List.not_mem_nil,fun i v h=>nn (List.getElem?_nil.symm.trans h)⟩
  | [],_ :: _,_,_,V=>V.elim
  | _ :: _,[],_,_,V=>V.elim
  | x0 :: xs,v :: vs,l,e,V=>by
    refine xl e fun a b l' hx er hl=>?_
    rw [hl]
    rw [hx] at V
    obtain ⟨h1,L,h2,h3⟩:=uD R er V.2
    obtain ⟨p,t,u,n,hv,hg⟩:=xc R V.1
    refine ⟨congrArg Nat.succ h1,(p,sr a t b u n) :: L,fun q hq=>(List.mem_cons.mp hq).elim (fun z=>by rw [z]; exact hg) (h2 q),fun i w h=>?_⟩
    cases i with
    | zero =>
      have h:some v=some w:=h
      rw [← Option.some.inj h]
      exact ⟨p,a,b,t,u,n,hv,List.mem_cons_self,rfl,V.1⟩
    | succ i=>exact (h3 i w h).tail
theorem Vz (a b:Int × Int):eB b a=!KM a b:=by
  obtain ⟨a1,a2⟩:=a; obtain ⟨b1,b2⟩:=b
  simp only [eB,KM]
  by_cases h1:a1<b1
  · have:¬ (b1<a1∨b1=a1∧b2<a2):=by lia
    simp [h1,this]
  · by_cases h2:a1=b1
    · subst h2
      simp [Int.not_le]
      by_cases h3:a2≤b2
      · simp [h3,Int.not_lt.mpr h3]
      · simp [h3,Int.not_le.mp h3]
    · have:b1<a1:=by lia
      simp [h1,h2,this]
theorem xZ (x:Int × Int) (r:List (Int × Int)):∀ k,k≤r.length→(x :: r).getD (argBest (fun i j=>eB ((x :: r).getD i (0,0)) ((x :: r).getD j (0,0))) k) (0,0)=(r.take k).foldl (fun a b=>if KM a b then a else b) x
  | 0,_=>by simp [argBest]
  | k+1,h=>by
    have ih:=xZ x r k (by lia)
    have e1:(x :: r).getD (k+1) (0,0)=r[k]:=by simp [List.getD,List.getElem?_eq_getElem (show k<r.length by lia)]
    have e2:r.take (k+1)=r.take k ++ [r[k]]:=by rw [List.take_succ,List.getElem?_eq_getElem (show k<r.length by lia)]; rfl
    rw [e2,List.foldl_append]
    simp only [argBest,List.foldl_cons,List.foldl_nil]
    generalize argBest (fun i j=>eB ((x :: r).getD i (0,0)) ((x :: r).getD j (0,0))) k=q at *
    rw [← ih]
    rw [← e1]
    by_cases hc:eB ((x :: r).getD (k+1) (0,0)) ((x :: r).getD q (0,0))=true
    · rw [if_pos hc]
      rw [Vz] at hc
      rw [if_neg (by simpa using hc)]
    · rw [if_neg hc]
      rw [Vz] at hc
      rw [if_pos (by simpa using hc)]
theorem JN {xs:List MV}{l:List (Int × Int)}{m:Int × Int}{l0:Addr}{vs:Array Value}{n:Nat}(hA:X.A.handled=none) (hu:X.A.units+10<cLine) (R:Ok X.1 G st s) (V2:al G xs vs.toList) (h1:IsL s.heap l0 vs n) (e1:dH xs=some l) (e2:sv l=some m) (k:KV X G Q Φ)
    (q:Q (.tup [.int m.1,.int m.2]) st):wp X (call (.builtin "min") [.ref l0]) Φ s:=by
  obtain ⟨hl,L,hK,hP⟩:=uD R e1 V2
  rw [Array.length_toList] at hl
  cases l with
  | nil=>exact nn e2
  | cons x r =>
  have hs:l0<s.heap.objs.size:=Heap.lt_size h1
  refine Hv (wpAny_pyIter_list h1.isList ?_)
  refine ⟨_,_,_,_,_,_,fun i j=>eB ((x :: r).getD i (0,0)) ((x :: r).getD j (0,0)),L,rfl,Walks.list (A:=X.A.in1) hA _ l0 (Nat.ne_of_lt hs) vs,⟨⟨_,Heap.get?_push_size _ rfl,rfl,rfl⟩,h1.isList.push _⟩,fun b hb=>?_,by rw [hl]; exact Nat.zero_lt_succ _,fun i j vi vj s' Q' E' k hi hj hq=>?_,
    fun p hp=>Heap.get?_push_of_some _ (hK p hp),fun p hp=>?_,fun v h' tk hv hk=>?_⟩
  · show b<(s.heap.push _).objs.size
    rw [Heap.size_push]
    exact (List.mem_cons.mp hb).elim (fun z=>z ▸ Nat.lt_succ_self _) fun hb=>(List.mem_cons.mp hb).elim (fun z=>z ▸ Nat.lt_succ_of_lt hs) nofun
  · obtain ⟨p1,x1,y1,t1,u1,n1,rfl,m1,g1,_⟩:=hP i vi (by rw [Array.getElem?_toList]; exact hi)
    obtain ⟨p2,x2,y2,t2,u2,n2,rfl,m2,g2,_⟩:=hP j vj (by rw [Array.getElem?_toList]; exact hj)
    refine X9 (X:={ X with A:=X.A.in1,E:=E' }) (k _ m1) (k _ m2) (show X.A.units+1<cLine by lia) ?_
    simpa [List.getD,g1,g2] using hq
  · rw [List.mem_singleton]; exact Nat.ne_of_lt (Heap.lt_size (hK p hp))
  · obtain ⟨p1,x1,y1,t1,u1,n1,rfl,m1,g1,V1⟩:=hP _ v (by rw [Array.getElem?_toList]; exact hv)
    have e3:vs.size - 1=r.length:=by rw [hl]; rfl
    have em:=xZ x r r.length (Nat.le_refl _)
    rw [List.take_length] at em
    rw [e3] at g1
    rw [show _=m from Option.some.inj e2] at em
    have em:(x1,y1)=m:=by rw [← em,List.getD_eq_getElem?_getD,g1]; rfl
    rw [← em] at q
    exact kz (R.heap (R.rep.keep fun b o e=>hk b o (fun hm=>absurd (List.mem_singleton.mp hm ▸ Heap.lt_size e) (Nat.lt_irrefl _)) (Heap.get?_push_of_some _ e)) tk) k V1 q
theorem Hb:∀ {vs:List Value}{ks:List Int},vs.length=ks.length→(∀ (j:Nat) (v:Value),vs[j]?=some v→∃ k,ks[j]?=some k∧(intKind X.p X.w).is k v=true)→IntsAre vs ks
  | [],[],_,_=>.nil
  | v :: vs,k :: ks,hl,h=>(h 0 v rfl).elim fun k' e=>by
    rw [← Option.some.inj (show some k=some k' from e.1)] at e
    obtain ⟨t,rfl⟩:=Value.isInt_shape e.2
    exact .cons _ t (Hb (Nat.succ.inj hl) fun j u hu=>h (j+1) u hu)
  | [],_ :: _,hl,_=>nomatch hl
  | _ :: _,[],hl,_=>nomatch hl
theorem OK {vs:List Value}{ks:List Int}(h:IntsAre vs ks):al G (ks.map .int) vs:=by
  induction h with
  | nil=>trivial
  | cons n t _ ih=>exact ⟨⟨t,rfl⟩,ih⟩
theorem qr:∀ ks:List Int,aY (ks.map .int)=true
  | []=>rfl
  | _ :: r=>qr r
theorem xA {es:List (Int × MV)}(hA:X.A.handled=none) (hS:∃ o,X.B sysModules=some o) (R:Ok X.1 G st s) (F:bJ G fr env loc) (V:aw G a v) (e:vR st a=some es) (hz:es.length<64)
    (k:KE X G fr env loc Q Φ) (q:Q (.fl ((((es.map (·.1)).mergeSort (fun a b=>decide (a≤b)))).map .int)) st):wp X (call (.builtin "sorted") [v]) Φ s :=
  vm R F fun m H=>R.dic (C:=fun v=>wp X (call (.builtin "sorted") [v]) Φ s) V e fun i d o kvs g hD m1 _=>by
  obtain ⟨ep,hat⟩:=hD.dictAt
  have hlen:kvs.length=es.length:=by have:=congrArg List.length m1; simpa using this
  refine kdu_sorted (kdl_dict (knd:=intKind X.p X.w) (kvs:=kvs) (ep:=ep) (iB hS R g)) hA H.h0 H.news hat (by have:sizeLine=16777216:=rfl; lia) fun D h' tk vs F' N' l1 hl hv=>?_
  have hi:IntsAre vs (kvs.map (·.1)):=Hb (X:=X) (by rw [List.length_map]; exact hl) fun j u hu=>(hv j u hu).elim fun k z=>z.elim fun x z=>⟨k,by rw [List.getElem?_map,z.1]; rfl,z.2⟩
  refine ksk_lsort (s:={ s with heap:=h',toks:=tk }) F' N' (fun o=>.head fun p hp e=>absurd (l1 p hp) (by rw [e]; exact Nat.lt_irrefl _)) (by simp) hi (by rw [List.length_map,hlen]; exact hz) fun vs' ns' c h2' F2 N2 i2 l2 p2 o2 _=>?_
  have e2:ns'=(es.map (·.1)).mergeSort (fun a b=>decide (a≤b)):=by
    refine (p2.trans (m1 ▸ (List.mergeSort_perm _ _).symm)).eq_of_pairwise (fun a b _ _ h h'=>Int.le_antisymm h h') o2 ?_
    have:=List.pairwise_mergeSort (le:=fun (a b:Int)=>decide (a≤b)) (fun a b c h1 h2=>by simp at *; lia) (fun a b=>by simp; lia) (es.map (·.1))
    exact this.imp fun h=>of_decide_eq_true h
  rw [← e2] at q
  exact H.fl R k F2 N2 l1 (qr _) (by simpa using OK i2) false q
theorem W9:∀ x:Int,(if x<0 then -x else x)=(x.natAbs:Int)
  | .ofNat n=>if_neg (Int.not_lt.mpr (Int.natCast_nonneg n))
  | .negSucc n=>if_pos (Int.negSucc_lt_zero n)
theorem Q4 {n:Nat}(h:n≤100000):n * 8+100<sizeLine:=by have:sizeLine=16777216:=rfl; lia
noncomputable abbrev CB (X:Cx) (Φ:Value→Shared→Prop) (s:Shared) (b:BI) (vs:List Value):Prop:=wp X (call (km b) vs) Φ s
theorem Xu {chg:Bool}{args:List MV}{vs:List Value}(hS:∃ o,X.B sysModules=some o) (hA:X.A.handled=none) (hu:X.A.units+10<cLine) (R:Ok X.1 G st s) (F:bJ G fr env loc) (V:al G args vs) (k:KE X G fr env loc Q Φ):∀ b,biW b chg args st Q→wp X (call (km b) vs) Φ s:=fun b h =>
  have kv:=k.toV F
  du h (fun a e h=>lz (C:=CB X Φ s b) V e fun v V=>by
    cases b with
    | «abs» =>
      exact eX (C:=fun v=>CB X Φ s .abs [v]) V h fun x t h=>call_abs_int fun u tk=>kI R kv (by rw [W9]; exact h) _ _
    | «len» =>
      exact aj h fun xs e h=>R.seq (C:=fun v=>CB X Φ s .len [v]) V e fun l vs n g _ V=>PyProof.Rows.len_list g.isList (by rw [← V.size]; have:=h.p; have:=Q4 h.p; lia) (by rw [← V.size]; exact kI R kv h.q _ _)
    | «min» =>
      exact aj h fun xs e h=>iq (C:=fun v=>CB X Φ s .min [v]) V e fun l vs n g p V=>du h.q
        (fun li el h=>aj h fun mm em h=>vm R F fun m H=>PyProof.Rows.min_list_N hA H.h0 H.news (by rw [Array.toArray_toList]; exact IsL.isList (R.frz g)) (nB el V) (List.length_pos_iff.mpr (Th em)) fun h' M t tk F' N' k1 k2=>by rw [SM k1 k2 em]; exact H.int k F' N' h) fun h =>
        aj h fun lp el h=>aj h fun mm em h=>JN hA hu R V (R.frz g) el em kv h
    | «max» =>
      exact aj h fun xs e h=>iq (C:=fun v=>CB X Φ s .max [v]) V e fun l vs n g p V=>aj h fun li el h=>aj h fun mm em h=>vm R F fun m H=>PyProof.Rows.max_list_N hA H.h0 H.news (by rw [Array.toArray_toList]; exact IsL.isList (R.frz g)) (nB el V) (List.length_pos_iff.mpr (Sr em)) fun h' M t tk F' N' k1 k2=>by rw [Rr k1 k2 em]; exact H.int k F' N' h
    | «sorted» =>
      exact aj h fun es e h=>xA hA hS R F V e h.p k h.q
    | «int» =>
      exact aj h fun x e h=>je (C:=fun v=>CB X Φ s .int [v]) V e (call_int_bool (kI R kv h _ _))
    | «list» =>
      exact du h (fun xs e h=>dY (C:=fun v=>CB X Φ s .list [v]) V e fun l vs n g V=>aQ h.q fun hc h2=>aQ h2 fun p h2=>vm R F fun m H=>list_copyKT H.h0 H.news ⟨_,R.frz g,rfl,n,rfl⟩ (fun D c h' F' N' hD=>H.fl R k F' N' hD p V true h2) (by rw [← V.size]; have:=h.p; have:sizeLine=16777216:=rfl; lia)) fun h =>
        aj h fun xs e h=>R.seq (C:=fun v=>CB X Φ s .list [v]) V e fun l vs n g p V=>vm R F fun m H=>list_copyK H.h0 H.news g.isList (fun D c h' F' N' hD=>H.fl R k F' N' hD p V chg h.q) (by rw [← V.size]; have:=h.p; have:sizeLine=16777216:=rfl; lia)
    | «tuple» =>
      exact aj h fun xs e h=>R.seq (C:=fun v=>CB X Φ s .tuple [v]) V e fun l vs n g p V=>call_tuple_list g.isList (fun h' hk=>J4 (R.keep hk) kv V h.q _) (by rw [← V.size]; have:=h.p; have:sizeLine=16777216:=rfl; lia)
    | _=>exact h.elim) fun h =>
  aj h fun p e h=>rp (C:=CB X Φ s b) V e fun v u V U=>by
    cases b with
    | «min» =>
      exact dp (C:=fun v u=>CB X Φ s .min [v,u]) V U h fun x y t u h=>vm R F fun m H=>min_two_N hA H.h0 H.news fun h' tk F' N'=>H.int k F' N' h
    | «max» =>
      exact dp (C:=fun v u=>CB X Φ s .max [v,u]) V U h fun x y t u h=>vm R F fun m H=>max_two_N hA H.h0 H.news fun h' tk F' N'=>H.int k F' N' h
    | «isinstance» =>
      exact eX (C:=fun v=>CB X Φ s .isinstance [v,u]) V h fun x t h=>aj h fun z e h=>M2 (C:=fun u=>CB X Φ s .isinstance [_,u]) U e (aj h fun r e q=>by
        cases z with
        | int=>exact IsiPair.int_int (kB R kv (Option.some.inj e ▸ q))
        | bool=>exact IsiPair.int_bool (kB (R.toks _) kv (Option.some.inj e ▸ q))
        | _=>exact nn e)
    | «divmod» =>
      exact dp (C:=fun v u=>CB X Φ s .divmod [v,u]) V U h fun x y t u h=>PyProof.Rows.divmod_int h.p.1 (J4 (xs:=[.int _,.int _]) (vs:=#[.int _ _,.int _ _]) R kv ⟨⟨_,rfl⟩,⟨_,rfl⟩,trivial⟩ h.q _) (.inl (pO h.p.2.2))
    | _=>exact h.elim
end
end
section
theorem xy:Cn=Str.ofString "append":=by decide +kernel
theorem Qm:Yl=Str.ofString "get":=by decide +kernel
def Lk (X:Cx) (h:Heap) (f:Value):Prop:=∃ k,(k=Keeper.frame∨k=Keeper.machine∨k=Keeper.boundFrame)∧Looks (model X.p X.w) h (keeperOf f) k
def sZ (X:Cx):Prop:=∀ (f:MV) (args:List MV) (st:St) (Q:aE) (G:Gh) (s:Shared) (fv:Value) (vs:List Value) (Φ:Value→Shared→Prop) (E:Value→Shared→Prop),X.cal f args st Q→Ok X.1 G st s→aw G f fv→al G args vs→KV X G Q Φ→Lk X s.heap fv∧wpAny (model X.p X.w) X.A (call fv vs) Φ E s
section
variable {X:Cx}{b:Bs}{G G':Gh}{st:St}{s:Shared}{Q:aE}{Φ:Value→Shared→Prop}{v va vb:Value}{a c mv:MV}{i:Nat}{x:Addr}{o:Obj}{fr:cA}{env:Env}{loc:aF}{C:Prop}{M:Model}{A:Around}{E:Value→Shared→Prop}
theorem gX {e:Expr}{r:List Expr}{env:Env}{pos:Pos}(h:aX (e :: r)=true):backTo pos (starEach (e :: r) env)=(false,eval e env) :: backTo pos (starEach r env)∧aX r=true:=by
  cases e with
  | Starred=>cases h
  | _=>exact ⟨rfl,h⟩
theorem jd {env:Env}{pos:Pos}:∀ {es:List Expr},aX es=true→((backTo pos (starEach es env)).any fun x=>x.1)=false
  | [],_=>rfl
  | e :: r,h=>by
    rw [(gX (env:=env) (pos:=pos) h).1,List.any_cons,jd (gX (env:=env) (pos:=pos) h).2]; rfl
theorem IA {f:Value}{args:List (Bool × Sem Value)}{Q:Args→Shared→Prop}(h0:(args.any fun x=>x.1)=false) (h:wpAny M A (spliced args) (fun vs s'=>Q ⟨vs,[]⟩ s') E s):wpAny M A (evalArgs f true args []) Q E s:=by
  cases args with
  | nil =>
    unfold evalArgs
    refine wpAny_bind (wpAny_mono h (fun vs s' h'=>wpAny_bind (wpAny_pure (wpAny_holding ?_))) fun _ _ x=>x)
    show wpAny M A (evalAll [] >>= _) _ _ _
    exact wpAny_bind (wpAny_evalAll_nil (wpAny_bind (wpAny_pure (wpAny_pure h'))))
  | cons x r =>
    obtain ⟨b,x⟩:=x
    cases b with
    | true=>cases h0
    | false=>exact PySem.Calls.evalArgs_plain h
theorem fx {v:Value}(h:∀ a,v≠.ref a) (hp:Heap):Lk X hp v:=by
  refine ⟨.machine,.inr (.inl rfl),fun A Q E s _ q=>?_⟩
  unfold keeperOf
  cases v with
  | ref a=>exact absurd rfl (h a)
  | _=>exact wpAny_pure q
theorem tS (b:BI):∀ a,km b≠.ref a:=by cases b <;> exact nofun
theorem mn {f:Value}{first:List Value}{pos:Pos}{args:List (Bool × Sem Value)}(h0:(args.any fun x=>x.1)=false) (h:wp X (spliced args) (fun vs s'=>Lk X s'.heap f∧wp X (call f (first ++ vs)) Φ s') s):wp X (callWith pos f first args []) Φ s :=
  callWith_of (P:=fun h=>Lk X h f) (by rw [h0]; rfl) (fun h x=>x) (IA h0 h)
theorem ka {o:Expr}{name:Str}{env:Env}(h:lF o=true):attributeBase o name env (eval o env)=eval o env:=by
  cases o with
  | Call=>cases h
  | _=>rfl
theorem dw {a b c d:Bool}(h:nh a b c d=true) (k:a=true→b=true→c=true→d=true→C):C:=by
  cases a with
  | false=>exact Bool.noConfusion h
  | true=>cases b with
    | false=>exact Bool.noConfusion h
    | true=>cases c with
      | false=>exact Bool.noConfusion h
      | true=>exact k rfl rfl rfl h
theorem HB {o:Expr}{name:Str}{apos pos:Pos}{args:List Expr}(hok:Jh o apos pos args=true)
    (h:wp X (eval o env) (fun ov s₁=>∀ pl,wp X (getMethod ov name pl) (fun fm s₂=>wp X (callWith pos fm.1 fm.2 (backTo pos (starEach args env)) []) Φ s₂) s₁) s):wp X (eval (.Call (.Attribute o name apos) args [] pos) env) Φ s :=
  dw hok fun h1 h2 h3 h4=>by
  have h3:=Nat.le_of_ble_eq_true h3
  unfold wp
  rw [arm_eval_Call,ka h1]
  refine wpAny_bind (wpAny_mono h (fun ov s₁ h₁=>wpAny_bind (wpAny_standAt ?_)) fun _ _ e=>e)
  have hfew:methodCallForm (args.length+([]:List Keyword).length) (backTo pos (starEach args env)) (backToKw pos (keywordEach [] env))=true:=by
    unfold methodCallForm
    have ha:((backTo pos (starEach args env)).all fun x=>!x.1)=true:=by
      have:=jd (env:=env) (pos:=pos) h2
      rw [List.any_eq_false] at this
      rw [List.all_eq_true]
      intro x hx
      have:=this x hx
      simpa using this
    have hk:((backToKw pos (keywordEach [] env)).all fun x=>x.1.isSome)=true:=rfl
    have hemp:(backToKw pos (keywordEach [] env)).isEmpty=true:=rfl
    rw [ha,hk,hemp]
    simp only [List.length_nil,Nat.add_zero,if_true,Bool.true_and,decide_eq_true_eq]
    lia
  have hpos:methodCallPos true o env apos pos=pure pos:=by unfold methodCallPos; simp [Nat.eq_of_beq_eq_true h4]
  unfold methodCall
  rw [hfew]
  refine wpAny_bind (wpAny_holding (wpAny_mono (h₁ _) (fun fm s₂ h₂=>?_) fun _ _ e=>e))
  exact wpAny_bind (wpAny_of_eq hpos h₂)
noncomputable def uq (G:Gh):Me→Value × List Value→Prop
  | .append i,fm=>∃ a,fm=(.builtin "list.append",[.ref a])∧aw G (.ref i) (.ref a)
  | .get i,fm=>∃ a,fm=(.builtin "dict.get",[.ref a])∧aw G (.ref i) (.ref a)
  | .fn f self,fm=>∃ x,fm=(.ref f,[x])∧aw G self x
theorem uq.mono {L:Addr→Prop}(Y:aV L G G'):∀ {m:Me}{fm:Value × List Value},uq G m fm→uq G' m fm
  | .append _,_,h=>h.imp fun a h=>⟨h.1,h.2.mono Y⟩
  | .get _,_,h=>h.imp fun a h=>⟨h.1,h.2.mono Y⟩
  | .fn _ _,_,h=>h.imp fun a h=>⟨h.1,h.2.mono Y⟩
theorem Sf {h:Heap}{a C:Addr}{m:Str→Option Value}(hi:h.InstFk a C m):h.Inst a C m:=hi.imp fun o h=>⟨h.1,h.2.1,h.2.2.1,h.2.2.2.imp id fun ⟨d,d1,d2,d3,_⟩=>⟨d,d1,d2,d3⟩⟩
theorem Lp {m:Me}{name:Str}{pl:Sem Bool}{Ψ:Value × List Value→Shared→Prop}(hW:Xx X.1 X.W) (R:Ok X.1 G st s) (V:aw G a v) (h:TB X.W a name st=some m) (k:∀ fm,uq G m fm→Ψ fm s):wp X (getMethod v name pl) Ψ s :=
  be h (fun p e h=>R.fld (C:=fun v=>wp X (getMethod v name pl) Ψ s) V e fun l m' hi hn hf V=>kE h (fun _ _ h=>nn h) fun en h=>fT h fun f em hm=>by
      obtain ⟨N,mN,fo,y,⟨⟨_,hnew,hC⟩,oN,hN,hNs⟩,h1,h2,h3,h4,h5,h6⟩:=hW.meth _ name f em
      exact method_of (R.base hC) (cW.mpr ⟨oN,R.base hN,hNs⟩) h1 h2 h3 (R.base h4) h5 h6 (Sf hi) (hn _ en) (k _ (hm ▸ ⟨_,rfl,V⟩))) fun h =>
  ao h fun i er h=>be h
    (fun es e h=>pA h fun en hm=>R.ref (C:=fun v=>wp X (getMethod v name pl) Ψ s) V er (nI e) fun l o g r e=>r.2.elim fun kvs rr =>
      have hd:s.heap.DictOf (intKind X.p X.w) l kvs:=Heap.dictOf_iff.mpr ⟨o,e,rr.1⟩
      (by rw [(b7 _ _).mp en,Qm]; exact getMethod_builtin hd.typeIs PySem.F.plainAttrs_dict PySem.F.slot_dict_get PySem.F.type_dict_get hd.mapOf.noDict (k _ (hm ▸ ⟨l,rfl,l,o,rfl,g⟩)))) fun h =>
    ao h fun xs e h=>pA h fun en hm=>R.ref (C:=fun v=>wp X (getMethod v name pl) Ψ s) V er (jr e) fun l o g r e=>r.2.elim fun vs rr=>rr.elim fun n rr =>
      (by rw [(b7 _ _).mp en,xy]; exact PySem.Calls.getMethod_list_append (show IsL s.heap l vs n from e.trans (congrArg some rr.1)) rfl rfl (k _ (hm ▸ ⟨l,rfl,l,o,rfl,g⟩)))
theorem jt {α:Type}(x:α):∀ l:List α,aL l x=l ++ [x]
  | []=>rfl
  | a :: r=>congrArg (a :: ·) (jt x r)
theorem tC {es:List (Int × MV)}{kvs:List (Int × Value)}{d:MV}{dv:Value}(h:kvs.map (·.1)=es.map (·.1)) (V:al G (es.map (·.2)) (kvs.map (·.2))) (hd:aw G d dv) (k:Int):aw G ((ah k es).getD d) ((valueAt kvs k).getD dv) :=
  (pp h V k).elim (fun e=>by rw [e.1,e.2]; exact hd) fun ⟨v,mv,e1,e2,V⟩=>by rw [e1,e2]; exact V
theorem wB {m:Me}{fm:Value × List Value}{args:List MV}{vs:List Value}(hS:∃ o,X.B sysModules=some o) (hcal:sZ X) (R:Ok X.1 G st s) (hm:uq G m fm) (V:al G args vs) (h:Am X.cal m args st Q) (k:KV X G Q Φ):Lk X s.heap fm.1∧wp X (call fm.1 (fm.2 ++ vs)) Φ s:=by
  cases m with
  | append i =>
    obtain ⟨l,rfl,Vl⟩:=hm
    exact ⟨fx (fun a h=>by cases h) _,aj h fun x e h=>lz (C:=fun vs=>wp X (call _ (_ ++ vs)) Φ s) V e fun v1 V1=>aj h fun xs e h=>aQ h fun p h=>R.cur (C:=fun v=>wp X (call _ ([v] ++ _)) Φ s) Vl (jr e) fun l o g r e=>r.2.elim fun us rr=>rr.elim fun n rr =>
      wpAny_list_append_plain ⟨n,rr.1 ▸ e⟩ (fun h' hp hs=>hp.elim fun n' hp=>K5 (Q:=fun st=>Q .none st) (mo:=.list (aL xs x)) R (fun s' G' st' R' Y q=>k _ _ _ _ .none R' Y rfl q) g hp hs
        (fun G' M=>⟨by rw [jt]; exact fA r.1 (by show (match ce x with | true=>true | false=>false)=true; rw [p]),_,n',rfl,by rw [jt,Array.toList_push]; exact (rr.2.mo M).append ⟨V1.mo M,trivial⟩⟩) h.q s.toks)
        (by rw [← rr.2.size]; have:=h.p; have:sizeLine=16777216:=rfl; lia)⟩
  | get i =>
    obtain ⟨l,rfl,Vl⟩:=hm
    exact ⟨fx (fun a h=>by cases h) _,aj h fun es e h=>R.cur (C:=fun v=>wp X (call _ ([v] ++ vs)) Φ s) Vl (nI e) fun l o g r e=>r.2.elim fun kvs rr =>
      have hd:s.heap.DictOf (intKind X.p X.w) l kvs:=Heap.dictOf_iff.mpr ⟨o,e,rr.1⟩
      du h (fun a e h=>lz (C:=fun vs=>wp X (call _ (_ ++ vs)) Φ s) V e fun v1 V1=>eX (C:=fun v=>wp X (call _ (_ ++ [v])) Φ s) V1 h fun x t h =>
        call_meetsIn PySem.F.slot_dict_get hd.typeIs PySem.F.entry_dict_get (PySem.F.args_dict_get_2 _ _) (meets_dict_get (intKind X.p X.w) l (intKind_is ..) (iB hS R g)) ⟨_,hd.mapOf,kz (R.toks _) k (tC (d:=.none) rr.2.1 rr.2.2 rfl _) h⟩) fun h =>
      aj h fun p e h=>rp (C:=fun vs=>wp X (call _ (_ ++ vs)) Φ s) V e fun v1 v2 V1 V2=>eX (C:=fun v=>wp X (call _ (_ ++ [v,_])) Φ s) V1 h fun x t h =>
        call_meetsIn PySem.F.slot_dict_get hd.typeIs PySem.F.entry_dict_get (PySem.F.args_dict_get_3 _ _ _) (meets_dict_get_default (intKind X.p X.w) l (intKind_is ..) (iB hS R g) v2) ⟨_,hd.mapOf,kz (R.toks _) k (tC rr.2.1 rr.2.2 V2 _) h⟩⟩
  | fn f self =>
    obtain ⟨x,rfl,Vx⟩:=hm
    exact hcal _ _ _ _ _ _ (.ref _) (x :: vs) Φ X.E h R rfl ⟨Vx,V⟩ k
theorem Hw {chg:Bool}{args:List MV}{vs:List Value}(hS:∃ o,X.B sysModules=some o) (hA:X.A.handled=none) (hu:X.A.units+10<cLine) (hcal:sZ X) (R:Ok X.1 G st s) (F:bJ G fr env loc) (Vf:aw G a v) (V:al G args vs) (h:GE X.cal chg a args st Q) (k:KE X G fr env loc Q Φ):Lk X s.heap v∧wp X (call v vs) Φ s :=
  du h (fun b e h=>M2 (C:=fun v=>Lk X s.heap v∧wp X (call v vs) Φ s) Vf e ⟨fx (tS b) _,Xu hS hA hu R F V k b h⟩) fun h=>hcal _ _ _ _ _ _ _ vs Φ X.E h R Vf V (k.toV F)
end
end
section
noncomputable abbrev HO (S:List Addr):Addr→Prop:=fun a=>a∈S
noncomputable def IH (X:Cx) (tgt:Expr) (it:Value) (src:St→Prop) (S:List Addr):List MV→Gh→Prop
  | [],G=>∀ L G' st s (Φ:Option Value→Shared→Prop) (E:Value→Shared→Prop),aV L G G'→(∀ a∈S,¬ L a)→Ok X.1 G' st s→src st→(∀ G2 s2,Ok X.1 G2 st s2→aV (HO S) G' G2→Φ none s2)→wpAny (model X.p X.w) X.A (pyNext it) Φ E s
  | x :: r,G=>∀ L G' st s (Φ:Value→Shared→Prop) (E E':Value→Shared→Prop),aV L G G'→(∀ a∈S,¬ L a)→Ok X.1 G' st s→src st→(∀ v G2 s2,Ok X.1 G2 st s2→aV (HO S) G' G2→aw G2 x v→IH X tgt it src S r G2→Φ v s2) →
    wpAny (model X.p X.w) X.A (pyNext it) (fun o s1=>∃ v,o=some v∧wpAny (model X.p X.w) X.A (letOwnedTupleGo tgt it v) (fun _ s2=>Φ v s2) E' s1) E s
section
variable {X:Cx}{b:Bs}{G G' G0:Gh}{st:St}{s:Shared}{Q:aE}{Φ:Value→Shared→Prop}{v va vb:Value}{a c mv:MV}{i k:Nat}{x:Addr}{o:Obj}{fr:cA}{env:Env}{loc:aF}{C:Prop}{M:Model}{A:Around}{E:Value→Shared→Prop}{L:Addr→Prop}{tgt:Expr}{src:St→Prop}{xs ys r:List MV}{vs us:Array Value}{n m:Nat}
theorem pD {e:Addr}{o:Obj}{T:String}{fs:Array Value}{target:Expr}{v:Value}{Q:Unit→Shared→Prop}(ho:s.heap.get? e=some o) (hc:o.cls=.type T) (hd:o.data=.fields fs)
    (hT:(["enumerate","zip","dict_itemiterator","dict_reverseitemiterator","odict_iterator","itertools.zip_longest","itertools.pairwise"]:List String).contains T=false) (q:Q () s):wpAny M A (letOwnedTupleGo target (.ref e) v) Q E s:=by
  unfold letOwnedTupleGo
  have go:wpAny M A (do
      let (.ref r,.ref a):=(Value.ref e,v) | return
      let o ← load r
      match o.cls,o.data with
      | .type n,.fields vs =>
        if ["enumerate","zip","dict_itemiterator","dict_reverseitemiterator","odict_iterator","itertools.zip_longest","itertools.pairwise"].contains n && vs[0]? == some (rawInt a) then
          rule "for.unpacks-the-owned-tuple"
          updateField r 0 .none
      | _,_=>pure ()) Q E s:=by
    cases v <;> try exact wpAny_pure q
    refine wpAny_bind (wpAny_load ho ?_)
    rw [hc,hd]
    simp only [hT,Bool.false_and,Bool.false_eq_true,if_false]
    exact wpAny_pure q
  cases target <;> first | exact wpAny_pure q | exact go
theorem cq {α:Type}{x:α}{r:List α}:∀ {xs:List α}{k:Nat},xs.drop k=x :: r→xs[k]?=some x∧xs.drop (k+1)=r
  | _ :: _,0,h=>by cases h; exact ⟨rfl,rfl⟩
  | _ :: xs,k+1,h=>cq (xs:=xs) (k:=k) h
  | [],0,h=>nomatch h
  | [],_+1,h=>nomatch h
theorem hH {α:Type}:∀ {xs:List α}{k:Nat},xs.drop k=[]→xs[k]?=none
  | [],_,_=>rfl
  | _ :: xs,k+1,h=>hH (xs:=xs) (k:=k) h
theorem al.atA (V:al G xs vs.toList) (e:xs[k]?=some a):∃ v,vs[k]?=some v∧aw G a v :=
  (V.get k).elim (fun h=>nn (h.1.symm.trans e)) fun ⟨_,v,e1,e2,V⟩=>⟨v,(Array.getElem?_toList (xs:=vs)).symm.trans e2,Option.some.inj (e1.symm.trans e) ▸ V⟩
theorem al.endA (V:al G xs vs.toList) (e:xs[k]?=none):vs[k]?=none :=
  (V.get k).elim (fun h=>(Array.getElem?_toList (xs:=vs)).symm.trans h.2) fun ⟨_,_,e1,_⟩=>nn (e.symm.trans e1)
theorem Ok.prvs (R:Ok X.1 G st s) {l:List (Addr × Tg)}{h':Heap}(hl:All (Lay G h') l) (hk:∀ c o,All (fun p=>c≠p.1) l→s.heap.get? c=some o→h'.get? c=some o) (t:Nat):Ok X.1 (G.ov l) st { s with heap:=h',toks:=t }∧aV (HO (l.map (·.1))) G (G.ov l) :=
  have r:=R.rep.ov (L:=HO (l.map (·.1))) hl hk (by
    have:∀ l':List (Addr × Tg),(∀ p∈l',p∈l)→All (fun p=>HO (l.map (·.1)) p.1∨G p.1=.no) l':=fun l'=>by
      induction l' with
      | nil=>exact fun _=>trivial
      | cons p q ih=>exact fun h=>⟨.inl (List.mem_map.mpr ⟨p,h p List.mem_cons_self,rfl⟩),ih fun p' hp=>h p' (List.mem_cons_of_mem _ hp)⟩
    exact this l fun _ h=>h)
  ⟨R.heap r.1 t,r.2⟩
theorem f8 {a:Addr}{o:Obj}{t:Tg}{h':Heap}(e:G a=.prv o) (h:t.lay h' a):Lay G h' (a,t):=⟨by rw [e]; rfl,h⟩
theorem a8 (Y:aV L G G') {S:List Addr}(hL:∀ a∈S,¬ L a) {e:Addr}(he:e∈S) {o:Obj}(g:G e=.prv o):G' e=.prv o:=Y.prv g (hL e he)
theorem dM {G1 G2:Gh}(M:Mo mT G0 G1) (N:Mo mT G1 G2):Mo mT G0 G2:=⟨fun a o e=>N.frz _ _ (M.frz _ _ e),fun a i o e=>N.fin _ _ _ (M.fin _ _ _ e),fun _ a i o e=>(M.cur _ trivial _ _ e).elim fun _ e=>N.cur _ trivial _ _ e⟩
def xu (T:String) (l:Addr) (k:Nat) (o:Obj):Prop:=o.cls=.type T∧o.data=.fields #[.ref l,.int k 0]
def LAt (X:Cx) (G0:Gh) (src:St→Prop) (l:Addr) (xs:List MV):Prop:=∀ G st s,Mo mT G0 G→Ok X.1 G st s→src st→∃ vs n,IsL s.heap l vs n∧al G xs vs.toList
theorem zu (hA:X.A.handled=none) {e l:Addr}(H:LAt X G0 src l xs):∀ (items:List MV) (k:Nat) (G:Gh) (o:Obj),xs.drop k=items→Mo mT G0 G→G e=.prv o→xu "list_iterator" l k o→IH X tgt (.ref e) src [e] items G
  | [],k,G,o,hd,M,g,hi=>fun L G' st s Φ E Y hL R hs kk=>(H G' st s (dM M Y.mo) R hs).elim fun vs h=>h.elim fun n h =>
    have g':=a8 Y hL List.mem_cons_self g
    wpAny_pyNext_list_end hA ⟨o,R.prv g',hi.1,hi.2⟩ h.1.isList (h.2.endA (hH hd)) fun h' hk=>(fun r=>kk _ _ r.1 r.2) (R.prvs (l:=[(e,.no)]) ⟨f8 g' trivial,trivial⟩ (fun c o n=>hk c o n.1) s.toks)
  | x :: r,k,G,o,hd,M,g,hi=>fun L G' st s Φ E E' Y hL R hs kk=>(H G' st s (dM M Y.mo) R hs).elim fun vs h=>h.elim fun n h =>
    have g':=a8 Y hL List.mem_cons_self g
    (h.2.atA (cq hd).1).elim fun v hv=>wpAny_pyNext_list_item ⟨o,R.prv g',hi.1,hi.2⟩ h.1.isList hv.1 fun h' hi' hk=>hi'.elim fun o' q =>
      (fun r=>⟨v,rfl,pD q.1 q.2.1 q.2.2 (by decide) (kk v _ _ r.1 r.2 (hv.2.mono r.2) (zu hA H _ (k+1) _ o' (cq hd).2 (dM M (dM Y.mo r.2.mo)) (gH ..) q.2))⟩) (R.prvs (l:=[(e,.prv o')]) ⟨f8 g' q.1,trivial⟩ (fun c o n=>hk.extBut c o n.1) s.toks)
theorem Pg (hA:X.A.handled=none) {e l:Addr}(gl:G0 l=.frz (iN vs n)) (V:al G0 xs vs.toList):∀ (items:List MV) (k:Nat) (G:Gh) (o:Obj),xs.drop k=items→Mo mT G0 G→G e=.prv o→xu "tuple_iterator" l k o→IH X tgt (.ref e) src [e] items G
  | [],k,G,o,hd,M,g,hi=>fun L G' st s Φ E Y hL R hs kk =>
    have g':=a8 Y hL List.mem_cons_self g
    wpAny_pyNext_tuple_end hA ⟨o,R.prv g',hi.1,hi.2⟩ (IsT.isTuple (R.frz (Y.frz (M.frz _ _ gl)))) (V.endA (hH hd)) fun h' hk=>(fun r=>kk _ _ r.1 r.2) (R.prvs (l:=[(e,.no)]) ⟨f8 g' trivial,trivial⟩ (fun c o n=>hk c o n.1) s.toks)
  | x :: r,k,G,o,hd,M,g,hi=>fun L G' st s Φ E E' Y hL R hs kk =>
    have g':=a8 Y hL List.mem_cons_self g
    (V.atA (cq hd).1).elim fun v hv=>wpAny_pyNext_tuple_item ⟨o,R.prv g',hi.1,hi.2⟩ (IsT.isTuple (R.frz (Y.frz (M.frz _ _ gl)))) hv.1 fun h' hi' hk=>hi'.elim fun o' q =>
      (fun r=>⟨v,rfl,pD q.1 q.2.1 q.2.2 (by decide) (kk v _ _ r.1 r.2 (hv.2.mo (dM M (dM Y.mo r.2.mo))) (Pg hA gl V _ (k+1) _ o' (cq hd).2 (dM M (dM Y.mo r.2.mo)) (gH ..) q.2))⟩) (R.prvs (l:=[(e,.prv o')]) ⟨f8 g' q.1,trivial⟩ (fun c o n=>hk.extBut c o n.1) s.toks)
noncomputable abbrev a7b (k n:Int):Obj:={ cls:=.type "range_iterator",dict:=none,data:=.fields #[rawInt k,rawInt (n - k),rawInt 1],slots:=#[] }
theorem Pa (hA:X.A.handled=none) {e:Addr}{n:Int}:∀ (m k:Nat) (G:Gh),(m:Int)=n - k→G e=.prv (a7b k n)→IH X tgt (.ref e) src [e] (WF m k) G
  | 0,k,G,hd,g=>fun L G' st s Φ E Y hL R hs kk =>
    have g':=a8 Y hL List.mem_cons_self g
    wpAny_pyNext_range_end hA (R.prv g') (by lia) fun h' hk=>(fun r=>kk _ _ r.1 r.2) (R.prvs (l:=[(e,.no)]) ⟨f8 g' trivial,trivial⟩ (fun c o n=>hk c o n.1) s.toks)
  | m+1,k,G,hd,g=>fun L G' st s Φ E E' Y hL R hs kk =>
    have g':=a8 Y hL List.mem_cons_self g
    wpAny_pyNext_range_item (R.prv g') (by lia) fun h' hi hk =>
      have e1:(k:Int)+1=((k+1:Nat):Int):=rfl
      have e2:n - (k:Int) - 1=n - ((k+1:Nat):Int):=by lia
      (fun r=>⟨_,rfl,pD hi rfl rfl (by decide) (kk _ _ _ r.1 r.2 ⟨_,rfl⟩ (Pa (n:=n) hA m (k+1) _ (by lia) (by rw [gH,e1,e2])))⟩) (R.prvs (l:=[(e,.prv _)]) ⟨f8 g' hi,trivial⟩ (fun c o n=>hk.extBut c o n.1) _)
noncomputable abbrev A8 (t:Addr) (k:Int) (old:Value):Obj:={ cls:=.type "enumerate",dict:=none,data:=.fields #[.none,.bool false,.ref t,rawInt k,.none,old],slots:=#[] }
theorem ED {elts:List Expr}{cc:Nat}{pos:Pos}(hA:X.A.handled=none) {e t l:Addr}(hne:e≠t) (H:LAt X G0 src l xs):∀ (ys:List MV) (k:Nat) (G:Gh) (old:Value) (ot:Obj),xs.drop k=ys→Mo mT G0 G→G e=.prv (A8 t k old)→G t=.prv ot→xu "list_iterator" l k ot→IH X (.Tuple elts cc pos) (.ref e) src [e,t] (cp k ys) G
  | [],k,G,old,ot,hd,M,ge,gt,hi=>fun L G' st s Φ E Y hL R hs kk=>(H G' st s (dM M Y.mo) R hs).elim fun vs h=>h.elim fun n h =>
    have ge':=a8 Y hL List.mem_cons_self ge
    have gt':=a8 Y hL (List.mem_cons_of_mem _ List.mem_cons_self) gt
    wpAny_pyNext_enum_end hA (R.prv ge') ⟨ot,R.prv gt',hi.1,hi.2⟩ h.1.isList (h.2.endA (hH hd)) fun h' hk=>(fun r=>kk _ _ r.1 r.2) (R.prvs (l:=[(e,.no),(t,.no)]) ⟨f8 ge' trivial,f8 gt' trivial,trivial⟩ (fun c o n=>hk c o n.2.1) s.toks)
  | x :: ys,k,G,old,ot,hd,M,ge,gt,hi=>fun L G' st s Φ E E' Y hL R hs kk=>(H G' st s (dM M Y.mo) R hs).elim fun vs h=>h.elim fun n h =>
    have ge':=a8 Y hL List.mem_cons_self ge
    have gt':=a8 Y hL (List.mem_cons_of_mem _ List.mem_cons_self) gt
    (h.2.atA (cq hd).1).elim fun mv hv=>wpAny_pyNext_enum_item (R.prv ge') ⟨ot,R.prv gt',hi.1,hi.2⟩ h.1.isList hv.1 hne fun h' he hi' ht hz hk=>hi'.elim fun ot' q=>⟨_,rfl,wpAny_letOwnedTupleGo_enum he fun h2 he' hs2=>by
      have n:=R.rep.no (Nat.le_refl _)
      have n1:s.heap.objs.size≠e:=fun z=>by rw [z,ge'] at n; cases n
      have n2:s.heap.objs.size≠t:=fun z=>by rw [z,gt'] at n; cases n
      have r:=R.rep.ov (h':=h2) (L:=HO [e,t]) (l:=[(e,.prv (A8 t ((k+1:Nat):Int) mv)),(t,.prv ot'),(s.heap.objs.size,.frz (iN #[.int k s.toks,mv] 0))]) ⟨f8 ge' he',f8 gt' ((hs2.2 t hne.symm).trans q.1),⟨by rw [n]; rfl,(hs2.2 _ n1).trans ht⟩,trivial⟩
        (fun c o q e=>(hs2.2 c q.1).trans (hk c o q.1 q.2.1 e)) ⟨.inl List.mem_cons_self,.inl (List.mem_cons_of_mem _ List.mem_cons_self),.inr n,trivial⟩
      refine kk _ _ _ ⟨r.1,R.gens,R.os⟩ r.2 ⟨_,#[.int k s.toks,mv],0,rfl,?_,⟨_,rfl⟩,hv.2.mono r.2,trivial⟩ (ED hA hne H ys (k+1) _ mv ot' (cq hd).2 (dM M (dM Y.mo r.2.mo)) (bg ..) ?_ q.2)
      · rw [bp _ _ _ n1,bp _ _ _ n2]; exact gH ..
      · rw [bp _ _ _ hne.symm]; exact bg ..⟩
noncomputable abbrev RR (TI TO:Addr):Obj:={ cls:=.type "zip",dict:=none,data:=.fields #[.none,.bool false,.bool false,.ref TI,.ref TO],slots:=#[] }
theorem E6 (hA:X.A.handled=none) {z TI TO i1 i2 l1 l2:Addr}{k:Nat}{o1 o2:Obj}{p q:Value}{Φ:Option Value→Shared→Prop}(D:ZipApart z TI TO i1 i2 l1 l2) (R:Ok X.1 G st s) (gz:G z=.prv (RR TI TO)) (gI:G TI=.prv (iN #[.ref i1,.ref i2] 0)) (gO:G TO=.prv (iN #[p,q] 0)) (g1:G i1=.prv o1) (h1:xu "list_iterator" l1 k o1) (g2:G i2=.prv o2) (h2:xu "list_iterator" l2 k o2)
    (hl1:IsL s.heap l1 vs n) (hl2:IsL s.heap l2 us m) (h:vs[k]?=none∨us[k]?=none) (kk:∀ G2 s2,Ok X.1 G2 st s2→aV (HO [z,TO,i1,i2,TI]) G G2→Φ none s2):wpAny (model X.p X.w) X.A (pyNext (.ref z)) Φ E s :=
  wpAny_pyNext_zip_end hA D (R.prv gz) (R.prv gI) (R.prv gO) ⟨o1,R.prv g1,h1.1,h1.2⟩ ⟨o2,R.prv g2,h2.1,h2.2⟩ hl1.isList hl2.isList h fun h' hk=>(fun r=>kk _ _ r.1 r.2) (R.prvs (l:=[(z,.no),(TO,.no),(i1,.no),(i2,.no),(TI,.no)]) ⟨f8 gz trivial,f8 gO trivial,f8 g1 trivial,f8 g2 trivial,f8 gI trivial,trivial⟩ (fun c o n=>hk c o n.1 n.2.1 n.2.2.1 n.2.2.2.1) s.toks)
theorem Kq {elts:List Expr}{cc:Nat}{pos:Pos}(hA:X.A.handled=none) {z TI TO i1 i2 l1 l2:Addr}(D:ZipApart z TI TO i1 i2 l1 l2) (H1:LAt X G0 src l1 xs) (H2:LAt X G0 src l2 ys):∀ (xr yr:List MV) (k:Nat) (G:Gh) (o1 o2:Obj) (p q:Value),xs.drop k=xr→ys.drop k=yr→Mo mT G0 G →
    G z=.prv (RR TI TO)→G TI=.prv (iN #[.ref i1,.ref i2] 0)→G TO=.prv (iN #[p,q] 0)→G i1=.prv o1→xu "list_iterator" l1 k o1→G i2=.prv o2→xu "list_iterator" l2 k o2→IH X (.Tuple elts cc pos) (.ref z) src [z,TO,i1,i2,TI] (OO xr yr) G
  | x :: xr,y :: yr,k,G,o1,o2,p,q,hx,hy,M,gz,gI,gO,g1,h1,g2,h2=>fun L G' st s Φ E E' Y hL R hs kk=>(H1 G' st s (dM M Y.mo) R hs).elim fun vs h=>h.elim fun n h=>(H2 G' st s (dM M Y.mo) R hs).elim fun us h'=>h'.elim fun m h'=>by
    have gz:=a8 Y hL (by simp) gz
    have gO:=a8 Y hL (by simp) gO
    have g1:=a8 Y hL (by simp) g1
    have g2:=a8 Y hL (by simp) g2
    have gI:=a8 Y hL (by simp) gI
    obtain ⟨m1,e1,V1⟩:=h.2.atA (cq hx).1
    obtain ⟨m2,e2,V2⟩:=h'.2.atA (cq hy).1
    refine wpAny_pyNext_zip_item D (R.prv gz) (R.prv gI) (R.prv gO) ⟨o1,R.prv g1,h1.1,h1.2⟩ ⟨o2,R.prv g2,h2.1,h2.2⟩ h.1.isList h'.1.isList e1 e2 fun h3 hz' hTO' hi1 hi2 hp hsz hk=>⟨_,rfl,wpAny_letOwnedTupleGo_zip hz' fun h4 hz4 hs4=>?_⟩
    obtain ⟨p1,q1⟩:=hi1
    obtain ⟨p2,q2⟩:=hi2
    have n:=R.rep.no (Nat.le_refl _)
    have ne:∀ {c o},G' c=.prv o→s.heap.objs.size≠c:=fun g z=>by rw [z,g] at n; cases n
    have r:=R.rep.ov (h':=h4) (L:=HO [z,TO,i1,i2,TI]) (l:=[(z,.prv (RR TI TO)),(TO,.prv (iN #[m1,m2] 0)),(i1,.prv p1),(i2,.prv p2),(s.heap.objs.size,.frz (iN #[m1,m2] 0))])
      ⟨f8 gz hz4,f8 gO ((hs4.2 _ D.TOz).trans hTO'),f8 g1 ((hs4.2 _ D.i1z).trans q1.1),f8 g2 ((hs4.2 _ D.i2z).trans q2.1),⟨by rw [n]; rfl,(hs4.2 _ (ne gz)).trans hp⟩,trivial⟩
      (fun c o q e=>(hs4.2 c q.1).trans (hk c o q.1 q.2.1 q.2.2.1 q.2.2.2.1 e)) ⟨.inl (by simp),.inl (by simp),.inl (by simp),.inl (by simp),.inr n,trivial⟩
    refine kk _ _ _ ⟨r.1,R.gens,R.os⟩ r.2 ⟨_,#[m1,m2],0,rfl,?_,V1.mono r.2,V2.mono r.2,trivial⟩ (Kq hA D H1 H2 xr yr (k+1) _ p1 p2 m1 m2 (cq hx).2 (cq hy).2 (dM M (dM Y.mo r.2.mo)) (bg ..) ?_ ?_ ?_ q1.2 ?_ q2.2)
    · rw [bp _ _ _ (ne gz),bp _ _ _ (ne gO),bp _ _ _ (ne g1),bp _ _ _ (ne g2)]; exact gH ..
    · rw [bp _ _ _ D.TIz,bp _ _ _ D.TITO,bp _ _ _ D.TIi1,bp _ _ _ D.TIi2,bO G' _ (ne gI).symm]; exact gI
    · rw [bp _ _ _ D.TOz]; exact bg ..
    · rw [bp _ _ _ D.i1z,bp _ _ _ (Ne.symm D.TOi1)]; exact bg ..
    · rw [bp _ _ _ D.i2z,bp _ _ _ (Ne.symm D.TOi2),bp _ _ _ (Ne.symm D.i12)]; exact bg ..
  | [],yr,k,G,o1,o2,p,q,hx,hy,M,gz,gI,gO,g1,h1,g2,h2=>fun L G' st s Φ E Y hL R hs kk=>(H1 G' st s (dM M Y.mo) R hs).elim fun vs h=>h.elim fun n h=>(H2 G' st s (dM M Y.mo) R hs).elim fun us h'=>h'.elim fun m h' =>
    have gz:=a8 Y hL (List.mem_cons_self) gz
    E6 hA D R gz (a8 Y hL (by simp) gI) (a8 Y hL (by simp) gO) (a8 Y hL (by simp) g1) h1 (a8 Y hL (by simp) g2) h2 h.1 h'.1 (.inl (h.2.endA (hH hx))) kk
  | x :: xr,[],k,G,o1,o2,p,q,hx,hy,M,gz,gI,gO,g1,h1,g2,h2=>fun L G' st s Φ E Y hL R hs kk=>(H1 G' st s (dM M Y.mo) R hs).elim fun vs h=>h.elim fun n h=>(H2 G' st s (dM M Y.mo) R hs).elim fun us h'=>h'.elim fun m h' =>
    have gz:=a8 Y hL (List.mem_cons_self) gz
    E6 hA D R gz (a8 Y hL (by simp) gI) (a8 Y hL (by simp) gO) (a8 Y hL (by simp) g1) h1 (a8 Y hL (by simp) g2) h2 h.1 h'.1 (.inr (h'.2.endA (hH hy))) kk
end
end
section
def SOk (G:Gh) (env:Env) (S:List Addr):Prop:=∀ a∈S,a≠env.locals∧∀ o,G a≠.prv o
def u4 (X:Cx) (it:Value) (S:List Addr) (G:Gh):Prop:=∀ L G' st s (Φ:Value→Shared→Prop) (E:Value→Shared→Prop),aV L G G'→(∀ a∈S,¬ L a)→Ok X.1 G' st s→Φ it s→wpAny (model X.p X.w) X.A (pyIter it) Φ E s
def Qe (X:Cx) (G:Gh) (fr:cA) (env:Env) (loc:aF) (Q:d8→St→Prop) (Φ:Value→Shared→Prop):Prop:=∀ it s' G' st' I S,Ok X.1 G' st' s'→aV (gT env.locals) G G'→bJ G' fr env loc→SOk G env S→(∀ tgt,Wn I tgt=true→IH X tgt it (fun st=>cP st I) S (bU I) G')→u4 X it S G'→(∀ a∈S,a<s'.heap.objs.size)→cP st' I→Q I st'→Φ it s'
section
variable {X:Cx}{b:Bs}{G G' G0:Gh}{st:St}{s:Shared}{Φ:Value→Shared→Prop}{v va vb:Value}{a c mv:MV}{i k:Nat}{x:Addr}{o:Obj}{fr:cA}{env:Env}{loc:aF}{C:Prop}{L:Addr→Prop}{tgt:Expr}{xs ys r:List MV}{vs us:Array Value}{n m:Nat}{Q:d8→St→Prop}{S:List Addr}
theorem SOk.back (F:bJ G fr env loc) (Y:aV (gT env.locals) G0 G) (h:SOk G env S):SOk G0 env S:=fun a ha=>⟨(h a ha).1,fun o e=>(h a ha).2 o (Y.prv e (h a ha).1)⟩
theorem l5 {o:Obj}(h:Tg.no=.prv o):C:=nomatch h
theorem n8 (F:bJ G fr env loc) (h:∀ a∈S,G a=.no):SOk G env S:=fun a ha=>⟨fun z=>F.locs.elim fun oL g=>g.elim fun m g=>l5 ((h a ha).symm.trans (z ▸ g.1)),fun o e=>l5 ((h a ha).symm.trans e)⟩
theorem IH.ext {src:St→Prop}{it:Value}(Y:aV L G G') (hL:∀ a∈S,¬ L a):∀ {items:List MV},IH X tgt it src S items G→IH X tgt it src S items G'
  | [],h=>fun L1 G2 st s Φ E Z hZ=>h _ G2 st s Φ E (Y.or Z) fun a m l=>l.elim (hL a m) (hZ a m)
  | _ :: _,h=>fun L1 G2 st s Φ E E' Z hZ=>h _ G2 st s Φ E E' (Y.or Z) fun a m l=>l.elim (hL a m) (hZ a m)
theorem u4.ext {it:Value}(Y:aV L G G') (hL:∀ a∈S,¬ L a) (h:u4 X it S G):u4 X it S G':=fun L1 G2 st s Φ E Z hZ=>h _ G2 st s Φ E (Y.or Z) fun a m l=>l.elim (hL a m) (hZ a m)
theorem Qe.pre (k:Qe X G0 fr env loc Q Φ) (Y:aV (gT env.locals) G0 G) (F:bJ G fr env loc):Qe X G fr env loc Q Φ:=fun it s' G' st' I S R Z F' h i a z w q=>k it s' G' st' I S R (Y.trans Z) F' (h.back F Y) i a z w q
theorem a3M (G:Gh):Mo mT G G:=⟨fun _ _ e=>e,fun _ _ _ e=>e,fun _ _ _ o e=>⟨o,e⟩⟩
noncomputable abbrev Qa (T:String) (l:Addr):Obj:={ cls:=.type T,data:=.fields #[.ref l,.int 0 0] }
theorem pG (hA:X.A.handled=none) (R:Ok X.1 G st s) (F:bJ G fr env loc) {l:Addr}(hl:IsL s.heap l vs n) {I:d8}(hI:bU I=xs) (H:LAt X G (fun st=>cP st I) l xs) (hs:cP st I) (k:Qe X G fr env loc Q Φ) (q:Q I st):wp X (pyIter (.ref l)) Φ s :=
  wpAny_pyIter_list hl.isList ((fun r =>
    k _ _ _ _ I [s.heap.objs.size] r.1 r.2.weak (F.extN r.2) (n8 F fun a h=>by rw [List.mem_singleton.mp h]; exact R.rep.no (Nat.le_refl _)) (fun tgt _=>by rw [hI]; exact zu hA H xs 0 _ _ rfl r.2.mo (gH ..) ⟨rfl,rfl⟩)
      (fun L G' st s Φ E Y hL R h=>wpAny_pyIter_listiter ⟨_,R.prv (a8 Y hL List.mem_cons_self (gH ..)),rfl,rfl⟩ h) (fun a h=>by rw [List.mem_singleton.mp h]; exact Heap.lt_size (Heap.get?_push_size (o:=Qa "list_iterator" l) _ rfl)) hs q)
    ((fun r=>⟨⟨r.1,R.gens,R.os⟩,r.2⟩) (R.rep.ov (L:=gE) (l:=[(s.heap.objs.size,.prv (Qa "list_iterator" l))]) (h':=s.heap.push (Qa "list_iterator" l)) ⟨⟨by rw [R.rep.no (Nat.le_refl _)]; rfl,Heap.get?_push_size _ rfl⟩,trivial⟩ (fun c o _ e=>Heap.get?_push_of_some _ e) ⟨.inr (R.rep.no (Nat.le_refl _)),trivial⟩):Ok X.1 _ st { s with heap:=s.heap.push (Qa "list_iterator" l) }∧aV gE G _))
theorem JX (hA:X.A.handled=none) (R:Ok X.1 G st s) (F:bJ G fr env loc) (V:aw G a v) {I:d8}(h:iL st a=some I) (k:Qe X G fr env loc Q Φ) (q:Q I st):wp X (pyIter v) Φ s :=
  be h (fun xs e h=>iq (C:=fun v=>wp X (pyIter v) Φ s) V e fun l vs n g p V=>pG (I:=.seq xs) (xs:=xs) hA R F (R.frz g) rfl (fun G' st s M R' _=>⟨vs,n,R'.frz (M.frz _ _ g),V.mo M⟩) trivial k (Option.some.inj h ▸ q)) fun h =>
  be h (fun xs e h=>dY (C:=fun v=>wp X (pyIter v) Φ s) V e fun l vs n g V=>wpAny_pyIter_tuple (IsT.isTuple (R.frz g)) ((fun r =>
    k _ _ _ _ (.seq xs) [s.heap.objs.size] r.1 r.2.weak (F.extN r.2) (n8 F fun a h=>by rw [List.mem_singleton.mp h]; exact R.rep.no (Nat.le_refl _)) (fun tgt _=>Pg hA g V xs 0 _ _ rfl r.2.mo (gH ..) ⟨rfl,rfl⟩)
      (fun L G' st s Φ E Y hL R h=>wpAny_pyIter_tupleiter ⟨_,R.prv (a8 Y hL List.mem_cons_self (gH ..)),rfl,rfl⟩ h) (fun a h=>by rw [List.mem_singleton.mp h]; exact Heap.lt_size (Heap.get?_push_size (o:=Qa "tuple_iterator" l) _ rfl)) trivial (Option.some.inj h ▸ q))
    ((fun r=>⟨⟨r.1,R.gens,R.os⟩,r.2⟩) (R.rep.ov (L:=gE) (l:=[(s.heap.objs.size,.prv (Qa "tuple_iterator" l))]) (h':=s.heap.push (Qa "tuple_iterator" l)) ⟨⟨by rw [R.rep.no (Nat.le_refl _)]; rfl,Heap.get?_push_size _ rfl⟩,trivial⟩ (fun c o _ e=>Heap.get?_push_of_some _ e) ⟨.inr (R.rep.no (Nat.le_refl _)),trivial⟩):Ok X.1 (G.ov [(s.heap.objs.size,.prv (Qa "tuple_iterator" l))]) st { s with heap:=s.heap.push (Qa "tuple_iterator" l) }∧aV gE G (G.ov [(s.heap.objs.size,.prv (Qa "tuple_iterator" l))])))) fun h =>
  ao h fun i er h=>fT h fun xs e hI=>by
    have e:=jr e
    rw [sq er] at V
    exact R.cur (C:=fun v=>wp X (pyIter v) Φ s) V e fun l o g r e'=>r.2.elim fun vs rr=>rr.elim fun n rr =>
      pG (I:=.lst i xs) hA R F (e'.trans (congrArg some rr.1)) rfl (fun G' st s M R' hs=>R'.cur (C:=fun v=>v=.ref l→_) ((show aw G (.ref i) (.ref l) from ⟨l,o,rfl,g⟩).mo M) hs (fun l' o g r e z=>r.2.elim fun vs rr=>rr.elim fun n rr=>⟨vs,n,by
        have z:l'=l:=by cases z; rfl
        exact z ▸ e.trans (congrArg some rr.1),rr.2⟩) rfl) e k (by rw [hI]; exact q)
theorem xh (R:Ok X.1 G st s) (j:Nat):G (s.heap.objs.size+j)=.no:=R.rep.no (Nat.le_add_right _ _)
theorem lH {G:Gh}{a:Addr}{t:Tg}{h':Heap}(e:G a=.no) (h:t.lay h' a):Lay G h' (a,t):=⟨by rw [e]; rfl,h⟩
theorem wU (hA:X.A.handled=none) (R:Ok X.1 G st s) (F:bJ G fr env loc) {l:Addr}(g:G l=.frz (bR vs n)) (V:al G xs vs.toList) (k:Qe X G fr env loc Q Φ) (q:Q (.enum xs) st):wp X (call (.type "enumerate") [.ref l]) (fun x s1=>wp X (pyIter x) Φ s1) s :=
  call_enumerate_list (IsL.isList (R.frz g)) fun h' he hi hz hk=>wpAny_pyIter_enum he (hi.elim fun ot hi=>by
    have n0:=xh R 0
    have n1:=xh R 1
    have ne:s.heap.objs.size+1≠s.heap.objs.size:=Nat.succ_ne_self _
    have r:=R.rep.ov (L:=gE) (l:=[(s.heap.objs.size+1,.prv (A8 s.heap.objs.size 0 .none)),(s.heap.objs.size,.prv ot)]) (h':=h') ⟨lH n1 he,lH n0 hi.1,trivial⟩ (fun c o _ e=>hk c o e) ⟨.inr n1,.inr n0,trivial⟩
    have gt:G.ov [(s.heap.objs.size+1,.prv (A8 s.heap.objs.size 0 .none)),(s.heap.objs.size,.prv ot)] s.heap.objs.size=.prv ot:=by rw [bp _ _ _ ne.symm]; exact gH ..
    refine k _ _ _ _ (.enum xs) [s.heap.objs.size+1,s.heap.objs.size] ⟨r.1,R.gens,R.os⟩ r.2.weak (F.extN r.2) (n8 F fun a h=>(List.mem_cons.mp h).elim (fun z=>z ▸ n1) fun h=>(List.mem_singleton.mp h) ▸ n0) (fun tgt ht=>?_) (fun L G' st s Φ E Y hL R h=>wpAny_pyIter_enum (R.prv (a8 Y hL List.mem_cons_self (bg ..))) h) (fun a h=>(List.mem_cons.mp h).elim (fun z=>z ▸ Heap.lt_size he) fun h=>(List.mem_singleton.mp h) ▸ Nat.lt_of_succ_lt (Heap.lt_size he)) trivial q
    cases tgt with
    | Tuple elts cc pos=>exact ED hA ne (G0:=G) (fun G' st s M R' _=>⟨vs,n,R'.frz (M.frz _ _ g),V.mo M⟩) xs 0 _ .none ot rfl r.2.mo (bg ..) gt hi.2
    | _=>cases ht)
theorem YA {x y:Nat}(h:x≠y):@Ne Addr x y:=h
theorem Ia (N a b:Nat) (ha:a<N) (hb:b<N):ZipApart (N+4) (N+2) (N+3) N (N+1) a b:=by constructor <;> (refine YA ?_; lia)
theorem Xo {N n a:Nat}(h:a=N+4∨a=N+3∨a=N∨a=N+1∨a=N+2) (hn:N+4<n):a<n:=by lia
theorem Iz (hA:X.A.handled=none) (R:Ok X.1 G st s) (F:bJ G fr env loc) {l1 l2:Addr}(g1:G l1=.frz (bR vs n)) (V:al G xs vs.toList) (g2:G l2=.frz (bR us m)) (U:al G ys us.toList) (k:Qe X G fr env loc Q Φ) (q:Q (.zip xs ys) st):wp X (call (.type "zip") [.ref l1,.ref l2]) (fun x s1=>wp X (pyIter x) Φ s1) s :=
  call_zip_2 (IsL.isList (R.frz g1)) (IsL.isList (R.frz g2)) fun h' hz hTI hTO hi1 hi2 hs hk=>wpAny_pyIter_zip hz (hi1.elim fun p1 q1=>hi2.elim fun p2 q2=>by
    have fr:=xh R
    have D:=Ia s.heap.objs.size l1 l2 (Heap.lt_size (R.frz g1)) (Heap.lt_size (R.frz g2))
    revert fr D hz hTI hTO q1 q2
    generalize (s.heap.objs.size:Nat)=N
    intro hz hTI hTO q1 q2 fr D
    have r:=R.rep.ov (L:=gE) (l:=[(N+4,.prv (RR (N+2) (N+3))),(N+3,.prv (iN #[.none,.none] 0)),(N,.prv p1),(N+1,.prv p2),(N+2,.prv (iN #[.ref N,.ref (N+1)] 0))]) (h':=h') ⟨lH (fr 4) hz,lH (fr 3) hTO,lH (fr 0) q1.1,lH (fr 1) q2.1,lH (fr 2) hTI,trivial⟩ (fun c o _ e=>hk c o e) ⟨.inr (fr 4),.inr (fr 3),.inr (fr 0),.inr (fr 1),.inr (fr 2),trivial⟩
    refine k _ _ _ _ (.zip xs ys) [N+4,N+3,N,N+1,N+2] ⟨r.1,R.gens,R.os⟩ r.2.weak (F.extN r.2) (n8 F fun a h=>?_) (fun tgt ht=>?_) (fun L G' st s Φ E Y hL R h=>wpAny_pyIter_zip (R.prv (a8 Y hL List.mem_cons_self (bg ..))) h) (fun a h=>?_) trivial q
    · simp only [List.mem_cons,List.not_mem_nil,or_false] at h
      rcases h with h | h | h | h | h <;> rw [h]
      · exact fr 4
      · exact fr 3
      · exact fr 0
      · exact fr 1
      · exact fr 2
    · cases tgt with
      | Tuple elts cc pos =>
        refine Kq hA D (G0:=G) (fun G' st s M R' _=>⟨vs,n,R'.frz (M.frz _ _ g1),V.mo M⟩) (fun G' st s M R' _=>⟨us,m,R'.frz (M.frz _ _ g2),U.mo M⟩) xs ys 0 _ p1 p2 .none .none rfl rfl r.2.mo (bg ..) ?_ ?_ ?_ q1.2 ?_ q2.2
        · rw [bp _ _ _ D.TIz,bp _ _ _ D.TITO,bp _ _ _ D.TIi1,bp _ _ _ D.TIi2]; exact gH ..
        · rw [bp _ _ _ D.TOz]; exact bg ..
        · rw [bp _ _ _ D.i1z,bp _ _ _ (Ne.symm D.TOi1)]; exact bg ..
        · rw [bp _ _ _ D.i2z,bp _ _ _ (Ne.symm D.TOi2),bp _ _ _ (Ne.symm D.i12)]; exact bg ..
      | _=>cases ht
    · simp only [List.mem_cons,List.not_mem_nil,or_false] at h
      exact Xo h (Heap.lt_size hz))
theorem uN (hA:X.A.handled=none) (R:Ok X.1 G st s) (F:bJ G fr env loc) {n:Int}{t:Tok}(h0:0≤n∧n≤100000) (k:Qe X G fr env loc Q Φ) (q:Q (.rng n) st):wp X (call (.type "range") [.int n t]) (fun x s1=>wp X (pyIter x) Φ s1) s :=
  vm R F fun m H=>range1_rows H.h0 H.news fun h' tk t1 u1 v1 hr _ _ hk=>by
  have R1:Ok X.1 G st { s with heap:=h',toks:=tk }:=⟨R.rep.keep hk,R.gens,R.os⟩
  refine wpAny_pyIter_range hr (small_one (by decide) (by decide) (by lia) (by lia)) ?_
  have hsz:Builtin.Range.rangeSize 0 n 1=n:=by rw [rangeSize_nat]; lia
  rw [hsz]
  have n0:=R1.rep.no (Nat.le_refl _)
  have r:=R1.rep.ov (L:=gE) (l:=[(h'.objs.size,.prv { cls:=.type "range_iterator",data:=.fields #[rawInt 0,rawInt n,rawInt 1] })]) (h':=h'.push { cls:=.type "range_iterator",data:=.fields #[rawInt 0,rawInt n,rawInt 1] }) ⟨lH n0 (Heap.get?_push_size _ rfl),trivial⟩ (fun c o _ e=>Heap.get?_push_of_some _ e) ⟨.inr n0,trivial⟩
  exact k _ _ _ _ (.rng n) [h'.objs.size] ⟨r.1,R.gens,R.os⟩ r.2.weak (F.extN r.2) (n8 F fun a h=>by rw [List.mem_singleton.mp h]; exact n0) (fun tgt _=>Pa (n:=n) hA n.toNat 0 _ (by lia) (by rw [gH]; exact congrArg (fun z=>Tg.prv { cls:=.type "range_iterator",data:=.fields #[rawInt 0,rawInt z,rawInt 1] }) (show n=n - ((0:Nat):Int) by lia))) (fun L G' st s Φ E Y hL R h=>wpAny_pyIter_rangeiter (R.prv (a8 Y hL List.mem_cons_self (gH ..))) h) (fun a h=>by rw [List.mem_singleton.mp h]; exact Heap.lt_size (Heap.get?_push_size (o:={ cls:=.type "range_iterator",data:=.fields #[rawInt 0,rawInt n,rawInt 1] }) _ rfl)) trivial q
end
end
section
def KB (X:Cx) (G:Gh) (fr:cA) (env:Env) (loc:aF) (Q:Bool→St→Prop) (Ψ:Bool→Shared→Prop):Prop:=∀ b s' G' st',Ok X.1 G' st' s'→aV (gT env.locals) G G'→bJ G' fr env loc→Q b st'→Ψ b s'
def KEs (X:Cx) (G:Gh) (fr:cA) (env:Env) (loc:aF) (Q:List MV→St→Prop) (Φ:List Value→Shared→Prop):Prop:=∀ vs s' G' st' mvs,Ok X.1 G' st' s'→aV (gT env.locals) G G'→bJ G' fr env loc→al G' mvs vs→Q mvs st'→Φ vs s'
section
variable (X:Cx)
def SE (e:Expr):Prop:=∀ ⦃fr env loc G st s Q Φ⦄,Ok X.1 G st s→bJ G fr env loc→cj X.W X.cal fr e loc st Q→KE X G fr env loc Q Φ→wp X (eval e env) Φ s
def ST (e:Expr):Prop:=∀ ⦃fr env loc G st s Q Φ⦄,Ok X.1 G st s→bJ G fr env loc→Hp X.W X.cal fr e (cj X.W X.cal fr e) loc st Q→KB X G fr env loc Q Φ→wp X (PySem.isTrue e env (eval e env)) Φ s
def RY (e:Expr):Prop:=∀ ⦃fr env loc G st s Q Φ⦄,Ok X.1 G st s→bJ G fr env loc→re X.W X.cal fr e (cj X.W X.cal fr e) loc st Q→Qe X G fr env loc Q Φ→wp X (eval e env) (fun x s1=>wp X (pyIter x) Φ s1) s
def SA (e:Expr):Prop:=∀ ⦃fr env loc G st s v mv Q Ψ⦄,Ok X.1 G st s→bJ G fr env loc→aw G v mv→jI X.W X.cal fr e v loc st Q→KL X G fr env Q Ψ→wp X (assign e env mv) (fun _=>Ψ) s
def SEs (es:List Expr):Prop:=∀ ⦃fr env loc G st s Q Φ pos⦄,Ok X.1 G st s→bJ G fr env loc→aX es=true→jK X.W X.cal fr es loc st Q→KEs X G fr env loc Q Φ→wp X (spliced (backTo pos (starEach es env))) Φ s
def STs (ifs:List Expr):Prop:=∀ ⦃fr env loc G st s Q Φ⦄,Ok X.1 G st s→bJ G fr env loc→Ob X.W X.cal fr ifs loc st Q→KB X G fr env loc Q Φ→wp X (forIn ifs true fun c r=>if r=true then do let ok ← PySem.isTrue c env (eval c env); pure (ForInStep.yield ok) else pure (ForInStep.yield r)) Φ s
noncomputable abbrev Cx.wE (E:Value→Shared→Prop):Cx:={ X with E:=E }
structure g6:Prop where
  W:Xx X.1 X.W
  cal:sZ X
  hA:X.A.handled=none
  hu:X.A.units+10<cLine
end
section
variable {X:Cx}{b:Bs}{G G' G0:Gh}{st:St}{s:Shared}{Φ:Value→Shared→Prop}{v va vb:Value}{a c mv:MV}{i k:Nat}{x:Addr}{o:Obj}{fr:cA}{env:Env}{loc:aF}{C:Prop}{L:Addr→Prop}{Q:aE}{pos p:Pos}{e l r:Expr}{es:List Expr}
theorem g6.wE (K:g6 X) (E:Value→Shared→Prop):g6 (X.wE E):=⟨K.W,K.cal,K.hA,K.hu⟩
theorem g6.u (K:g6 X):X.A.units<cLine:=Nat.lt_of_le_of_lt (Nat.le_add_right _ _) K.hu
theorem KE.at (k:KE X G0 fr env loc Q Φ) (Y:aV (gT env.locals) G0 G) (F:bJ G fr env loc):KV X G Q Φ:=fun v s' G' st' mv R Z V q=>k v s' G' st' mv R (Y.then Z) (F.extN Z) V q
theorem KE.pre (k:KE X G0 fr env loc Q Φ) (Y:aV (gT env.locals) G0 G):KE X G fr env loc Q Φ:=fun v s' G' st' mv R Z F V q=>k v s' G' st' mv R (Y.trans Z) F V q
theorem KB.pre {Q:Bool→St→Prop}{Φ:Bool→Shared→Prop}(k:KB X G0 fr env loc Q Φ) (Y:aV (gT env.locals) G0 G):KB X G fr env loc Q Φ:=fun v s' G' st' R Z F q=>k v s' G' st' R (Y.trans Z) F q
theorem KL.pre {Q:aF→St→Prop}{Ψ:Shared→Prop}(k:KL X G0 fr env Q Ψ) (Y:aV (gT env.locals) G0 G):KL X G fr env Q Ψ:=fun s' G' st' loc' R Z F q=>k s' G' st' loc' R (Y.trans Z) F q
theorem KE.here (k:KE X G fr env loc Q Φ) (R:Ok X.1 G st s) (F:bJ G fr env loc) (V:aw G mv v) (q:Q mv st):Φ v s:=k _ _ _ _ _ R (.refl _ G) F V q
theorem KB.here {Q:Bool→St→Prop}{Φ:Bool→Shared→Prop}{b:Bool}(k:KB X G fr env loc Q Φ) (R:Ok X.1 G st s) (F:bJ G fr env loc) (q:Q b st):Φ b s:=k _ _ _ _ R (.refl _ G) F q
theorem VM {m:Bool→Prop}{A B:Prop}:∀ {c:Bool},aI c A B→(A→m true)→(B→m false)→m c
  | true,h,k,_=>k h
  | false,h,_,k=>k h
theorem uk {c:Const}{k:Nat}:SE X (.Constant c k pos):=fun _ _ _ _ _ _ _ _ R F h k=>by
  cases c with
  | none=>exact wpAny_Constant_none (k.here (mv:=.none) R F rfl h)
  | bool b=>exact wpAny_Constant_bool (k.here (mv:=.bool b) R F rfl h)
  | int i=>exact wpAny_Constant_int (k.here (mv:=.int i) (R.toks _) F ⟨_,rfl⟩ h)
  | str x=>exact wpAny_Constant_str (k.here (mv:=.str x) (R.toks _) F ⟨_,rfl⟩ h)
  | _=>exact False.elim h
theorem Bj (K:g6 X) {x:Str}:SE X (.Name x p):=fun _ _ _ _ _ _ _ _ R F h k=>vB K.W R F h (k.toV F)
theorem Ju {op:Operator}(hl:SE X l) (hr:SE X r):SE X (.BinOp l op r pos):=fun _ _ _ _ _ _ _ _ R F h k =>
  wpAny_BinOp (hl R F h fun a s1 G1 cr ma R1 Y1 F1 V1 h=>hr R1 F1 h fun b s2 G2 eG mb R2 Y2 F2 V2 h=>RL R2 (V1.mono Y2) V2 (k.at (Y1.trans Y2) F2) op h)
theorem wR {op:UnaryOp}(hl:SE X l):SE X (.UnaryOp op l pos):=fun _ _ _ _ _ _ _ _ R F h k =>
  wpAny_UnaryOp (hl R F h fun a s1 G1 cr ma R1 Y1 F1 V1 h=>XL R1 V1 (k.at Y1 F1) op h)
theorem LN {t b o:Expr}(ht:ST X t) (hb:SE X b) (ho:SE X o):SE X (.IfExp t b o pos):=fun _ _ _ _ _ s _ Φ R F h k =>
  wpAny_IfExp (ht R F h fun c s1 G1 cr R1 Y1 F1 h=>VM (m:=fun c=>if c=true then wp X (eval b _) Φ s1 else wp X (eval o _) Φ s1) h (fun h=>hb R1 F1 h (k.pre Y1)) fun h=>ho R1 F1 h (k.pre Y1))
theorem kP (K:g6 X) {o:Expr}{name:Str}(ho:SE X o):SE X (.Attribute o name pos):=fun _ _ _ _ _ _ _ _ R F h k=>aQ h fun hp h=>by
  unfold wp
  rw [arm_eval_Attribute,ka hp]
  exact wpAny_bind (ho R F h fun v s1 G1 cr mv R1 Y1 F1 V1 h=>aj h fun x e q=>wpAny_bind (wpAny_standAt (wpAny_bind (wpAny_holding (Jk K.W R1 V1 e true fun mv t Vx=>wpAny_bind (wpAny_letTemporaryGo (wpAny_pure (k _ _ _ _ _ (R1.toks t) Y1 F1 Vx q))))))))
theorem Wh {o i:Expr}(ho:SE X o) (hi:SE X i) {loc:aF}(R:Ok X.1 G st s) (F:bJ G fr env loc) (h:cj X.W X.cal fr o loc st fun v st=>cj X.W X.cal fr i loc st fun k st=>ad (iP st v k) fun x=>bw (aT k) (Q x st)) (k:KE X G fr env loc Q Φ):wp X (eval (.Subscript o i pos) env) Φ s :=
  uR (ho R F h fun v s1 G1 cr mv R1 Y1 F1 V1 h=>hi R1 F1 h fun u s2 G2 eG mu R2 Y2 F2 V2 h=>aj h fun x e h=>aQ h fun hs h=>C4 R2 (V1.mono Y2) V2 e hs fun mx t Vx=>k _ _ _ _ _ (R2.toks t) (Y1.trans Y2) F2 Vx h)
def SO (X:Cx) (o:Option Expr):Prop:=∀ e,o=some e→SE X e
theorem sO:∀ {o:Option Expr},SO X o→∀ {loc:aF},Ok X.1 G st s→bJ G fr env loc→wpO X.W X.cal fr o loc st Q→KE X G fr env loc Q Φ→wp X (evalPart o env) Φ s
  | none,_,_,R,F,h,k=>by
    unfold wp; rw [evalPart_none]
    exact wpAny_pure (k.here (mv:=.none) R F rfl h)
  | some e,ho,_,R,F,h,k=>wpAny_evalPart_some (ho e rfl R F h k)
theorem Pp {o:Expr}{lo hi sp:Option Expr}(ho:SE X o) (h1:SO X lo) (h2:SO X hi) (h3:SO X sp):SE X (.Subscript o (.Slice lo hi sp p) pos):=fun _ _ _ _ _ _ _ _ R F h k =>
  uR (ho R F h fun v s1 G1 cr mv R1 Y1 F1 V1 h=>wpAny_Slice (sO h1 R1 F1 h fun a s2 G2 eG ma R2 Y2 F2 V2 h=>sO h2 R2 F2 h fun b s3 G3 IN mb R3 Y3 F3 V3 h=>sO h3 R3 F3 h fun c s4 G4 X2 mc R4 Y4 F4 V4 h =>
    aj h fun x e1 h=>aj h fun y e2 h=>aj h fun z e3 h=>IG R4 (V1.mono (Y2.trans (Y3.trans Y4))) (pt (V2.mono (Y3.trans Y4)) e1) (pt (V3.mono Y4) e2) (pt V4 e3) h (k.at (Y1.trans (Y2.trans (Y3.trans Y4))) F4)))
theorem Y9:∀ {es:List Expr},All (SE X) es→SEs X es
  | [],_=>fun _ _ _ G _ _ _ _ _ R F _ h k=>PySem.Calls.spliced_nil (k [] _ _ _ [] R (.refl _ G) F trivial h)
  | e :: r,hs=>fun _ _ _ _ _ _ _ _ _ R F hn h k=>by
    unfold wp; rw [(gX hn).1]
    exact PySem.Calls.spliced_cons (hs.1 R F h fun v s1 G1 cr mv R1 Y1 F1 V1 h=>Y9 hs.2 R1 F1 (gX (env:=default) (pos:=default) hn).2 h fun vs s2 G2 eG mvs R2 Y2 F2 V2 q=>k (v :: vs) s2 G2 eG (mv :: mvs) R2 (Y1.trans Y2) F2 ⟨V1.mono Y2,V2⟩ q)
theorem sz1 {n:Nat}(h:n≤1000):n≤sizeLine:=by have:sizeLine=16777216:=rfl; lia
theorem OS {k:Nat}(hs:All (SE X) es):SE X (.Tuple es k pos):=fun _ _ _ _ _ _ _ _ R F h k=>aQ h fun hn h =>
  wpAny_Tuple (Y9 hs R F hn h fun vs s1 G1 cr mvs R1 Y1 F1 V1 h=>⟨sz1 (V1.length ▸ h.p),J4 (vs:=vs.toArray) R1 (k.at Y1 F1) V1 h.q s1.toks⟩)
theorem QA (hs:All (SE X) es):SE X (.List es pos):=fun _ _ _ _ _ _ _ Φ R F h k=>aQ h fun hn h =>
  wpAny_List (Y9 hs R F hn h fun vs s1 G1 cr mvs R1 Y1 F1 V1 h=>aQ h fun p h=>⟨sz1 (V1.length ▸ h.p),by
    cases q:X.W.chg pos.line with
    | true=>rw [q] at h; exact ZC (mo:=.list mvs) R1 (k.at Y1 F1) rfl (fun G' _ M=>⟨p,vs.toArray,0,rfl,V1.mo M⟩) h.q s1.toks
    | false=>rw [q] at h; exact kFl (vs:=vs.toArray) R1 (k.at Y1 F1) p V1 h.q s1.toks⟩)
theorem Rg (K:g6 X) {o:Expr}{name:Str}{apos:Pos}(ho:SE X o) (hs:All (SE X) es):SE X (.Call (.Attribute o name apos) es [] pos):=fun _ _ _ _ _ _ _ _ R F h k=>aQ h fun hok h =>
  HB hok (ho R F h fun v s1 G1 cr mv R1 Y1 F1 V1 h pl=>aj h fun m e h=>Lp K.W R1 V1 e fun fm hm=>dw hok fun _ hn _ _=>mn (jd hn) (Y9 hs R1 F1 hn h fun vs s2 G2 eG mvs R2 Y2 F2 V2 h=>wB K.W.sys K.cal R2 (hm.mono Y2) V2 h (k.at (Y1.trans Y2) F2)))
noncomputable def KH:Expr→Bool
  | .Attribute _ _ _=>true
  | _=>false
theorem Rq {f:Expr}{args:List Expr}(h:KH f=false):eval (.Call f args [] pos) env=(do callWith pos (← eval f env) [] (backTo pos (starEach args env)) (backToKw pos (keywordEach [] env))):=by
  cases f with
  | Attribute=>cases h
  | _=>rfl
theorem QB (K:g6 X) {f:Expr}(hf:SE X f) (hs:All (SE X) es) (ha:KH f=false) {loc:aF}(R:Ok X.1 G st s) (F:bJ G fr env loc) (h:bw (aX es) (cj X.W X.cal fr f loc st fun v st=>jK X.W X.cal fr es loc st fun vs st=>GE X.cal (X.W.chg pos.line) v vs st Q)) (k:KE X G fr env loc Q Φ):wp X (eval (.Call f es [] pos) env) Φ s :=
  aQ h fun hn h=>by
  unfold wp; rw [Rq ha]
  exact wpAny_bind (hf R F h fun v s1 G1 cr mv R1 Y1 F1 V1 h=>mn (first:=[]) (jd hn) (Y9 hs R1 F1 hn h fun vs s2 G2 eG mvs R2 Y2 F2 V2 h=>Hw K.W.sys K.hA K.hu K.cal R2 F2 (V1.mono Y2) V2 h (k.pre (Y1.trans Y2))))
theorem a6W {op:CmpOp}(K:g6 X) {Q:Bool→St→Prop}{Ψ:Bool→Shared→Prop}(R:Ok X.1 G st s) (F:bJ G fr env loc) (Va:aw G a va) (Vb:aw G c vb) (h:ad (eY st op a c) fun c=>Q c st) (k:KB X G fr env loc Q Ψ):wp X (compareOp op va vb) (fun v s1=>∃ c,v=.bool c∧Ψ c s1) s :=
  aj h fun r e q=>kg K.W.sys K.u R Va Vb (fun t=>⟨r,rfl,k _ _ _ _ (R.toks t) (.refl _ G) F q⟩) op e
theorem Da (K:g6 X):∀ {cs:List Expr},All (SE X) cs→∀ {ops:List CmpOp},ops.length=cs.length→∀ {a:MV}{va:Value}{st:St}{s:Shared}{G:Gh}{loc:aF}{Q:Bool→St→Prop},Ok X.1 G st s→bJ G fr env loc→aw G a va→ly X.W X.cal fr a ops cs loc st Q→KB X G fr env loc Q (fun b=>Φ (.bool b))→wp X (compareChain pos va ops (evalEach cs env)) Φ s
  | [],_,[],_=>fun _ _ _ h _=>h.elim
  | [],_,_ :: _,hl=>nomatch hl
  | _ :: _,_,[],hl=>nomatch hl
  | [_],_,_ :: _ :: _,hl=>nomatch Nat.succ.inj hl
  | _ :: _ :: _,_,[_],hl=>nomatch Nat.succ.inj hl
  | [e],hs,[op],_=>fun R F V h k=>chain_last (hs.1 R F h fun b s1 G1 cr mb R1 Y1 F1 V1 h=>aj h fun r er h=>kg K.W.sys K.u R1 (V.mono Y1) V1 (fun t=>k _ _ _ _ (R1.toks t) Y1 F1 h) op er)
  | e :: e' :: cs,hs,op :: op' :: ops,hl=>fun R F V h k=>chain_link (hs.1 R F h fun b s1 G1 cr mb R1 Y1 F1 V1 h=>aj h fun r er h=>kg K.W.sys K.u R1 (V.mono Y1) V1 (fun t=>wpAny_truthy_bool (VM (m:=fun c=>if c=true then wp X _ Φ _ else Φ _ _) h (fun h=>Da K hs.2 (Nat.succ.inj hl) (R1.toks t) F1 V1 h (k.pre Y1)) fun h=>k _ _ _ _ (R1.toks t) Y1 F1 h)) op er)
theorem FO (K:g6 X) {Ψ:Bool→Shared→Prop}:∀ {cs:List Expr},All (SE X) cs→∀ {ops:List CmpOp},ops.length=cs.length→∀ {a:MV}{va:Value}{st:St}{s:Shared}{G:Gh}{loc:aF}{Q:Bool→St→Prop},Ok X.1 G st s→bJ G fr env loc→aw G a va→ly X.W X.cal fr a ops cs loc st Q→KB X G fr env loc Q Ψ→wp X (testChain pos va ops (evalEach cs env)) Ψ s
  | [],_,[],_=>fun _ _ _ h _=>h.elim
  | [],_,_ :: _,hl=>nomatch hl
  | _ :: _,_,[],hl=>nomatch hl
  | [_],_,_ :: _ :: _,hl=>nomatch Nat.succ.inj hl
  | _ :: _ :: _,_,[_],hl=>nomatch Nat.succ.inj hl
  | [e],hs,[op],_=>fun R F V h k=>test_last (hs.1 R F h fun b s1 G1 cr mb R1 Y1 F1 V1 h=>aj h fun r er h=>kg K.W.sys K.u R1 (V.mono Y1) V1 (fun t=>wpAny_truthy_bool (k _ _ _ _ (R1.toks t) Y1 F1 h)) op er)
  | e :: e' :: cs,hs,op :: op' :: ops,hl=>fun R F V h k=>test_link (hs.1 R F h fun b s1 G1 cr mb R1 Y1 F1 V1 h=>aj h fun r er h=>kg K.W.sys K.u R1 (V.mono Y1) V1 (fun t=>wpAny_truthy_bool (VM (m:=fun c=>if c=true then wp X _ Ψ _ else Ψ _ _) h (fun h=>FO K hs.2 (Nat.succ.inj hl) (R1.toks t) F1 V1 h (k.pre Y1)) fun h=>k _ _ _ _ (R1.toks t) Y1 F1 h)) op er)
theorem not_true {b:Bool}(h:(!b)=true):b=false:=by cases b with | false=>rfl | true=>cases h
theorem vW (K:g6 X) {ops:List CmpOp}{cs:List Expr}(hl:SE X l) (hs:All (SE X) cs):SE X (.Compare l ops cs pos):=fun _ _ _ _ _ _ _ _ R F h k=>aQ h fun hm h=>dw hm fun hm hn _ _=>by
  unfold wp; rw [arm_eval_Compare,markedEach_of_false _ _ _ (not_true hm)]
  exact wpAny_bind (hl R F h fun a s1 G1 cr ma R1 Y1 F1 V1 h=>Da K hs (Nat.eq_of_beq_eq_true hn) R1 F1 V1 h fun b s2 G2 eG R2 Y2 F2 q=>k _ _ _ _ (.bool b) R2 (Y1.trans Y2) F2 rfl q)
theorem wa (K:g6 X) {ops:List CmpOp}{cs:List Expr}(hl:SE X l) (hs:All (SE X) cs):ST X (.Compare l ops cs pos):=fun _ _ _ _ _ _ _ _ R F h k=>aQ h fun hm h=>dw hm fun hm hn _ _=>by
  unfold wp; rw [arm_isTrue_Compare,markedEach_of_false _ _ _ (not_true hm)]
  exact wpAny_bind (hl R F h fun a s1 G1 cr ma R1 Y1 F1 V1 h=>FO K hs (Nat.eq_of_beq_eq_true hn) R1 F1 V1 h (k.pre Y1))
theorem Jq (he:SE X e) (ht:∀ {env:Env},PySem.isTrue e env (eval e env)=(do let v ← eval e env; standAt e.pos; holding [v] (truthy v))) {loc:aF}{Q:Bool→St→Prop}{Ψ:Bool→Shared→Prop}(R:Ok X.1 G st s) (F:bJ G fr env loc) (h:cj X.W X.cal fr e loc st fun v st=>dF v fun b=>Q b st) (k:KB X G fr env loc Q Ψ):wp X (PySem.isTrue e env (eval e env)) Ψ s :=
  wpAny_isTrue_value (he R F h fun v s1 G1 cr mv R1 Y1 F1 V1 h=>lX V1 h fun b q=>k _ _ _ _ R1 Y1 F1 q) ht
theorem Ws (hx:ST X e):ST X (.UnaryOp .Not e pos):=fun _ _ _ _ _ _ _ _ R F h k=>wpAny_isTrue_Not (hx R F h fun b s1 G1 cr R1 Y1 F1 q=>k _ _ _ _ R1 Y1 F1 q)
theorem Kl {Ψ:Bool→Shared→Prop}:∀ {vs:List Expr},All (ST X) vs→∀ {op:BoolOp}{st:St}{s:Shared}{G:Gh}{loc:aF}{Q:Bool→St→Prop},Ok X.1 G st s→bJ G fr env loc→AK X.W X.cal fr op vs loc st Q→KB X G fr env loc Q Ψ→wp X (allTrue op vs env) Ψ s
  | [],_,.And=>fun R F h k=>wpAny_allTrue_And_nil (k.here R F h)
  | [],_,.Or=>fun R F h k=>wpAny_allTrue_Or_nil (k.here R F h)
  | x :: r,hs,.And=>fun R F h k=>wpAny_allTrue_And_cons (hs.1 R F h fun b s1 G1 cr R1 Y1 F1 h=>VM (m:=fun c=>if c=true then wp X _ Ψ s1 else Ψ false s1) h (fun h=>Kl hs.2 R1 F1 h (k.pre Y1)) fun h=>k _ _ _ _ R1 Y1 F1 h)
  | x :: r,hs,.Or=>fun R F h k=>wpAny_allTrue_Or_cons (hs.1 R F h fun b s1 G1 cr R1 Y1 F1 h=>VM (m:=fun c=>if c=true then Ψ true s1 else wp X _ Ψ s1) h (fun h=>k _ _ _ _ R1 Y1 F1 h) fun h=>Kl hs.2 R1 F1 h (k.pre Y1))
theorem Iq {op:BoolOp}(hs:All (ST X) es):ST X (.BoolOp op es pos):=fun _ _ _ _ _ _ _ _ R F h k=>wpAny_isTrue_BoolOp (Kl hs R F h k)
theorem Ot:∀ {vs:List Expr},All (SE X) vs→∀ {op:BoolOp}{st:St}{s:Shared}{G:Gh}{loc:aF}{Q:aE},Ok X.1 G st s→bJ G fr env loc→rS X.W X.cal fr op vs loc st Q→KE X G fr env loc Q Φ→wp X (boolOp pos op (evalEach vs env)) Φ s
  | [],_,_,_,_,_,_,_,_,_,h,_=>h.elim
  | [x],hs,_,_,_,_,_,_,R,F,h,k=>hs.1 R F h k
  | x :: y :: r,hs,.And,_,_,_,_,_,R,F,h,k=>wpAny_bind (hs.1 R F h fun v s1 G1 cr mv R1 Y1 F1 V1 h=>wpAny_bind (wpAny_standAt (wpAny_bind (wpAny_holding (lX V1 h fun b h=>match b,h with
      | true,h=>Ot hs.2 R1 F1 h (k.pre Y1)
      | false,h=>wpAny_pure (k _ _ _ _ _ R1 Y1 F1 V1 h))))))
  | x :: y :: r,hs,.Or,_,_,_,_,_,R,F,h,k=>wpAny_bind (hs.1 R F h fun v s1 G1 cr mv R1 Y1 F1 V1 h=>wpAny_bind (wpAny_standAt (wpAny_bind (wpAny_holding (lX V1 h fun b h=>match b,h with
      | true,h=>wpAny_pure (k _ _ _ _ _ R1 Y1 F1 V1 h)
      | false,h=>Ot hs.2 R1 F1 h (k.pre Y1))))))
theorem HE {op:BoolOp}(hs:All (SE X) es):SE X (.BoolOp op es pos):=fun _ _ _ _ _ _ _ _ R F h k=>Ot hs R F h k
theorem sTs:∀ {ifs:List Expr},All (ST X) ifs→STs X ifs
  | [],_=>fun _ _ _ _ _ _ _ _ R F h k=>wpAny_tests_nil (k.here R F h)
  | [e],hs=>fun _ _ _ _ _ _ _ _ R F h k=>wpAny_tests_one (hs.1 R F h k)
  | _ :: _ :: _,_=>fun _ _ _ _ _ _ _ _ R F h k=>False.elim h
end
end
section
set_option backward.match.sparseCases false
section
variable {X:Cx}{b:Bs}{G G' G0:Gh}{st:St}{s:Shared}{Φ:Value→Shared→Prop}{v va vb:Value}{a c mv:MV}{i k:Nat}{x:Addr}{o:Obj}{fr:cA}{env:Env}{loc:aF}{C:Prop}{L:Addr→Prop}{Q:aE}{pos p:Pos}{e l r:Expr}{es:List Expr}
theorem Q6 {y:Str}:SA X (.Name y p):=fun _ _ _ _ _ _ _ _ _ _ R F V h k=>wpAny_assign_Name (g9 R F V h k)
theorem ri (K:g6 X) {ob:Expr}{name:Str}(ho:SE X ob):SA X (.Attribute ob name p):=fun _ env loc _ _ _ _ mv _ Ψ R F V h k=>by
  show wpAny _ _ (do
    let ov ← holding [mv] (eval ob env)
    standAt p.atName
    holding [mv,ov] (setAttr ov name mv)
    release [mv,ov] []) _ _ _
  exact wpAny_bind (wpAny_holding (ho R F h fun ov s1 G1 cr mo R1 Y1 F1 V1 h=>wpAny_bind (wpAny_standAt (wpAny_bind (wpAny_holding (tM K.W R1 V1 (V.mono Y1) h fun s2 G2 eG R2 Y2 q=>wpAny_release' (k s2 G2 eG loc R2 (Y1.then Y2) (F1.extN Y2) q)))))))
theorem rc {ob ix:Expr}(ho:SE X ob) (hi:SE X ix):SA X (.Subscript ob ix p):=fun _ env loc _ _ _ _ mv _ Ψ R F V h k=>by
  show wpAny _ _ (holding [mv] (eval ob env) >>= _) _ _ _
  exact wpAny_bind (wpAny_holding (ho R F h fun ov s1 G1 cr mo R1 Y1 F1 V1 h=>wpAny_bind (wpAny_holding (hi R1 F1 h fun iv s2 G2 eG mi R2 Y2 F2 V2 h=>wpAny_bind (wpAny_standAt (wpAny_bind (wpAny_holding (mE R2 (V1.mono Y2) V2 (V.mono (Y1.trans Y2)) h fun s3 G3 IN R3 Y3 q=>wpAny_release' (k s3 G3 IN loc R3 ((Y1.trans Y2).then Y3) (F2.extN Y3) q)))))))))
theorem kq {e:Expr}{r:List Expr}{env:Env}(h:aX (e :: r)=true):assignEach (e :: r) env=(false,assign e env) :: assignEach r env∧aX r=true:=by
  cases e with
  | Starred=>cases h
  | _=>exact ⟨rfl,h⟩
theorem rC {env:Env}:∀ {es:List Expr},aX es=true→(assignEach es env).length=es.length∧List.findIdx? (fun x=>x.1) (assignEach es env)=none
  | [],_=>⟨rfl,rfl⟩
  | e :: r,h=>by
    have ih:=rC (env:=env) (kq (env:=env) h).2
    rw [(kq h).1,List.findIdx?_cons,ih.2]
    exact ⟨congrArg (·+1) ih.1,rfl⟩
theorem sAs {Ψ:Shared→Prop}:∀ {es:List Expr},All (SA X) es→aX es=true→∀ {loc:aF}{st:St}{s:Shared}{G:Gh}{vs:List MV}{mvs:List Value}{Q:aF→St→Prop},Ok X.1 G st s→bJ G fr env loc→al G vs mvs→wL X.W X.cal fr es vs loc st Q→KL X G fr env Q Ψ →
    wp X (assignInOrder ((assignEach es env).map fun x=>x.2) mvs) (fun _=>Ψ) s
  | [],_,_,loc,st,s,G,[],[],_,R,F,V,h,k=>wpAny_assignInOrder_none (k s G st loc R (.refl _ G) F h)
  | e :: r,hs,hn,_,_,_,_,v :: vs,mv :: mvs,_,R,F,V,h,k=>by
    unfold wp; rw [(kq hn).1]
    exact wpAny_assignInOrder_more (hs.1 R F V.1 h fun s1 G1 cr loc1 R1 Y1 F1 h=>sAs hs.2 (kq (env:=env) hn).2 R1 F1 (V.2.mono Y1) h (k.pre Y1))
  | [],_,_,_,_,_,_,_ :: _,_,_,_,_,_,h,_=>h.elim
  | _ :: _,_,_,_,_,_,_,[],_,_,_,_,_,h,_=>h.elim
  | _,_,_,_,_,_,_,[],_ :: _,_,_,_,V,_,_=>V.elim
  | _,_,_,_,_,_,_,_ :: _,[],_,_,_,V,_,_=>V.elim
theorem L3 (K:g6 X) {kk:Nat}(hs:All (SA X) es):SA X (.Tuple es kk p):=fun fr env _ _ _ s _ mv _ Ψ R F V h k=>aj h fun vs e h=>aQ h fun hb h=>dw hb fun hn hl _ _ =>
  dY (C:=fun mv=>wp X (assign (.Tuple es kk p) env mv) (fun _=>Ψ) s) V e fun t items n g V2 =>
    wpAny_assign_Tuple K.hA (IsT.isTuple (R.frz g)) (by rw [(rC hn).1,Nat.eq_of_beq_eq_true hl]; exact V2.size) (rC hn).2 fun h' hk=>by
      have n:=R.rep.no (Nat.le_refl s.heap.objs.size)
      have r:=R.rep.ov (L:=gE) (l:=[(s.heap.objs.size,.no)]) (h':=h') ⟨lH n trivial,trivial⟩ (fun c o q e=>hk c o q.1 e) ⟨.inr n,trivial⟩
      exact sAs (s:={ s with heap:=h' }) hs hn ⟨r.1,R.gens,R.os⟩ (F.extN r.2) (V2.mono r.2) h (k.pre r.2.weak)
theorem qM (K:g6 X) (he:SE X e) {loc:aF}{Q:d8→St→Prop}(R:Ok X.1 G st s) (F:bJ G fr env loc) (h:cj X.W X.cal fr e loc st fun v st=>ad (iL st v) fun I=>Q I st) (k:Qe X G fr env loc Q Φ):wp X (eval e env) (fun x s1=>wp X (pyIter x) Φ s1) s :=
  he R F h fun v s1 G1 cr mv R1 Y1 F1 V1 h=>aj h fun I e q=>JX K.hA R1 F1 V1 e (k.pre Y1 F1) q
theorem nP {W:Wd}{y:Str}{bi:BI}(h:gk W fr y=some bi):look y fr.scope.names=some .globalImplicit∧W.glob y=some (.bi bi):=by
  unfold gk at h
  cases e:look y fr.scope.names with
  | none=>rw [e] at h; exact nn h
  | some k =>
    rw [e] at h
    cases k with
    | globalImplicit =>
      refine ⟨rfl,?_⟩
      have h:(match W.glob y with | some (.bi b)=>some b | _=>none)=some bi:=h
      cases q:W.glob y with
      | none=>rw [q] at h; exact nn h
      | some v =>
        rw [q] at h
        cases v with
        | bi z=>rw [Option.some.inj h]
        | _=>exact nn h
    | _=>exact nn h
theorem wg {W:Wd}{y:Str}(h1:look y fr.scope.names=some .globalImplicit) (h2:W.glob y=some mv) (q:Q mv st):pJ W fr y loc st Q:=by
  unfold pJ
  rw [h1]
  show ad (W.glob y) _
  rw [h2]; exact q
theorem lK (K:g6 X) {y:Str}{bi:BI}{Φ':Value→Shared→Prop}(hs:All (SE X) es) (R:Ok X.1 G st s) (F:bJ G fr env loc) (hk:gk X.W fr y=some bi) {Q:List MV→St→Prop}(h:bw (!bB y dg) (bw (aX es) (jK X.W X.cal fr es loc st Q)))
    (k:KEs X G fr env loc Q fun vs s'=>wp X (call (km bi) vs) Φ' s'):wp X (eval (.Call (.Name y p) es [] pos) env) Φ' s :=
  aQ h fun hd h=>aQ h fun hn h=>wpAny_Call_NameR (vB (Q:=fun m st'=>m=.bi bi∧st'=st) K.W R F (by
    rw [hd]; exact wg (Q:=fun m st'=>m=.bi bi∧st'=st) (nP hk).1 (nP hk).2 ⟨rfl,rfl⟩) fun f s1 G1 cr mf R1 Y1 V1 q=>by
      rw [q.1] at V1
      rw [show f=km bi from V1]
      rw [q.2] at R1
      exact mn (jd hn) (Y9 hs R1 (F.extN Y1) hn h fun vs s2 G2 eG mvs R2 Y2 F2 V2 q=>⟨fx (tS bi) _,k vs s2 G2 eG mvs R2 (Y1.weak.trans Y2) F2 V2 q⟩))
theorem K9 (K:g6 X) {y:Str}(he:SE X (.Call (.Name y p) es [] pos)) (hs:All (SE X) es):RY X (.Call (.Name y p) es [] pos):=fun fr env loc G st s Q Φ R F h k=>by
  have h:(match gk X.W fr y with
      | some .enumerate=>bw (!bB y dg) (bw (aX es) (jK X.W X.cal fr es loc st fun vs st=>ad (aH (qe vs) yn) fun xs=>Q (.enum xs) st))
      | some .range=>bw (!bB y dg) (bw (aX es) (jK X.W X.cal fr es loc st fun vs st=>ad (aH (qe vs) ga) fun n=>bW (0≤n∧n≤100000) (Q (.rng n) st)))
      | some .zip=>bw (!bB y dg) (bw (aX es) (jK X.W X.cal fr es loc st fun vs st=>ad (wM vs) fun p=>ad (yn p.1) fun xs=>ad (yn p.2) fun ys=>Q (.zip xs ys) st))
      | _=>cj X.W X.cal fr (.Call (.Name y p) es [] pos) loc st fun v st=>ad (iL st v) fun I=>Q I st):=h
  have val:(cj X.W X.cal fr (.Call (.Name y p) es [] pos) loc st fun v st=>ad (iL st v) fun I=>Q I st)→wp X (eval (.Call (.Name y p) es [] pos) env) (fun x s1=>wp X (pyIter x) Φ s1) s:=fun h=>qM K he R F h k
  cases hk:gk X.W fr y with
  | none=>rw [hk] at h; exact val h
  | some bi =>
    rw [hk] at h
    cases bi with
    | enumerate=>exact lK K hs R F hk h fun vs s1 G1 cr mvs R1 Y1 F1 V h=>aj h fun xs e q=>ao e fun a e1 e2=>lz (C:=fun vs=>wp X (call _ vs) _ _) V e1 fun v V=>iq (C:=fun v=>wp X (call _ [v]) _ _) V e2 fun l us n g p V=>wU K.hA R1 F1 g V (k.pre Y1 F1) q
    | range=>exact lK K hs R F hk h fun vs s1 G1 cr mvs R1 Y1 F1 V h=>aj h fun n e q=>ao e fun a e1 e2=>lz (C:=fun vs=>wp X (call _ vs) _ _) V e1 fun v V=>dB (C:=fun v=>wp X (call _ [v]) _ _) V e2 fun t=>uN K.hA R1 F1 q.p (k.pre Y1 F1) q.q
    | zip=>exact lK K hs R F hk h fun vs s1 G1 cr mvs R1 Y1 F1 V h=>aj h fun p e h=>rp (C:=fun vs=>wp X (call _ vs) _ _) V e fun v u V U=>aj h fun xs e1 h=>aj h fun ys e2 q=>iq (C:=fun v=>wp X (call _ [v,u]) _ _) V e1 fun l us n g p V=>iq (C:=fun u=>wp X (call _ [_,u]) _ _) U e2 fun l2 us2 n2 g2 p2 U=>Iz K.hA R1 F1 g V g2 U (k.pre Y1 F1) q
    | _=>exact val h
end
end
section
noncomputable def XS (G:Gh):List (MV × MV)→List (Value × Value)→Prop
  | [],[]=>True
  | a :: r,x :: t=>(aw G a.1 x.1∧aw G a.2 x.2)∧XS G r t
  | _,_=>False
def KPs (X:Cx) (G:Gh) (fr:cA) (env:Env) (loc:aF) (Q:List (MV × MV)→St→Prop) (Φ:List (Value × Value)→Shared→Prop):Prop:=∀ vs s' G' st' mvs,Ok X.1 G' st' s'→aV (gT env.locals) G G'→bJ G' fr env loc→XS G' mvs vs→Q mvs st'→Φ vs s'
section
variable {X:Cx}{b:Bs}{G G' G0:Gh}{st:St}{s:Shared}{Φ:Value→Shared→Prop}{v va vb:Value}{a c mv:MV}{i k:Nat}{x:Addr}{o:Obj}{fr:cA}{env:Env}{loc:aF}{C:Prop}{L:Addr→Prop}{Q:aE}{pos p:Pos}{e l r:Expr}{es:List Expr}
noncomputable abbrev vY:Obj:={ cls:=.type "dict",data:=.dict #[] }
theorem sG {K:Type} [DecidableEq K] {prog:Program}{w:World}(knd:PySem.KeyKind prog w K) (h:Heap):vY.IsDictOf knd []:=(Heap.dictOf_iff.mp (Heap.DictOf.new (knd:=knd) h)).elim fun o q=>(Option.some.inj ((Heap.get?_push_size (h:=h) (o:=vY) rfl).symm.trans q.1)) ▸ q.2
theorem wK {Ψ:List (Value × Value)→Shared→Prop}:∀ {ks:List (Option Expr)}{vs:List Expr},All (SO X) ks→All (SE X) vs→ks.length=vs.length→kt ks=true→∀ {st:St}{s:Shared}{G:Gh}{loc:aF}{Q:List (MV × MV)→St→Prop},Ok X.1 G st s→bJ G fr env loc →
    wi (Rh X.W X.cal fr ks) (wpL X.W X.cal fr vs) loc st Q→KPs X G fr env loc Q Ψ→wp X (evalPairs (pairTrees ks vs env pos)) Ψ s
  | [],[],_,_,_,_=>fun R F h k=>pairTrees_nil_walk (k [] _ _ _ [] R (.refl _ _) F trivial h)
  | [],_ :: _,_,_,hl,_=>nomatch hl
  | some _ :: _,[],_,_,hl,_=>nomatch hl
  | some e :: ks,v :: vs,hk,hv,hl,hn=>fun R F h k=>pairTrees_cons_walk (hk.1 e rfl R F h fun a s1 G1 cr ma R1 Y1 F1 V1 h=>hv.1 R1 F1 h fun b s2 G2 eG mb R2 Y2 F2 V2 h=>wK hk.2 hv.2 (Nat.succ.inj hl) hn R2 F2 h fun r s3 G3 IN mr R3 Y3 F3 V3 h =>
      k ((a,b) :: r) _ _ _ ((ma,mb) :: mr) R3 (Y1.trans (Y2.trans Y3)) F3 ⟨⟨V1.mono (Y2.trans Y3),V2.mono Y3⟩,V3⟩ h)
  | none :: _,_,_,_,_,hn=>nomatch hn
theorem tU:∀ {m:List (MV × MV)}{v:List (Value × Value)}{es:List (Str × MV)},XS G m v→sb m=some es→∃ kvs:List (Str × Value),Carries (strKind X.p X.w) v kvs∧kvs.map (·.1)=es.map (·.1)∧al G (es.map (·.2)) (kvs.map (·.2))
  | [],[],_,_,h=>Option.some.inj h ▸ ⟨[],trivial,rfl,trivial⟩
  | a :: r,x :: t,es,P,h=>ao h fun z e h=>fT h fun es' e2 h=>by
    obtain ⟨kvs,c1,c2,c3⟩:=tU P.2 e2
    rw [← h]
    have hx:∃ u,x.1=.str z u:=ib (C:=fun v=>∃ u,v=.str z u) P.1.1 e fun u=>⟨u,rfl⟩
    obtain ⟨u,hx⟩:=hx
    exact ⟨(z,x.2) :: kvs,⟨by rw [hx]; exact strKind_is ..,rfl,c1⟩,congrArg (z :: ·) c2,P.1.2,c3⟩
  | [],_ :: _,_,P,_=>P.elim
  | _ :: _,[],_,P,_=>P.elim
theorem vp {α:Type}{y:Str}{u:α}:∀ {r:List (Str × α)},(y,u)∈r→look y r≠none
  | (a,b) :: r,h=>by
    rw [ew]
    cases e:bB a y with
    | true=>exact nofun
    | false=>exact (List.mem_cons.mp h).elim (fun h=>absurd (congrArg Prod.fst h).symm (gA e)) vp
theorem qt:∀ {es:List (Str × MV)},rZ es=true→(es.map (·.1)).Nodup
  | [],_=>List.nodup_nil
  | (x,v) :: r,h=>by
    unfold rZ at h
    cases e:look x r with
    | none =>
      rw [e] at h
      refine List.nodup_cons.mpr ⟨fun hm=>?_,qt h⟩
      obtain ⟨⟨y,u⟩,hm2,hy⟩:=List.mem_map.mp hm
      have hy:y=x:=hy
      rw [hy] at hm2
      exact vp hm2 e
    | some _=>rw [e] at h; cases h
theorem jP:∀ {ks:List (Option Expr)},kt ks=true→(ks.all fun x=>x.isSome)=true
  | [],_=>rfl
  | some k :: r,h=>jP (ks:=r) h
theorem tW (k:KE X G fr env loc Q Φ) (Y:aV (gT env.locals) G G') {D:Addr}{mo:MO}{o o':Obj}{h':Heap}{t:Nat}(R:Ok X.1 G' st s) (F:bJ G' fr env loc) (hD:G' D=.prv o) (hn:D≠env.locals∧∀ o,G D≠.prv o) (ho:h'.get? D=some o') (hs:Heap.SameBut D s.heap h')
    (hr:∀ G1,Mo mT G' G1→gY X.1 G1 (ln st.l) D mo o') (q:jN st mo Q):Φ (.ref D) { s with heap:=h',toks:=t }:=by
  have r:=R.rep.new (h':=h') (a:=D) (by rw [hD]; rfl) ho (fun c o n e=>hs.extBut c o n e) (fun G1 _ M=>hr G1 M)
  unfold jN at q
  rw [b9] at q
  exact k _ _ _ _ (.ref (ln st.l)) (R.heap r.1 t) (Y.tr r.2 fun a o z e=>absurd e (by rw [show a=D from z]; exact hn.2 o)) (F.ext r.2 fun z=>hn.1 z.symm) ⟨_,_,rfl,gH ..⟩ q
theorem RD {ks:List (Option Expr)}{vs:List Expr}(hk:All (SO X) ks) (hv:All (SE X) vs):SE X (.Dict ks vs pos):=fun fr env loc G st s Q Φ R F h k=>aQ h fun hb h=>dw hb fun hl he ha _=>by
  have he:=Nat.eq_of_beq_eq_true he
  have n0:=R.rep.no (Nat.le_refl s.heap.objs.size)
  cases ks with
  | nil=>cases vs with
    | nil=>exact wpAny_Dict_empty (ZC (mo:=.idict []) R (k.toV F) rfl (fun _ _ _=>⟨rfl,[],sG _ s.heap,rfl,trivial⟩) h s.toks)
    | cons=>cases he
  | cons k1 ks =>
    have r:=R.rep.ov (L:=gE) (l:=[(s.heap.objs.size,.prv vY)]) (h':=s.heap.push vY) ⟨lH n0 (Heap.get?_push_size _ rfl),trivial⟩ (fun c o _ e=>Heap.get?_push_of_some _ e) ⟨.inr n0,trivial⟩
    have hn:s.heap.objs.size≠env.locals∧∀ o,G s.heap.objs.size≠.prv o:=⟨fun z=>F.locs.elim fun oL g=>g.elim fun m g=>l5 (n0.symm.trans (z ▸ g.1)),fun o e=>l5 (n0.symm.trans e)⟩
    have R0:Ok X.1 _ st { s with heap:=s.heap.push vY }:=⟨r.1,R.gens,R.os⟩
    have go:∀ {str:Bool},str=pM (k1 :: ks)→wp X (eval (.Dict (k1 :: ks) vs pos) env) Φ s:=fun {str} hs=>by
      cases str with
      | true =>
        refine wpAny_Dict_walk (knd:=strKind X.p X.w) (jP ha) he nofun (Nat.le_of_ble_eq_true hl) (wK hk hv he ha R0 (F.extN r.2) h fun kvs s1 G1 cr mk R1 Y1 F1 V1 h=>?_)
        rw [← hs] at h
        refine aj h fun es e h=>aQ h fun nd h=>(tU (X:=X) V1 e).elim fun ckv q=>?_
        have d1:=Y1.prv (gH G s.heap.objs.size (.prv vY)) hn.1
        exact ⟨ckv,q.1,Heap.dictOf_iff.mpr ⟨_,R1.prv d1,sG _ s.heap⟩,fun h' hd hsb=>(Heap.dictOf_iff.mp hd).elim fun o' ho'=>tW (mo:=.sdict es) k (r.2.weak.trans Y1) R1 F1 d1 hn ho'.1 hsb (fun G1 M=>⟨ckv,by have:=ho'.2; rw [merged_nil_of_nodup _ (by rw [q.2.1]; exact qt nd)] at this; exact this,q.2.1,q.2.2.mo M⟩) h⟩
      | false =>
        refine wpAny_Dict_walk (knd:=intKind X.p X.w) (jP ha) he nofun (Nat.le_of_ble_eq_true hl) (wK hk hv he ha R0 (F.extN r.2) h fun kvs s1 G1 cr mk R1 Y1 F1 V1 h=>?_)
        rw [← hs] at h
        refine aj h fun p e h=>?_
        have d1:=Y1.prv (gH G s.heap.objs.size (.prv vY)) hn.1
        have e:mk=[p]:=by
          cases mk with
          | nil=>exact nn e
          | cons x t=>cases t with
            | nil=>exact congrArg (fun z=>[z]) (Option.some.inj e)
            | cons=>exact nn e
        rw [e] at V1
        cases kvs with
        | nil=>exact V1.elim
        | cons kv t=>cases t with
          | cons=>exact V1.2.elim
          | nil =>
            obtain ⟨kv,vv⟩:=kv
            exact aj h fun i ei h=>aQ h fun pu h=>by
              have hkv:∃ t,kv=.int i t:=dB (C:=fun kv=>∃ t,kv=.int i t) V1.1.1 ei fun t=>⟨t,rfl⟩
              obtain ⟨t,rfl⟩:=hkv
              exact ⟨[(i,vv)],⟨intKind_is ..,rfl,trivial⟩,Heap.dictOf_iff.mpr ⟨_,R1.prv d1,sG _ s.heap⟩,fun h' hd hsb=>(Heap.dictOf_iff.mp hd).elim fun o' ho'=>tW (mo:=.idict [(i,p.2)]) k (r.2.weak.trans Y1) R1 F1 d1 hn ho'.1 hsb (fun G1 M=>⟨by show (match ce p.2 with | true=>true | false=>false)=true; rw [pu],[(i,vv)],by have:=ho'.2; rw [merged_nil_of_nodup _ (by simp)] at this; exact this,rfl,V1.1.2.mo M,trivial⟩) h⟩
    exact go rfl
end
end
section
section
variable {prog:Program}{w:World}{s:Shared}{A:Around}{E:Value→Shared→Prop}
theorem sa {R:Result→Shared→Prop}{elt target iter:Expr}{ifs:List Expr}{scope:Scope}{pos:Pos}{it acc:Value}{env:Env}(I:Nat→Shared→Prop)
    (turn:∀ n s,I n s→wpAny (model prog w) A (pyNext it) (fun r s₁=>match r with
      | none=>R (.ok .next) s₁
      | some v=>wpAny (model prog w) A (letOwnedTupleGo target it v) (fun _ s₁'=>wpAny (model prog w) A (assign target env v) (fun _ s₂ =>
          wpAny (model prog w) A (forIn ifs true fun c r=>if r=true then do let ok ← PySem.isTrue c env (eval c env); pure (ForInStep.yield ok) else pure (ForInStep.yield r)) (fun ok s₃ =>
            if ok=true then wpAny (model prog w) A (eval elt env) (fun x s₄ =>
              wpAny (model prog w) A (call (.builtin "list.append") [acc,x]) (fun _ s₅=>∃ m,m<n∧I m s₅) (notedBy (model prog w) A env fun e s'=>R (.error e) s') s₄) (notedBy (model prog w) A env fun e s'=>R (.error e) s') s₃
            else ∃ m,m<n∧I m s₃) (notedBy (model prog w) A env fun e s'=>R (.error e) s') s₂) (notedBy (model prog w) A env fun e s'=>R (.error e) s') s₁') (notedBy (model prog w) A env fun e s'=>R (.error e) s') s₁) (notedBy (model prog w) A env fun e s'=>R (.error e) s') s)
    (n:Nat) (h:I n s):codeAny (model prog w) A (.compLoop (.ListComp elt [⟨target,iter,ifs,0⟩] scope pos) 0 it acc env) R s:=by
  refine codeAny_loop rfl I (fun n s hI=>?_) n h
  show wpAny _ A ((compTurn (.ListComp elt [⟨target,iter,ifs,0⟩] scope pos) 0 it acc env).onRaise (fun x=>do noteFrame x env; theTreesLotGoes x)) _ _ s
  refine wpAny_noted ?_
  rw [compTurn_list]
  refine wpAny_bind (wpAny_standAt (wpAny_bind (wpAny_mono (turn n s hI) (fun r s₁ h₁=>?_) fun _ _ h'=>h')))
  cases r with
  | none=>exact wpAny_pure h₁
  | some v =>
    refine wpAny_bind (wpAny_mono h₁ (fun _ s₁' h₁'=>?_) fun _ _ h'=>h')
    refine wpAny_bind (wpAny_mono h₁' (fun _ s₂ h₂=>wpAny_bind (wpAny_mono h₂ (fun ok s₃ h₃=>?_) fun _ _ h'=>h')) fun _ _ h'=>h')
    cases ok with
    | false=>exact wpAny_pure ⟨rfl,h₃⟩
    | true =>
      exact wpAny_bind (wpAny_bind (wpAny_mono h₃ (fun x s₄ h₄=>wpAny_bind (wpAny_mono h₄ (fun _ s₅ h₅=>wpAny_pure (wpAny_pure ⟨rfl,h₅⟩)) fun _ _ h'=>h')) fun _ _ h'=>h'))
noncomputable def bZ (env:Env):List (Str × NameKind)→List (Str × Addr)→List (Str × Addr)
  | [],acc=>acc
  | (x,k) :: r,acc=>match k with
    | .free=>bZ env r ((x,(env.cells.lookup x).getD 0) :: acc)
    | _=>bZ env r acc
theorem sI {env:Env}{x:Str}{a:Addr}(h:env.cells.lookup x=some a):cellOf env x=pure a:=by
  delta cellOf
  rw [h]
theorem pf (env:Env):∀ (names:List (Str × NameKind)) (acc:List (Str × Addr)),(∀ x,(x,NameKind.free)∈names→(env.cells.lookup x).isSome=true) →
    (forIn names acc fun (p:Str × NameKind) (cs:List (Str × Addr))=>(do
      let (name,kind):=p
      if kind == NameKind.free then do
        let c ← cellOf env name
        pure (ForInStep.yield ((name,c) :: cs))
      else pure (ForInStep.yield cs):Sem (ForInStep (List (Str × Addr)))))=pure (bZ env names acc)
  | [],acc,_=>by rw [List.forIn_nil]; rfl
  | (x,k) :: r,acc,h=>by
    rw [List.forIn_cons]
    have ih:=fun acc=>pf env r acc fun y hy=>h y (List.mem_cons_of_mem _ hy)
    cases k with
    | free =>
      obtain ⟨c,hc⟩:=Option.isSome_iff_exists.mp (h x List.mem_cons_self)
      simp only [bZ,hc,Option.getD_some,beq_self_eq_true,if_true,sI hc,pure_bind]
      exact ih _
    | _ =>
      simp only [bZ]
      exact ih _
theorem rU {scope:Scope}{env:Env}(h:∀ x,(x,NameKind.free)∈scope.names→(env.cells.lookup x).isSome=true):closureFor scope env=pure (bZ env scope.names []):=by
  unfold closureFor
  have:=pf env scope.names [] h
  first
  | exact this
  | (rw [show (do
      let mut cs:=[]
      for (name,kind) in scope.names do
        if kind == .free then cs:=(name,← cellOf env name) :: cs
      return cs:Sem (List (Str × Addr)))=_ from this]; rfl)
  | simpa using this
end
theorem om {x:Str}{c:Addr}:∀ {l:List (Str × Addr)},(x,c)∈l→(∀ c',(x,c')∈l→c'=c)→l.lookup x=some c
  | (y,d) :: r,h1,h2=>by
    rw [List.lookup_cons]
    cases hb:x == y with
    | true =>
      have:=beq_iff_eq.mp hb
      subst this
      rw [h2 d List.mem_cons_self]
    | false =>
      have hne:x≠y:=by rintro rfl; simp at hb
      refine om ?_ fun c' hc=>h2 c' (List.mem_cons_of_mem _ hc)
      rcases List.mem_cons.mp h1 with e | h
      · cases e; exact absurd rfl hne
      · exact h
theorem gK {env:Env}{x:Str}{c:Addr}(hc:env.cells.lookup x=some c):∀ {names:List (Str × NameKind)}{acc:List (Str × Addr)},((x,NameKind.free)∈names∨(x,c)∈acc)→(∀ c',(x,c')∈acc→c'=c)→(bZ env names acc).lookup x=some c
  | [],acc,h1,h2=>by
    refine om ?_ h2
    rcases h1 with h | h
    · cases h
    · exact h
  | (y,k) :: r,acc,h1,h2=>by
    cases k with
    | free =>
      simp only [bZ]
      refine gK hc ?_ fun c' hm=>?_
      · rcases h1 with h | h
        · rcases List.mem_cons.mp h with e | h
          · cases e; right; rw [hc]; exact List.mem_cons_self
          · exact .inl h
        · exact .inr (List.mem_cons_of_mem _ h)
      · rcases List.mem_cons.mp hm with e | hm
        · cases e; rw [hc]; rfl
        · exact h2 c' hm
    | _ =>
      simp only [bZ]
      refine gK hc ?_ h2
      rcases h1 with h | h
      · rcases List.mem_cons.mp h with e | h
        · cases e
        · exact .inl h
      · exact .inr h
theorem kU {o:Option NameKind}(h:oP o=true):o=some .local:=by
  cases o with
  | none=>cases h
  | some k=>cases k with
    | «local»=>rfl
    | _=>cases h
theorem Io {o:Option NameKind}(h:Oc o=true):o=some .free:=by
  cases o with
  | none=>cases h
  | some k=>cases k with
    | free=>rfl
    | _=>cases h
theorem Jt {o:Option NameKind}(h:Uk o=true):o=some .cell∨o=some .free:=by
  cases o with
  | none=>cases h
  | some k=>cases k with
    | free=>exact .inr rfl
    | cell=>exact .inl rfl
    | _=>cases h
def CN (fr:cA) (all:List (Str × NameKind)) (x:Str) (k:NameKind):Prop:=(k=.local∧look x all=some .local)∨(k=.free∧look x all=some .free∧(look x fr.scope.names=some .cell∨look x fr.scope.names=some .free)∧(look x fr.cel).isSome=true)∨k=.globalImplicit
theorem vC {fr:cA}{all:List (Str × NameKind)}{x:Str}{k:NameKind}(h:uw fr all x k=true):CN fr all x k:=by
  cases k with
  | «local»=>exact .inl ⟨rfl,kU h⟩
  | free=>exact dw h fun a b c _=>.inr (.inl ⟨rfl,Io a,Jt c,b⟩)
  | globalImplicit=>exact .inr (.inr rfl)
  | _=>cases h
theorem kA {fr:cA}{all:List (Str × NameKind)}:∀ {l:List (Str × NameKind)},fH fr all l=true→∀ p∈l,CN fr all p.1 p.2
  | [],_,_,hm=>absurd hm List.not_mem_nil
  | q :: r,h,p,hm=>by
    have key:∀ {c:Bool} (_:(match c with | true=>fH fr all r | false=>false)=true),c=true∧fH fr all r=true:=fun {c} h=>by
      cases c with
      | true=>exact ⟨rfl,h⟩
      | false=>cases h
    have h:=key h
    exact (List.mem_cons.mp hm).elim (fun e=>by rw [e]; exact vC h.1) (kA h.2 p)
theorem im {fr:cA}{sc:Scope}(h:j7 fr sc=true):sc.kind=.function∧fH fr sc.names sc.names=true:=by
  unfold j7 at h
  cases e:sc.kind with
  | function=>rw [e] at h; exact ⟨rfl,h⟩
  | _=>rw [e] at h; cases h
theorem i9 {env:Env}(x:Str):∀ (names:List (Str × NameKind)) (k:NameKind),names.lookup x=some k →
    (names.map fun (n,k)=>if (k == NameKind.free && env.scope.kind == .function && env.kindOf n == some .cell) then (n,NameKind.cell) else (n,k)).lookup x=some k∨(k=.free∧(names.map fun (n,k)=>if (k == NameKind.free && env.scope.kind == .function && env.kindOf n == some .cell) then (n,NameKind.cell) else (n,k)).lookup x=some .cell)
  | [],k,h=>by cases h
  | (y,k') :: r,k,h=>by
    rw [List.lookup_cons] at h
    simp only [List.map_cons]
    cases hb:x == y with
    | true =>
      rw [hb] at h; cases h
      split
      · rename_i hc
        right
        simp only [Bool.and_eq_true,beq_iff_eq] at hc
        exact ⟨hc.1.1,by rw [List.lookup_cons,hb]⟩
      · left; rw [List.lookup_cons,hb]
    | false =>
      rw [hb] at h
      have ih:=i9 (env:=env) x r k h
      split <;> (rw [List.lookup_cons,hb]; exact ih)
section
variable {X:Cx}{b:Bs}{G G' G0:Gh}{st:St}{s:Shared}{Φ:Value→Shared→Prop}{v va vb:Value}{a c mv:MV}{i k:Nat}{x:Addr}{o:Obj}{fr:cA}{env:Env}{loc:aF}{C:Prop}{L:Addr→Prop}{Q:aE}{pos p:Pos}{e l r:Expr}{es:List Expr}{scope:Scope}
theorem fN (hok:j7 fr scope=true) {x:Str}{k:NameKind}(hx:(x,k)∈scope.names):CN fr scope.names x k:=kA (im hok).2 (x,k) hx
theorem xz {L:Addr}{oL:Obj}(hok:j7 fr scope=true) (F:bJ G fr env loc) (hg:G L=.prv oL) (hn:IP oL fun _=>none) :
    bJ G ⟨scope,fr.cel⟩ { newEnv scope L env.globals (bZ env scope.names []) env.qual none .none (some env) env.builtins with scope:=relabel scope env } []:=by
  refine ⟨⟨(im hok).1,fun x k e=>i9 x scope.names k ((b8 ..).symm.trans e),F.glob,F.bnt⟩,fun x i e hx=>?_,oL,_,hg,hn,fun x v e=>nn e⟩
  have hf:look x scope.names=some .free:=hx.elim (fun h=>by
    rcases fN hok (mem_of_lookup ((b8 ..).symm.trans h)) with h | h | h
    · cases h.1
    · cases h.1
    · cases h) id
  rcases fN hok (mem_of_lookup ((b8 ..).symm.trans hf)) with h | h | h
  · cases h.1
  · exact (F.cells x i e h.2.2.1).elim fun c g=>g.elim fun o g=>⟨c,o,gK g.1 (.inl (mem_of_lookup ((b8 ..).symm.trans hf))) nofun,g.2⟩
  · cases h
theorem q5 (hok:j7 fr scope=true) (F:bJ G fr env loc):closureFor scope env=pure (bZ env scope.names []) :=
  rU fun x hm=>by
    rcases fN hok hm with h | h | h
    · cases h.1
    · obtain ⟨i,hi⟩:=Option.isSome_iff_exists.mp h.2.2.2
      obtain ⟨c,o,h1,_⟩:=F.cells x i hi h.2.2.1
      rw [h1]; rfl
    · cases h
end
end
section
structure Out (G:Gh) (fr:cA) (env:Env) (loc:aF) (D:Addr) (ys:List MV) (vs:Array Value) (n:Nat) (Gk:Gh):Prop where
  fr:bJ Gk fr env loc
  ext:aV (gT env.locals) G Gk
  d:Gk D=.prv (bR vs n)
  V:al Gk ys vs.toList
def Av (G:Gh) (env:Env) (D:Addr) (L:Addr→Prop):Prop:=¬ L env.locals∧¬ L D∧∀ a o,L a→G a≠.prv o
def FK (G G':Gh) (env:Env) (C:Addr):Prop:=C≠env.locals∧(∀ o,G C≠.prv o)∧∃ o m,G' C=.prv o∧IP o m
section
variable {X:Cx}{b:Bs}{G G' G0:Gh}{st:St}{s:Shared}{Φ:Value→Shared→Prop}{v va vb:Value}{a c mv:MV}{i k:Nat}{x:Addr}{o:Obj}{fr:cA}{env:Env}{loc:aF}{L:Addr→Prop}{Q:aE}{pos p:Pos}{e l r:Expr}{es:List Expr}{scope:Scope}{D:Addr}{ys:List MV}{vs:Array Value}{n:Nat}
theorem Out.go (O:Out G fr env loc D ys vs n G0) (Y:aV L G0 G') (A:Av G env D L):Out G fr env loc D ys vs n G' :=
  ⟨O.fr.ext Y A.1,O.ext.tr Y fun a o l e=>absurd e (A.2.2 a o l),Y.prv O.d A.2.1,O.V.mono Y⟩
theorem bJ.nil (F:bJ G fr env loc):bJ G fr env []:=⟨F.toEnvR,F.cells,F.locs.imp fun oL=>Exists.imp fun m h=>⟨h.1,h.2.1,fun _ _ e=>nn e⟩⟩
noncomputable abbrev HT (scope:Scope) (N:Addr) (env:Env):Env:={ newEnv scope N env.globals (bZ env scope.names []) env.qual none .none (some env) env.builtins with scope:=relabel scope env }
inductive a1t (X:Cx) (G:Gh) (fr:cA) (env:Env) (loc:aF) (D:Addr) (fc:cA) (ec:Env) (target:Expr) (it:Value) (I:d8) (S:List Addr) (asg:MV→aF→St→(aF→St→Prop)→Prop) (tests:aF→St→(Bool→St→Prop)→Prop) (elt:aF→St→aE→Prop) (Qc:List MV→St→Prop) (n:Nat) (s:Shared):Prop where
  | mk (rest:List MV) (Gk:Gh) (stk:St) (ys:List MV) (vs:Array Value) (m:Nat):n=rest.length→ys.length+rest.length≤100000→aY ys=true→Ok X.1 Gk stk s→IH X target it (fun st=>cP st I) S rest Gk→bJ Gk fc ec []→Out G fr env loc D ys vs m Gk→cP stk I→qo asg tests elt I rest ys stk Qc→a1t X G fr env loc D fc ec target it I S asg tests elt Qc n s
noncomputable abbrev nE (X:Cx) (ec:Env) (use:Option (Value→Sem Unit)) (Φ:Value→Shared→Prop) (D:Addr):Value→Shared→Prop:=notedBy (model X.p X.w) X.A ec fun e s'=>compPost (model X.p X.w) X.A X.E use Φ (.ref D) (D+1) (.error e) s'
theorem vD {elt target iter:Expr}{ifs:List Expr}{use:Option (Value→Sem Unit)}{Qc:List MV→St→Prop}(K:g6 X) (hIt:RY X iter) (hAs:∀ E,SA (X.wE E) target) (hTs:∀ E,STs (X.wE E) ifs) (hE:∀ E,SE (X.wE E) elt) (hset:∀ x,foldedSetIterable iter env x=pure x) (R:Ok X.1 G st s) (F:bJ G fr env loc) (hok:j7 fr scope=true)
    (h:re X.W X.cal fr iter (cj X.W X.cal fr iter) loc st fun I st=>bw (Wn I target) (bW ((bU I).length≤100000) (qo (jI X.W X.cal ⟨scope,fr.cel⟩ target) (Ob X.W X.cal ⟨scope,fr.cel⟩ ifs) (cj X.W X.cal ⟨scope,fr.cel⟩ elt) I (bU I) [] st Qc)))
    (fin:∀ D G' st' s' ys,Ok X.1 G' st' s'→aV (gT env.locals) G G'→bJ G' fr env loc→aw G' (.fl ys) (.ref D)→FK G G' env (D+1)→Qc ys st'→compPost (model X.p X.w) X.A X.E use Φ (.ref D) (D+1) (.ok .next) s') :
    wp X (comprehension (.ListComp elt [⟨target,iter,ifs,0⟩] scope pos) scope env (firstIterPos [⟨target,iter,ifs,0⟩] pos) (newList []) false (eval iter env) use) Φ s:=by
  have hk:=(im hok).1
  refine wpAny_comprehension_free rfl hset (q5 hok F) hk (fun x hx e=>?_) (hIt R F h fun it s2 G1 cr I S R1 Y1 F1 hS hI hag hlt hsrc hcw=>aQ hcw fun hokT hcw=>have hcw:=w7 hcw; wpAny_newList ?_ (by have:sizeLine=16777216:=rfl; simp))
  · rcases fN hok (x:=x.1) (k:=x.2) hx with h | h | h
    · rw [← b8]; exact h.2
    · rw [e] at h; cases h.1
    · rw [e] at h; cases h
  refine wpAny_newFunctionEnv (fun x hx e=>?_) (fun x hx=>absurd hx List.not_mem_nil) (fun h' hn hs=>?_) hk
  · rcases fN hok (x:=x.1) (k:=x.2) hx with h | h | h <;> rw [e] at h <;> first | cases h.1 | cases h
  have nD:=R1.rep.no (Nat.le_refl s2.heap.objs.size)
  have nN:=R1.rep.no (Nat.le_succ s2.heap.objs.size)
  have hsz:(s2.heap.push (bR #[] 0)).objs.size=s2.heap.objs.size+1:=Heap.size_push ..
  have hD1:(s2.heap.push (bR #[] 0)).get? s2.heap.objs.size=some (bR #[] 0):=Heap.get?_push_size _ rfl
  have hkp:∀ c o,s2.heap.get? c=some o→(s2.heap.push (bR #[] 0)).get? c=some o:=fun c o e=>Heap.get?_push_of_some _ e
  have hlt:∀ a∈S,a<s2.heap.objs.size:=hlt
  show codeAny (model X.p X.w) X.A (.compStart _ 0 it (.ref s2.heap.objs.size) (HT scope (s2.heap.push (bR #[] 0)).objs.size env)) (compPost (model X.p X.w) X.A X.E use Φ (.ref s2.heap.objs.size) (s2.heap.push (bR #[] 0)).objs.size) _
  have hn:h'.Ns (s2.heap.push (bR #[] 0)).objs.size fun x=>List.lookup x ([]:List (Str × Value)).reverse:=hn
  have hs:∀ c,c≠(s2.heap.push (bR #[] 0)).objs.size→∀ o,(s2.heap.push (bR #[] 0)).get? c=some o→h'.get? c=some o:=fun c hc o e=>(hs.2 c hc).trans (Heap.get?_push_of_some _ e)
  rw [hsz] at hn hs ⊢
  generalize s2.heap.objs.size=D at *
  obtain ⟨oC,gC,nsC⟩:=cW.mp hn
  have hDN:D≠D+1:=Nat.ne_of_lt (Nat.lt_succ_self D)
  have r:=R1.rep.ov (L:=gE) (l:=[(D,.prv (bR #[] 0)),(D+1,.prv oC)]) (h':=h') ⟨lH nD (hs D hDN _ hD1),lH nN gC,trivial⟩ (fun c o q e=>hs c q.2.1 _ (hkp c o e)) ⟨.inr nD,.inr nN,trivial⟩
  have gD:G1.ov [(D,.prv (bR #[] 0)),(D+1,.prv oC)] D=.prv (bR #[] 0):=bg ..
  have gN:G1.ov [(D,.prv (bR #[] 0)),(D+1,.prv oC)] (D+1)=.prv oC:=by rw [bp _ _ _ hDN.symm]; exact gH ..
  generalize G1.ov [(D,.prv (bR #[] 0)),(D+1,.prv oC)]=GB at r gD gN
  have back:∀ a,G1 a=.no→a≠env.locals∧∀ o,G a≠.prv o:=fun a e =>
    have n:a≠env.locals:=fun z=>F1.locs.elim fun oL g=>g.elim fun m g=>l5 (e.symm.trans (z ▸ g.1))
    ⟨n,fun o g=>l5 (e.symm.trans (Y1.prv g n))⟩
  have aS:Av G env D (HO S):=⟨fun h=>(hS _ h).1 rfl,fun h=>Nat.lt_irrefl _ (hlt _ h),fun a o h=>(hS a h).2 o⟩
  have aN:Av G env D (gT (D+1)):=⟨fun z=>(back _ nN).1 z.symm,fun z=>hDN z,fun a o z=>(show a=D+1 from z) ▸ (back _ nN).2 o⟩
  have sN:¬ HO S (D+1):=fun h=>Nat.not_lt.mpr (Nat.le_succ D) (hlt _ h)
  have FI:=xz (env:=env) hok (F1.extN r.2) gN nsC
  have IB:IH X target it (fun st=>cP st I) S (bU I) GB∧u4 X it S GB:=⟨(hI target hokT).ext r.2 fun _ _ h=>h,hag.ext r.2 fun _ _ h=>h⟩
  have key:∀ t,codeAny (model X.p X.w) X.A (.compLoop (.ListComp elt [⟨target,iter,ifs,0⟩] scope pos) 0 it (.ref D) (HT scope (D+1) env)) (compPost (model X.p X.w) X.A X.E use Φ (.ref D) (D+1)) { s2 with heap:=h',toks:=t }:=fun t=>by
    refine sa (a1t X G fr env loc D ⟨scope,fr.cel⟩ (HT scope (D+1) env) target it I S (jI X.W X.cal ⟨scope,fr.cel⟩ target) (Ob X.W X.cal ⟨scope,fr.cel⟩ ifs) (cj X.W X.cal ⟨scope,fr.cel⟩ elt) Qc) (fun n sk hk=>?_) (bU I).length
      (.mk (bU I) GB cr [] #[] 0 rfl (by rw [List.length_nil,Nat.zero_add]; exact hcw.1) rfl ⟨r.1,R1.gens,R1.os⟩ IB.1 FI ⟨F1.extN r.2,Y1.then r.2,gD,trivial⟩ hsrc hcw.2)
    refine hk.casesOn fun rest Gk stk ys vs m h0 hn hu Rk Ik FIk Ok hsk hck=>?_
    cases rest with
    | nil =>
      refine Ik gE Gk stk sk _ _ (aV.refl _ _) (fun _ _ h=>h) Rk hsk fun G2 s3 R2 Y2=>?_
      have O2:=Ok.go Y2 aS
      have r3:=R2.rep.ov (L:=gT D) (l:=[(D,.frz (bR vs m))]) (h':=s3.heap) ⟨f8 O2.d (R2.prv O2.d),trivial⟩ (fun c o _ e=>e) ⟨.inl rfl,trivial⟩
      refine fin D _ stk s3 ys ⟨r3.1,R2.gens,R2.os⟩ (O2.ext.tr r3.2 fun a o z e=>absurd e ((show a=D from z) ▸ (back _ nD).2 o)) (O2.fr.ext r3.2 fun z=>(back _ nD).1 z.symm) ⟨D,vs,m,rfl,gH ..,hu,O2.V.mono r3.2⟩ ⟨(back _ nN).1,(back _ nN).2,?_⟩ hck
      exact FIk.locs.imp fun oL=>Exists.imp fun m h=>⟨r3.2.prv (Y2.prv h.1 sN) hDN.symm,h.2.1⟩
    | cons x rest =>
      refine wpAny_mono (Ik gE Gk stk sk (fun v s2=>wpAny _ _ (assign target _ v) _ _ s2) _ _ (aV.refl _ _) (fun _ _ h=>h) Rk hsk fun v G2 s3 R2 Y2 V2 I2=>?_) (fun o s1 h=>h.elim fun v h=>h.1 ▸ h.2) fun _ _ e=>e
      have O2:=Ok.go Y2 aS
      refine hAs (nE X (HT scope (D+1) env) use Φ D) R2 (FIk.ext Y2 sN) V2 hck fun s4 G4 X2 loc4 R4 Y4 FI4 h4=>hTs (nE X (HT scope (D+1) env) use Φ D) R4 FI4 h4 fun ok s5 G5 VC R5 Y5 FI5 h5=>?_
      have O5:=(O2.go Y4 aN).go Y5 aN
      have I5:=(I2.ext Y4 fun a h z=>sN ((show a=D+1 from z) ▸ h)).ext Y5 fun a h z=>sN ((show a=D+1 from z) ▸ h)
      refine VM (m:=fun ok=>if ok=true then _ else _) h5 (fun h5=>hE (nE X (HT scope (D+1) env) use Φ D) R5 FI5 h5 fun v s6 G6 Zc mv R6 Y6 FI6 V6 h6=>aQ h6 fun pu h6=>?_) fun h5=>⟨rest.length,by rw [h0]; exact Nat.lt_succ_self _,.mk rest G5 VC ys vs m rfl (by rw [List.length_cons] at hn; lia) hu R5 I5 FI5.nil O5 h5.1 h5.2⟩
      have O6:=O5.go Y6 aN
      refine wpAny_list_append_plain ⟨m,R6.prv O6.d⟩ (fun h7 hp hs7=>hp.elim fun m' hp=>?_) (by rw [← O6.V.size]; have:sizeLine=16777216:=rfl; lia)
      have r7:=R6.rep.ov (L:=gT D) (l:=[(D,.prv (bR (vs.push v) m'))]) (h':=h7) ⟨f8 O6.d hp,trivial⟩ (fun c o q e=>hs7.extBut c o q.1 e) ⟨.inl rfl,trivial⟩
      refine ⟨rest.length,by rw [h0]; exact Nat.lt_succ_self _,.mk rest _ Zc (aL ys mv) (vs.push v) m' rfl (by rw [List.length_cons] at hn; rw [jt,List.length_append,List.length_singleton]; lia) (by rw [jt]; exact fA hu (by show (match ce mv with | true=>true | false=>false)=true; rw [pu])) ⟨r7.1,R6.gens,R6.os⟩ ((I5.ext Y6 fun a h z=>sN ((show a=D+1 from z) ▸ h)).ext r7.2 fun a h z=>aS.2.1 ((show a=D from z) ▸ h)) (FI6.ext r7.2 fun z=>hDN z.symm).nil
        ⟨O6.fr.ext r7.2 fun z=>(back _ nD).1 z.symm,O6.ext.tr r7.2 fun a o z e=>absurd e ((show a=D from z) ▸ (back _ nD).2 o),gH ..,by rw [jt,Array.toList_push]; exact (O6.V.mono r7.2).append ⟨V6.mono r7.2,trivial⟩⟩ h6.1 h6.2⟩
  exact codeAny_compStart_list (key _) (IB.2 gE GB cr _ _ _ (aV.refl _ _) (fun _ _ h=>h) ⟨r.1,R1.gens,R1.os⟩ (key _))
theorem Ok.drop {C:Addr}(R:Ok X.1 G st s) (e:G C=.prv o) {h':Heap}(hs:Heap.SameBut C s.heap h'):Ok X.1 (G.ov [(C,.no)]) st { s with heap:=h' }∧aV (gT C) G (G.ov [(C,.no)]) :=
  have r:=R.rep.ov (L:=gT C) (l:=[(C,.no)]) (h':=h') ⟨f8 e trivial,trivial⟩ (fun c o q e=>hs.extBut c o q.1 e) ⟨.inl rfl,trivial⟩
  ⟨⟨r.1,R.gens,R.os⟩,r.2⟩
theorem FK.end {C:Addr}(c:FK G G' env C) (Y:aV (gT env.locals) G G') (F:bJ G' fr env loc) (R:Ok X.1 G' st s) {Ψ:Shared→Prop}(k:∀ G2 s2,Ok X.1 G2 st s2→aV (gT C) G' G2→aV (gT env.locals) G G2→bJ G2 fr env loc→Ψ s2):∃ m,s.heap.Ns C m∧∀ h',Heap.SameBut C s.heap h'→Ψ { s with heap:=h' } :=
  c.2.2.elim fun o h=>h.elim fun m h=>⟨m,cW.mpr ⟨o,R.prv h.1,h.2⟩,fun h' hs =>
    have r:=R.drop h.1 hs
    k _ _ r.1 r.2 (Y.tr r.2 fun a o z e=>absurd e ((show a=C from z) ▸ c.2.1 o)) (F.ext r.2 fun z=>c.1 z.symm)⟩
theorem nR {W:Wd}{cal:ms}{Q:d8→St→Prop}{K:aF→St→aE→Prop}(h:re W cal fr e K loc st Q) (x:Value):foldedSetIterable e env x=pure x:=by
  cases e with
  | Set=>exact False.elim h
  | _=>rfl
theorem RV {elt target iter:Expr}{ifs:List Expr}(K:g6 X) (hIt:RY X iter) (hAs:∀ E,SA (X.wE E) target) (hTs:∀ E,STs (X.wE E) ifs) (hE:∀ E,SE (X.wE E) elt):SE X (.ListComp elt [⟨target,iter,ifs,0⟩] scope pos):=fun fr env loc G st s Q Φ R F h k=>aQ h fun hok h=>by
  show wpAny _ _ (comprehension (.ListComp elt [⟨target,iter,ifs,0⟩] scope pos) scope env (firstIterPos [⟨target,iter,ifs,0⟩] pos) (newList []) false (eval iter env) none) _ _ _
  exact vD K hIt hAs hTs hE (nR h) R F hok h fun D G1 cr s1 ys R1 Y1 F1 V1 c q=>c.end Y1 F1 R1 (Ψ:=fun s=>Φ (.ref D) s) fun G2 s2 R2 Z Y2 F2=>k _ _ _ _ (.fl ys) R2 Y2 F2 (V1.mono Z) q
theorem L0 {y:Str}{py:Pos}{elt target iter:Expr}{ifs:List Expr}{Q:aF→St→Prop}{Ψ:Shared→Prop}(K:g6 X) (hIt:RY X iter) (hAs:∀ E,SA (X.wE E) target) (hTs:∀ E,STs (X.wE E) ifs) (hE:∀ E,SE (X.wE E) elt) (R:Ok X.1 G st s) (F:bJ G fr env loc)
    (h:cj X.W X.cal fr (.ListComp elt [⟨target,iter,ifs,0⟩] scope pos) loc st fun v st=>iC fr y v loc st Q) (k:KL X G fr env Q Ψ):wp X (comprehension (.ListComp elt [⟨target,iter,ifs,0⟩] scope pos) scope env (firstIterPos [⟨target,iter,ifs,0⟩] pos) (newList []) false (eval iter env) (some (assign (.Name y py) env))) (fun _=>Ψ) s :=
  aQ h fun hok h=>vD (Φ:=fun _=>Ψ) K hIt hAs hTs hE (nR h) R F hok h fun D G1 cr s1 ys R1 Y1 F1 V1 c q=>wpAny_assign_Name (g9 (X:=X) (Ψ:=fun s=>∃ m,s.heap.Ns (D+1) m∧∀ h',Heap.SameBut (D+1) s.heap h'→Ψ { s with heap:=h' }) R1 F1 V1 q fun s2 G2 eG loc2 R2 Y2 F2 q =>
    FK.end (env:=env) ⟨c.1,c.2.1,c.2.2.imp fun o=>Exists.imp fun m h=>⟨Y2.prv h.1 c.1,h.2⟩⟩ (Y1.trans Y2) F2 R2 fun G3 s3 R3 Z Y3 F3=>k _ _ _ _ R3 Y3 F3 q)
end
end
section
set_option backward.match.sparseCases false
structure Ag (X:Cx) (z:Expr):Prop where
  e:SE X z
  t:ST X z
  i:RY X z
  a:SA X z
section
variable {X:Cx}{fr:cA}{env:Env}{loc:aF}{st:St}{s:Shared}{G:Gh}{Q:aE}{pos p:Pos}{e l r f i:Expr}{es:List Expr}
theorem All.imp {α:Type}{P Q:α→Prop}(h:∀ x,P x→Q x):∀ {l:List α},All P l→All Q l
  | [],_=>trivial
  | x :: _,a=>⟨h x a.1,a.2.imp h⟩
theorem Ag.all (h:All (Ag X) es):All (SE X) es:=h.imp fun _ h=>h.e
theorem noT {e:Expr}(h:∀ fr loc st Q,¬ Hp X.W X.cal fr e (cj X.W X.cal fr e) loc st Q):ST X e:=fun _ _ _ _ _ _ _ _ _ _ w _=>(h _ _ _ _ w).elim
theorem noI {e:Expr}(h:∀ fr loc st Q,¬ re X.W X.cal fr e (cj X.W X.cal fr e) loc st Q):RY X e:=fun _ _ _ _ _ _ _ _ _ _ w _=>(h _ _ _ _ w).elim
theorem noA {e:Expr}(h:∀ fr v loc st Q,¬ jI X.W X.cal fr e v loc st Q):SA X e:=fun _ _ _ _ _ _ _ _ _ _ _ _ _ w _=>(h _ _ _ _ _ w).elim
theorem Yg {e:Expr}(h:∀ fr loc st Q,¬ cj X.W X.cal fr e loc st Q):SE X e:=fun _ _ _ _ _ _ _ _ _ _ w _=>(h _ _ _ _ w).elim
theorem Ag.val {e:Expr}(h:SE X e) (t:∀ fr loc st Q,¬ Hp X.W X.cal fr e (cj X.W X.cal fr e) loc st Q) (i:∀ fr loc st Q,¬ re X.W X.cal fr e (cj X.W X.cal fr e) loc st Q) (a:∀ fr v loc st Q,¬ jI X.W X.cal fr e v loc st Q):Ag X e:=⟨h,noT t,noI i,noA a⟩
theorem Sc {o:Expr}(ho:SE X o) (hi:SE X i) (hw:∀ fr loc st Q,cj X.W X.cal fr (.Subscript o i pos) loc st Q→cj X.W X.cal fr o loc st fun v st=>cj X.W X.cal fr i loc st fun k st=>ad (iP st v k) fun x=>bw (aT k) (Q x st)):SE X (.Subscript o i pos):=fun _ _ _ _ _ _ _ _ R F h k=>Wh ho hi R F (hw _ _ _ _ h) k
theorem NI (K:g6 X) (hf:SE X f) (hs:All (SE X) es) (ha:KH f=false) (hw:∀ fr loc st Q,cj X.W X.cal fr (.Call f es [] pos) loc st Q→bw (aX es) (cj X.W X.cal fr f loc st fun v st=>jK X.W X.cal fr es loc st fun vs st=>GE X.cal (X.W.chg pos.line) v vs st Q)):SE X (.Call f es [] pos):=fun _ _ _ _ _ _ _ _ R F h k=>QB K hf hs ha R F (hw _ _ _ _ h) k
theorem Ag.valT {e:Expr}(K:g6 X) (h:SE X e) (t:∀ {env:Env},PySem.isTrue e env (eval e env)=(do let v ← eval e env; standAt e.pos; holding [v] (truthy v))) (tw:∀ fr loc st Q,Hp X.W X.cal fr e (cj X.W X.cal fr e) loc st Q→cj X.W X.cal fr e loc st fun v st=>dF v fun b=>Q b st) (i:RY X e) (a:SA X e):Ag X e:=⟨h,fun _ _ _ _ _ _ _ _ R F w k=>Jq h t R F (tw _ _ _ _ w) k,i,a⟩
theorem itV (K:g6 X) (h:SE X e) (iw:∀ fr loc st Q,re X.W X.cal fr e (cj X.W X.cal fr e) loc st Q→cj X.W X.cal fr e loc st fun v st=>ad (iL st v) fun I=>Q I st):RY X e:=fun _ _ _ _ _ _ _ _ R F w k=>qM K h R F (iw _ _ _ _ w) k
theorem a50 {y:Str}{q:Pos}{kw:Keyword}{ks:List Keyword}{Q:d8→St→Prop}(h:re X.W X.cal fr (.Call (.Name y q) es (kw :: ks) p) (cj X.W X.cal fr (.Call (.Name y q) es (kw :: ks) p)) loc st Q):False:=by
  have h:(match gk X.W fr y with | some .enumerate=>bw (!bB y dg) False | some .range=>bw (!bB y dg) False | some .zip=>bw (!bB y dg) False | _=>False):=h
  cases e:gk X.W fr y with
  | none=>rw [e] at h; exact h
  | some b =>
    rw [e] at h
    cases b with
    | enumerate=>exact aQ h fun _ h=>h
    | range=>exact aQ h fun _ h=>h
    | zip=>exact aQ h fun _ h=>h
    | _=>exact h
end
mutual
theorem s4 (e:Expr) (X:Cx) (K:g6 X):Ag X e:=by
  cases e with
  | Constant c k p=>exact .val uk (fun _ _ _ _=>id) (fun _ _ _ _=>id) fun _ _ _ _ _=>id
  | Name x p=>exact .valT K (Bj K) (fun {env}=>rfl) (fun _ _ _ _=>id) (itV K (Bj K) fun _ _ _ _=>id) Q6
  | BoolOp op vs p =>
    have hs:=SD vs X K
    exact ⟨HE (Ag.all hs),Iq (hs.imp fun _ h=>h.t),noI fun _ _ _ _=>id,noA fun _ _ _ _ _=>id⟩
  | BinOp l op r p=>exact .val (Ju (s4 l X K).e (s4 r X K).e) (fun _ _ _ _=>id) (fun _ _ _ _=>id) fun _ _ _ _ _=>id
  | UnaryOp op x p =>
    have hx:=s4 x X K
    refine ⟨wR hx.e,?_,noI fun _ _ _ _=>id,noA fun _ _ _ _ _=>id⟩
    cases op with
    | Not=>exact Ws hx.t
    | _=>exact noT fun _ _ _ _=>id
  | IfExp t b o p=>exact .val (LN (s4 t X K).t (s4 b X K).e (s4 o X K).e) (fun _ _ _ _=>id) (fun _ _ _ _=>id) fun _ _ _ _ _=>id
  | Compare l ops cs p =>
    have hl:=(s4 l X K).e
    have hs:=Ag.all (SD cs X K)
    exact ⟨vW K hl hs,wa K hl hs,noI fun _ _ _ _=>id,noA fun _ _ _ _ _=>id⟩
  | Attribute o x p =>
    have ho:=(s4 o X K).e
    exact .valT K (kP K ho) (fun {env}=>rfl) (fun _ _ _ _=>id) (itV K (kP K ho) fun _ _ _ _=>id) (ri K ho)
  | List es p=>exact .val (QA (Ag.all (SD es X K))) (fun _ _ _ _=>id) (fun _ _ _ _=>id) fun _ _ _ _ _=>id
  | Tuple es k p =>
    have hs:=SD es X K
    have h:SE X (.Tuple es k p):=OS (Ag.all hs)
    exact ⟨h,noT fun _ _ _ _=>id,itV K h fun _ _ _ _=>id,L3 K (hs.imp fun _ h=>h.a)⟩
  | Dict ks vs p=>exact .val (RD (s4k ks X K) (Ag.all (SD vs X K))) (fun _ _ _ _=>id) (fun _ _ _ _=>id) fun _ _ _ _ _=>id
  | Subscript o i p =>
    have ho:=(s4 o X K).e
    have h2:=(s4 i X K).e
    have h:SE X (.Subscript o i p):=by
      cases i with
      | Slice lo hi sp q=>exact Pp ho (s4o lo X K) (s4o hi X K) (s4o sp X K)
      | _=>exact Sc ho h2 fun _ _ _ _=>id
    exact .valT K h (fun {env}=>rfl) (fun _ _ _ _=>id) (itV K h fun _ _ _ _=>id) (rc ho h2)
  | Call f args kws p =>
    have hf:=(s4 f X K).e
    have hs:=Ag.all (SD args X K)
    cases kws with
    | cons k ks=>exact .val (Yg fun _ _ _ _=>id) (fun _ _ _ _=>id) (fun _ _ _ _=>by
      cases f with
      | Name y q=>exact a50
      | _=>exact id) fun _ _ _ _ _=>id
    | nil =>
      have h:SE X (.Call f args [] p):=by
        cases f with
        | Attribute o name apos=>exact Rg K (s4 o X K).e hs
        | _=>exact NI K hf hs rfl fun _ _ _ _=>id
      refine .valT K h (fun {env}=>rfl) (fun _ _ _ _=>id) ?_ (noA fun _ _ _ _ _=>id)
      cases f with
      | Name y q=>exact K9 K h hs
      | _=>exact noI fun _ _ _ _=>id
  | ListComp elt gens sc p =>
    refine .val ?_ (fun _ _ _ _=>id) (fun _ _ _ _=>id) fun _ _ _ _ _=>id
    cases gens with
    | nil=>exact Yg fun _ _ _ _=>id
    | cons g gs=>cases gs with
      | cons =>
        obtain ⟨t,i,c,n⟩:=g
        cases n with
        | ofNat n=>cases n <;> exact Yg fun _ _ _ _=>id
        | negSucc n=>exact Yg fun _ _ _ _=>id
      | nil =>
        obtain ⟨t,i,c,n⟩:=g
        cases n with
        | ofNat n=>cases n with
          | zero=>exact RV K (s4 i X K).i (fun E=>(s4 t _ (K.wE E)).a) (fun E=>sTs ((SD c _ (K.wE E)).imp fun _ h=>h.t)) fun E=>(s4 elt _ (K.wE E)).e
          | succ=>exact Yg fun _ _ _ _=>id
        | negSucc n=>exact Yg fun _ _ _ _=>id
  | _=>exact .val (Yg fun _ _ _ _=>id) (fun _ _ _ _=>id) (fun _ _ _ _=>id) fun _ _ _ _ _=>id
termination_by structural e
theorem SD (es:List Expr) (X:Cx) (K:g6 X):All (Ag X) es:=by
  cases es with
  | nil=>exact trivial
  | cons e r=>exact ⟨s4 e X K,SD r X K⟩
termination_by structural es
theorem s4o (o:Option Expr) (X:Cx) (K:g6 X):SO X o:=by
  cases o with
  | none=>exact fun _ h=>nn h
  | some e=>exact fun _ h=>Option.some.inj h ▸ (s4 e X K).e
termination_by structural o
theorem s4k (ks:List (Option Expr)) (X:Cx) (K:g6 X):All (SO X) ks:=by
  cases ks with
  | nil=>exact trivial
  | cons e r=>exact ⟨s4o e X K,s4k r X K⟩
termination_by structural ks
end
end
section
noncomputable def Gh.cut (G:Gh) (n:Nat):Gh:=fun a=>match G a with
  | .cur i o=>if i<n then .cur i o else .frz o
  | .dof i o=>if i<n then .dof i o else .frz o
  | t=>t
theorem K4 {α:Type}:∀ (l0 l:List α) (i:Nat),nth (tk l0 l) i=if i<ln l0 then nth l i else none
  | [],_,_=>rfl
  | _ :: _,[],_=>by split <;> rfl
  | _ :: _,_ :: _,0=>rfl
  | _ :: l0,_ :: l,i+1=>(K4 l0 l i).trans (by
    show _=if i+1<ln l0+1 then nth l i else none
    simp only [Nat.add_lt_add_iff_right])
theorem rk:∀ {l0 l:List MO},iS l0 l→ln (tk l0 l)=ln l0
  | [],_,_=>rfl
  | _ :: _,[],h=>h.elim
  | _ :: _,_ :: _,h=>congrArg (·+1) (rk h.2)
theorem uz:∀ {l0 l:List MO}{i:Nat}{o':MO},iS l0 l→i<ln l0→nth l i=some o'→∃ o,nth l0 i=some o∧yz o o'
  | o :: _,_ :: _,0,_,h,_,e=>⟨o,rfl,Option.some.inj e ▸ h.1⟩
  | _ :: _,_ :: _,i+1,_,h,l,e=>uz (i:=i) h.2 (Nat.lt_of_succ_lt_succ l) e
  | _ :: _,[],_,_,h,_,_=>h.elim
  | [],_,_,_,_,l,_=>absurd l (Nat.not_lt_zero _)
mutual
theorem CD {G:Gh}:∀ (v:MV) (mv:Value),aw G v mv→RP (fun i=>∃ a o,G a=.cur i o) v
  | .ref i,_,h=>h.elim fun a h=>h.elim fun o h=>⟨a,o,h.2⟩
  | .tup xs,_,h=>h.elim fun a h=>h.elim fun vs h=>h.elim fun n h=>oR xs _ h.2.2
  | .clos _ _ _ _,_,h=>by
    obtain ⟨a,o,co,fd,cd,e,g,gc,k,l⟩:=h
    exact fun x i h=>(l x i h).elim fun c h=>h.elim fun o h=>⟨c,o,h.2⟩
  | .none,_,_=>trivial
  | .bool _,_,_=>trivial
  | .int _,_,_=>trivial
  | .str _,_,_=>trivial
  | .fl _,_,_=>trivial
  | .inst _ _ _,_,_=>trivial
  | .bi _,_,_=>trivial
  | .fn _,_,_=>trivial
  | .cls _,_,_=>trivial
theorem oR {G:Gh}:∀ (xs:List MV) (vs:List Value),al G xs vs→Qb (fun i=>∃ a o,G a=.cur i o) xs
  | [],_,_=>trivial
  | x :: xs,v :: vs,h=>⟨CD x v h.1,oR xs vs h.2⟩
  | _ :: _,[],h=>h.elim
end
theorem yY {n:Nat}{x:Str}{i:Nat}:∀ {cs:List (Str × Nat)},Q2 n cs=true→look x cs=some i→i<n
  | (y,j) :: r,h,e=>by
    have h:(match Nat.ble (j+1) n with | true=>Q2 n r | false=>false)=true:=h
    cases l:Nat.ble (j+1) n with
    | false=>rw [l] at h; exact Bool.noConfusion h
    | true =>
      rw [l] at h
      rw [ew] at e
      cases q:bB y x with
      | true=>rw [q] at e; rw [← Option.some.inj e]; exact Nat.le_of_ble_eq_true l
      | false=>rw [q] at e; exact yY h e
mutual
theorem PH {n:Nat}:∀ v,uj n v=true→RP (fun i=>i<n) v
  | .ref _,h=>Nat.le_of_ble_eq_true h
  | .tup xs,h=>Eo xs h
  | .clos _ _ _ _,h=>fun _ _ e=>yY h e
  | .none,_=>trivial
  | .bool _,_=>trivial
  | .int _,_=>trivial
  | .str _,_=>trivial
  | .fl _,_=>trivial
  | .inst _ _ _,_=>trivial
  | .bi _,_=>trivial
  | .fn _,_=>trivial
  | .cls _,_=>trivial
theorem Eo {n:Nat}:∀ v,Qz n v=true→Qb (fun i=>i<n) v
  | [],_=>trivial
  | x :: r,h=>by
    have h:(match uj n x with | true=>Qz n r | false=>false)=true:=h
    cases e:uj n x with
    | true=>rw [e] at h; exact ⟨PH x e,Eo r h⟩
    | false=>rw [e] at h; exact Bool.noConfusion h
end
mutual
theorem Mm {P Q:Nat→Prop}(h:∀ i,P i→Q i):∀ v,RP P v→RP Q v
  | .ref i,q=>h i q
  | .tup xs,q=>sF h xs q
  | .clos _ _ _ _,q=>fun x i e=>h i (q x i e)
  | .none,_=>trivial
  | .bool _,_=>trivial
  | .int _,_=>trivial
  | .str _,_=>trivial
  | .fl _,_=>trivial
  | .inst _ _ _,_=>trivial
  | .bi _,_=>trivial
  | .fn _,_=>trivial
  | .cls _,_=>trivial
theorem sF {P Q:Nat→Prop}(h:∀ i,P i→Q i):∀ v,Qb P v→Qb Q v
  | [],_=>trivial
  | x :: r,q=>⟨Mm h x q.1,sF h r q.2⟩
end
noncomputable def RPO (P:Nat→Prop):MO→Prop
  | .sdict es=>Qb P (es.map (·.2))
  | .cell (some v)=>RP P v
  | _=>True
section
variable {X:Cx}{b:Bs}{G G' G0:Gh}{st:St}{s:Shared}{i n:Nat}{x a:Addr}{o:Obj}{fr:cA}{env:Env}{loc:aF}{L:Addr→Prop}{h h0:Heap}{l0:List MO}{u0:Nat}{P:Nat→Prop}
theorem RM:∀ {mo:MO},gY b G i a mo o→RPO (fun i=>∃ a o,G a=.cur i o) mo
  | .sdict es,h=>h.elim fun kvs h=>oR _ _ h.2.2
  | .cell (some v),h=>h.elim fun v' h=>match v',h with
    | some v',h=>CD _ _ h.2
    | none,h=>h.2.elim
  | .cell none,_=>trivial
  | .list _,_=>trivial
  | .idict _,_=>trivial
  | .obj _ _,_=>trivial
theorem gY.mr (M:Mo P G G') (hd:∀ d od,G d=.dof i od→G' d=.dof i od):∀ {mo:MO},RPO P mo→gY b G i a mo o→gY b G' i a mo o
  | .list _,_,h=>⟨h.1,h.2.imp fun vs=>Exists.imp fun n q=>⟨q.1,q.2.mr M _ _ (eS _ h.1)⟩⟩
  | .idict _,_,h=>⟨h.1,h.2.imp fun kvs q=>⟨q.1,q.2.1,q.2.2.mr M _ _ (eS _ h.1)⟩⟩
  | .sdict _,p,h=>h.imp fun kvs q=>⟨q.1,q.2.1,q.2.2.mr M _ _ p⟩
  | .obj _ _,_,h=>h.imp fun d=>Exists.imp fun od=>Exists.imp fun m h=>⟨h.1,hd _ _ h.2.1,h.2.2.1,h.2.2.2.1,h.2.2.2.2.mr M _ _⟩
  | .cell none,_,h=>h.imp fun v' h=>⟨h.1,match v',h.2 with | none,q=>q | some _,q=>q.elim⟩
  | .cell (some _),p,h=>h.imp fun v' h=>⟨h.1,match v',h.2 with | some _,q=>aw.mr M _ _ p q | none,q=>q.elim⟩
theorem Dv (a:Addr):(G.cut n a).obj=(G a).obj:=by
  unfold Gh.cut
  cases G a with
  | cur i o=>dsimp only; split <;> rfl
  | dof i o=>dsimp only; split <;> rfl
  | _=>rfl
theorem iX {t:Tg}(e:G a=t) (h:∀ i o,t≠.cur i o∧t≠.dof i o):G.cut n a=t:=by
  unfold Gh.cut; rw [e]
  cases t with
  | cur i o=>exact absurd rfl (h i o).1
  | dof i o=>exact absurd rfl (h i o).2
  | _=>rfl
theorem qY (e:G a=.cur i o) (h:i<n):G.cut n a=.cur i o:=by unfold Gh.cut; rw [e]; exact if_pos h
theorem Sd (e:G a=.dof i o) (h:i<n):G.cut n a=.dof i o:=by unfold Gh.cut; rw [e]; exact if_pos h
theorem kY (e:G a=.cur i o∨G a=.dof i o) (h:n≤i):G.cut n a=.frz o:=by unfold Gh.cut; rcases e with e | e <;> rw [e] <;> exact if_neg (Nat.not_lt.mpr h)
theorem dS (e:G.cut n a=.cur i o):G a=.cur i o∧i<n:=by
  unfold Gh.cut at e
  cases q:G a with
  | cur j o'=>rw [q] at e; dsimp only at e; split at e <;> cases e; exact ⟨rfl,‹_›⟩
  | dof j o'=>rw [q] at e; dsimp only at e; split at e <;> cases e
  | _=>rw [q] at e; cases e
theorem fE (e:G.cut n a=.fin i o):G a=.fin i o:=by
  unfold Gh.cut at e
  cases q:G a with
  | cur j o'=>rw [q] at e; dsimp only at e; split at e <;> cases e
  | dof j o'=>rw [q] at e; dsimp only at e; split at e <;> cases e
  | fin j o'=>rw [q] at e; exact e
  | _=>rw [q] at e; cases e
theorem rt (G:Gh) (n:Nat):Mo (fun i=>i<n) G (G.cut n):=⟨fun a o e=>iX e fun _ _=>⟨nofun,nofun⟩,fun a i o e=>iX e fun _ _=>⟨nofun,nofun⟩,fun i h a o e=>⟨o,qY e h⟩⟩
theorem aV.cut (Y:aV L G0 G) (hb:∀ a i o,G0 a=.cur i o→i<n):aV L G0 (G.cut n):=fun a=>by
  cases e:G0 a with
  | no=>trivial
  | prv o=>exact fun l=>iX (Y.prv e l) fun _ _=>⟨nofun,nofun⟩
  | frz o=>exact iX (Y.frz e) fun _ _=>⟨nofun,nofun⟩
  | fin i o=>exact iX (Y.fin e) fun _ _=>⟨nofun,nofun⟩
  | cur i o=>exact (Y.cur e).imp fun o' g=>qY g (hb _ _ _ e)
  | dof i o=>trivial
theorem ee.cut {st':St}(R:ee b G st h) (hl:∀ i mo,nth st'.l i=some mo→nth st.l i=some mo∧i<n∧RPO (fun i=>i<n) mo) (hn:∀ i,i<n→i<ln st.l→i<ln st'.l) (hu:st'.u=st.u):ee b (G.cut n) st' h :=
  ⟨fun a o e=>R.fact a o ((Dv a).symm.trans e),fun a o e=>iX (R.base a o e) fun _ _=>⟨nofun,nofun⟩,fun i mo e=>(R.cur i mo (hl i mo e).1).elim fun a q=>q.elim fun o q=>⟨a,o,qY q.1 (hl i mo e).2.1,q.2.mr (rt G n) (fun d od e'=>Sd e' (hl i mo e).2.1) (hl i mo e).2.2⟩,
    fun a c i o o' e e'=>R.uni a c i o o' (dS e).1 (dS e').1,fun a i o e=>hn i (dS e).2 (R.bnd _ _ _ (dS e).1),fun a c i o o' e e'=>R.fun1 a c i o o' (fE e) (fE e'),fun a i o e=>hu ▸ R.fbnd _ _ _ (fE e)⟩
theorem Nb (R0:ee b G0 ⟨l0,u0⟩ h0) {o o':MO}(e:nth l0 i=some o) (k:yz o o'):RPO (fun i=>i<ln l0) o':=by
  have:o'=o→RPO (fun i=>i<ln l0) o':=fun z=>(R0.cur i o e).elim fun a q=>q.elim fun ob q=>by
    rw [z]
    have:=RM q.2
    cases o with
    | sdict es=>exact sF (fun i ⟨a,o,g⟩=>R0.bnd a i o g) _ this
    | cell v=>cases v with
      | none=>trivial
      | some v=>exact Mm (fun i ⟨a,o,g⟩=>R0.bnd a i o g) _ this
    | _=>trivial
  cases o' with
  | list=>trivial
  | idict=>trivial
  | obj=>trivial
  | sdict=>exact this k
  | cell=>exact this k
theorem Ok.cut (R0:ee b G0 ⟨l0,u0⟩ h0) (R:Ok b G st s) (k:iS l0 st.l):Ok b (G.cut (ln l0)) ⟨tk l0 st.l,st.u⟩ s :=
  ⟨R.rep.cut (fun i mo e=>by
    have e:=(K4 l0 st.l i).symm.trans e
    by_cases hi:i<ln l0
    · rw [if_pos hi] at e
      obtain ⟨o,e0,kb⟩:=uz k hi e
      exact ⟨e,hi,Nb R0 e0 kb⟩
    · rw [if_neg hi] at e; exact nn e) (fun i hi _=>by show i<ln (tk l0 st.l); rw [rk k]; exact hi) rfl,R.gens,R.os⟩
end
end
section
noncomputable def FlR (G:Gh):Fl→Flow→Prop
  | .next,f=>f=.next
  | .brk,f=>f=.brk
  | .cont,f=>f=.cont
  | .ret v,f=>∃ mv,f=.ret mv∧aw G v mv
def KS (X:Cx) (G:Gh) (fr:cA) (env:Env) (Q:aq) (Ψ:Flow→Shared→Prop):Prop:=∀ f s' G' st' loc' fl,Ok X.1 G' st' s'→aV (gT env.locals) G G'→bJ G' fr env loc'→FlR G' fl f→Q fl loc' st'→Ψ f s'
def SS (X:Cx) (x:Stmt):Prop:=∀ ⦃fr env loc G st s Q Ψ⦄,Ok X.1 G st s→bJ G fr env loc→II X.W X.cal fr x loc st Q→KS X G fr env Q Ψ→wp X (exec x env) Ψ s
def UC (X:Cx) (x:List Stmt):Prop:=∀ ⦃fr env loc G st s Q Ψ⦄,Ok X.1 G st s→bJ G fr env loc→jx X.W X.cal fr x loc st Q→KS X G fr env Q Ψ→wp X (execs x env) Ψ s
section
variable {X:Cx}{b:Bs}{G G' G0 G1 G2:Gh}{st:St}{s:Shared}{v va vb:Value}{a c mv:MV}{i n:Nat}{x:Addr}{o:Obj}{fr:cA}{env:Env}{loc:aF}{C:Prop}{L:Addr→Prop}{Q:aq}{Ψ:Flow→Shared→Prop}{pos p:Pos}{e l r t:Expr}{es:List Expr}{bd:List Stmt}{f:Flow}{fl:Fl}
theorem KS.pre (k:KS X G0 fr env Q Ψ) (Y:aV (gT env.locals) G0 G):KS X G fr env Q Ψ:=fun f s' G' st' loc' fl R Z F V q=>k f s' G' st' loc' fl R (Y.trans Z) F V q
theorem KS.here (k:KS X G fr env Q Ψ) (R:Ok X.1 G st s) (F:bJ G fr env loc) (V:FlR G fl f) (q:Q fl loc st):Ψ f s:=k _ _ _ _ _ _ R (.refl _ G) F V q
theorem KS.toL (k:KS X G fr env Q Ψ):KL X G fr env (fun loc st=>Q .next loc st) (Ψ .next):=fun s' G' st' loc' R Y F q=>k _ _ _ _ _ .next R Y F rfl q
theorem uM {C:Flow→Prop}{M:Fl→Prop}(V:FlR G fl f) (h:M fl) (c1:M .next→C .next) (c2:M .brk→C .brk) (c3:M .cont→C .cont) (c4:∀ v mv,aw G v mv→M (.ret v)→C (.ret mv)):C f:=by
  cases fl with
  | next=>rw [show f=.next from V]; exact c1 h
  | brk=>rw [show f=.brk from V]; exact c2 h
  | cont=>rw [show f=.cont from V]; exact c3 h
  | ret v=>obtain ⟨mv,rfl,V⟩:=V; exact c4 v mv V h
theorem bJ.inter (F:bJ G fr env loc):interactive env=false:=by unfold interactive; rw [F.kind]; rfl
theorem bJ.block (F:bJ G fr env loc):env.blockKind=.function:=by unfold Env.blockKind; rw [F.kind]; rfl
theorem QH:UC X []:=fun _ _ _ _ _ _ _ _ R F h k=>wpAny_execs_nil (k.here (fl:=.next) R F rfl h)
theorem KX {x:Stmt}{r:List Stmt}(hx:SS X x) (hr:UC X r):UC X (x :: r):=fun fr env loc G st s Q Ψ R F h k =>
  wpAny_execs_cons (hx R F h fun f s1 G1 cr loc1 fl R1 Y1 F1 V1 h=>uM (C:=fun f=>match f with | .next=>wp X (execs r env) Ψ s1 | f=>Ψ f s1) (M:=fun fl=>match fl with | .next=>jx X.W X.cal fr r loc1 cr Q | .brk=>Q .brk loc1 cr | .cont=>Q .cont loc1 cr | .ret v=>Q (.ret v) loc1 cr) V1 h (fun h=>hr R1 F1 h (k.pre Y1)) (fun h=>k _ _ _ _ _ .brk R1 Y1 F1 rfl h) (fun h=>k _ _ _ _ _ .cont R1 Y1 F1 rfl h) fun v mv V h=>k _ _ _ _ _ (.ret v) R1 Y1 F1 ⟨mv,rfl,V⟩ h)
theorem Py (he:SE X e) (hs:∀ env,swapsWith e none pos.line env=pure false) (hw:∀ fr loc st Q,II X.W X.cal fr (.Expr e pos) loc st Q→cj X.W X.cal fr e loc st fun _ st=>Q .next loc st):SS X (.Expr e pos):=fun fr env loc G st s Q Ψ R F h k =>
  wpAny_Expr_any (he R F (hw _ _ _ _ h) fun v s1 G1 cr mv R1 Y1 F1 V1 q=>k _ _ _ _ loc .next R1 Y1 F1 rfl q) F.inter (hs env)
theorem RE:SS X (.Pass pos):=fun _ _ _ _ _ _ _ _ R F h k=>by
  show wpAny _ _ ((do standAt pos; pure Flow.next):Sem Flow) _ _ _
  exact wpAny_bind (wpAny_standAt (wpAny_pure (k.here (fl:=.next) R F rfl h)))
theorem te:SS X (.Continue pos):=fun _ _ _ _ _ _ _ _ R F h k=>by
  show wpAny _ _ ((do standAt pos; pure Flow.cont):Sem Flow) _ _ _
  exact wpAny_bind (wpAny_standAt (wpAny_pure (k.here (fl:=.cont) R F rfl h)))
theorem vS:SS X (.Return none pos):=fun _ _ _ _ _ _ _ _ R F h k=>wpAny_Return_none (k.here (fl:=.ret .none) R F ⟨_,rfl,rfl⟩ h)
theorem Iu (he:SE X e):SS X (.Return (some e) pos):=fun _ _ loc _ _ _ _ _ R F h k=>wpAny_Return_some (he R F h fun v s1 G1 cr mv R1 Y1 F1 V1 q=>k _ _ _ _ loc (.ret mv) R1 Y1 F1 ⟨v,rfl,V1⟩ q)
theorem a0l {bd od:List Stmt}(ht:ST X t) (hb:UC X bd) (ho:UC X od):SS X (.If t bd od pos):=fun _ env _ _ _ _ _ Ψ R F h k=>by
  unfold wp; rw [exec_If]
  exact wpAny_bind (wpAny_standAt (wpAny_bind (ht R F h fun c s1 G1 cr R1 Y1 F1 h=>VM (m:=fun c=>wpAny _ _ (if c=true then execs bd env else execs od env) _ _ _) h (fun h=>hb R1 F1 h (k.pre Y1)) fun h=>ho R1 F1 h (k.pre Y1))))
theorem xw (K:g6 X) {y:Str}{op:Operator}(he:SE X e):SS X (.AugAssign (.Name y p) op e pos):=fun fr env loc _ st _ Q Ψ R F h k =>
  wpAny_AugAssign_Name (to K.W R F (show pJ X.W fr y loc st fun a st=>cj X.W X.cal fr e loc st fun b st=>H0 op a b st fun v st=>iC fr y v loc st fun loc st=>Q .next loc st from h) fun old s1 G1 cr ma R1 Y1 V1 h=>he R1 (F.extN Y1) h fun v s2 G2 eG mb R2 Y2 F2 V2 h=>CM R2 (V1.mono Y2) V2 (fun r s3 G3 IN mr R3 Y3 V3 h=>g9 (Ψ:=Ψ .next) R3 (F2.extN Y3) V3 h (k.toL.pre ((Y1.weak.trans Y2).then Y3))) op h)
theorem Ib {ob ix:Expr}{op:Operator}(ho:SE X ob) (hi:SE X ix) (he:SE X e) (ha:∀ ov iv new,augStore ix ov iv new=(do holding [new,ov,iv] (setItem ov iv new); release [new,ov,iv] []; pure .next)):SS X (.AugAssign (.Subscript ob ix p) op e pos):=fun _ env loc _ _ _ Q Ψ R F h k =>
  wpAny_AugAssign_SubscriptAny (ho R F h fun ov s1 G1 cr mo R1 Y1 F1 V1 h=>hi R1 F1 h fun iv s2 G2 eG mi R2 Y2 F2 V2 h=>aj h fun x ex h=>aQ h fun hs h=>(C4 R2 (V1.mono Y2) V2 ex hs fun old t V3=>he (R2.toks t) F2 h fun v s4 G4 X2 mb R4 Y4 F4 V4 h =>
    CM R4 (V3.mono Y4) V4 (fun r s5 G5 VC mr R5 Y5 V5 h=>mE R5 ((V1.mono (Y2.trans Y4)).mono Y5) ((V2.mono Y4).mono Y5) V5 h fun s6 G6 Zc R6 Y6 q=>k _ _ _ _ loc .next R6 (((Y1.trans (Y2.trans Y4)).then Y5).then Y6) ((F4.extN Y5).extN Y6) rfl q) op h).2) ha
theorem jk {y:Str}:∀ {ns:List Str}{loc:aF},look y (cutL ns loc)=some mv→look y loc=some mv
  | [],_,h=>nn h
  | z :: r,loc,h=>by
    unfold cutL at h
    cases e:look z loc with
    | none=>rw [e] at h; exact jk h
    | some u =>
      rw [e] at h
      have h:(match bB z y with | true=>some u | false=>look y (cutL r loc))=some mv:=h
      cases q:bB z y with
      | true=>rw [q] at h; rw [← (b7 _ _).mp q,e]; exact h
      | false=>rw [q] at h; exact jk h
theorem bJ.cutL (F:bJ G fr env loc) (ns:List Str):bJ G fr env (Sq.cutL ns loc):=⟨F.toEnvR,F.cells,F.locs.imp fun oL=>Exists.imp fun m h=>⟨h.1,h.2.1,fun y u e=>h.2.2 y u (jk e)⟩⟩
theorem yX {y:Str}:∀ {loc:aF},RZ n loc=true→look y loc=some mv→uj n mv=true
  | (z,u) :: r,h,e=>by
    have h:(match uj n u with | true=>RZ n r | false=>false)=true:=h
    cases l:uj n u with
    | false=>rw [l] at h; exact Bool.noConfusion h
    | true =>
      rw [l] at h
      rw [ew] at e
      cases q:bB z y with
      | true=>rw [q] at e; rw [← Option.some.inj e]; exact l
      | false=>rw [q] at e; exact yX h e
noncomputable abbrev wE1 (X:Cx) (env:Env):Value→Shared→Prop:=notedBy (model X.p X.w) X.A env fun e s'=>cameBackBy (model X.p X.w) X.A env X.E e s'
theorem WR {d:Option (List MO)}{I:d8}{ns:List Str}{K:aF→St→Prop}(hd:∀ l0,d=some l0→(∃ u h,ee X.1 G1 ⟨l0,u⟩ h)∧∀ a i o,G2 a=.cur i o→i<ln l0) (Y1:aV L G1 G) (R:Ok X.1 G st s) (Y:aV (gT env.locals) G2 G) (F:bJ G fr env loc) (hc:Ly G2 fr env) (h:qg d I ns loc st K)
    (c:∀ G' st' loc',Ok X.1 G' st' s→aV (gT env.locals) G2 G'→aV L G1 G'→bJ G' fr env loc'→cP st' I→(∀ l0,d=some l0→ln st'.l=ln l0)→K loc' st'→C):C:=by
  cases d with
  | none=>exact c _ _ _ R Y Y1 (F.cutL ns) h.1 nofun (cast (b9 (cutL ns loc) _) h.2)
  | some l0 =>
    obtain ⟨⟨u,h0,R0⟩,hb⟩:=hd l0 rfl
    have h2:=h.2
    rw [b9] at h2
    have h3:=h2.2
    rw [b9] at h3
    refine aQ h3 fun hl h3=>?_
    refine c _ _ _ (Ok.cut R0 R h.1) (Y.cut hb) (Y1.cut R0.bnd) ⟨F.toEnvR,hc.mono (Y.cut hb),F.locs.imp fun oL=>Exists.imp fun m g=>⟨iX g.1 fun _ _=>⟨nofun,nofun⟩,g.2.1,fun y u e=>(g.2.2 y u (jk e)).imp fun mv q=>⟨q.1,q.2.mr (rt _ _) _ _ (PH _ (yX hl e))⟩⟩⟩ h2.1 (fun l e=>by rw [← Option.some.inj e]; exact rk h.1) h3
end
end
section
section
variable {X:Cx}{b:Bs}{G G' G0 G1 G2:Gh}{st:St}{s:Shared}{v va vb:Value}{a c mv:MV}{i n:Nat}{x:Addr}{o:Obj}{fr:cA}{env:Env}{loc:aF}{C:Prop}{L:Addr→Prop}{Q:aq}{Ψ:Flow→Shared→Prop}{pos p:Pos}{e l r t:Expr}{es:List Expr}{bd:List Stmt}{f:Flow}{fl:Fl}
theorem w6 {ns:List Str}{K:aF→Prop}(h:ju (cutL ns loc) fun loc=>K loc):K (cutL ns loc):=cast (b9 (cutL ns loc) _) h
inductive WS (X:Cx) (G:Gh) (fr:cA) (env:Env) (W:Nat→aF→St→Prop) (n:Nat) (s:Shared):Prop where
  | mk (G':Gh) (loc:aF) (st:St):Ok X.1 G' st s→bJ G' fr env loc→aV (gT env.locals) G G'→W n loc st→WS X G fr env W n s
noncomputable def wW (X:Cx) (fr:cA) (t:Expr) (bd:List Stmt) (ns:List Str) (Q:aq):Nat→aF→St→Prop:=fun n loc st=>ox (Hp X.W X.cal fr t (cj X.W X.cal fr t)) (jx X.W X.cal fr bd) ns n loc st Q
noncomputable def wQ (ns:List Str) (Q:aq) (W:aF→St→Prop) (loc:aF) (st:St):Fl→Prop
  | .next=>ju (cutL ns loc) fun loc=>W loc st
  | .cont=>ju (cutL ns loc) fun loc=>W loc st
  | .brk=>ju (cutL ns loc) fun loc=>Q .next loc st
  | .ret v=>Q (.ret v) loc st
theorem Nm {bd:List Stmt}(ht:∀ E,ST (X.wE E) t) (hb:∀ E,UC (X.wE E) bd):SS X (.While t bd [] pos):=fun fr env loc G st s Q Ψ R F h k=>by
  have h:∃ n,wW X fr t bd (bH loc) Q n loc st:=h
  refine h.elim fun n h=>wpAny_While (codeAny_whileLoop (WS X G fr env (wW X fr t bd (bH loc) Q)) (fun n s hI=>hI.casesOn fun G1 loc1 cr R1 F1 Y1=>?_) n (.mk G loc st R F (.refl _ G) h))
  exact match n with
    | 0=>fun h1=>False.elim h1
    | n+1=>fun h1=>ht (wE1 X env) R1 F1 h1 fun c s2 G2 eG R2 Y2 F2 h2=>VM (m:=fun c=>if c=true then _ else _) h2 (fun h2=>hb (wE1 X env) R2 F2 h2 fun f s3 G3 IN loc3 fl R3 Y3 F3 V3 h3 =>
      have Y:=Y1.trans (Y2.trans Y3)
      have go:(ju (cutL (bH loc) loc3) fun loc1=>wW X fr t bd (bH loc) Q n loc1 IN)→∃ m,m<n+1∧WS X G fr env (wW X fr t bd (bH loc) Q) m s3 :=
        fun h=>⟨n,Nat.lt_succ_self _,.mk G3 _ IN R3 (F3.cutL _) Y (w6 h)⟩
      uM (C:=fun f=>match f with | .next | .cont=>_ | .brk=>_ | .ret v=>Ψ (.ret v) _) (M:=wQ (bH loc) Q (wW X fr t bd (bH loc) Q n) loc3 IN) V3 h3 go (fun h=>k _ _ _ _ _ .next R3 Y (F3.cutL _) rfl (w6 (K:=fun loc=>Q .next loc IN) h)) go fun v mv V h=>k (.ret mv) _ _ _ _ (.ret v) R3 Y F3 ⟨mv,rfl,V⟩ h) fun h2=>wpAny_execs_nil (k _ _ _ _ loc1 .next R2 (Y1.trans Y2) F2 rfl h2)
inductive W7 (X:Cx) (G G1:Gh) (fr:cA) (env:Env) (t:Expr) (it:Value) (I:d8) (S:List Addr) (d:Option (List MO)) (W:List MV→aF→St→Prop) (n:Nat) (s:Shared):Prop where
  | mk (rest:List MV) (Gk:Gh) (stk:St) (loc:aF):n=rest.length→Ok X.1 Gk stk s→IH X t it (fun st=>cP st I) S rest Gk→bJ Gk fr env loc→aV (gT env.locals) G Gk→aV (fun a=>a=env.locals∨HO S a) G1 Gk→cP stk I→(∀ l0,d=some l0→ln stk.l=ln l0)→W rest loc stk→W7 X G G1 fr env t it I S d W n s
noncomputable def fW (X:Cx) (fr:cA) (t:Expr) (bd:List Stmt) (ns:List Str) (d:Option (List MO)) (I:d8) (Q:aq):List MV→aF→St→Prop:=fun rest loc st=>Ih (jI X.W X.cal fr t) (jx X.W X.cal fr bd) ns d I rest loc st Q
noncomputable def fQ (d:Option (List MO)) (I:d8) (ns:List Str) (Q:aq) (K:aF→St→Prop) (loc:aF) (st:St):Fl→Prop
  | .next=>qg d I ns loc st K
  | .cont=>qg d I ns loc st K
  | .brk=>ju (cutL ns loc) fun loc=>Q .next loc st
  | .ret v=>Q (.ret v) loc st
theorem TD {dl:Bool}{l0 l:List MO}(e:Qd dl l=some l0):l=l0:=match dl,e with
  | true,e=>Option.some.inj e
  | false,e=>nn e
theorem Xw {it:Expr}{bd:List Stmt}(K:g6 X) (hIt:RY X it) (hAs:∀ E,SA (X.wE E) t) (hb:∀ E,UC (X.wE E) bd):SS X (.For t it bd [] pos):=fun fr env loc G st s Q Ψ R F h k=>by
  refine wpAny_For (hIt R F h fun itv s2 G1 cr I S R1 Y1 F1 hS hI hag hlt hsrc hcw=>aQ hcw fun hokT hcw=>?_) (fun x=>nR h x)
  have sL:¬ HO S env.locals:=fun h=>(hS _ h).1 rfl
  refine codeAny_forLoop_any (W7 X G G1 fr env t itv I S (Qd (X.W.dl pos.line) cr.l) (fW X fr t bd (bH loc) (Qd (X.W.dl pos.line) cr.l) I Q)) (fun n sk hk=>hk.casesOn fun rest Gk stk lock hn Rk Ik Fk Yk Zk hsk hdk=>?_) (bU I).length (.mk (bU I) G1 cr loc rfl R1 (hI t hokT) F1 Y1 (.refl _ _) hsrc (fun l0 e=>congrArg ln (TD e)) hcw)
  cases rest with
  | nil=>exact fun hck=>Ik gE Gk stk sk _ _ (.refl _ _) (fun _ _ h=>h) Rk hsk fun G2 s3 R2 Y2=>wpAny_execs_nil (k _ _ _ _ lock .next R2 (Yk.tr Y2 fun a o z e=>absurd e ((hS a z).2 o)) (Fk.ext Y2 sL) rfl hck)
  | cons x rest =>
    exact fun hck=>wpAny_mono (Ik gE Gk stk sk (fun v s2=>wpAny _ _ (assign t _ v) _ _ s2) _ _ (.refl _ _) (fun _ _ h=>h) Rk hsk fun v G2 s3 R2 Y2 V2 I2=>hAs (wE1 X env) R2 (Fk.ext Y2 sL) V2 hck fun s4 G4 X2 loc4 R4 Y4 F4 h4=>hb (wE1 X env) R4 F4 h4 fun f s5 G5 VC loc5 fl R5 Y5 F5 V5 h5 =>
      have Y25:=Y4.trans Y5
      have YG:∀ {G6},aV (gT env.locals) G2 G6→aV (gT env.locals) G G6:=fun Z=>(Yk.tr Y2 fun a o z e=>absurd e ((hS a z).2 o)).trans Z
      have Y15:∀ {G6},aV (gT env.locals) G2 G6→aV (fun a=>a=env.locals∨HO S a) G1 G6:=fun Z=>(Zk.trans (Y2.sub fun _=>.inr)).trans (Z.sub fun _=>.inl)
      have go:qg (Qd (X.W.dl pos.line) cr.l) I (bH loc) loc5 VC (fW X fr t bd (bH loc) (Qd (X.W.dl pos.line) cr.l) I Q rest)→∃ m,m<n∧W7 X G G1 fr env t itv I S (Qd (X.W.dl pos.line) cr.l) (fW X fr t bd (bH loc) (Qd (X.W.dl pos.line) cr.l) I Q) m s5:=fun h =>
        WR (fun l0 e=>⟨⟨cr.u,s2.heap,(TD e) ▸ (show ee X.1 G1 ⟨cr.l,cr.u⟩ s2.heap from R1.rep)⟩,fun a i o g=>hdk l0 e ▸ R2.rep.bnd a i o g⟩) (Y15 Y25) R5 Y25 F5 (Fk.cells.mono Y2) h fun G6 Zc loc6 R6 Z6 W6 F6 hs6 hd6 q =>
          ⟨rest.length,by rw [hn]; exact Nat.lt_succ_self _,.mk rest G6 Zc loc6 rfl R6 (I2.ext Z6 (fun a h z=>sL ((show a=env.locals from z) ▸ h))) F6 (YG Z6) W6 hs6 hd6 q⟩
      uM (C:=fun f=>match f with | .next | .cont=>_ | .brk=>_ | .ret v=>Ψ (.ret v) _) (M:=fQ (Qd (X.W.dl pos.line) cr.l) I (bH loc) Q (fW X fr t bd (bH loc) (Qd (X.W.dl pos.line) cr.l) I Q rest) loc5 VC) V5 h5 go (fun h=>k _ _ _ _ _ .next R5 (YG Y25) (F5.cutL _) rfl (w6 (K:=fun loc=>Q .next loc VC) h)) go fun v mv V h=>k (.ret mv) _ _ _ _ (.ret v) R5 (YG Y25) F5 ⟨mv,rfl,V⟩ h) (fun o s1 h=>h.elim fun v h=>h.1 ▸ h.2) fun _ _ e=>e
end
end
section
noncomputable def jE (env:Env) (line:Nat):Expr→Option Str
  | .Name id pos=>if env.kindOf id == some .local && pos.line == line then some id else none
  | _=>none
noncomputable def LH:Expr→Bool
  | .Starred ..=>true
  | _=>false
theorem swS (ts vs:List Expr) (k k':Nat) (p p':Pos) (env:Env):swappedStores [.Tuple ts k p] (.Tuple vs k' p') env =
    if (!(ts.length == 2 || ts.length == 3) || vs.length != ts.length || env.blockKind != .function)=true then pure none
    else if (vs.any LH)=true then pure none
    else if ((ts.filterMap (jE env ((ts.head?.map (·.pos.line)).getD 0))).length != ts.length || (ts.filterMap (jE env ((ts.head?.map (·.pos.line)).getD 0))).eraseDups.length != (ts.filterMap (jE env ((ts.head?.map (·.pos.line)).getD 0))).length)=true then pure none
    else if vs.all (foldedForSure 8)=true then pure none
    else if vs.all (constantsAlone 8)=true then (do unsupported "assign.tuple-of-constant-expressions:order-of-the-stores"; pure (some (ts.filterMap (jE env ((ts.head?.map (·.pos.line)).getD 0)))))
    else pure (some (ts.filterMap (jE env ((ts.head?.map (·.pos.line)).getD 0)))):=rfl
theorem Ic (ts:List Expr):(ts.head?.map (·.pos.line)).getD 0=j8 ts:=by cases ts <;> rfl
theorem mB:∀ {vs:List Expr},aX vs=true→vs.any LH=false
  | [],_=>rfl
  | e :: r,h=>by
    have:LH e=false:=by
      cases e with
      | Starred=>cases h
      | _=>rfl
    rw [List.any_cons,this,mB (gX (env:=default) (pos:=default) h).2]; rfl
theorem KQ {x:Str}(h:(!bB x dg)=true):(x == ("__debug__":Str))=false:=by
  rw [beq_eq_false_iff_ne,← qq]; intro z; rw [z,dI] at h; cases h
theorem QP:∀ (n:Nat) (e:Expr),ncN n e=true→constantsAlone n e=false:=fun n=>by
  induction n with
  | zero =>
    intro e h
    cases e with
    | Name x p=>exact KQ h
    | Call=>rfl
    | Attribute=>rfl
    | List=>rfl
    | Dict=>rfl
    | ListComp=>rfl
    | _=>exact Bool.noConfusion h
  | succ n ih =>
    intro e h
    cases e with
    | Name x p=>exact KQ h
    | Subscript v i p=>show (constantsAlone n v && constantsAlone n i)=false; rw [ih v h]; rfl
    | Call=>rfl
    | Attribute=>rfl
    | List=>rfl
    | Dict=>rfl
    | ListComp=>rfl
    | _=>exact Bool.noConfusion h
theorem qm:∀ {vs:List Expr},vk vs=true→vs.all (constantsAlone 8)=false
  | e :: r,h=>by
    unfold vk at h
    rw [List.all_cons]
    cases q:ncN 8 e with
    | true=>rw [QP 8 e q]; rfl
    | false=>rw [q] at h; rw [qm h,Bool.and_false]
section
variable {X:Cx}{G:Gh}{fr:cA}{env:Env}{loc:aF}{st:St}{s:Shared}{Q:aq}{Ψ:Flow→Shared→Prop}{pos p:Pos}{e t:Expr}
theorem WE (F:bJ G fr env loc) (line:Nat) (e:Expr):(Zb fr line e=.yes→∃ x p,e=.Name x p∧jE env line e=some x)∧(Zb fr line e=.no→jE env line e=none):=by
  cases e with
  | Name x p =>
    show (swK (Nat.beq p.line line) (look x fr.scope.names)=.yes→∃ y q,Expr.Name x p=.Name y q∧(if (env.kindOf x == some .local && p.line == line)=true then some x else none)=some y)∧(swK (Nat.beq p.line line) (look x fr.scope.names)=.no→(if (env.kindOf x == some .local && p.line == line)=true then some x else none)=none)
    cases q:look x fr.scope.names with
    | none=>exact ⟨(nomatch ·),(nomatch ·)⟩
    | some k=>cases k with
      | «local» =>
        rw [F.kindIs q nofun]
        cases z:Nat.beq p.line line with
        | false=>exact ⟨(nomatch ·),(nomatch ·)⟩
        | true=>exact ⟨fun _=>⟨x,p,rfl,by rw [Nat.eq_of_beq_eq_true z]; simp⟩,(nomatch ·)⟩
      | cell=>rw [F.kindIs q nofun]; exact ⟨fun h=>Sw.noConfusion h,fun _=>rfl⟩
      | _=>exact ⟨fun h=>Sw.noConfusion h,fun h=>Sw.noConfusion h⟩
  | _=>exact ⟨fun h=>Sw.noConfusion h,fun _=>rfl⟩
theorem IZ (F:bJ G fr env loc) (line:Nat):∀ (ts:List Expr),(P7 fr line ts=.yes→ts.filterMap (jE env line)=cx ts∧(cx ts).length=ts.length∧All (fun e=>∃ x p,e=.Name x p) ts)∧(P7 fr line ts=.no→(ts.filterMap (jE env line)).length<ts.length)
  | []=>⟨fun _=>⟨rfl,rfl,trivial⟩,nofun⟩
  | e :: r=>by
    have ih:=IZ F line r
    have i0:=WE F line e
    show ((Zb fr line e).both (P7 fr line r)=.yes→_)∧((Zb fr line e).both (P7 fr line r)=.no→_)
    cases q:Zb fr line e with
    | bad=>exact ⟨nofun,nofun⟩
    | yes =>
      obtain ⟨x,p,rfl,hx⟩:=i0.1 q
      rw [List.filterMap_cons,hx]
      exact ⟨fun h=>have h:=ih.1 h; ⟨congrArg (x :: ·) h.1,congrArg (·+1) h.2.1,⟨x,p,rfl⟩,h.2.2⟩,fun h=>Nat.succ_lt_succ (ih.2 h)⟩
    | no =>
      rw [List.filterMap_cons,i0.2 q]
      exact ⟨fun h=>(by cases z:P7 fr line r <;> rw [z] at h <;> cases h),fun _=>Nat.lt_succ_of_le (List.length_filterMap_le _ _)⟩
theorem tN {x:Str}:∀ {l:List Str},rM x l=false→x ∉ l
  | [],_=>List.not_mem_nil
  | y :: r,h=>fun hm=>by
    unfold rM at h
    cases e:bB y x with
    | true=>rw [e] at h; cases h
    | false=>rw [e] at h; exact (List.mem_cons.mp hm).elim (fun z=>gA e z.symm) (tN h)
theorem jl:∀ {l:List Str},jZ l=true→l.Nodup
  | [],_=>List.nodup_nil
  | x :: r,h=>by
    unfold jZ at h
    cases e:rM x r with
    | true=>rw [e] at h; cases h
    | false=>rw [e] at h; exact List.nodup_cons.mpr ⟨tN e,jl h⟩
theorem NU {l:List Str}(hl:l.length=2∨l.length=3) (h:l.Nodup):l.eraseDups.length=l.length:=by
  match l,hl with
  | [a,b],_ =>
    have:a≠b:=by intro e; subst e; simp at h
    have hb:(b == a)=false:=by simpa using fun q=>this q.symm
    simp [List.eraseDups,List.eraseDupsBy,List.eraseDupsBy.loop,hb,this,Ne.symm this]
  | [a,b,c],_ =>
    simp only [List.nodup_cons,List.mem_cons,List.not_mem_nil,or_false,not_or] at h
    obtain ⟨⟨h1,h2⟩,h3,_⟩:=h
    have e1:(b == a)=false:=by simpa using fun q=>h1 q.symm
    have e2:(c == a)=false:=by simpa using fun q=>h2 q.symm
    have e3:(c == b)=false:=by simpa using fun q=>h3 q.symm
    simp [List.eraseDups,List.eraseDupsBy,List.eraseDupsBy.loop,e1,e2,e3]
theorem zr {n:Nat}:(Sl n=true→n=2∨n=3)∧(Sl n=false→(n == 2 || n == 3)=false):=by
  match n with
  | 0=>exact ⟨nofun,fun _=>rfl⟩
  | 1=>exact ⟨nofun,fun _=>rfl⟩
  | 2=>exact ⟨fun _=>.inl rfl,nofun⟩
  | 3=>exact ⟨fun _=>.inr rfl,nofun⟩
  | n+4=>exact ⟨nofun,fun _=>by simp⟩
theorem a0r (F:bJ G fr env loc) {ts vs:List Expr}{k k':Nat}{p p':Pos}:(qz fr ts vs=.no→swappedStores [.Tuple ts k p] (.Tuple vs k' p') env=pure none) ∧
    (qz fr ts vs=.yes→swappedStores [.Tuple ts k p] (.Tuple vs k' p') env=pure (some (cx ts))∧(cx ts).length=ts.length∧All (fun e=>∃ x p,e=.Name x p) ts):=by
  rw [swS,Ic]
  unfold qz
  cases h1:Sl ts.length with
  | false=>exact ⟨fun _=>by rw [zr.2 h1]; rfl,nofun⟩
  | true =>
    have hl:=zr.1 h1
    cases h2:Nat.beq vs.length ts.length with
    | false=>exact ⟨nofun,nofun⟩
    | true =>
      cases h3:aX vs with
      | false=>exact ⟨nofun,nofun⟩
      | true =>
        have c1:(!(ts.length == 2 || ts.length == 3) || vs.length != ts.length || env.blockKind != .function)=false:=by
          rw [F.block,Nat.eq_of_beq_eq_true h2]; rcases hl with h | h <;> rw [h] <;> rfl
        rw [c1,mB h3]
        have i:=IZ F (j8 ts) ts
        show ((P7 fr (j8 ts) ts).then _=.no→_)∧((P7 fr (j8 ts) ts).then _=.yes→_)
        cases h4:P7 fr (j8 ts) ts with
        | bad=>exact ⟨nofun,nofun⟩
        | no =>
          have hne:((ts.filterMap (jE env (j8 ts))).length != ts.length)=true:=bne_iff_ne.mpr (Nat.ne_of_lt (i.2 h4))
          exact ⟨fun _=>by rw [hne]; rfl,nofun⟩
        | yes =>
          obtain ⟨a,b,c⟩:=i.1 h4
          rw [a]
          show (JK _ _ _=.no→_)∧(JK _ _ _=.yes→_)
          cases h5:jZ (cx ts) with
          | false=>exact ⟨nofun,nofun⟩
          | true =>
            have e1:=NU (by rw [b]; exact hl) (jl h5)
            rw [b] at e1
            have e2:((cx ts).length != ts.length || (cx ts).eraseDups.length != (cx ts).length)=false:=by rw [e1,b]; simp
            rw [e2]
            cases h6:vs.all (foldedForSure 8) with
            | true=>exact ⟨fun _=>rfl,nofun⟩
            | false=>cases h7:vk vs with
              | false=>exact ⟨nofun,nofun⟩
              | true=>rw [qm h7]; exact ⟨nofun,fun _=>⟨rfl,b,c⟩⟩
theorem oJ:∀ (a b:List Expr),cx (a ++ b)=cx a ++ cx b
  | [],_=>rfl
  | e :: r,b=>by
    cases e <;> simp only [List.cons_append,cx,oJ r b]
theorem oZ:∀ ts:List Expr,cx ts.reverse=(cx ts).reverse
  | []=>rfl
  | e :: r=>by
    rw [List.reverse_cons,oJ,oZ r]
    cases e <;> simp [cx]
theorem al.rev:∀ {xs:List MV}{vs:List Value},al G xs vs→al G xs.reverse vs.reverse
  | [],[],_=>trivial
  | x :: xs,v :: vs,h=>by
    rw [List.reverse_cons,List.reverse_cons]
    exact (al.rev h.2).append ⟨h.1,trivial⟩
  | [],_ :: _,h=>h.elim
  | _ :: _,[],h=>h.elim
theorem All.append {α:Type}{P:α→Prop}:∀ {a b:List α},All P a→All P b→All P (a ++ b)
  | [],_,_,h=>h
  | _ :: _,_,h,h'=>⟨h.1,h.2.append h'⟩
theorem All.rev {α:Type}{P:α→Prop}:∀ {a:List α},All P a→All P a.reverse
  | [],_=>trivial
  | x :: r,h=>by rw [List.reverse_cons]; exact h.2.rev.append ⟨h.1,trivial⟩
theorem a0A {Ψ:Shared→Prop}:∀ {ts:List Expr},All (fun e=>∃ x p,e=Expr.Name x p) ts→∀ {loc:aF}{st:St}{s:Shared}{G:Gh}{vs:List MV}{mvs:List Value}{Q:aF→St→Prop},Ok X.1 G st s→bJ G fr env loc→al G vs mvs→wL X.W X.cal fr ts vs loc st Q→KL X G fr env Q Ψ →
    wp X (assignInOrder ((cx ts).map fun n=>bindName env n) mvs) (fun _=>Ψ) s
  | [],_,_,_,_,_,[],[],_,R,F,V,h,k=>wpAny_assignInOrder_none (k _ _ _ _ R (.refl _ _) F h)
  | e :: r,hs,loc,st,_,_,v :: vs,mv :: mvs,Q,R,F,V,h,k=>by
    obtain ⟨⟨x,p,rfl⟩,hs⟩:=hs
    have h:iC fr x v loc st fun loc st=>wL X.W X.cal fr r vs loc st Q:=h
    exact wpAny_assignInOrder_more (wpAny_bindName (g9 (X:=X) R F V.1 h fun s1 G1 cr loc1 R1 Y1 F1 h=>a0A hs R1 F1 (V.2.mono Y1) h (k.pre Y1)))
  | [],_,_,_,_,_,_ :: _,_,_,_,_,_,h,_=>h.elim
  | _ :: _,_,_,_,_,_,[],_,_,_,_,_,h,_=>h.elim
  | _,_,_,_,_,_,[],_ :: _,_,_,_,V,_,_=>V.elim
  | _,_,_,_,_,_,_ :: _,[],_,_,_,V,_,_=>V.elim
def Pj (t e:Expr) (pos:Pos) (env:Env):Prop:=swapsWithSole [t] e pos.line env=pure false∧swappedStores [t] e env=pure none
theorem t6 (he:SE X e) (ht:SA X t) (R:Ok X.1 G st s) (F:bJ G fr env loc) (h:cj X.W X.cal fr e loc st fun v st=>jI X.W X.cal fr t v loc st fun loc st=>Q .next loc st) (k:KS X G fr env Q Ψ) (hs:Pj t e pos env):wp X (exec (.Assign [t] e pos) env) Ψ s :=
  wpAny_Assign_stores (he R F h fun v s1 G1 cr mv R1 Y1 F1 V1 h=>by
    have e1:(assignEach [t] env).map (·.2)=[assign t env]:=by
      cases t with
      | Starred=>exact False.elim h
      | _=>rfl
    rw [e1]
    exact ht R1 F1 V1 h (k.toL.pre Y1)) hs.1 hs.2
theorem fP (he:SE X e) (ht:SA X t) (hs:∀ pos env,Pj t e pos env) (hw:∀ fr loc st Q,II X.W X.cal fr (.Assign [t] e pos) loc st Q→cj X.W X.cal fr e loc st fun v st=>jI X.W X.cal fr t v loc st fun loc st=>Q .next loc st):SS X (.Assign [t] e pos):=fun _ _ _ _ _ _ _ _ R F h k=>t6 he ht R F (hw _ _ _ _ h) k (hs _ _)
theorem Jl (he:SE X e) (hs:∀ line env,swapsWithSole [t] e line env=pure false) (hw:∀ fr loc st Q,II X.W X.cal fr (.Assign [t] e pos) loc st Q→cj X.W X.cal fr e loc st fun v st=>False):SS X (.Assign [t] e pos):=fun _ env _ _ _ _ _ _ R F h k=>by
  unfold wp; rw [PyProof.Rows.exec_Assign]
  refine wpAny_bind (wpAny_standAt ?_)
  rw [hs]
  refine wpAny_bind (wpAny_pure ?_)
  rw [if_neg (by decide)]
  exact wpAny_bind (he R F (hw _ _ _ _ h) fun v s1 G1 cr mv R1 Y1 F1 V1 h=>h.elim)
noncomputable def a3i:Expr→Bool
  | .Name _ _=>true
  | _=>false
theorem gw (ht:a3i t=false) (e:Expr) (line:Nat) (env:Env):swapsWithSole [t] e line env=pure false:=by
  show swapsWith e (some t) line env=pure false
  cases e with
  | ListComp=>cases t with
    | Name=>cases ht
    | _=>rfl
  | SetComp=>cases t with
    | Name=>cases ht
    | _=>rfl
  | DictComp=>cases t with
    | Name=>cases ht
    | _=>rfl
  | _=>rfl
theorem jA {x:Str}:∀ {l:List (Str × NameKind)},jj x l=true→(l.any fun (n,k)=>n == x && (k == .local || k == .cell))=false
  | [],_=>rfl
  | (y,k) :: r,h=>by
    unfold jj at h
    cases e:bB y x with
    | true=>rw [e] at h; cases h
    | false =>
      rw [e] at h
      rw [List.any_cons,jA h]
      simp only [beq_eq_false_iff_ne.mpr (gA e),Bool.false_and,Bool.or_false]
end
end
section
section
variable {X:Cx}{G:Gh}{fr:cA}{env:Env}{loc:aF}{st:St}{s:Shared}{Q:aq}{Ψ:Flow→Shared→Prop}{pos p:Pos}{e t:Expr}
theorem H9 {x:Stmt}(h:∀ fr loc st Q,¬ II X.W X.cal fr x loc st Q):SS X x:=fun _ _ _ _ _ _ _ _ _ _ w _=>(h _ _ _ _ w).elim
theorem vG {ob:Expr}{lo hi sp:Option Expr}{op:Operator}{q r:Pos}(ho:SE X ob):SS X (.AugAssign (.Subscript ob (.Slice lo hi sp q) r) op e pos):=fun fr env loc G st s Q Ψ R F h k=>by
  unfold wp; rw [arm_exec_AugAssign_3]
  exact wpAny_bind (wpAny_standAt (wpAny_bind (ho R F h fun ov s1 G1 cr mo R1 Y1 F1 V1 h=>False.elim h)))
theorem Ta (K:g6 X) {ts vs:List Expr}{k k':Nat}{p':Pos}:SS X (.Assign [.Tuple ts k p] (.Tuple vs k' p') pos):=fun fr env loc G st s Q Ψ R F h kk=>by
  have he:=(s4 (.Tuple vs k' p') X K).e
  have hw:=a0r F (ts:=ts) (vs:=vs) (k:=k) (k':=k') (p:=p) (p':=p')
  have h:(match qz fr ts vs with
      | .no=>cj X.W X.cal fr (.Tuple vs k' p') loc st fun v st=>jI X.W X.cal fr (.Tuple ts k p) v loc st fun loc st=>Q .next loc st
      | .yes=>cj X.W X.cal fr (.Tuple vs k' p') loc st fun v st=>ad (jw v) fun us=>bw (Nat.beq us.length ts.length) (wL X.W X.cal fr ts.reverse us.reverse loc st fun loc st=>Q .next loc st)
      | .bad=>False):=h
  cases q:qz fr ts vs with
  | bad=>rw [q] at h; exact h.elim
  | no=>rw [q] at h; exact t6 he (s4 (.Tuple ts k p) X K).a R F h kk ⟨rfl,hw.1 q⟩
  | yes =>
    rw [q] at h
    obtain ⟨a,b,c⟩:=hw.2 q
    refine Assign_Tuple_swapped (he R F h fun v s1 G1 cr mv R1 Y1 F1 V1 h=>aj h fun us e h=>aQ h fun hl h=>?_) rfl a
    obtain ⟨l,items,n,rfl,g,V2⟩:=dY (C:=fun v=>∃ l vs n,v=.ref l∧G1 l=.frz (iN vs n)∧al G1 us vs.toList) V1 e fun l vs n g V=>⟨l,vs,n,rfl,g,V⟩
    rw [b,← Nat.eq_of_beq_eq_true hl,V2.size]
    refine wpAny_unpackItems_tuple K.hA (IsT.isTuple (R1.frz g)) fun h' hk=>?_
    have n0:=R1.rep.no (Nat.le_refl s1.heap.objs.size)
    have r:=R1.rep.ov (L:=gE) (l:=[(s1.heap.objs.size,.no)]) (h':=h') ⟨lH n0 trivial,trivial⟩ (fun c o q e=>hk c o q.1 e) ⟨.inr n0,trivial⟩
    rw [← oZ]
    exact a0A (s:={ s1 with heap:=h' }) c.rev ⟨r.1,R1.gens,R1.os⟩ (F1.extN r.2) (V2.mono r.2).rev h (kk.toL.pre (Y1.then r.2))
theorem Xm (K:g6 X) {x:Str}{elt:Expr}{gens:List Comprehension}{sc:Scope}{q:Pos}:SS X (.Assign [.Name x p] (.ListComp elt gens sc q) pos):=fun fr env loc G st s Q Ψ R F h k=>aQ h fun hu h=>dw hu fun u1 u2 u3 _=>by
  have hk:=F.kindIs (kU u1) nofun
  have hs:swapsWith (.ListComp elt gens sc q) (some (.Name x p)) pos.line env=pure true:=by
    show (pure (env.blockKind == .function && env.kindOf x == some .local && p.line == q.line && !(sc.names.any fun (n,k)=>n == x && (k == .local || k == .cell))):Sem Bool)=pure true
    rw [F.block,hk,Nat.eq_of_beq_eq_true u2,jA u3]; simp
  unfold wp; rw [exec_Assign_Name_used x p _ pos hs]
  refine wpAny_bind (wpAny_standAt (wpAny_bind ?_))
  cases gens with
  | nil=>exact False.elim h
  | cons g gs =>
    obtain ⟨target,iter,ifs,n⟩:=g
    cases gs with
    | cons=>cases n with
      | ofNat n=>cases n <;> exact False.elim h
      | negSucc n=>exact False.elim h
    | nil=>cases n with
      | negSucc n=>exact False.elim h
      | ofNat n=>cases n with
        | succ=>exact False.elim h
        | zero =>
          show wpAny _ _ (do let _ ← comprehension (.ListComp elt [⟨target,iter,ifs,0⟩] sc q) sc env (firstIterPos [⟨target,iter,ifs,0⟩] q) (newList []) false (eval iter env) (some (assign (.Name x p) env))) _ _ s
          exact wpAny_bind (wpAny_mono (L0 (Q:=fun loc st=>Q .next loc st) (Ψ:=Ψ .next) K (s4 iter X K).i (fun E=>(s4 target _ (K.wE E)).a) (fun E=>sTs ((SD ifs _ (K.wE E)).imp fun _ h=>h.t)) (fun E=>(s4 elt _ (K.wE E)).e) R F h k.toL) (fun _ s1 h1=>wpAny_pure (wpAny_pure h1)) fun _ _ e=>e)
theorem Hl (K:g6 X):SS X (.Assign [t] e pos):=by
  have he:=(s4 e X K).e
  have ht:=(s4 t X K).a
  cases t with
  | Name x p=>cases e with
    | ListComp elt gens sc q=>exact Xm K
    | SetComp=>exact H9 fun _ _ _ _=>id
    | DictComp=>exact H9 fun _ _ _ _=>id
    | _=>exact fP he ht (fun _ _=>⟨rfl,rfl⟩) fun _ _ _ _=>id
  | Tuple ts k p=>cases e with
    | Tuple vs k' p'=>exact Ta K
    | ListComp=>exact fP he ht (fun _ _=>⟨gw rfl _ _ _,rfl⟩) fun _ _ _ _=>id
    | SetComp=>exact H9 fun _ _ _ _=>id
    | DictComp=>exact H9 fun _ _ _ _=>id
    | _=>exact fP he ht (fun _ _=>⟨rfl,rfl⟩) fun _ _ _ _=>id
  | Attribute o x p=>exact fP he ht (fun _ _=>⟨gw rfl _ _ _,rfl⟩) fun _ _ _ _=>id
  | Subscript o i p=>exact fP he ht (fun _ _=>⟨gw rfl _ _ _,rfl⟩) fun _ _ _ _=>id
  | _=>exact Jl he (fun _ _=>gw rfl _ _ _) fun _ _ _ _=>id
end
mutual
theorem VT (x:Stmt) (X:Cx) (K:g6 X):SS X x:=by
  cases x with
  | Expr e p =>
    have he:=(s4 e X K).e
    cases e with
    | ListComp=>exact H9 fun _ _ _ _=>id
    | SetComp=>exact H9 fun _ _ _ _=>id
    | DictComp=>exact H9 fun _ _ _ _=>id
    | _=>exact Py he (fun _=>rfl) fun _ _ _ _=>id
  | Pass p=>exact RE
  | Continue p=>exact te
  | Return v p=>cases v with
    | none=>exact vS
    | some e=>exact Iu (s4 e X K).e
  | Assign ts e p=>cases ts with
    | nil=>exact H9 fun _ _ _ _=>id
    | cons t r=>cases r with
      | nil=>exact Hl K
      | cons=>exact H9 fun _ _ _ _ h=>False.elim (by cases t <;> first | exact h | (cases e <;> exact h))
  | AugAssign t op e p =>
    have he:=(s4 e X K).e
    cases t with
    | Name x q=>exact xw K he
    | Subscript o i q =>
      have ho:=(s4 o X K).e
      have hi:=(s4 i X K).e
      cases i with
      | Slice=>exact vG ho
      | _=>exact Ib ho hi he fun _ _ _=>rfl
    | _=>exact H9 fun _ _ _ _=>id
  | If t b o p=>exact a0l (s4 t X K).t (j0 b X K) (j0 o X K)
  | While t b o p =>
    have hb:=fun E=>j0 b (X.wE E) (K.wE E)
    cases o with
    | nil=>exact Nm (fun E=>(s4 t _ (K.wE E)).t) hb
    | cons=>exact H9 fun _ _ _ _=>id
  | For t i b o p =>
    have hb:=fun E=>j0 b (X.wE E) (K.wE E)
    cases o with
    | nil=>exact Xw K (s4 i X K).i (fun E=>(s4 t _ (K.wE E)).a) hb
    | cons=>exact H9 fun _ _ _ _=>id
  | _=>exact H9 fun _ _ _ _=>id
termination_by structural x
theorem j0 (l:List Stmt) (X:Cx) (K:g6 X):UC X l:=by
  cases l with
  | nil=>exact QH
  | cons x r=>exact KX (VT x X K) (j0 r X K)
termination_by structural l
end
end
section
theorem eK:∀ {names:List Str}{vs:List Value}{i:Nat}{y:Str},names.Nodup→names[i]?=some y→(names.zip vs).lookup y=vs[i]?
  | [],vs,i,y,_,h=>by simp at h
  | x :: r,[],i,y,_,h=>by simp
  | x :: r,v :: vs,0,y,_,h=>by
    simp at h; subst h
    simp
  | x :: r,v :: vs,i+1,y,hn,h=>by
    have h:r[i]?=some y:=by simpa using h
    obtain ⟨h1,h2⟩:=List.nodup_cons.mp hn
    have hne:y≠x:=by rintro rfl; exact h1 (List.mem_of_getElem? h)
    rw [List.zip_cons_cons,List.lookup_cons,show (y == x)=false by simpa using hne]
    simpa using eK (vs:=vs) h2 h
theorem kO:∀ {names:List Str}{vs:List Value}{f:Str→Option Value},names.length=vs.length→(∀ (i:Nat) y,names[i]?=some y→f y=vs[i]?)→names.filterMap (fun n=>(f n).map (n,·))=names.zip vs
  | [],[],_,_,_=>rfl
  | x :: r,v :: vs,f,hl,h=>by
    have h0:=h 0 x rfl
    simp at h0
    rw [List.filterMap_cons,h0]
    simp only [Option.map_some,List.zip_cons_cons]
    rw [kO (vs:=vs) (by simpa using hl) fun i y hy=>by simpa using h (i+1) y (by simpa using hy)]
  | [],_ :: _,_,hl,_=>by simp at hl
  | _ :: _,[],_,hl,_=>by simp at hl
noncomputable def pj (s:List (Str × Value)) (x:Str × Value):List (Str × Value):=if (s.lookup x.1).isNone=true then s ++ [(x.1,x.2)] else s
theorem lJ:∀ (l s:List (Str × Value)),(forIn l s fun (x:Str × Value) (s:List (Str × Value))=>if (s.lookup x.1).isNone=true then (pure (ForInStep.yield (s ++ [(x.1,x.2)])):Sem (ForInStep (List (Str × Value)))) else pure (ForInStep.yield s))=pure (l.foldl pj s)
  | [],s=>by rw [List.forIn_nil]; rfl
  | x :: r,s=>by
    rw [List.forIn_cons,List.foldl_cons]
    unfold pj
    split
    · rw [pure_bind]; exact lJ r _
    · rw [pure_bind]; exact lJ r _
theorem o9 {y:Str}:∀ {a b:List (Str × Value)},(a ++ b).lookup y=(a.lookup y).or (b.lookup y)
  | [],b=>by simp
  | (x,v) :: r,b=>by
    rw [List.cons_append,List.lookup_cons,List.lookup_cons]
    cases y == x with
    | true=>rfl
    | false=>exact o9
theorem pF {y:Str}:∀ {l s:List (Str × Value)},(l.foldl pj s).lookup y=(s.lookup y).or (l.lookup y)
  | [],s=>by simp
  | (x,v) :: r,s=>by
    rw [List.foldl_cons,pF,List.lookup_cons]
    unfold pj
    split
    · rename_i h
      rw [o9]
      cases hb:y == x with
      | true =>
        have:=beq_iff_eq.mp hb; subst this
        have h:s.lookup y=none:=by simpa using h
        rw [h]; simp
      | false=>simp [List.lookup_cons,hb]
    · rename_i h
      cases hb:y == x with
      | true =>
        have:=beq_iff_eq.mp hb; subst this
        have h:s.lookup y≠none:=by simpa using h
        cases hs:s.lookup y with
        | none=>exact absurd hs h
        | some _=>simp
      | false=>rfl
theorem a0h {s:Shared}{fd:FuncData}{args:Args}{ds:Array Value}{bs:List (Str × Value)}{k:Option (Array Value)→Sem (List (Str × Value))}(hd:(fd.defaults=.none∧ds=#[])∨∃ T o n,fd.defaults=.ref T∧s.heap.get? T=some o∧o.data=.seq ds n)
    (h:bindArgs fd args=seqItems? fd.defaults >>= k) (h':∀ r:Option (Array Value),r.getD #[]=ds→k r=pure bs):BindsTo s fd args bs:=by
  rcases hd with ⟨e,rfl⟩ | ⟨T,o,n,e,ho,hs⟩
  · intro M A E Q q
    rw [h,e]
    exact wpAny_bind (wpAny_pure (by rw [h' none rfl]; exact wpAny_pure q))
  · exact .of_defaults e ho hs h (h' _ rfl)
theorem bdk {α β:Type}{A B:Sem β}{c1 c2:Bool}{s':α}{f:Sem α}{g:α→Sem β}{b:β}(h1:c1=false) (h2:c2=false) (h3:f=pure s') (h4:g s'=pure b):(if c1=true then A else if c2=true then B else f >>= g)=pure b:=by
  subst h1 h2 h3
  exact (pure_bind _ _).trans h4
section
variable {names:List Str}{vals D:List Value}
theorem a5i {b:Bool}(h:vals.length≤names.length):(decide (vals.length > names.length) && b)=false:=by rw [decide_eq_false (Nat.not_lt.mpr h)]; rfl
theorem LE (h:D.length≤names.length):D.drop (D.length - names.length)=D:=by rw [Nat.sub_eq_zero_of_le h]; rfl
theorem a1x {α:Type}{l:List α}{i:Nat}{y:α}(h:l[i]?=some y):i<l.length:=Nat.lt_of_not_le fun q=>nn (List.getElem?_eq_none q ▸ h)
theorem a46 (hn:names.Nodup) (h2:names.length - vals.length≤D.length) (h3:D.length≤names.length):(!(List.filter (fun n=>(List.lookup n (names.zip vals)).isNone) (names.take (names.length - (D.drop (D.length - names.length)).length))).isEmpty)=false:=by
  rw [LE h3,List.filter_eq_nil_iff.mpr]
  · rfl
  intro y hy
  obtain ⟨i,hi⟩:=List.mem_iff_getElem?.mp hy
  have hlt:=a1x hi
  rw [List.length_take] at hlt
  have hlt:=Nat.lt_of_lt_of_le hlt (Nat.min_le_left _ _)
  rw [List.getElem?_take,if_pos hlt] at hi
  have q:i<vals.length:=Nat.lt_of_lt_of_le hlt (Nat.sub_le_iff_le_add.mpr (Nat.sub_le_iff_le_add'.mp h2))
  rw [eK hn hi,List.getElem?_eq_getElem q]
  exact Bool.false_ne_true
theorem a1W {a b c i:Nat}(h:b≤i) (g:a - b≤c) (k:c≤a) (q:b≤a):a - c+(i - (a - c))=i∧c - (a - b)+(i - b)=i - (a - c):=by
  obtain ⟨x,rfl⟩:=Nat.exists_eq_add_of_le q
  obtain ⟨y,rfl⟩:=Nat.exists_eq_add_of_le h
  rw [Nat.add_sub_cancel_left] at g
  obtain ⟨m,rfl⟩:=Nat.exists_eq_add_of_le g
  obtain ⟨n,rfl⟩:=Nat.exists_eq_add_of_le (Nat.le_of_add_le_add_left (Nat.add_comm b x ▸ k))
  have e:m+n+x - (x+m)=n:=by rw [Nat.add_comm _ x,← Nat.add_assoc,Nat.add_sub_cancel_left]
  rw [e,Nat.add_sub_cancel_left,Nat.add_sub_cancel_left,Nat.add_sub_cancel_left,Nat.add_comm m n,Nat.add_assoc,Nat.add_sub_cancel_left]
  exact ⟨rfl,rfl⟩
theorem a4C (hn:names.Nodup) (h1:vals.length≤names.length) (h2:names.length - vals.length≤D.length) (h3:D.length≤names.length):List.filterMap (fun n=>(List.lookup n (List.foldl pj (names.zip vals) ((names.drop (names.length - (D.drop (D.length - names.length)).length)).zip (D.drop (D.length - names.length))))).map (n,·)) (names ++ [])=names.zip (vals ++ D.drop (D.length - (names.length - vals.length))):=by
  rw [LE h3,List.append_nil]
  refine kO ?_ fun i y hy=>?_
  · rw [List.length_append,List.length_drop,Nat.sub_sub_self h2,Nat.add_sub_cancel' h1]
  · have hlt:=a1x hy
    show List.lookup y _=_
    rw [pF,eK hn hy]
    rcases Nat.lt_or_ge i vals.length with h | h
    · rw [List.getElem?_append_left h,List.getElem?_eq_getElem h]; rfl
    · obtain ⟨e1,e2⟩:=a1W h h2 h3 h1
      rw [List.getElem?_append_right h,List.getElem?_eq_none h,List.getElem?_drop,e2]
      exact (eK (hn.sublist (List.drop_sublist _ _)) ((List.getElem?_drop ..).trans (e1.symm ▸ hy)))
end
theorem QG {s:Shared}{fd:FuncData}{vals:List Value}{ds:Array Value}(hp:gU fd.params=true)
    (hd:(fd.defaults=.none∧ds=#[])∨∃ T o n,fd.defaults=.ref T∧s.heap.get? T=some o∧o.data=.seq ds n) (hn:(fd.params.args.map (·.arg)).Nodup) (h1:vals.length≤(fd.params.args.map (·.arg)).length)
    (h2:(fd.params.args.map (·.arg)).length - vals.length≤ds.size) (h3:ds.size≤(fd.params.args.map (·.arg)).length) :
    BindsTo s fd ⟨vals,[]⟩ ((fd.params.args.map (·.arg)).zip (vals ++ ds.toList.drop (ds.size - ((fd.params.args.map (·.arg)).length - vals.length)))):=by
  obtain ⟨nm,qn,⟨po,as,va,ko,kd,kw,dd⟩,body,sc,gl,cl,df,kdf,dc,pm,an,cd,ct,bn⟩:=fd
  obtain ⟨rfl,rfl,rfl,rfl⟩:po=[]∧va=none∧ko=[]∧kw=none:=dw hp fun a b c d=>⟨List.isEmpty_iff.mp a,Option.isNone_iff_eq_none.mp b,List.isEmpty_iff.mp c,Option.isNone_iff_eq_none.mp d⟩
  refine a0h hd (Eq.trans (pure_bind _ _) rfl) fun r hr=>?_
  clear hd
  subst hr
  exact bdk (a5i h1) (a46 hn h2 h3) (lJ _ _) (Eq.trans (pure_bind _ _) (congrArg pure (a4C hn h1 h2 h3)))
end
section
section
variable {X:Cx}{b:Bs}{G G':Gh}{st:St}{s:Shared}{Q:aE}{Φ:Value→Shared→Prop}{v:Value}{a mv:MV}{i:Nat}{x:Str}{C:Prop}{L:Addr→Prop}{sc:Scope}
noncomputable def jg (G:Gh):aF→List (Str × Value)→Prop
  | [],[]=>True
  | p :: r,q :: t=>(p.1=q.1∧aw G p.2 q.2)∧jg G r t
  | _,_=>False
theorem jg.mono (Y:aV L G G'):∀ {l:aF}{bs:List (Str × Value)},jg G l bs→jg G' l bs
  | [],[],_=>trivial
  | _ :: _,_ :: _,h=>⟨⟨h.1.1,h.1.2.mono Y⟩,jg.mono Y h.2⟩
  | [],_ :: _,h=>h.elim
  | _ :: _,[],h=>h.elim
theorem jg.zip:∀ {names:List Str}{xs:List MV}{vs:List Value},al G xs vs→jg G (names.zip xs) (names.zip vs)
  | [],_,_,_=>trivial
  | _ :: _,[],[],_=>trivial
  | _ :: _,_ :: _,_ :: _,h=>⟨⟨rfl,h.1⟩,jg.zip h.2⟩
  | _ :: _,[],_ :: _,h=>h.elim
  | _ :: _,_ :: _,[],h=>h.elim
theorem dL {α:Type}{p:Str × α}{r:List (Str × α)}{C:Option α→Prop}(h1:p.1=x→C (some p.2)) (h2:p.1≠x→C (look x r)):C (look x (p :: r)):=by
  show C (match bB p.1 x with | true=>some p.2 | false=>look x r)
  cases e:bB p.1 x with
  | true=>exact h1 ((b7 _ _).mp e)
  | false=>exact h2 (gA e)
theorem jg.look:∀ {l:aF}{bs:List (Str × Value)},jg G l bs→∀ {a:MV},look x l=some a→∃ v,(x,v)∈bs∧aw G a v
  | [],_,_,_,e=>nn e
  | p :: r,q :: t,h,a,e=>dL (C:=fun o=>o=some a→∃ v,(x,v)∈q :: t∧aw G a v) (fun z e=>⟨q.2,by rw [← z,h.1.1]; exact List.mem_cons_self,Option.some.inj e ▸ h.1.2⟩) (fun _ e=>(jg.look h.2 e).imp fun v k=>⟨List.mem_cons_of_mem _ k.1,k.2⟩) e
  | _ :: _,[],h,_,_=>h.elim
theorem jg.none:∀ {l:aF}{bs:List (Str × Value)},jg G l bs→Sq.look x l=none→∀ v,(x,v) ∉ bs
  | [],[],_,_,v=>nofun
  | p :: r,q :: t,h,e,v=>dL (C:=fun o=>o=Option.none→(x,v) ∉ q :: t) (fun _ e=>nn e.symm) (fun n e m=>(List.mem_cons.mp m).elim (fun z=>n (h.1.1.trans (congrArg (·.1) z).symm)) (jg.none h.2 e v)) e
  | _ :: _,[],h,_,_=>h.elim
  | [],_ :: _,h,_,_=>h.elim
theorem a0J {o:Option NameKind}(h:oP o=true):o=some .local:=kU h
theorem gi:∀ {l:aF}{a:MV},look x (cU sc l)=some a→look x sc.names=some .local∧look x l=some a
  | [],_,h=>nn h
  | p :: r,a,h=>by
    have h:look x (match oP (look p.1 sc.names) with | true=>p :: cU sc r | false=>cU sc r)=some a:=h
    cases e:oP (look p.1 sc.names) with
    | true =>
      rw [e] at h
      exact dL (C:=fun o=>look x (p :: cU sc r)=some a→look x sc.names=some .local∧o=some a) (fun z h=>⟨z ▸ kU e,by rw [← h]; exact (dL (C:=fun o=>some p.2=o) (fun _=>rfl) fun n=>absurd z n)⟩)
        (fun n h=>gi (dL (C:=fun o=>o=some a→look x (cU sc r)=some a) (fun z=>absurd z n) (fun _=>id) h)) h
    | false =>
      rw [e] at h
      have k:=gi h
      exact ⟨k.1,dL (C:=fun o=>o=some a) (fun z=>by rw [z,k.1] at e; cases e) fun _=>k.2⟩
theorem o7 {k:Str→Option NameKind}:∀ {bs:List (Str × Value)}{m:Str→Option Value},(∀ v,(x,v) ∉ bs)→bindL k bs m x=m x∧bindC k bs m x=m x
  | [],_,_=>⟨rfl,rfl⟩
  | p :: r,m,h=>by
    have n:x≠p.1:=fun z=>h p.2 (by rw [z]; exact List.mem_cons_self)
    have k:=fun m=>o7 (k:=k) (bs:=r) (m:=m) fun u hu=>h u (List.mem_cons_of_mem _ hu)
    refine ⟨(k _).1.trans ?_,(k _).2.trans ?_⟩ <;> split
    · exact if_neg n
    · rfl
    · rfl
    · exact if_neg n
theorem nr {k:Str→Option NameKind}:∀ {bs:List (Str × Value)}{m:Str→Option Value},(bs.map (·.1)).Nodup→(x,v)∈bs→(k x=some .local→bindL k bs m x=some v)∧(k x≠some .local→bindC k bs m x=some v)
  | [],_,_,h=>nomatch h
  | p :: r,m,hn,h=>by
    obtain ⟨h1,h2⟩:=List.nodup_cons.mp hn
    rcases List.mem_cons.mp h with e | h
    · have q:=fun m=>o7 (k:=k) (x:=x) (bs:=r) (m:=m) fun u hu=>h1 (List.mem_map.mpr ⟨_,hu,by rw [← e]⟩)
      refine ⟨fun hk=>(q _).1.trans ?_,fun hk=>(q _).2.trans ?_⟩ <;> rw [← e]
      · rw [if_pos hk]; exact if_pos rfl
      · rw [if_neg hk]; exact if_pos rfl
    · exact ⟨(nr h2 h).1,(nr h2 h).2⟩
theorem ir {α:Type}{v:α}:∀ {l:List (Str × α)},(l.map (·.1)).Nodup→(x,v)∈l→l.lookup x=some v
  | [],_,h=>nomatch h
  | p :: r,hn,h=>by
    obtain ⟨h1,h2⟩:=List.nodup_cons.mp hn
    rw [List.lookup_cons]
    rcases List.mem_cons.mp h with e | hm
    · rw [← e,beq_self_eq_true]
    · rw [beq_eq_false_iff_ne.mpr fun z=>h1 (List.mem_map.mpr ⟨_,hm,z⟩)]; exact ir h2 hm
theorem XM {bs:List (Str × Value)}(hn:(bs.map (·.1)).Nodup) (h:(x,v)∈bs):bs.reverse.lookup x=some v :=
  ir (by rw [List.map_reverse]; exact (List.reverse_perm _).nodup_iff.mpr hn) (List.mem_reverse.mpr h)
noncomputable def mh (G:Gh):List (Str × Nat)→List (Str × Addr)→Prop
  | [],[]=>True
  | p :: r,q :: t=>(p.1=q.1∧∃ o,G q.2=.cur p.2 o)∧mh G r t
  | _,_=>False
theorem mh.mono (Y:aV L G G'):∀ {a:List (Str × Nat)}{c:List (Str × Addr)},mh G a c→mh G' a c
  | [],[],_=>trivial
  | _ :: _,_ :: _,h=>⟨⟨h.1.1,h.1.2.elim fun o e=>Y.cur e⟩,mh.mono Y h.2⟩
  | [],_ :: _,h=>h.elim
  | _ :: _,[],h=>h.elim
theorem mh.look:∀ {a:List (Str × Nat)}{c:List (Str × Addr)},mh G a c→∀ {i:Nat},Sq.look x a=some i→∃ l o,c.lookup x=some l∧G l=.cur i o
  | [],_,_,_,e=>nn e
  | p :: r,q :: t,h,i,e=>by
    rw [List.lookup_cons,← h.1.1]
    refine dL (C:=fun o=>o=some i→∃ l o,(match x == p.1 with | true=>some q.2 | false=>t.lookup x)=some l∧G l=.cur i o) (fun z e=>?_) (fun n e=>?_) e
    · rw [z,beq_self_eq_true]; exact ⟨q.2,h.1.2.imp fun o g=>⟨rfl,Option.some.inj e ▸ g⟩⟩
    · rw [beq_eq_false_iff_ne.mpr n.symm]; exact mh.look h.2 e
  | _ :: _,[],h,_,_=>h.elim
theorem mh.not {n:Addr}(e:G n=.no):∀ {a:List (Str × Nat)}{c:List (Str × Addr)},mh G a c→(x,n) ∉ c
  | [],[],_=>nofun
  | p :: r,q :: t,h=>fun m=>(List.mem_cons.mp m).elim (fun z=>by
    obtain ⟨o,g⟩:=h.1.2
    rw [← z] at g
    exact nomatch e.symm.trans g) (mh.not e h.2)
  | [],_ :: _,h=>h.elim
  | _ :: _,[],h=>h.elim
theorem l9 {p:Str × Addr}:∀ {l:List (Str × NameKind)}{m:Nat}{ac:List (Str × Addr)},p∈ac→p∈cellsFrom m l ac
  | [],_,_,h=>h
  | q :: l,m,ac,h=>by
    unfold cellsFrom
    split
    · exact l9 (List.mem_cons_of_mem _ h)
    · exact l9 h
theorem jV {l:aF}{bs:List (Str × Value)}{k:Str→Option NameKind}{h':Heap}(hnd:(bs.map (·.1)).Nodup):∀ {names:List (Str × NameKind)}{n:Nat}{acc:List (Str × Nat)}{accA:List (Str × Addr)}{G:Gh}{st:St}{Q:List (Str × Nat)→St→Prop},
    (∀ x,(x,NameKind.cell)∈names→k x≠some .local)→ee b G st h'→(∀ a,n≤a→G a=.no)→jg G l bs→mh G acc accA →
    (∀ x c,(x,c)∈cellsFrom n names accA→(x,c)∈accA∨h'.IsCell c (bindC k bs (fun _=>none) x))→dz names l st acc Q →
    (∀ G' st' cel,Q cel st'→ee b G' st' h'→aV gE G G'→mh G' cel (cellsFrom n names accA)→C)→C
  | [],n,acc,accA,G,st,Q,_,R,hn,hb,hc,hcells,h,c=>c G st acc h R (.refl _ _) hc
  | (x,kd) :: r,n,acc,accA,G,st,Q,hk,R,hn,hb,hc,hcells,h,c=>by
    have hk':∀ y,(y,NameKind.cell)∈r→k y≠some .local:=fun y hy=>hk y (List.mem_cons_of_mem _ hy)
    by_cases hcell:kd=.cell
    · subst hcell
      have h:ju (aL st.l (.cell (Sq.look x l))) fun l'=>dz r l ⟨l',st.u⟩ ((x,ln st.l) :: acc) Q:=h
      rw [b9] at h
      have hnn:G n=.no:=hn n (Nat.le_refl _)
      obtain ⟨o,ho,hd⟩:=(hcells x n (l9 (l:=r) (m:=n+1) (List.mem_cons_self (a:=(x,n)) (l:=accA)))).resolve_left (hc.not hnn)
      have r1:=R.new (mo:=.cell (Sq.look x l)) (by rw [hnn]; rfl) ho (fun _ _ _ e=>e) fun G' g M=>⟨_,hd,by
        cases e:Sq.look x l with
        | none=>rw [(o7 (hb.none e)).2]; trivial
        | some a =>
          obtain ⟨v,hm,V⟩:=hb.look e
          rw [(nr hnd hm).2 (hk x List.mem_cons_self)]
          exact V.mo M⟩
      have Y:aV gE G _:=aV.of r1.2.mo fun a o _ g=>r1.2.prv g fun z=>by rw [show a=n from z,hnn] at g; cases g
      exact jV (acc:=(x,ln st.l) :: acc) (accA:=(x,n) :: accA) hnd hk' r1.1 (fun a ha=>(bO G _ (Nat.ne_of_gt ha)).trans (hn a (Nat.le_of_succ_le ha))) (hb.mono Y) ⟨⟨rfl,o,gH ..⟩,hc.mono Y⟩ (fun y d hy=>(hcells y d hy).imp (List.mem_cons_of_mem _) id) h fun G2 eG cel q R2 Y2 C2=>c G2 eG cel q R2 (Y.trans Y2) C2
    · have e1:cellsFrom n ((x,kd) :: r) accA=cellsFrom n r accA:=if_neg (by simpa using hcell)
      have h:dz r l st acc Q:=by cases kd <;> first | exact h | exact absurd rfl hcell
      rw [e1] at hcells c
      exact jV hnd hk' R hn hb hc hcells h c
theorem j6:∀ {l:List (Str × NameKind)},iY l=true→∀ x∈l,x.2≠.cell
  | [],_,_,hx=>absurd hx List.not_mem_nil
  | (y,k) :: r,h,x,hx=>by
    have:k≠.cell∧iY r=true:=by cases k <;> first | cases h | exact ⟨nofun,h⟩
    exact (List.mem_cons.mp hx).elim (fun z=>by rw [z]; exact this.1) (j6 this.2 x)
theorem pa {l:aF}{Q:List (Str × Nat)→St→Prop}:∀ {ns:List (Str × NameKind)}{st:St}{acc:List (Str × Nat)},iY ns=true→dz ns l st acc Q→Q acc st
  | [],_,_,_,h=>h
  | (y,k) :: r,st,acc,hn,h=>by
    cases k <;> first | cases hn | exact pa (ns:=r) hn h
theorem iz:∀ {names:List (Str × NameKind)}{n:Nat}{acc:List (Str × Addr)},(cellsFrom n names acc).map (·.1)=(c7 names).reverse ++ acc.map (·.1)
  | [],_,_=>rfl
  | (x,k) :: r,n,acc=>by
    have h1:(cellsFrom (n+1) r ((x,n) :: acc)).map (·.1)=(x :: c7 r).reverse ++ acc.map (·.1):=by
      rw [iz,List.reverse_cons,List.append_assoc]; rfl
    cases k <;> first | exact h1 | exact iz (n:=n) (acc:=acc) (names:=r)
theorem mG {α:Type}:∀ {names:List Str}{vs:List α},((names.zip vs).map (·.1)).Sublist names
  | [],_=>.slnil
  | _ :: _,[]=>List.nil_sublist _
  | x :: r,v :: vs=>List.Sublist.cons_cons _ mG
theorem j9:∀ {l:List (Str × NameKind)},(x,NameKind.cell)∈l→x∈c7 l
  | (y,k) :: r,h=>(List.mem_cons.mp h).elim (fun e=>by rw [← (Prod.mk.inj e).2,(Prod.mk.inj e).1]; exact List.mem_cons_self) fun h=>by
      have:=j9 h
      cases k <;> first | exact List.mem_cons_of_mem _ this | exact this
theorem al.dropN:∀ (k:Nat) {xs:List MV}{vs:List Value},al G xs vs→al G (xs.drop k) (vs.drop k)
  | 0,_,_,h=>h
  | k+1,[],[],_=>trivial
  | k+1,_ :: _,_ :: _,h=>al.dropN k h.2
  | k+1,[],_ :: _,h=>h.elim
  | k+1,_ :: _,[],h=>h.elim
end
end
section
noncomputable abbrev mF:Nat→Prop:=fun _=>False
noncomputable def Tg.hide:Tg→Tg
  | .cur _ o=>.prv o
  | .dof _ o=>.prv o
  | t=>t
noncomputable def Gh.hide (G:Gh):Gh:=fun a=>(G a).hide
noncomputable def Tg.or:Tg→Tg→Tg
  | .no,t=>t
  | t,_=>t
noncomputable def Gh.over (G F:Gh):Gh:=fun a=>(G a).or (F a)
theorem Tg.or_of {t u:Tg}(n:t≠.no):t.or u=t:=by
  cases t with
  | no=>exact absurd rfl n
  | _=>rfl
theorem Tg.hide_obj:∀ t:Tg,t.hide.obj=t.obj
  | .no=>rfl
  | .prv _=>rfl
  | .frz _=>rfl
  | .cur _ _=>rfl
  | .dof _ _=>rfl
  | .fin _ _=>rfl
theorem Tg.hide_frz {o:Obj}{t:Tg}(h:t.hide=.frz o):t=.frz o:=by cases t <;> first | exact h | (dsimp only [Tg.hide] at h; cases h)
theorem Tg.hide_fin {i:Nat}{o:Obj}{t:Tg}(h:t.hide=.fin i o):t=.fin i o:=by cases t <;> first | exact h | (dsimp only [Tg.hide] at h; cases h)
theorem Tg.hide_cd {i:Nat}{o:Obj}{t:Tg}(h:t.hide=.cur i o∨t.hide=.dof i o):False:=by cases t <;> (dsimp only [Tg.hide] at h; rcases h with h | h <;> cases h)
section
variable {X:Cx}{b:Bs}{G G' G2 F:Gh}{st eG:St}{s:Shared}{Q:aE}{Φ:Value→Shared→Prop}{v:Value}{a mv:MV}{i n u':Nat}{x y:Addr}{C:Prop}{h h2:Heap}{o:Obj}{t:Tg}
theorem ee.hide (R:ee b G st h):ee b G.hide ⟨[],st.u⟩ h :=
  ⟨fun a o e=>R.fact a o ((Tg.hide_obj _).symm.trans e),fun a o e=>by unfold Gh.hide; rw [R.base a o e]; rfl,fun i mo e=>nn e,fun a c i o o' e _=>absurd (.inl e) Tg.hide_cd,fun a i o e=>absurd (.inl e) Tg.hide_cd,
    fun a c i o o' e e'=>R.fun1 a c i o o' (Tg.hide_fin e) (Tg.hide_fin e'),fun a i o e=>R.fbnd a i o (Tg.hide_fin e)⟩
theorem EX (G:Gh):Mo mF G G.hide:=⟨fun a o e=>by unfold Gh.hide; rw [e]; rfl,fun a i o e=>by unfold Gh.hide; rw [e]; rfl,fun _ h=>h.elim⟩
theorem sw (Y:aV gE G.hide G2) (n:G x≠.no):G2 x=(G x).hide:=by
  have k:=Y x
  have e:G.hide x=(G x).hide:=rfl
  rw [e] at k
  cases q:G x with
  | no=>exact absurd q n
  | _=>rw [q] at k; first | exact k id | exact k
def FJ (h2:Heap) (G2:Gh) (u u':Nat) (x y:Addr) (t:Tg):Prop:=(∃ i o,G2 y=.cur i o∨G2 y=.dof i o)∧(∀ o,t.obj=some o→h2.get? y=some o)∧∀ i o,t≠.cur i o∧(t=.fin i o→y=x∧i=u∧u<u')
theorem ee.join (R:ee b G st h) (R2:ee b G2 eG h2) (Y:aV gE G.hide G2) (hu:eG.u≤u') (hF:∀ y,F y=G2.cut 0 y∨FJ h2 G2 eG.u u' x y (F y)):ee b (G.over F) ⟨st.l,u'⟩ h2∧aV gE G (G.over F)∧Mo mF G2 (G.over F):=by
  have ov:∀ {y t},G y=t→t≠.no→G.over F y=t:=fun {y t} e n=>by unfold Gh.over; rw [e]; exact Tg.or_of n
  have un:∀ y,(G y≠.no∧G.over F y=G y)∨(G y=.no∧G.over F y=F y):=fun y=>by
    by_cases q:G y=.no
    · exact .inr ⟨q,by unfold Gh.over; rw [q]; rfl⟩
    · exact .inl ⟨q,ov rfl q⟩
  have bc:∀ {y i o},G.over F y=.cur i o→G y=.cur i o:=fun {y i o} e=>(un y).elim (fun k=>k.2.symm.trans e) fun k=>by
    have e:=k.2.symm.trans e
    rcases hF y with q | q
    · exact absurd (dS (q.symm.trans e)).2 (Nat.not_lt_zero _)
    · exact absurd e (q.2.2 i o).1
  have bf:∀ {y i o},G.over F y=.fin i o→G2 y=.fin i o∨(y=x∧i=eG.u∧eG.u<u'):=fun {y i o} e=>(un y).elim (fun k=>.inl (by rw [sw Y k.1,← k.2,e]; rfl)) fun k=>by
    have e:=k.2.symm.trans e
    rcases hF y with q | q
    · exact .inl (fE (q.symm.trans e))
    · exact .inr ((q.2.2 i o).2 e)
  have M0:Mo mT G (G.over F):=⟨fun a o e=>ov e nofun,fun a i o e=>ov e nofun,fun _ _ a o e=>⟨o,ov e nofun⟩⟩
  have fw:∀ {y t},G2 y=t→(∀ i o,t≠.cur i o∧t≠.dof i o)→(∀ z:Tg,z.hide=t→z=t)→G.over F y=t:=fun {y t} e hn hz=>(un y).elim (fun k=>k.2.trans (hz _ ((sw Y k.1).symm.trans e))) fun k=>k.2.trans ((hF y).elim (fun q=>q.trans (iX e hn)) fun q=>by
    obtain ⟨i,o,q⟩:=q.1
    exact (q.elim (fun q=>(hn i o).1 (e.symm.trans q)) fun q=>(hn i o).2 (e.symm.trans q)).elim)
  refine ⟨⟨fun a o e=>?_,fun a o e=>M0.frz a o (R.base a o e),fun i mo e=>?_,fun a c i o o' e e'=>R.uni a c i o o' (bc e) (bc e'),fun a i o e=>R.bnd a i o (bc e),fun a c i o o' e e'=>?_,fun a i o e=>?_⟩,aV.of M0 fun a o _ e=>ov e nofun,⟨fun a o e=>fw e (fun _ _=>⟨nofun,nofun⟩) fun z=>Tg.hide_frz,fun a i o e=>fw e (fun _ _=>⟨nofun,nofun⟩) fun z=>Tg.hide_fin,fun _ h=>h.elim⟩⟩
  · rcases un a with k | k
    · exact R2.fact a o (by rw [sw Y k.1,Tg.hide_obj,← k.2]; exact e)
    · rcases hF a with q | q
      · exact R2.fact a o (by rw [← Dv (n:=0),← q,← k.2]; exact e)
      · exact q.2.1 o (by rw [← k.2]; exact e)
  · obtain ⟨a,o,g,r⟩:=R.cur i mo e
    exact ⟨a,o,ov g nofun,r.mo M0 fun d od g=>ov g nofun⟩
  · rcases bf e with k | k <;> rcases bf e' with k' | k'
    · exact R2.fun1 _ _ _ _ _ k k'
    · exact absurd (R2.fbnd _ _ _ k) (by rw [k'.2.1]; exact Nat.lt_irrefl _)
    · exact absurd (R2.fbnd _ _ _ k') (by rw [k.2.1]; exact Nat.lt_irrefl _)
    · exact k.1.trans k'.1.symm
  · exact (bf e).elim (fun k=>Nat.lt_of_lt_of_le (R2.fbnd _ _ _ k) hu) fun k=>k.2.1 ▸ k.2.2
theorem Fm (R2:Ok b G2 eG s) (M:Mo mF G2 G') (hc:∀ y i o,n≤i→(G2 y=.cur i o∨G2 y=.dof i o)→G' y=.frz o) (V:aw G2 a v) (h:fzR n eG.l a=some mv):aw G' mv v :=
  be h (fun r e h=>ao h fun q e' h=>pA e' fun hn e'=>by
    subst e'
    have hn:=Nat.le_of_ble_eq_true hn
    refine be h (fun xs e1 h=>R2.ref V e (jr e1) fun l o g r e=>?_) fun h=>ao h fun p e1 h=>R2.ref V e (rh e1) fun l o g r e=>?_
    · rw [← Option.some.inj h]
      obtain ⟨p,vs,m,rfl,V⟩:=r
      exact ⟨l,vs,m,rfl,hc _ _ _ hn (.inl g),p,al.mr M _ _ (eS _ p) V⟩
    · rw [← Option.some.inj h]
      obtain ⟨d,od,m,hi,gd,hN,hn',hf⟩:=r
      exact ⟨l,d,o,od,m,rfl,hc _ _ _ hn (.inl g),hi,hc _ _ _ hn (.inr gd),hN,hn',hf.mr M _ _⟩) fun h=>pA h fun p e=>e ▸ aw.mr M _ _ (sD _ p) V
theorem yV (R2:Ok b G2 eG s) (M:Mo mF G2 G') (hc:∀ y i o,n≤i→(G2 y=.cur i o∨G2 y=.dof i o)→G' y=.frz o):∀ {xs ys:List MV}{vs:List Value},al G2 xs vs→fzL n eG.l xs=some ys→al G' ys vs
  | [],_,[],_,h=>Option.some.inj h ▸ trivial
  | _ :: _,_,_ :: _,V,h=>ao h fun v e h=>ao h fun r e' h=>Option.some.inj h ▸ ⟨Fm R2 M hc V.1 e,yV R2 M hc V.2 e'⟩
  | [],_,_ :: _,V,_=>V.elim
  | _ :: _,_,[],V,_=>V.elim
theorem Oh (R2:Ok b G2 eG s) (M:Mo mF G2 G') (hc:∀ y i o,n≤i→(G2 y=.cur i o∨G2 y=.dof i o)→G' y=.frz o) (V:aw G2 a v) (h:fz n eG.l a=some mv):aw G' mv v :=
  be h (fun xs e h=>ao h fun ys e' h=>dY V e fun l vs m g V=>Option.some.inj h ▸ ⟨l,vs,m,rfl,M.frz _ _ g,yV R2 M hc V e'⟩) fun h=>Fm R2 M hc V h
end
structure FnP (names:List Str) (sc:Scope):Prop where
  nd:names.Nodup
  kinds:∀ x∈names,look x sc.names=some .local∨look x sc.names=some .cell
  fn:sc.kind=.function
  gen:sc.isGenerator=false
  co:sc.isCoroutine=false
  cnd:(c7 sc.names).Nodup
  cell:∀ x∈c7 sc.names,look x sc.names=some .cell
theorem oW {all:List (Str × NameKind)}:∀ {l:List Str},js all l=true→∀ x∈l,look x all=some .local∨look x all=some .cell
  | y :: r,h,x,hx=>by
    have:(look y all=some .local∨look y all=some .cell)∧js all r=true:=by
      unfold js at h
      cases e:look y all with
      | none=>rw [e] at h; cases h
      | some k=>rw [e] at h; cases k <;> first | exact ⟨.inl rfl,h⟩ | exact ⟨.inr rfl,h⟩ | cases h
    exact (List.mem_cons.mp hx).elim (fun z=>z ▸ this.1) (oW this.2 x)
theorem nZ {all:List (Str × NameKind)}:∀ {l:List Str},lj all l=true→∀ x∈l,look x all=some .cell
  | y :: r,h,x,hx=>by
    have:look y all=some .cell∧lj all r=true:=by
      unfold lj at h
      cases e:look y all with
      | none=>rw [e] at h; cases h
      | some k=>rw [e] at h; cases k <;> first | exact ⟨rfl,h⟩ | cases h
    exact (List.mem_cons.mp hx).elim (fun z=>z ▸ this.1) (nZ this.2 x)
theorem nY {sc:Scope}(h:PD sc=true):sc.kind=.function∧sc.isGenerator=false∧sc.isCoroutine=false:=by
  unfold PD at h
  cases e:sc.kind with
  | function =>
    rw [e] at h
    cases g:sc.isGenerator with
    | true=>rw [g] at h; cases h
    | false=>rw [g] at h; exact ⟨rfl,rfl,by cases q:sc.isCoroutine with | false=>rfl | true=>rw [q] at h; cases h⟩
  | _=>rw [e] at h; cases h
theorem vT {names:List Str}{sc:Scope}(h:P0 names sc=true):FnP names sc :=
  dw h fun h1 h2 h3 h4=>dw h4 fun h5 h6 _ _=>⟨jl h1,oW h2,(nY h3).1,(nY h3).2.1,(nY h3).2.2,jl h5,nZ h6⟩
end
section
def xQ (B:Addr→Option Obj):Prop:=∃ o mc,B cStatics=some o∧IP o mc∧mc "sys.recursionlimit"=none
structure WP (fd:FuncData) (names:List Str) (body:List Stmt) (sc:Scope):Prop where
  pl:gU fd.params=true
  names:fd.params.args.map (·.arg)=names
  body:fd.body=.stmts body
  scope:fd.scope=sc
  glob:fd.globals=mainGlobals
  bi:fd.builtins=builtinsNs
structure IL (X:Cx):Prop where
  lim:xQ X.B
  room:X.A.depth<recursionLimit
  run:∀ env E',g6 ⟨X.1,X.A.deeper env,X.W,X.cal,E'⟩
section
variable {X:Cx}{b:Bs}{G G1:Gh}{st cr:St}{s s1:Shared}{Q:aE}{Φ:Value→Shared→Prop}{v:Value}{a mv:MV}{x:Addr}{o:Obj}{fr:cA}{env:Env}{loc:aF}{names:List Str}{dflts args:List MV}{body:List Stmt}{sc:Scope}{cs:List (Str × Nat)}{vs:List Value}{fd:FuncData}{bs:List (Str × Value)}{l:aF}
theorem SW {A':Around}{E':Value→Shared→Prop}(K:g6 ⟨X.1,A',X.W,X.cal,E'⟩) (R:Ok X.1 G1 cr s1) (F:bJ G1 fr env loc) (Y:aV gE G G1) (hL:G env.locals=.no) (h:jx X.W X.cal fr body loc cr fun fl _ st=>match fl with
      | .ret v=>Q v st
      | .next=>Q .none st
      | _=>False) (k:KV X G Q Φ):wpAny (model X.p X.w) A' (execs body env) (fun f s'=>Φ (match f with | .ret v=>v | _=>.none) s') E' s1 :=
  j0 body ⟨X.1,A',X.W,X.cal,E'⟩ K R F h fun f s2 G2 eG loc2 fl R2 Y2 F2 V2 q =>
    have Y':aV gE G G2:=Y.tr Y2 fun a o ha e=>by rw [show a=env.locals from ha,hL] at e; cases e
    uM (C:=fun f=>Φ (match f with | .ret v=>v | _=>.none) s2) (M:=fun fl=>match fl with
      | .ret v=>Q v eG
      | .next=>Q .none eG
      | _=>False) V2 q (fun q=>k .none _ G2 eG .none R2 Y' rfl q) (fun q=>q.elim) (fun q=>q.elim) fun v mv V q=>k mv _ G2 eG v R2 Y' V q
theorem Pc (hl:xQ b.B) (R:Ok b G st s) {h':Heap}(hk:∀ b o,s.heap.get? b=some o→h'.get? b=some o):h'.NoLimit :=
  hl.elim fun o h=>h.elim fun mc h=>⟨mc,cW.mpr ⟨o,hk _ _ (R.base h.1),h.2.1⟩,h.2.2⟩
def t4 (X:Cx) (G:Gh) (code:Value) (sc:Scope) (body:List Stmt) (l:aF) (P:List (Str × Nat)→St→Prop) (Φ:Value→Shared→Prop):Prop:=∀ env G1 cr s1 cel E',P cel cr→Ok X.1 G1 cr s1→bJ G1 ⟨sc,cel⟩ env (cU sc l)→aV gE G G1→G env.locals=.no→env.code=code →
  wpAny (model X.p X.w) (X.A.deeper env) (execs body env) (fun f s'=>Φ (match f with | .ret v=>v | _=>.none) s') E' s1
theorem WM {code:Value}(K:IL X) (k:KV X G Q Φ):t4 X G code sc body l (fun cel st=>ju (cU sc l) fun l=>jx X.W X.cal ⟨sc,cel⟩ body l st fun fl _ st=>match fl with
      | .ret v=>Q v st
      | .next=>Q .none st
      | _=>False) Φ:=fun env G1 cr s1 cel E' h R F Y hL _=>SW (K.run env E') R F Y hL (cast (b9 _ _) h) k
theorem Jj {P':List (Str × Nat)→St→Prop}{M:Model}{A1:Around}{E1:Value→Shared→Prop}{R':Result→Shared→Prop}{fa:Addr}{qual:Str}(K:IL X) (P:FnP names sc) (D:WP fd names body sc) (R:Ok X.1 G st s) (hB:jg G l bs) (hkeys:(bs.map (·.1)).Nodup) (hin:∀ x∈bs,x.1∈names)
    (hc:(fd.closure=[]∧cs=[])∨(iY sc.names=true∧∀ x i,look x cs=some i→∃ c o,fd.closure.lookup x=some c∧G c=.cur i o))
    (h:dz sc.names l st cs P') (k:t4 X G fd.code sc body l P' fun v s'=>R' (.ok (.ret v)) s') :
    wpAny M A1 (newFunctionEnv fd.scope fd.globals fd.closure bs qual (some fa) fd.code none fd.builtins) (fun env s₂=>s₂.heap.NoLimit∧codeAny (model X.p X.w) X.A (.func body env) R' s₂) E1 s:=by
  have hN:G s.heap.objs.size=.no:=R.rep.no (Nat.le_refl _)
  have lay:∀ {h':Heap} {m:Str→Option Value},h'.Ns s.heap.objs.size m→(∀ b o,s.heap.get? b=some o→h'.get? b=some o)→∃ oL,IP oL m∧ee X.1 (G.ov [(s.heap.objs.size,.prv oL)]) st h'∧aV gE G (G.ov [(s.heap.objs.size,.prv oL)]):=fun hn hk =>
    (cW.mp hn).elim fun oL g=>⟨oL,g.2,R.rep.ov (L:=gE) (l:=[(s.heap.objs.size,.prv oL)]) ⟨⟨by rw [hN]; rfl,g.1⟩,trivial⟩ (fun c o _ e=>hk c o e) ⟨.inr hN,trivial⟩⟩
  rw [D.scope]
  rcases hc with ⟨hc,rfl⟩ | ⟨hnc,hc⟩
  · rw [hc]
    have nd:((cellsFrom (s.heap.objs.size+1) sc.names []).map (·.1)).Nodup:=by rw [iz,List.map_nil,List.append_nil]; exact (List.reverse_perm _).nodup_iff.mpr P.cnd
    refine wpAny_newFunctionEnv_cells P.fn (fun y hy=>?_) fun env he s' x=>?_
    · refine (P.kinds _ (hin y hy)).imp (fun q=>(b8 _ _).symm.trans q) fun q=>⟨(b8 _ _).symm.trans q,?_⟩
      have:y.1∈(cellsFrom (s.heap.objs.size+1) sc.names []).map (·.1):=by rw [iz,List.map_nil,List.append_nil]; exact List.mem_reverse.mpr (j9 (mem_of_lookup ((b8 _ _).symm.trans q)))
      obtain ⟨⟨z,c⟩,hm,e⟩:=List.mem_map.mp this
      rw [← e,ir nd hm]; rfl
    · subst he
      obtain ⟨h',tk,rfl⟩:=x.toInCall.same
      obtain ⟨oL,n1,R1,Y1⟩:=lay x.toInCall.ns x.toInCall.keep
      refine ⟨Pc K.lim R x.toInCall.keep,codeAny_func ?_⟩
      refine jV hkeys (names:=sc.names) (n:=s.heap.objs.size+1) (acc:=[]) (accA:=[]) (k:=fun y=>sc.names.lookup y) (fun y hy q=>?_) R1 (fun c hc=>?_) (hB.mono Y1) trivial (fun y c hy=>.inr (x.cell y c (ir nd hy))) h fun G2 eG cel q R2 Y2 C2=>?_
      · have:=P.cell y (j9 hy)
        rw [b8,q] at this; cases this
      · rw [bO G _ (Nat.ne_of_gt hc)]; exact R.rep.no (Nat.le_of_succ_le hc)
      · have Y12:=Y1.trans Y2
        exact k _ _ _ _ _ _ q ⟨R2,R.gens,R.os⟩ ⟨⟨P.fn,fun y kd hk=>.inl ((b8 _ _).symm.trans hk),D.glob,D.bi⟩,fun y i hi _=>C2.look hi,oL,_,Y2.prv (gH ..) id,n1,fun y u hu=>by
          obtain ⟨a1,a2⟩:=gi hu
          obtain ⟨mv,hm,V⟩:=hB.look a2
          exact ⟨mv,(nr hkeys hm).1 ((b8 _ _).symm.trans a1),V.mono Y12⟩⟩ Y12 hN rfl
  · have h:=pa hnc h
    refine wpAny_newFunctionEnv (j6 hnc) (fun y hy=>?_) (fun h' hns hsb=>?_) P.fn
    · exact (b8 _ _).symm.trans ((P.kinds _ (hin y hy)).resolve_right fun q=>j6 hnc _ (mem_of_lookup ((b8 _ _).symm.trans q)) rfl)
    · have hk:∀ b o,s.heap.get? b=some o→h'.get? b=some o:=fun b o e=>hsb.extBut b o (Nat.ne_of_lt (Heap.lt_size e)) (Heap.get?_push_of_some _ e)
      obtain ⟨oL,n1,R1,Y1⟩:=lay hns hk
      refine ⟨Pc K.lim R hk,codeAny_func ?_⟩
      exact k (newEnv sc s.heap.objs.size fd.globals fd.closure qual (some fa) fd.code none fd.builtins) _ _ _ _ _ h (R.heap R1 _) ⟨⟨P.fn,fun y kd hk=>.inl ((b8 _ _).symm.trans hk),D.glob,D.bi⟩,fun y i hi _=>(hc y i hi).elim fun c h=>h.elim fun o h=>(Y1.cur h.2).elim fun o' g=>⟨c,o',h.1,g⟩,oL,_,gH ..,n1,fun y u hu=>by
          obtain ⟨a1,a2⟩:=gi hu
          obtain ⟨mv,hm,V⟩:=hB.look a2
          exact ⟨mv,XM hkeys hm,V.mono Y1⟩⟩ Y1 hN rfl
theorem vg {P':List (Str × Nat)→St→Prop}{fa:Addr}{ds:Array Value}(K:IL X) (D:WP fd names body sc) (ho:s.heap.get? fa=some o) (hd:o.data=.func fd) (hcd:s.heap.CodeRec fd.code fd.qualname) (hds:(fd.defaults=.none∧ds=#[])∨∃ T o n,fd.defaults=.ref T∧s.heap.get? T=some o∧o.data=.seq ds n) (VD:al G dflts ds.toList)
    (hc:(fd.closure=[]∧cs=[])∨(iY sc.names=true∧∀ x i,look x cs=some i→∃ c o,fd.closure.lookup x=some c∧G c=.cur i o))
    (R:Ok X.1 G st s) (V:al G args vs) (hok:P0 names sc=true) (hb:qJ names dflts args=some l) (h:dz sc.names l st cs P') (k:t4 X G fd.code sc body l P' Φ):Lk X s.heap (.ref fa)∧wp X (call (.ref fa) vs) Φ s:=by
  refine ⟨⟨.frame,.inl rfl,(Looks.ld (part:=none) ho).andThen (by rw [hd]; exact Looks.now)⟩,?_⟩
  have P:=vT hok
  unfold qJ at hb
  split at hb
  case isFalse=>exact nn hb
  rename_i q
  rw [V.length,VD.size] at q
  obtain rfl:=Option.some.inj hb
  have hbind:=QG (s:=s) (vals:=vs) D.pl hds
  rw [D.names] at hbind
  refine wpAny_call (codeAny_call_function K.room ho hd (by rw [D.scope]; exact P.co) (by rw [D.scope]; exact P.gen) D.body hcd (hbind P.nd q.1 q.2.1 q.2.2 _ _ _ _ ?_))
  exact Jj K P D R (jg.zip (by rw [V.length,VD.size]; exact V.append (VD.dropN _))) (P.nd.sublist mG) (fun x hx=>(List.of_mem_zip hx).1) hc h k
theorem Oz {v:Value}(K:IL X) (h:OI X.W X.cal names dflts body sc cs args st Q) (k:KV X G Q Φ) {code:Value}(c:∀ {l P'},P0 names sc=true→qJ names dflts args=some l→dz sc.names l st cs P'→t4 X G code sc body l P' Φ→Lk X s.heap v∧wp X (call v vs) Φ s):Lk X s.heap v∧wp X (call v vs) Φ s :=
  aQ h fun hok h=>aj h fun l hb h=>c hok hb h (WM K k)
def vl (B:Addr→Option Obj) (a:Addr) (F:c6):Prop:=∃ o fd cd co us t ds,B a=some o∧o.cls=.type "function"∧o.data=.func fd∧WP fd F.names F.body F.scope∧fd.closure=[]∧(fd.code=.ref cd∧B cd=some co∧co.data=.fields us∧us[1]?=some (.str fd.qualname t)) ∧
    ((fd.defaults=.none∧ds=#[])∨∃ T ot n,fd.defaults=.ref T∧B T=some ot∧ot.data=.seq ds n)∧∀ G:Gh,(∀ a o,B a=some o→G a=.frz o)→al G F.dflts ds.toList
theorem tu {fa:Addr}{F:c6}(K:IL X) (hf:vl X.B fa F) (R:Ok X.1 G st s) (V:al G args vs):∃ o fd,X.B fa=some o∧o.data=.func fd∧∀ {l P'},P0 F.names F.scope=true→qJ F.names F.dflts args=some l→dz F.scope.names l st [] P'→t4 X G fd.code F.scope F.body l P' Φ→Lk X s.heap (.ref fa)∧wp X (call (.ref fa) vs) Φ s:=by
  obtain ⟨o,fd,cd,co,us,t,ds,h1,_,h2,D,h3,⟨h4,h5,h6,h7⟩,h8,h9⟩:=hf
  exact ⟨o,fd,h1,h2,fun hok hb h k=>vg K D (R.base h1) h2 ⟨cd,co,us,t,h4,R.base h5,h6,h7⟩ (h8.imp id fun ⟨T,o,n,e,e1,e2⟩=>⟨T,o,n,e,R.base e1,e2⟩) (h9 G R.rep.base) (.inl ⟨h3,rfl⟩) R V hok hb h k⟩
theorem nu {fa:Addr}{F:c6}(K:IL X) (hf:vl X.B fa F) (R:Ok X.1 G st s) (V:al G args vs) (h:OI X.W X.cal F.names F.dflts F.body F.scope [] args st Q) (k:KV X G Q Φ):Lk X s.heap (.ref fa)∧wp X (call (.ref fa) vs) Φ s:=by
  obtain ⟨o,fd,_,_,c⟩:=tu (Φ:=Φ) K hf R V
  exact Oz K h k c
theorem Hs {ag:Arguments}(K:IL X) (R:Ok X.1 G st s) (Vf:aw G (.clos ag body sc cs) v) (V:al G args vs) (hpl:gU ag=true) (hnc:iY sc.names=true) (h:OI X.W X.cal (ag.args.map (·.arg)) [] body sc cs args st Q) (k:KV X G Q Φ):Lk X s.heap v∧wp X (call v vs) Φ s:=by
  obtain ⟨a,o,co,fd,cd,rfl,g,gc,⟨hd,h1,h2,h3,h4,_,h5,h6,h7,us,t,h8,h9⟩,hcl⟩:=Vf
  exact Oz K h k fun hok hb h k=>vg (ds:=#[]) K ⟨by rw [h1]; exact hpl,by rw [h1],h2,h3,h5,h6⟩ (R.frz g) hd ⟨cd,co,us,t,h7,R.frz gc,h8,h9⟩ (.inl ⟨h4,rfl⟩) (show al G [] [] from trivial) (.inr ⟨hnc,hcl⟩) R V hok hb h k
end
end
section
section
variable {X:Cx}{b:Bs}{G G2 F:Gh}{st eG:St}{s:Shared}{Q:aE}{Φ:Value→Shared→Prop}{v:Value}{a mv:MV}{i:Nat}{x d y C:Addr}{o od:Obj}{h h':Heap}{args:List MV}{vs:List Value}{fs:List (Str × MV)}{m:Str→Option Value}
theorem wy (Y:aV gE G.hide G2) (e:G2 y=.cur i o∨G2 y=.dof i o):G y=.no:=by
  by_cases q:G y=.no
  · exact q
  · rw [sw Y q] at e; exact (Tg.hide_cd e).elim
theorem iu (e:G y=.no):G.over F y=F y:=by unfold Gh.over; rw [e]; rfl
theorem Ox (Y:aV gE G.hide G2) (e:G2 y=.cur i o∨G2 y=.dof i o):G.over F y=F y:=iu (wy Y e)
theorem IC {fa:Addr}{f:c6}(K:IL X) (hf:vl X.B fa f) (R:Ok X.1 G st s) (V:al G args vs) (p:aY args=true) (h:OI X.W X.cal f.names f.dflts f.body f.scope [] args ⟨[],st.u⟩ fun v s=>ad (fz 0 s.l v) fun v=>Q v ⟨st.l,s.u⟩) (k:KV X G Q Φ):Lk X s.heap (.ref fa)∧wp X (call (.ref fa) vs) Φ s :=
  nu K hf (G:=G.hide) ⟨R.rep.hide,R.gens,R.os⟩ (V.mr (EX G) _ _ (eS _ p)) h fun v s' G2 eG mv R2 Y2 V2 q=>aj q fun w e q =>
    have j:=R.rep.join (F:=G2.cut 0) (x:=0) R2.rep Y2 (Nat.le_refl _) fun _=>.inl rfl
    k v s' _ ⟨st.l,eG.u⟩ w ⟨j.1,R2.gens,R2.os⟩ j.2.1 (Oh R2 j.2.2 (fun y i o _ e=>(Ox Y2 e).trans (kY e (Nat.zero_le _))) V2 e) q
theorem IE {fa:Addr}{f:c6}(K:IL X) (hf:vl X.B fa f) (R:Ok X.1 G st s) (V:al G args vs) (h:OI X.W X.cal f.names f.dflts f.body f.scope [] args st fun v s=>ad (fz (ln st.l) s.l v) fun v=>dq st.l s fun st=>Q v st) (k:KV X G Q Φ):Lk X s.heap (.ref fa)∧wp X (call (.ref fa) vs) Φ s :=
  nu K hf R V h fun v s' G2 eG mv R2 Y2 V2 q=>aj q fun w e q =>
    k v s' (G2.cut (ln st.l)) _ w (Ok.cut R.rep R2 q.1) (Y2.cut R.rep.bnd) (Oh R2 ⟨(rt G2 _).frz,(rt G2 _).fin,fun _ h=>h.elim⟩ (fun y i o hn e=>kY e hn) V2 e) (by have q:=q.2; rw [b9] at q; exact q)
theorem ee.nw (R:ee b G st h) (e:h.get? y=none):G y=.no:=by
  cases q:G y with
  | no=>rfl
  | _=>have:=R.at q rfl; rw [e] at this; cases this
theorem ee.dof (R:ee b G st h) (e:G d=.no) (hd:h'.get? d=some od) (hk:∀ c o,h.get? c=some o→h'.get? c=some o) (n:Nat):ee b (G.ov [(d,.dof n od)]) st h'∧aV gE G (G.ov [(d,.dof n od)]):=by
  have ne:∀ {y t},G y=t→t≠.no→G.ov [(d,.dof n od)] y=t:=fun {y t} g n=>(bO G _ (Gd e g n.symm)).trans g
  have bk:∀ {y t},G.ov [(d,.dof n od)] y=t→(∀ o,t≠.dof n o)→G y=t:=fun {y t} g q=>by
    by_cases z:y=d
    · rw [z,gH] at g; exact (q od g.symm).elim
    · rw [bO G _ z] at g; exact g
  have M:Mo mT G (G.ov [(d,.dof n od)]):=⟨fun _ _ g=>ne g Tg.noConfusion,fun _ _ _ g=>ne g Tg.noConfusion,fun _ _ a o g=>⟨o,ne g Tg.noConfusion⟩⟩
  have nc:∀ (i:Nat) (o o':Obj),Tg.cur i o≠.dof n o':=fun i o o' z=>Tg.noConfusion z
  have nf:∀ (i:Nat) (o o':Obj),Tg.fin i o≠.dof n o':=fun i o o' z=>Tg.noConfusion z
  refine ⟨R.any (a:=d) M (IO.fact R rfl hd fun c o _=>hk c o) (fun i mo q=>?_) rfl (Nat.le_refl _) (fun c i o g=>.inl ⟨o,bk g (nc i o)⟩) fun c i o g=>bk g (nf i o),aV.of M fun _ _ _ g=>ne g Tg.noConfusion⟩
  obtain ⟨a,o,g,r⟩:=R.cur i mo q
  exact ⟨a,o,ne g Tg.noConfusion,r.mo M fun _ _ g=>ne g Tg.noConfusion⟩
theorem ee.newObj (R:ee b G st h) (hx:G x=.no) (hd:G d=.no) (ex:h'.get? x=some o) (ed:h'.get? d=some od) (hk:∀ c o,h.get? c=some o→h'.get? c=some o) (hi:YY C x d o) (hN:IM od m) (hn:∀ y,look y fs=none→m y=none) (hf:eH G fs m) :
    ee b ((G.ov [(d,.dof (ln st.l) od)]).ov [(x,.cur (ln st.l) o)]) ⟨aL st.l (.obj C fs),st.u⟩ h'∧aV gE G ((G.ov [(d,.dof (ln st.l) od)]).ov [(x,.cur (ln st.l) o)]):=by
  have r1:=R.dof hd ed hk (ln st.l)
  have hx1:G.ov [(d,.dof (ln st.l) od)] x=.no:=(bO G _ hi.2.2.2.symm).trans hx
  have r2:=r1.1.new1 (mo:=.obj C fs) (by rw [hx1]; rfl) ex (fun _ _ _ e=>e) fun M=>⟨d,od,m,hi,(bO _ _ hi.2.2.2).trans (gH ..),hN,hn,(hf.mono r1.2).mo M⟩
  exact ⟨r2.1,r1.2.trans (aV.of r2.2.mo fun a o _ g=>r2.2.prv g fun z=>by rw [show a=x from z,hx1] at g; cases g)⟩
def Yo (B:Addr→Option Obj) (C:Addr) (k:uY):Prop:=∃ N mN fI oI,qR B C N mN∧mN "__init__"=some (.ref fI)∧B fI=some oI∧oI.cls=.type "function"∧vl B fI k.init
noncomputable def kdK (C:Addr) (fs:List (Str × MV)) (l:List MO) (u:Nat) (Q:aE):CK→Prop
  | .opn=>jN ⟨l,u⟩ (.obj C fs) Q
  | .val=>Q (.inst none C fs) ⟨l,u⟩
  | .mark=>Q (.inst (some u) C fs) ⟨l,u+1⟩
def Wr (C:Addr) (kd:CK) (l:List MO) (Q:aE) (r:MV) (s:St):Prop:=match r with
  | .none=>match nth s.l 0 with
    | some (.obj C' fs)=>bw (Nat.beq C' C) (kdK C fs l s.u Q kd)
    | _=>False
  | _=>False
theorem SG {kd:CK}{l:List MO}{P:Prop}(q:Wr C kd l Q a st) (c:a=.none→∀ fs,nth st.l 0=some (.obj C fs)→kdK C fs l st.u Q kd→P):P:=by
  unfold Wr at q
  cases a with
  | none =>
    cases e:nth st.l 0 with
    | none=>rw [e] at q; exact q.elim
    | some mo =>
      rw [e] at q
      cases mo with
      | obj C' fs=>exact aQ q fun z q=>c rfl fs (by rw [Nat.eq_of_beq_eq_true z] at e; exact e) q
      | _=>exact q.elim
  | _=>exact q.elim
theorem Rz {kd:CK}(R:ee b G st h) (R2:Ok b G2 eG s) (Y:aV gE G.hide G2) (gx:G2 x=.cur 0 o) (e:nth eG.l 0=some (.obj C fs)) (q:kdK C fs st.l eG.u Q kd) (k:∀ v s' G' st' mv,Ok b G' st' s'→aV gE G G'→aw G' mv v→Q mv st'→Φ v s'):Φ (.ref x) s:=by
  obtain ⟨x',o',ea,d,od,m,hi,gd,hN,hn,hf⟩:=R2.rep.cur 0 _ e
  obtain rfl:=R2.rep.uni _ _ _ _ _ ea gx
  have nx:=wy Y (.inl ea)
  have nd:=wy Y (.inr gd)
  cases kd with
  | opn =>
    have j:=R.join (F:=(G2.cut 0).ov [(x',.no),(d,.no)]) (x:=0) R2.rep Y (Nat.le_refl _) fun y=>by
      by_cases z:y=x'
      · exact .inr ⟨⟨0,o',.inl (z ▸ ea)⟩,by rw [z,bg]; exact ⟨fun _ e=>nn e,fun _ _=>⟨Tg.noConfusion,fun z=>Tg.noConfusion z⟩⟩⟩
      · by_cases z':y=d
        · exact .inr ⟨⟨0,od,.inr (z' ▸ gd)⟩,by rw [bp _ _ _ z,z',bg]; exact ⟨fun _ e=>nn e,fun _ _=>⟨Tg.noConfusion,fun z=>Tg.noConfusion z⟩⟩⟩
        · exact .inl (by rw [bp _ _ _ z,bp _ _ _ z']; rfl)
    have r:=j.1.newObj (h':=s.heap) (fs:=fs) ((iu nx).trans (bg ..)) ((iu nd).trans ((bp _ _ _ hi.2.2.2).trans (bg ..))) (R2.curO ea) (R2.rep.at gd rfl) (fun _ _ e=>e) hi hN hn (hf.mr j.2.2 _ _)
    have q:ju (aL st.l (.obj C fs)) fun l=>Q (.ref (ln st.l)) ⟨l,eG.u⟩:=q
    rw [b9] at q
    exact k _ s _ _ (.ref (ln st.l)) ⟨r.1,R2.gens,R2.os⟩ (j.2.1.trans r.2) ⟨x',o',rfl,gH ..⟩ q
  | val =>
    have j:=R.join (F:=G2.cut 0) (x:=0) R2.rep Y (Nat.le_refl _) fun _=>.inl rfl
    exact k _ s _ ⟨st.l,eG.u⟩ (.inst none C fs) ⟨j.1,R2.gens,R2.os⟩ j.2.1 ⟨x',d,o',od,m,rfl,(iu nx).trans (kY (.inl ea) (Nat.zero_le _)),hi,(iu nd).trans (kY (.inr gd) (Nat.zero_le _)),hN,hn,hf.mr j.2.2 _ _⟩ q
  | mark =>
    have j:=R.join (F:=(G2.cut 0).ov [(x',.fin eG.u o')]) (x:=x') R2.rep Y (Nat.le_succ _) fun y=>by
      by_cases z:y=x'
      · exact .inr ⟨⟨0,o',.inl (z ▸ ea)⟩,by rw [z,bg]; exact ⟨fun o e=>by rw [← Option.some.inj e]; exact R2.curO ea,fun _ _=>⟨Tg.noConfusion,fun z=>⟨rfl,by cases z; exact ⟨rfl,Nat.lt_succ_self _⟩⟩⟩⟩⟩
      · exact .inl (bp _ _ _ z)
    exact k _ s _ ⟨st.l,eG.u+1⟩ (.inst (some eG.u) C fs) ⟨j.1,R2.gens,R2.os⟩ j.2.1 ⟨x',d,o',od,m,rfl,(iu nx).trans (bg ..),hi,(iu nd).trans ((bp _ _ _ hi.2.2.2).trans (kY (.inr gd) (Nat.zero_le _))),hN,hn,hf.mr j.2.2 _ _⟩ q
theorem N5 {k:uY}(hk:Yo X.B C k) (K:IL ⟨X.1,X.A.under (.builtin "type.__call__" ⟨.ref C :: vs,[]⟩),X.W,X.cal,X.E⟩) (R:Ok X.1 G st s) (V:al G args vs) (p:aY args=true) (h:OI X.W X.cal k.init.names k.init.dflts k.init.body k.init.scope [] (.ref 0 :: args) ⟨[.obj C []],st.u⟩ (Wr C k.kind st.l Q)) (kk:KV X G Q Φ):Lk X s.heap (.ref C)∧wp X (call (.ref C) vs) Φ s:=by
  obtain ⟨N,mN,fI,oI,⟨⟨P,hnew,hC⟩,oN,hN,hNs⟩,h1,h2,h3,hf⟩:=hk
  have hC':=R.base hC
  obtain ⟨hp,gg,dr,tk,os⟩:=s
  refine ⟨⟨.machine,.inr (.inl rfl),fun A Q E s k q=>by obtain ⟨hp',gg',dr',tk',os'⟩:=s; exact wpAny_keeperOf_exc (k _ _ hC') q⟩,?_⟩
  refine wpAny_call_obj_initFk hnew hC' (cW.mpr ⟨oN,R.base hN,hNs⟩) h1 (R.base h2) h3 fun h' x dx hm=>?_
  obtain ⟨o,i1,i2,i3,i4⟩:=hm.inst
  have hdict:=hm.dict o i1
  rcases i4 with ⟨i4,_⟩ | ⟨d,i4,i5,i6,i7⟩
  · exact nn (i4.symm.trans hdict)
  obtain rfl:=Option.some.inj (i4.symm.trans hdict)
  obtain ⟨od,j1,j2⟩:=IM.of i6 i7
  have R0:=R.rep.hide
  have r:=R0.newObj (fs:=[]) (R0.nw hm.newX) (R0.nw hm.newD) i1 j1 hm.keeps ⟨i2,i3,hdict,i5⟩ j2 (fun _ _=>rfl) trivial
  exact (nu (X:=⟨X.1,X.A.under (.builtin "type.__call__" ⟨.ref C :: vs,[]⟩),X.W,X.cal,X.E⟩) K hf (s:=⟨h',gg,dr,tk,os⟩) (Φ:=fun r s'=>r=.none∧Φ (.ref x) s') ⟨r.1,R.gens,R.os⟩ (args:=.ref 0 :: args) (vs:=.ref x :: vs) ⟨⟨x,o,rfl,gH ..⟩,(V.mr (EX G) _ _ (eS _ p)).mono r.2⟩ h fun v s' G2 eG mv R2 Y2 V2 q =>
    SG q fun e fs e0 q=>(Y2.cur (gH ..)).elim fun o' gx=>⟨by rw [e] at V2; exact V2,Rz R.rep R2 (r.2.trans Y2) gx e0 q kk⟩).2
end
end
section
structure wP (b:Bs) (W:Wd):Prop where
  ok:Xx b W
  lim:xQ b.B
  fn:∀ a F,W.fn a=some F→vl b.B a F
  cls:∀ C k,W.cls C=some k→Yo b.B C k
def kf (A:Around) (m:Nat):Prop:=A.handled=none∧A.depth+2 * m<990∧A.units+10 * m<9000
theorem kf.deeper {A:Around}{m:Nat}(h:kf A (m+1)) (env:Env):kf (A.deeper env) m :=
  ⟨h.1,by have:=h.2.1; show A.depth+1+2 * m<990; lia,by have:=h.2.2; show A.units+3+10 * m<9000; lia⟩
theorem lW (C:Addr) (rest:List Value):(Code.builtin "type.__call__" ⟨.ref C :: rest,[]⟩).weight=1∧(Code.builtin "type.__call__" ⟨.ref C :: rest,[]⟩).cUnits=1:=⟨by kernel_rfl,by kernel_rfl⟩
theorem kf.under {A:Around}{m:Nat}(h:kf A (m+1)) (C:Addr) (rest:List Value) (env:Env):kf ((A.under (.builtin "type.__call__" ⟨.ref C :: rest,[]⟩)).deeper env) m :=
  ⟨h.1,by have:=h.2.1; show A.depth+(Code.builtin "type.__call__" ⟨.ref C :: rest,[]⟩).weight+1+2 * m<990; rw [(lW C rest).1]; lia,by have:=h.2.2; show A.units+(Code.builtin "type.__call__" ⟨.ref C :: rest,[]⟩).cUnits+3+10 * m<9000; rw [(lW C rest).2]; lia⟩
def rA (b:Bs) (W:Wd) (m:Nat) (cal:ms):Prop:=∀ (A:Around) (E:Value→Shared→Prop),kf A m→sZ ⟨b,A,W,cal,E⟩
theorem kf.xok {b:Bs}{W:Wd}{A:Around}{m:Nat}{cal:ms}{E:Value→Shared→Prop}(hW:wP b W) (c:sZ ⟨b,A,W,cal,E⟩) (h:kf A m):g6 ⟨b,A,W,cal,E⟩ :=
  ⟨hW.ok,c,h.1,by have:=h.2.2; have:cLine=9900:=rfl; show A.units+10<cLine; lia⟩
theorem rA.step {b:Bs}{W:Wd}{m:Nat}{cal:ms}(hW:wP b W) (c:rA b W m cal):rA b W (m+1) (ek W cal):=fun A _ hR=>fun f args st Q G s fv vs Φ E h R Vf V k=>by
    have rl:recursionLimit=1000:=rfl
    have K:IL ⟨b,A,W,cal,E⟩:=⟨hW.lim,by have:=hR.2.1; show A.depth<_; lia,fun env E'=>(hR.deeper env).xok hW (c _ E' (hR.deeper env))⟩
    cases f with
    | fn a =>
      obtain rfl:fv=.ref a:=Vf
      exact aj h fun F e h=>by
        have hf:=hW.fn _ _ e
        cases q:F.pol with
        | pure=>rw [q] at h; exact aQ h fun p h=>IC K hf R V p h k
        | keep=>rw [q] at h; exact nu K hf R V h k
        | drop=>rw [q] at h; exact IE K hf R V h k
    | clos ag body sc cs=>exact aQ h fun p h=>dw p fun p1 p2 _ _=>Hs K R Vf V p1 p2 h k
    | cls C =>
      obtain rfl:fv=.ref C:=Vf
      exact aj h fun c' e h=>aQ h fun p h=>N5 (X:=⟨b,A,W,cal,E⟩) (hW.cls _ _ e) ⟨hW.lim,by have:=hR.2.1; show A.depth+(Code.builtin "type.__call__" ⟨.ref C :: vs,[]⟩).weight<_; rw [(lW C vs).1]; lia,fun env E'=>(hR.under C vs env).xok hW (c _ E' (hR.under C vs env))⟩ R V p h k
    | _=>exact False.elim h
theorem rA.cal {b:Bs}{W:Wd}(hW:wP b W):∀ m:Nat,rA b W m (lT W m)
  | 0=>fun _ _ _=>fun _ _ _ _ _ _ _ _ _ _ h=>False.elim h
  | m+1=>(rA.cal hW m).step hW
theorem kf.less {A:Around}{m m':Nat}(h:kf A m) (k:m'≤m):kf A m':=⟨h.1,by have:=h.2.1; lia,by have:=h.2.2; lia⟩
end
section
set_option maxRecDepth 100000
noncomputable section
noncomputable def cQ {α:Type}(a:Nat):List (Nat × α)→Option α
  | []=>none
  | (b,v) :: r=>match Nat.beq b a with
    | true=>some v
    | false=>cQ a r
noncomputable def fI (s:Stmt) (d:List MV) (p:Pol):c6:=⟨(aA s).args.map (·.arg),d,ay s,am s,p⟩
noncomputable def Rm:Str:=⟨⟨[85,78,73,84,89]⟩⟩
noncomputable def vt:Str:=⟨⟨[77,65,88,95,68,73,77,69,78]⟩⟩
noncomputable def ra:Str:=⟨⟨[77,65,88,95,78,85,77,66,69,82]⟩⟩
noncomputable def HY:Str:=⟨⟨[73,78,70,95,66,65,68]⟩⟩
noncomputable def Mg:Str:=⟨⟨[78,79,82,77,65,76]⟩⟩
noncomputable def ZQ:Str:=⟨⟨[70,73,76]⟩⟩
noncomputable def YJ:Str:=⟨⟨[70,73,76,76]⟩⟩
noncomputable def QV:Str:=⟨⟨[70,73,76,76,76]⟩⟩
noncomputable def Wi:Str:=⟨⟨[67,72,65,82]⟩⟩
noncomputable def xp:Str:=⟨⟨[76,73,71,65,84,85,82,69]⟩⟩
noncomputable def Xd:Str:=⟨⟨[72,66,79,88]⟩⟩
noncomputable def YE:Str:=⟨⟨[86,66,79,88]⟩⟩
noncomputable def W1:Str:=⟨⟨[82,85,76,69]⟩⟩
noncomputable def YI:Str:=⟨⟨[75,69,82,78]⟩⟩
noncomputable def Wo:Str:=⟨⟨[71,76,85,69]⟩⟩
noncomputable def HF:Str:=⟨⟨[80,69,78,65,76,84,89]⟩⟩
noncomputable def W3:Str:=⟨⟨[68,73,83,67]⟩⟩
noncomputable def XC:Str:=⟨⟨[77,65,82,75]⟩⟩
noncomputable def K8:Str:=⟨⟨[73,78,83,69,82,84]⟩⟩
noncomputable def KA:Str:=⟨⟨[65,68,74,85,83,84]⟩⟩
noncomputable def Yn:Str:=⟨⟨[77,65,84,72]⟩⟩
noncomputable def HS:Str:=⟨⟨[83,80,69,67,73,65,76]⟩⟩
noncomputable def Q0:Str:=⟨⟨[85,78,83,69,84]⟩⟩
noncomputable def HK:Str:=⟨⟨[78,65,84,85,82,65,76]⟩⟩
noncomputable def tF:Str:=⟨⟨[83,84,82,69,84,67,72,69,68]⟩⟩
noncomputable def Nf:Str:=⟨⟨[83,72,82,85,78,75]⟩⟩
noncomputable def tT:Str:=⟨⟨[70,79,78,84,95,75,69,82,78]⟩⟩
noncomputable def xj:Str:=⟨⟨[69,88,80,76,73,67,73,84]⟩⟩
noncomputable def pS:Str:=⟨⟨[65,67,67,69,78,84,95,75,69,82,78]⟩⟩
noncomputable def Hz:Str:=⟨⟨[77,85,95,75,69,82,78]⟩⟩
noncomputable def QK:Str:=⟨⟨[80,76,65,73,78]⟩⟩
noncomputable def wY:Str:=⟨⟨[65,76,69,65,68,69,82,83]⟩⟩
noncomputable def xI:Str:=⟨⟨[67,76,69,65,68,69,82,83]⟩⟩
noncomputable def xo:Str:=⟨⟨[88,76,69,65,68,69,82,83]⟩⟩
noncomputable def HV:Str:=⟨⟨[77,85,95,83,75,73,80]⟩⟩
noncomputable def sX:Str:=⟨⟨[78,79,78,83,67,82,73,80,84]⟩⟩
noncomputable def SI:Str:=⟨⟨[78,65,77,69,68]⟩⟩
noncomputable def RG:Str:=⟨⟨[69,74,69,67,84]⟩⟩
noncomputable def Po:Str:=⟨⟨[70,79,82,66,73,68]⟩⟩
noncomputable def si:Str:=⟨⟨[86,69,82,89,95,76,79,79,83,69]⟩⟩
noncomputable def uc:Str:=⟨⟨[76,79,79,83,69,95,70,73,84]⟩⟩
noncomputable def q7:Str:=⟨⟨[68,69,67,69,78,84,95,70,73,84]⟩⟩
noncomputable def vr:Str:=⟨⟨[84,73,71,72,84,95,70,73,84]⟩⟩
noncomputable def pZ:Str:=⟨⟨[80,76,65,73,78,95,66,82,69,65,75]⟩⟩
noncomputable def oD:Str:=⟨⟨[72,89,80,72,69,78,95,66,82,69,65,75]⟩⟩
noncomputable def wk:Str:=⟨⟨[84,79,79,95,76,79,78,71]⟩⟩
noncomputable def ro:Str:=⟨⟨[87,79,82,83,84,95,76,73,78,69]⟩⟩
noncomputable def HG:Str:=⟨⟨[78,79,95,83,85,77,83]⟩⟩
noncomputable def tA:Str:=⟨⟨[80,97,103,101,69,114,114,111,114]⟩⟩
noncomputable def p8:Str:=⟨⟨[66,97,100,65,114,103,117,109,101,110,116]⟩⟩
noncomputable def HM:Str:=⟨⟨[66,97,100,85,110,105,116]⟩⟩
noncomputable def wN:Str:=⟨⟨[79,118,101,114,102,108,111,119]⟩⟩
noncomputable def xD:Str:=⟨⟨[105,115,95,119,104,111,108,101]⟩⟩
noncomputable def qh:Str:=⟨⟨[99,104,101,99,107,95,119,104,111,108,101]⟩⟩
noncomputable def nV:Str:=⟨⟨[99,104,101,99,107,95,110,117,109,98,101,114]⟩⟩
noncomputable def pY:Str:=⟨⟨[99,104,101,99,107,95,100,105,109,101,110]⟩⟩
noncomputable def HW:Str:=⟨⟨[98,97,100,110,101,115,115]⟩⟩
noncomputable def Wm:Str:=⟨⟨[71,108,117,101]⟩⟩
noncomputable def pU:Str:=⟨⟨[99,104,101,99,107,95,115,104,111,114,116]⟩⟩
noncomputable def a3n:Str:=⟨⟨[66,111,120]⟩⟩
noncomputable def Yj:Str:=⟨⟨[83,107,105,112]⟩⟩
noncomputable def H3:Str:=⟨⟨[80,101,110,97,108,116,121]⟩⟩
noncomputable def Xs:Str:=⟨⟨[68,105,115,99]⟩⟩
noncomputable def xn:Str:=⟨⟨[119,105,100,116,104,95,111,102]⟩⟩
noncomputable def Ri:Str:=⟨⟨[83,104,97,112,101]⟩⟩
noncomputable def vZ:Str:=⟨⟨[83,101,116,116,105,110,103,115]⟩⟩
noncomputable def ZR:Str:=⟨⟨[87,97,121]⟩⟩
noncomputable def QE:Str:=⟨⟨[84,114,105,97,108]⟩⟩
noncomputable def lO:Str:=⟨⟨[99,104,101,99,107,95,115,101,116,116,105,110,103,115]⟩⟩
noncomputable def r6:Str:=⟨⟨[105,115,95,100,114,111,112,112,101,100]⟩⟩
noncomputable def oM:Str:=⟨⟨[108,101,103,97,108,95,98,114,101,97,107,115]⟩⟩
noncomputable def pK:Str:=⟨⟨[115,116,97,114,116,95,98,101,104,105,110,100]⟩⟩
noncomputable def xE:Str:=⟨⟨[97,100,100,95,103,108,117,101]⟩⟩
noncomputable def XN:Str:=⟨⟨[119,105,100,101]⟩⟩
noncomputable def su:Str:=⟨⟨[115,117,109,115,95,97,104,101,97,100]⟩⟩
noncomputable def Iv:Str:=⟨⟨[119,105,100,101,110,101,100]⟩⟩
noncomputable def RW:Str:=⟨⟨[115,112,111,116,115]⟩⟩
noncomputable def ut:Str:=⟨⟨[103,114,111,117,110,100,95,111,102]⟩⟩
noncomputable def qf:Str:=⟨⟨[108,105,110,101,95,116,111,116,97,108,115]⟩⟩
noncomputable def I7:Str:=⟨⟨[102,105,116,116,101,100]⟩⟩
noncomputable def nk:Str:=⟨⟨[108,105,110,101,95,100,101,109,101,114,105,116,115]⟩⟩
noncomputable def na:Str:=⟨⟨[112,97,105,114,95,100,101,109,101,114,105,116,115]⟩⟩
noncomputable def Iw:Str:=⟨⟨[119,97,121,115,95,116,111]⟩⟩
noncomputable def Os:Str:=⟨⟨[112,105,99,107,101,100]⟩⟩
noncomputable def tj:Str:=⟨⟨[112,108,97,99,101,115,95,111,102]⟩⟩
noncomputable def Lm:Str:=⟨⟨[99,104,111,111,115,101]⟩⟩
noncomputable def wJ:Str:=⟨⟨[98,114,101,97,107,95,117,112]⟩⟩
noncomputable def uK:Str:=⟨⟨[95,108,97,119,95,112,111,111,108]⟩⟩
noncomputable def tz:Str:=⟨⟨[95,108,97,119,95,116,97,107,101]⟩⟩
noncomputable def vh:Str:=⟨⟨[95,108,97,119,95,115,97,109,101]⟩⟩
noncomputable def wS:Str:=⟨⟨[95,108,97,119,95,97,100,100]⟩⟩
noncomputable def mS:Str:=⟨⟨[95,108,97,119,95,115,101,116,116,105,110,103,115]⟩⟩
noncomputable def rj:Str:=⟨⟨[95,108,97,119,95,108,105,115,116,115]⟩⟩
noncomputable def uv:Str:=⟨⟨[95,108,97,119,95,116,111,108,100]⟩⟩
noncomputable def vM:Str:=⟨⟨[95,108,97,119,95,115,117,109,115]⟩⟩
noncomputable def o5:Str:=⟨⟨[95,108,97,119,95,98,97,100,110,101,115,115]⟩⟩
noncomputable def uo:Str:=⟨⟨[95,108,97,119,95,108,105,110,101]⟩⟩
noncomputable def mW:Str:=⟨⟨[95,108,97,119,95,100,101,109,101,114,105,116,115]⟩⟩
noncomputable def xB:Str:=⟨⟨[95,108,97,119,95,116,114,121]⟩⟩
noncomputable def xx:Str:=⟨⟨[95,108,97,119,95,119,97,121]⟩⟩
noncomputable def qd:Str:=⟨⟨[95,108,97,119,95,119,97,110,116,101,100]⟩⟩
noncomputable def j4:Str:=⟨⟨[95,108,97,119,95,105,115,95,97,110,115,119,101,114,101,100]⟩⟩
noncomputable def jv:Str:=⟨⟨[95,108,97,119,95,112,108,97,99,101,115,95,114,105,103,104,116]⟩⟩
noncomputable def a2f:Str:=⟨⟨[97,98,115]⟩⟩
noncomputable def a0B:Str:=⟨⟨[108,101,110]⟩⟩
noncomputable def a2S:Str:=⟨⟨[109,105,110]⟩⟩
noncomputable def ZD:Str:=⟨⟨[109,97,120]⟩⟩
noncomputable def L6:Str:=⟨⟨[115,111,114,116,101,100]⟩⟩
noncomputable def q6:Str:=⟨⟨[105,115,105,110,115,116,97,110,99,101]⟩⟩
noncomputable def MQ:Str:=⟨⟨[100,105,118,109,111,100]⟩⟩
noncomputable def P1:Str:=⟨⟨[108,105,115,116]⟩⟩
noncomputable def RQ:Str:=⟨⟨[116,117,112,108,101]⟩⟩
noncomputable def a07:Str:=⟨⟨[105,110,116]⟩⟩
noncomputable def Xf:Str:=⟨⟨[98,111,111,108]⟩⟩
noncomputable def SR:Str:=⟨⟨[114,97,110,103,101]⟩⟩
noncomputable def vz:Str:=⟨⟨[101,110,117,109,101,114,97,116,101]⟩⟩
noncomputable def a2A:Str:=⟨⟨[122,105,112]⟩⟩
noncomputable def ij:Str:=⟨⟨[97,100,106,97,99,101,110,116]⟩⟩
noncomputable def io:Str:=⟨⟨[97,112,97,114,116]⟩⟩
noncomputable def ZY:Str:=⟨⟨[97,112,112,101,110,100]⟩⟩
noncomputable def u5:Str:=⟨⟨[98,101,102,111,114,101]⟩⟩
noncomputable def a4m:Str:=⟨⟨[99,111,100,101]⟩⟩
noncomputable def f5:Str:=⟨⟨[100,101,109,101,114,105,116,115]⟩⟩
noncomputable def Cc:Str:=⟨⟨[100,101,112,116,104]⟩⟩
noncomputable def Mn:Str:=⟨⟨[100,111,110,101]⟩⟩
noncomputable def dy:Str:=⟨⟨[100,111,117,98,108,101,95,104,121,112,104,101,110]⟩⟩
noncomputable def gn:Str:=⟨⟨[101,109,101,114,103,101,110,99,121]⟩⟩
noncomputable def dh:Str:=⟨⟨[101,120,95,104,121,112,104,101,110,95,112,101,110,97,108,116,121]⟩⟩
noncomputable def dR:Str:=⟨⟨[102,105,110,97,108,95,104,121,112,104,101,110]⟩⟩
noncomputable def jF:Str:=⟨⟨[102,105,116]⟩⟩
noncomputable def a6G:Str:=⟨⟨[102,111,110,116]⟩⟩
noncomputable def a8B:Str:=⟨⟨[103,101,116]⟩⟩
noncomputable def Jg:Str:=⟨⟨[103,108,117,101]⟩⟩
noncomputable def dQ:Str:=⟨⟨[103,114,111,117,110,100]⟩⟩
noncomputable def ie:Str:=⟨⟨[104,97,110,103,95,97,102,116,101,114]⟩⟩
noncomputable def gL:Str:=⟨⟨[104,97,110,103,95,105,110,100,101,110,116]⟩⟩
noncomputable def tg:Str:=⟨⟨[104,101,105,103,104,116]⟩⟩
noncomputable def c9:Str:=⟨⟨[104,121,112,104,101,110,95,112,101,110,97,108,116,121]⟩⟩
noncomputable def fJ:Str:=⟨⟨[105,115,95,108,97,115,116]⟩⟩
noncomputable def a34:Str:=⟨⟨[105,115,95,111,110]⟩⟩
noncomputable def ch:Str:=⟨⟨[105,116,101,109,115]⟩⟩
noncomputable def lS:Str:=⟨⟨[107,105,110,100]⟩⟩
noncomputable def tZ:Str:=⟨⟨[108,101,97,100,101,114]⟩⟩
noncomputable def gj:Str:=⟨⟨[108,101,102,116,95,115,107,105,112]⟩⟩
noncomputable def ff:Str:=⟨⟨[108,105,110,101]⟩⟩
noncomputable def dX:Str:=⟨⟨[108,105,110,101,95,112,101,110,97,108,116,121]⟩⟩
noncomputable def bA:Str:=⟨⟨[108,111,111,115,101,110,101,115,115]⟩⟩
noncomputable def vA:Str:=⟨⟨[109,105,100,100,108,101]⟩⟩
noncomputable def xG:Str:=⟨⟨[109,111,115,116]⟩⟩
noncomputable def t5:Str:=⟨⟨[110,97,114,114,111,119]⟩⟩
noncomputable def BV:Str:=⟨⟨[111,114,100,101,114]⟩⟩
noncomputable def lZ:Str:=⟨⟨[112,111,115,116]⟩⟩
noncomputable def ud:Str:=⟨⟨[112,114,101]⟩⟩
noncomputable def dU:Str:=⟨⟨[112,114,101,116,111,108,101,114,97,110,99,101]⟩⟩
noncomputable def DP:Str:=⟨⟨[114,97,116,105,111]⟩⟩
noncomputable def a2L:Str:=⟨⟨[114,101,97,115,111,110]⟩⟩
noncomputable def fC:Str:=⟨⟨[114,105,103,104,116,95,115,107,105,112]⟩⟩
noncomputable def fg:Str:=⟨⟨[114,111,119,115]⟩⟩
noncomputable def av:Str:=⟨⟨[115,101,116,116,105,110,103,115]⟩⟩
noncomputable def kK:Str:=⟨⟨[115,104,97,112,101]⟩⟩
noncomputable def zd:Str:=⟨⟨[115,104,105,102,116]⟩⟩
noncomputable def oe:Str:=⟨⟨[115,104,114,105,110,107]⟩⟩
noncomputable def iU:Str:=⟨⟨[115,104,114,105,110,107,95,111,114,100,101,114]⟩⟩
noncomputable def NP:Str:=⟨⟨[115,105,103,110]⟩⟩
noncomputable def rE:Str:=⟨⟨[115,111,114,116]⟩⟩
noncomputable def Hr:Str:=⟨⟨[115,112,101,99,105,97,108]⟩⟩
noncomputable def oG:Str:=⟨⟨[115,112,111,116]⟩⟩
noncomputable def mq:Str:=⟨⟨[115,116,114,101,116,99,104]⟩⟩
noncomputable def fh:Str:=⟨⟨[115,116,114,101,116,99,104,95,111,114,100,101,114]⟩⟩
noncomputable def bo:Str:=⟨⟨[116,111,108,101,114,97,110,99,101]⟩⟩
noncomputable def CF:Str:=⟨⟨[118,97,108,117,101]⟩⟩
noncomputable def gB:Str:=⟨⟨[119,105,100,116,104]⟩⟩
noncomputable def Yc:Str:=⟨⟨[95,95,110,97,109,101,95,95]⟩⟩
noncomputable def SN:Str:=⟨⟨[86,97,108,117,101,69,114,114,111,114]⟩⟩
noncomputable def Kj:Str:=⟨⟨[116,105,109,101,115,95,115,99,97,108,101,100]⟩⟩
noncomputable def a3z:Str:=⟨⟨[116,105,109,101,115]⟩⟩
noncomputable def n_k:Str:=⟨⟨[107]⟩⟩
noncomputable def a8e:Str:=⟨⟨[108,111,119]⟩⟩
noncomputable def a4r:Str:=⟨⟨[104,105,103,104]⟩⟩
noncomputable def pC:Str:=⟨⟨[110,117,109,98,101,114]⟩⟩
noncomputable def a9F:Str:=⟨⟨[98,121]⟩⟩
noncomputable def kN:Str:=⟨⟨[119,104,111,108,101]⟩⟩
noncomputable def a3Q:Str:=⟨⟨[115,99,97,108,101]⟩⟩
noncomputable def a6r:Str:=⟨⟨[110,101,97,114]⟩⟩
noncomputable def lr:Str:=⟨⟨[112,108,97,99,101,115]⟩⟩
noncomputable def a3V:Str:=⟨⟨[99,111,117,110,116]⟩⟩
noncomputable def KW:Str:=⟨⟨[109,111,114,101]⟩⟩
noncomputable def a0N:Str:=⟨⟨[101,120,99,101,115,115]⟩⟩
noncomputable def a3Z:Str:=⟨⟨[116,111,116,97,108]⟩⟩
noncomputable def a59:Str:=⟨⟨[117,110,105,116]⟩⟩
noncomputable def xF:Str:=⟨⟨[110,111,100,101]⟩⟩
noncomputable def bz:Str:=⟨⟨[102,111,117,110,100]⟩⟩
noncomputable def cy:Str:=⟨⟨[112,108,97,99,101]⟩⟩
noncomputable def Ua:Str:=⟨⟨[114,111,119]⟩⟩
noncomputable def f4:Str:=⟨⟨[115,117,109,115]⟩⟩
noncomputable def kL:Str:=⟨⟨[101,120,116,114,97]⟩⟩
noncomputable def ru:Str:=⟨⟨[98,101,103,105,110]⟩⟩
noncomputable def mC:Str:=⟨⟨[101,110,100]⟩⟩
noncomputable def Fi:Str:=⟨⟨[115,104,111,114,116]⟩⟩
noncomputable def a2k:Str:=⟨⟨[98,97,100]⟩⟩
noncomputable def qC:Str:=⟨⟨[112,101,110,97,108,116,121]⟩⟩
noncomputable def pc:Str:=⟨⟨[99,111,115,116]⟩⟩
noncomputable def wu:Str:=⟨⟨[105,115,95,116,119,105,99,101]⟩⟩
noncomputable def Nr:Str:=⟨⟨[105,115,95,101,110,100]⟩⟩
noncomputable def DV:Str:=⟨⟨[116,114,105,97,108]⟩⟩
noncomputable def uZ:Str:=⟨⟨[97,99,116,105,118,101]⟩⟩
noncomputable def XK:Str:=⟨⟨[107,101,112,116]⟩⟩
noncomputable def jY:Str:=⟨⟨[119,97,121,115]⟩⟩
noncomputable def gF:Str:=⟨⟨[98,101,115,116]⟩⟩
noncomputable def G7:Str:=⟨⟨[119,97,121]⟩⟩
noncomputable def uF:Str:=⟨⟨[104,121,112,104,101,110,97,116,101]⟩⟩
noncomputable def OA:Str:=⟨⟨[99,117,116]⟩⟩
noncomputable def bS:Str:=⟨⟨[115,99,114,105,112,116]⟩⟩
noncomputable def wD:Str:=⟨⟨[99,101,108,108]⟩⟩
noncomputable def dC:Str:=⟨⟨[112,111,111,108]⟩⟩
noncomputable def N8:Str:=⟨⟨[109,97,110,121]⟩⟩
noncomputable def El:Str:=⟨⟨[111,110,101]⟩⟩
noncomputable def nM:Str:=⟨⟨[111,116,104,101,114]⟩⟩
noncomputable def ny:Str:=⟨⟨[110,111,100,101,115]⟩⟩
noncomputable def sm:Str:=⟨⟨[116,117,114,110]⟩⟩
noncomputable def eI:Str:=⟨⟨[115,105,122,101,115]⟩⟩
noncomputable def a5v:Str:=⟨⟨[115,105,100,101]⟩⟩
noncomputable def eJ:Str:=⟨⟨[108,101,103,97,108]⟩⟩
noncomputable def gv:Str:=⟨⟨[99,111,115,116,115]⟩⟩
noncomputable def cJ:Str:=⟨⟨[116,111,108,100]⟩⟩
noncomputable def mO:Str:=⟨⟨[97,116]⟩⟩
noncomputable def jn:Str:=⟨⟨[119,111,114,115,101]⟩⟩
noncomputable def Qv:Str:=⟨⟨[97,108,111,110,101]⟩⟩
noncomputable def rG:Str:=⟨⟨[115,111,102,97,114]⟩⟩
noncomputable def ii:Str:=⟨⟨[116,111,108,100,95,119,97,121]⟩⟩
noncomputable def kT:Str:=⟨⟨[97,110,115,119,101,114]⟩⟩
noncomputable def gZ:Str:=⟨⟨[105,110,100,101,110,116]⟩⟩
noncomputable def rW:Str:=⟨⟨[99,97,108,108,115]⟩⟩
noncomputable def oK:Str:=⟨⟨[112,97,115,115,101,115]⟩⟩
noncomputable def a6o:Str:=⟨⟨[115,101,108,102]⟩⟩
noncomputable def a1i:Str:=⟨⟨[112,111,105,110,116,115]⟩⟩
noncomputable def XI:Str:=⟨⟨[112,97,114,116]⟩⟩
noncomputable def b0J:Str:=⟨⟨[102,105]⟩⟩
noncomputable def b0K:Str:=⟨⟨[112,116]⟩⟩
noncomputable def Za:Str:=⟨⟨[105,115,95,104,117,110,103]⟩⟩
noncomputable def a0b:Str:=⟨⟨[109,97,121]⟩⟩
noncomputable def tL:Str:=⟨⟨[105,115,95,98,101,104,105,110,100]⟩⟩
noncomputable def kj:Str:=⟨⟨[115,116,97,114,116]⟩⟩
noncomputable def ia:Str:=⟨⟨[108,101,97,115,116]⟩⟩
noncomputable def tG:Str:=⟨⟨[105,115,95,114,101,115,111,114,116]⟩⟩
noncomputable def SY:Str:=⟨⟨[103,114,111,117,112]⟩⟩
noncomputable def a1D:Str:=⟨⟨[111,108,100]⟩⟩
noncomputable def a3O:Str:=⟨⟨[100,105,103,105,116]⟩⟩
noncomputable def WY:Str:=⟨⟨[116,104,105,115]⟩⟩
noncomputable def Xb:Str:=⟨⟨[116,104,97,116]⟩⟩
noncomputable def iE:Str:=⟨⟨[99,117,116,95,114,111,119,115]⟩⟩
noncomputable def eT:Str:=⟨⟨[99,117,116,95,110,111,100,101,115]⟩⟩
noncomputable def Nu:Str:=⟨⟨[108,101,102,116]⟩⟩
noncomputable def N6:Str:=⟨⟨[104,97,108,102]⟩⟩
noncomputable def wG:Str:=⟨⟨[101,110,100,115]⟩⟩
noncomputable def CC:Str:=⟨⟨[102,105,114,115,116]⟩⟩
noncomputable def E7:Str:=⟨⟨[116,101,120,116,115]⟩⟩
noncomputable def a4u:Str:=⟨⟨[114,101,115,116]⟩⟩
noncomputable def IF:Str:=⟨⟨[98,101,116,119,101,101,110]⟩⟩
noncomputable def a0Q:Str:=⟨⟨[110,111,32,119,97,121]⟩⟩
noncomputable def TQ:Str:=⟨⟨[102,97,114]⟩⟩
noncomputable def a3w:Str:=⟨⟨[108,105,110,101,115]⟩⟩
noncomputable def eE:Str:=⟨⟨[115,105,122,101]⟩⟩
noncomputable def fB:Str:=⟨⟨[97,102,116,101,114]⟩⟩
noncomputable def cT:Str:=⟨⟨[95,108,97,119,95,99,117,116]⟩⟩
noncomputable def pe:Str:=⟨⟨[111,119,110,95,114,111,119,115]⟩⟩
noncomputable def mI:Str:=⟨⟨[111,119,110,95,110,111,100,101,115]⟩⟩
noncomputable def kX:Str:=⟨⟨[109,97,110,121,95,99,97,108,108,115]⟩⟩
noncomputable def E8:Str:=⟨⟨[110,111,32,119,104,111,108,101,32,110,117,109,98,101,114]⟩⟩
noncomputable def ni:Str:=⟨⟨[97,32,110,117,109,98,101,114,32,98,101,121,111,110,100,32,116,104,101,32,98,111,117,110,100,115]⟩⟩
noncomputable def lC:Str:=⟨⟨[97,32,100,105,109,101,110,115,105,111,110,32,98,101,121,111,110,100,32,116,104,101,32,98,111,117,110,100,115]⟩⟩
noncomputable def Zi:Str:=⟨⟨[114,111,117,110,100,101,100]⟩⟩
noncomputable def n_l:Str:=⟨⟨[108]⟩⟩
noncomputable def Pe:Str:=⟨⟨[100,101,99,105,109,97,108,95,116,101,120,116]⟩⟩
noncomputable def a3J:Str:=⟨⟨[95,119,97,108,108]⟩⟩
noncomputable def a7o:Str:=⟨⟨[115,117,109]⟩⟩
noncomputable def iR:Str:=⟨⟨[97,32,115,104,114,105,110,107,32,119,105,116,104,111,117,116,32,98,111,117,110,100,32,105,110,32,97,32,112,97,114,97,103,114,97,112,104]⟩⟩
noncomputable def VW:Str:=⟨⟨[105,115,95,110,101,97,114,101,114]⟩⟩
noncomputable def nK:Str:=⟨⟨[112,97,114,116,115]⟩⟩
noncomputable def jo:Str:=⟨⟨[104,121,112,104,101,110,115]⟩⟩
noncomputable def sf:Str:=⟨⟨[115,101,101,110]⟩⟩
noncomputable def Kb:Str:=⟨⟨[111,119,110]⟩⟩
noncomputable def Zp:Str:=⟨⟨[114,101,97,100,105,110,103]⟩⟩
noncomputable def a7O:Str:=⟨⟨[115,116,114]⟩⟩
noncomputable def Qu:Str:=⟨⟨[111,114,100,101,114,95,116,101,120,116]⟩⟩
noncomputable def qZ:Str:=⟨⟨[110,111,32,111,114,100,101,114,32,111,102,32,105,110,102,105,110,105,116,121]⟩⟩
noncomputable def a1V:Str:=⟨⟨[32,112,108,117,115,32]⟩⟩
noncomputable def Zf:Str:=⟨⟨[32,109,105,110,117,115,32]⟩⟩
noncomputable def pQ:Str:=⟨⟨[110,111,116,32,102,111,114,32,97,32,100,105,115,99,114,101,116,105,111,110,97,114,121]⟩⟩
noncomputable def wZ:Str:=⟨⟨[110,111,32,107,105,110,100,32,111,102,32,97,32,98,111,120]⟩⟩
noncomputable def Ds:Str:=⟨⟨[110,111,32,115,111,114,116,32,111,102,32,103,108,117,101]⟩⟩
noncomputable def mz:Str:=⟨⟨[97,32,108,101,97,100,101,114,32,105,115,32,97,32,98,111,120,32,111,114,32,97,32,114,117,108,101]⟩⟩
noncomputable def vP:Str:=⟨⟨[110,111,32,99,111,117,110,116,32,111,102,32,108,105,110,101,115]⟩⟩
noncomputable def sP:Str:=⟨⟨[110,111,32,110,117,109,98,101,114,32,111,102,32,97,32,108,105,110,101]⟩⟩
noncomputable def Uz:Str:=⟨⟨[112,97,114,116,95,116,101,120,116]⟩⟩
inductive GT where
  | leaf
  | node (k:Nat) (x:Str) (v:MV) (l r:GT)
noncomputable def GT.find (c:Nat):GT→Option (Str × MV)
  | .leaf=>none
  | .node k x v l r=>match Nat.beq c k with
    | true=>some (x,v)
    | false=>match Nat.ble c k with
      | true=>l.find c
      | false=>r.find c
noncomputable def NB:Nat→List Nat→Nat
  | n,[]=>n
  | n,c :: r=>NB (Nat.add (Nat.mul n 128) c) r
noncomputable def ti:GT:=(.node 36928386921228627 wY (.int (1)) (.node 22499850341 Ri (.cls 392) (.node 150682341 Wm (.cls 227) (.node 1799406 a2S (.bi .min) (.node 1601907 a2f (.bi .abs) (.node 1156300 ZQ (.int (1)) (.node 1095672 a3n (.cls 275) .leaf .leaf) (.node 1437945 ZR (.cls 434) .leaf .leaf)) (.node 1782510 a0B (.bi .len) (.node 1734516 a07 (.bi .int) .leaf .leaf) (.node 1798392 ZD (.bi .max) .leaf .leaf))) (.node 144341475 Xs (.cls 339) (.node 141697234 Wi (.int (0)) (.node 2012400 a2A (.bi .zip) .leaf .leaf) (.node 143813059 W3 (.int (8)) .leaf .leaf)) (.node 150153925 Wo (.int (6)) (.node 148006476 YJ (.int (2)) .leaf .leaf) .leaf))) (.node 207353836 Xf (.bi .bool) (.node 162556488 Yn (.int (12)) (.node 158427470 YI (.int (5)) (.node 152086488 Xd (.int (2)) .leaf .leaf) (.node 162556235 XC (.int (9)) .leaf .leaf)) (.node 175830256 Yj (.cls 297) (.node 173368901 W1 (.int (4)) .leaf .leaf) (.node 181446616 YE (.int (3)) .leaf .leaf))) (.node 18944829004 QV (.int (3)) (.node 251294309 XN (.fn 501) (.node 228227572 P1 (.bi .list) .leaf .leaf) (.node 18678374868 RG (.int (-10000)) .leaf .leaf)) (.node 21635294414 QK (.int (0)) (.node 21075550916 SI (.int (100)) .leaf .leaf) .leaf)))) (.node 3876685804260 Os (.fn 569) (.node 2426561144004 Po (.int (10000)) (.node 30806881253 SR (.bi .range) (.node 22981798489 Rm (.int (65536)) (.node 22789386476 QE (.cls 455) .leaf .leaf) (.node 22981960404 Q0 (.int (14)) .leaf .leaf)) (.node 31385728613 RQ (.bi .tuple) (.node 31106792051 RW (.fn 522) .leaf .leaf) (.node 2251793197524 KA (.int (11)) .leaf .leaf))) (.node 3429766003173 Lm (.fn 583) (.node 2701439230156 Mg (.int (0)) (.node 2529374071124 K8 (.int (10)) .leaf .leaf) (.node 2871359006539 Nf (.int (2)) .leaf .leaf)) (.node 3533124219620 I7 (.fn 541) (.node 3464408823780 MQ (.bi .divmod) .leaf .leaf) .leaf))) (.node 345787724031699 HG (.tup [.int (0),.int (0),.int (0),.int (0),.int (0),.int (0)]) (.node 341595818912078 Hz (.int (3)) (.node 293630987973876 HM (.cls 64) (.node 3981407236836 L6 (.bi .sorted) .leaf .leaf) (.node 323756445704388 HY (.int (10000)) .leaf .leaf)) (.node 345303739048140 HK (.int (0)) (.node 341595835786448 HV (.int (4)) .leaf .leaf) .leaf)) (.node 434368528611827 HW (.fn 145) (.node 355343787571833 H3 (.cls 318) (.node 354235618372185 HF (.int (7)) .leaf .leaf) (.node 367805303251148 HS (.int (13)) .leaf .leaf)) (.node 527002364523236 Iv (.fn 515) (.node 526733152877167 Iw (.fn 562) .leaf .leaf) .leaf))))) (.node 8131679166697830374 tj (.fn 576) (.node 5088850588480923982 tT (.int (0)) (.node 53958599637496420 wS (.fn 618) (.node 44995516959504375 wN (.cls 76) (.node 39233344213411028 xj (.int (1)) (.node 38054286828071251 xI (.int (2)) .leaf .leaf) (.node 43107711022623045 xp (.int (1)) .leaf .leaf)) (.node 47637981843154759 wk (.int (10001)) (.node 47173065921770483 vZ (.cls 413) .leaf .leaf) (.node 49876235849918803 xo (.int (3)) .leaf .leaf))) (.node 55673969335335664 wJ (.fn 590) (.node 53958599637856505 xx (.fn 679) (.node 53958599637809529 xB (.fn 672) .leaf .leaf) (.node 55049411825973989 xE (.fn 494) .leaf .leaf)) (.node 67456306672826342 xn (.fn 348) (.node 59618816796915301 xD (.fn 89) .leaf .leaf) .leaf))) (.node 6906700753631180780 uK (.fn 597) (.node 5819670156403324914 tA (.cls 39) (.node 5585416798568932046 vt (.int (1073741823)) (.node 5521200509457900756 uc (.int (1)) .leaf .leaf) (.node 5665311298923161684 sX (.int (5)) .leaf .leaf)) (.node 6094248003738117332 vr (.int (3)) (.node 6028431134561542852 tF (.int (1)) .leaf .leaf) (.node 6906700753622693733 uo (.fn 658) .leaf .leaf))) (.node 6906700753639568996 uv (.fn 637) (.node 6906700753637570291 vM (.fn 644) (.node 6906700753637242597 vh (.fn 611) .leaf .leaf) (.node 6906700753639339493 tz (.fn 604) .leaf .leaf)) (.node 7486600713587914726 ut (.fn 529) (.node 7340259836713007717 vz (.bi .enumerate) .leaf .leaf) .leaf)))) (.node 117845135165787150743141 qh (.fn 96) (.node 1069180393351441641700 su (.fn 508) (.node 808172446981282752325 ro (.int (100000000)) (.node 714933350563641860818 ra (.int (2147483647)) (.node 632199296309638833364 q7 (.int (2)) .leaf .leaf) (.node 798228525765191002565 si (.int (0)) .leaf .leaf)) (.node 976794611181382546148 r6 (.fn 473) (.node 884057696463704881779 rj (.fn 632) .leaf .leaf) (.node 976800284697052295653 q6 (.bi .isinstance) .leaf .leaf))) (.node 113159385147730024018660 qd (.fn 684) (.node 78820956911022816982900 p8 (.cls 52) (.node 77361288321407837628750 pS (.int (2)) .leaf .leaf) (.node 95153031117482625163467 pZ (.int (0)) .leaf .leaf)) (.node 117845135165786077002100 pU (.fn 258) (.node 117845135165782052532974 pY (.fn 110) .leaf .leaf) .leaf))) (.node 1854003366249730218233854579 mW (.fn 665) (.node 15084177301220449542779634 nV (.fn 103) (.node 10986148127875107770163403 oD (.int (1)) (.node 128480332716469829269107 qf (.fn 534) .leaf .leaf) (.node 14484401298817081400719859 o5 (.fn 651) .leaf .leaf)) (.node 17516160232340212936243044 pK (.fn 487) (.node 16440695376616177578571251 oM (.fn 480) .leaf .leaf) .leaf)) (.node 247139160903198589935282795507 lO (.fn 466) (.node 2105021771217590263593204339 nk (.fn 548) (.node 1854003366258174712061080563 mS (.fn 625) .leaf .leaf) (.node 2181178314799044793655261811 na (.fn 555) .leaf .leaf)) (.node 497680239046602883047496513329165428 jv (.fn 696) (.node 3888126867543385300866303465927396 j4 (.fn 691) .leaf .leaf) .leaf))))))
noncomputable def DB (x:Str):Option MV:=match ti.find (NB 0 x.cps.toList) with
  | some (y,v)=>match bB y x with
    | true=>some v
    | false=>none
  | none=>none
noncomputable def xm:c6:=fI (aa pB 12) [] .pure
noncomputable def ql:c6:=fI (aa pB 13) [] .pure
noncomputable def oX:c6:=fI (aa pB 14) [] .pure
noncomputable def p7:c6:=fI (aa pB 15) [] .pure
noncomputable def HQ:c6:=fI (aa pB 21) [] .pure
noncomputable def pR:c6:=fI (aa pB 31) [] .pure
noncomputable def wC:c6:=fI (aa pB 36) [] .pure
noncomputable def l6:c6:=fI (aa pB 48) [] .pure
noncomputable def rR:c6:=fI (aa pB 49) [] .pure
noncomputable def cS:c6:=fI (aa pB 50) [] .pure
noncomputable def cX:c6:=fI (aa pB 51) [] .pure
noncomputable def xH:c6:=fI (aa pB 52) [] .keep
noncomputable def YU:c6:=fI (aa pB 53) [] .pure
noncomputable def d0:c6:=fI (aa pB 54) [] .pure
noncomputable def HN:c6:=fI (aa pB 55) [] .pure
noncomputable def bu:c6:=fI (aa pB 56) [] .pure
noncomputable def tl:c6:=fI (aa pB 57) [] .pure
noncomputable def pW:c6:=fI (aa pB 58) [] .pure
noncomputable def JM:c6:=fI (aa pB 59) [] .pure
noncomputable def mY:c6:=fI (aa pB 60) [] .pure
noncomputable def ng:c6:=fI (aa pB 61) [] .pure
noncomputable def ax:c6:=fI (aa pB 62) [] .pure
noncomputable def bQ:c6:=fI (aa pB 63) [] .pure
noncomputable def eO:c6:=fI (aa pB 64) [] .pure
noncomputable def bF:c6:=fI (aa pB 65) [] .pure
noncomputable def bT:c6:=fI (aa pB 66) [] .keep
noncomputable def aZ:c6:=fI (aa pB 68) [] .keep
noncomputable def vQ:c6:=fI (aa pB 69) [] .keep
noncomputable def bE:c6:=fI (aa pB 70) [] .pure
noncomputable def Ij:c6:=fI (aa pB 71) [] .keep
noncomputable def bj:c6:=fI (aa pB 72) [] .drop
noncomputable def ai:c6:=fI (aa pB 73) [] .drop
noncomputable def cZ:c6:=fI (aa pB 74) [] .keep
noncomputable def aU:c6:=fI (aa pB 75) [] .drop
noncomputable def p0:c6:=fI (aa pB 76) [] .pure
noncomputable def bP:c6:=fI (aa pB 77) [] .drop
noncomputable def cY:c6:=fI (aa pB 78) [] .drop
noncomputable def aJ:c6:=fI (aa pB 79) [] .drop
noncomputable def aG:c6:=fI (aa pB 80) [] .drop
noncomputable def c8:c6:=fI (aa pB 81) [] .drop
noncomputable def kr:c6:=fI (aa pB 82) [] .drop
noncomputable def bK:c6:=fI (aa pB 83) [] .drop
noncomputable def iJ:c6:=fI (aa pB 84) [] .pure
noncomputable def mV:c6:=fI (aa (au (aa pB 44)) 1) [] .pure
noncomputable def r9:c6:=fI (aa (au (aa pB 44)) 2) [] .pure
noncomputable def fnT:List (Nat × c6):=[(89,xm),(96,ql),(103,oX),(110,p7),(145,HQ),(258,pR),(348,wC),(466,l6),(473,rR),(480,cS),(487,cX),(494,xH),(501,YU),(508,d0),(515,HN),(522,bu),(529,tl),(534,pW),(541,JM),(548,mY),(555,ng),(562,ax),(569,bQ),(576,eO),(583,bF),(590,bT),(597,aZ),(604,vQ),(611,bE),(618,Ij),(625,bj),(632,ai),(637,cZ),(644,aU),(651,p0),(658,bP),(665,cY),(672,aJ),(679,aG),(684,c8),(691,kr),(696,bK),(703,iJ),(382,mV),(389,r9)]
noncomputable def YH:uY:=⟨fI (aa (au (aa pB 24)) 0) [.int 0,.int 0,.int 0,.int 0,.int 0] .pure,.val⟩
noncomputable def ZT:uY:=⟨fI (aa (au (aa pB 32)) 0) [] .pure,.mark⟩
noncomputable def Wf:uY:=⟨fI (aa (au (aa pB 33)) 1) [.none] .pure,.mark⟩
noncomputable def Hm:uY:=⟨fI (aa (au (aa pB 34)) 1) [] .pure,.mark⟩
noncomputable def Wg:uY:=⟨fI (aa (au (aa pB 35)) 1) [] .pure,.mark⟩
noncomputable def RA:uY:=⟨fI (aa (au (aa pB 44)) 0) [.int 0,.int 1,.tup [],.int 0] .pure,.val⟩
noncomputable def xa:uY:=⟨fI (aa (au (aa pB 45)) 0) [] .pure,.opn⟩
noncomputable def a1c:uY:=⟨fI (aa (au (aa pB 46)) 0) [] .pure,.val⟩
noncomputable def SJ:uY:=⟨fI (aa (au (aa pB 47)) 0) [] .pure,.val⟩
noncomputable def No:List (Nat × uY):=[(227,YH),(275,ZT),(297,Wf),(318,Hm),(339,Wg),(392,RA),(413,xa),(434,a1c),(455,SJ)]
noncomputable def Jb:List (Nat × List Str):=[(227,[gB,mq,fh,oe,iU]),(275,[lS,gB,tg,Cc,ch,zd,NP,BV,DP]),(297,[Jg,rE,tZ]),(318,[CF]),(339,[ud,lZ,vA]),(392,[gB,gL,t5,ie,fg,Mn]),(413,[dU,bo,dX,c9,dh,ij,dy,dR,bA,gn,gj,fC]),(434,[oG,ff,jF,f5,u5]),(455,[av,kK,xG,dQ,fJ,io])]
noncomputable def wf (C:Nat) (x:Str):Bool:=match cQ C Jb with
  | some l=>rM x l
  | none=>false
noncomputable def cgT:List (Nat × List (Str × MV)):=[(297,[(lS,.int 6)]),(318,[(lS,.int 7)]),(339,[(lS,.int 8)])]
noncomputable def meT:List (Nat × List (Str × Addr)):=[(392,[(Hr,382),(ff,389)])]
noncomputable def W5 (n:Nat):List Nat→Bool
  | []=>false
  | k :: r=>match Nat.beq n k with
    | true=>true
    | false=>W5 n r
noncomputable def Wt:Wd where
  glob:=DB
  fn a:=cQ a fnT
  cls a:=cQ a No
  iget:=wf
  iset:=wf
  cget C x:=match cQ C cgT with
    | some l=>look x l
    | none=>none
  chg:=fun n=>W5 n [249,292,293,307,317,355,395,431,464,500,613,618]
  dl:=fun n=>W5 n [356,622]
  meth C x:=match cQ C meT with
    | some l=>look x l
    | none=>none
end
end
section
set_option maxRecDepth 100000
set_option maxHeartbeats 0
noncomputable def BB (P:Params) (a:Addr):Option Obj:=match Nat.beq a 698 with
  | true=>none
  | false=>(H1 P).get? a
noncomputable def rm:Value→Option Addr
  | .ref a=>some a
  | _=>none
noncomputable def Yv:Value→Option Str
  | .str a _=>some a
  | _=>none
noncomputable def fdD:Data→Option FuncData
  | .func fd=>some fd
  | _=>none
noncomputable def a0j:Data→Option (List Value)
  | .fields us=>some us.toList
  | _=>none
noncomputable def XO:Data→Option (List Value)
  | .seq us _=>some us.toList
  | _=>none
noncomputable def QD:Data→Option (List DictEntry)
  | .dict es _=>some es.toList
  | _=>none
noncomputable def a2d:Data→Option ClassData
  | .cls c=>some c
  | _=>none
theorem Ci {v:Value}{a:Addr}(h:rm v=some a):v=.ref a:=by cases v <;> first | exact nn h | exact congrArg Value.ref (Option.some.inj h)
theorem FM {v:Value}{a:Str}(h:Yv v=some a):∃ t,v=.str a t:=by cases v <;> first | exact nn h | exact ⟨_,congrArg (Value.str · _) (Option.some.inj h)⟩
theorem Yy {d:Data}{fd:FuncData}(h:fdD d=some fd):d=.func fd:=by cases d <;> first | exact nn h | exact congrArg Data.func (Option.some.inj h)
theorem Ss {d:Data}{l:List Value}(h:a0j d=some l):d=.fields ⟨l⟩:=by cases d <;> first | exact nn h | (rw [← Option.some.inj h])
theorem Qg {d:Data}{l:List Value}(h:XO d=some l):∃ n,d=.seq ⟨l⟩ n:=by cases d <;> first | exact nn h | exact ⟨_,by rw [← Option.some.inj h]⟩
theorem Sv {d:Data}{l:List DictEntry}(h:QD d=some l):∃ n,d=.dict ⟨l⟩ n:=by cases d <;> first | exact nn h | exact ⟨_,by rw [← Option.some.inj h]⟩
theorem a3N {d:Data}{c:ClassData}(h:a2d d=some c):d=.cls c:=by cases d <;> first | exact nn h | exact congrArg Data.cls (Option.some.inj h)
section
variable {B:Addr→Option Obj}{a:Addr}{F:c6}
noncomputable def fdO (o:Option Obj):Option FuncData:=aH o fun o=>fdD o.data
noncomputable def t0 (B:Addr→Option Obj) (fd:FuncData):Option Str:=aH (rm fd.code) fun cd=>aH (B cd) fun co=>aH (a0j co.data) fun us=>aH (nth us 1) Yv
noncomputable def Xy (B:Addr→Option Obj) (fd:FuncData):Option (List Value):=dn (rm fd.defaults) (fun T=>aH (B T) fun ot=>XO ot.data) (some [])
noncomputable def ZF:Value→Bool
  | .none=>true
  | .ref _=>true
  | _=>false
noncomputable def fV (B:Addr→Option Obj) (a:Addr):Option (((Option Value × Bool × Bool × Bool) × (List Str × FuncBody × Scope) × Addr × Addr × List (Str × Addr))) :=
  (fdO (B a)).map fun fd=>(((B a).map (·.cls),gU fd.params,ZF fd.defaults,bB ((t0 B fd).getD Yl) fd.qualname),(fd.params.args.map (·.arg),fd.body,fd.scope),fd.globals,fd.builtins,fd.closure)
noncomputable def fX (F:c6):Option (((Option Value × Bool × Bool × Bool) × (List Str × FuncBody × Scope) × Addr × Addr × List (Str × Addr))):=some ((some (.type "function"),true,true,true),(F.names,.stmts F.body,F.scope),mainGlobals,builtinsNs,[])
theorem QR {v:Value}(h:ZF v=true) (e:rm v=none):v=.none:=by cases v <;> first | rfl | exact nn e.symm | cases h
theorem F9:∀ {l:List Value}{i:Nat}{v:Value},nth l i=some v→(⟨l⟩:Array Value)[i]?=some v
  | [],_,_,h=>nn h
  | _ :: _,0,_,h=>h
  | _ :: r,i+1,_,h=>by
    have:=F9 (l:=r) h
    simpa using this
theorem Up {ds:List Value}(h:fV B a=fX F) (hd:aH (fdO (B a)) (Xy B)=some ds) (hv:∀ G:Gh,(∀ a o,B a=some o→G a=.frz o)→al G F.dflts ds) (hz:(t0 B ((fdO (B a)).getD default)).isSome=true):vl B a F :=
  fT h fun fd e h=>ao e fun o ho hf=>by
    rw [e] at hd hz
    have hz:(t0 B fd).isSome=true:=hz
    have hd:Xy B fd=some ds:=hd
    rw [ho] at h
    simp only [Prod.mk.injEq] at h
    obtain ⟨⟨h1,h2,h3,h4⟩,⟨h5,h6,h7⟩,h8,h9,h10⟩:=h
    cases q:t0 B fd with
    | none=>rw [q] at hz; cases hz
    | some nm =>
      rw [q] at h4
      refine ao q fun cd e1 q=>ao q fun co e2 q=>ao q fun us e3 q=>ao q fun v e4 q=>?_
      obtain ⟨t,rfl⟩:=FM q
      refine ⟨o,fd,cd,co,⟨us⟩,t,⟨ds⟩,ho,Option.some.inj h1,Yy hf,⟨h2,h5,h6,h7,h8,h9⟩,h10,⟨Ci e1,e2,Ss e3,by rw [← (b7 _ _).mp h4]; exact F9 e4⟩,kE hd (fun T e1 q=>ao q fun ot e2 q=>?_) (fun e1 q=>.inl ⟨QR h3 e1,by rw [← Option.some.inj q]⟩),hv⟩
      obtain ⟨n,q⟩:=Qg q
      exact .inr ⟨T,ot,n,Ci e1,e2,q⟩
noncomputable def nO (o:Option Obj):Str→Option Value:=fun x=>aH (aH o fun o=>QD o.data) fun es=>nsFind ⟨es⟩ x
noncomputable def Ld (o:Option Obj):Bool:=dn (aH o fun o=>QD o.data) (fun es=>some (es.all fun e=>(Yv e.key).isSome)) none == some true
theorem lI {o:Option Obj}(h:Ld o=true):∃ ob,o=some ob∧IP ob (nO o):=by
  have h:=eq_of_beq h
  refine be h (fun es e h=>ao e fun ob eo e=>?_) fun h=>nn h
  obtain ⟨n,q⟩:=Sv e
  refine ⟨ob,eo,⟨es⟩,n,q,fun x hx=>?_,fun name=>by unfold nO; rw [eo]; show _=aH (QD ob.data) _; rw [e]; rfl⟩
  have:=List.all_eq_true.mp (Option.some.inj h) x (by simpa using hx)
  obtain ⟨k,hk⟩:=Option.isSome_iff_exists.mp this
  obtain ⟨t,hk⟩:=FM hk
  exact ⟨k,t,hk⟩
end
theorem jW {α β:Type}{f g:Nat × α→β}:∀ {l:List (Nat × α)},l.map f=l.map g→∀ {a:Nat}{F:α},cQ a l=some F→f (a,F)=g (a,F)
  | (b,u) :: r,h,a,F,e=>by
    have h1:=List.cons.inj h
    have e:(match Nat.beq b a with | true=>some u | false=>cQ a r)=some F:=e
    cases q:Nat.beq b a with
    | true=>rw [q] at e; rw [← Nat.eq_of_beq_eq_true q,← Option.some.inj e]; exact h1.1
    | false=>rw [q] at e; exact jW h1.2 e
theorem sj {β:Type}{f g:Str→β}:∀ {l:List Str},l.map f=l.map g→∀ {x:Str},rM x l=true→f x=g x
  | y :: r,h,x,e=>by
    have h1:=List.cons.inj h
    have e:(match bB y x with | true=>true | false=>rM x r)=true:=e
    cases q:bB y x with
    | true=>rw [← (b7 _ _).mp q]; exact h1.1
    | false=>rw [q] at e; exact sj h1.2 e
theorem sl {α β:Type}{f g:Str × α→β}:∀ {l:List (Str × α)},l.map f=l.map g→∀ {x:Str}{v:α},look x l=some v→f (x,v)=g (x,v)
  | [],_,_,_,e=>nn e
  | (y,u) :: r,h,x,v,e=>by
    have h1:=List.cons.inj h
    exact dL (C:=fun o=>o=some v→f (x,v)=g (x,v)) (fun z e=>by rw [← z,← Option.some.inj e]; exact h1.1) (fun _ e=>sl h1.2 e) e
noncomputable def dV (P:Params) (a:Addr):Option (List Value):=aH (fdO (BB P a)) (Xy (BB P))
noncomputable def cdV (P:Params) (a:Addr):Bool:=(t0 (BB P) ((fdO (BB P a)).getD default)).isSome
theorem a5M (P:Params):fnT.map (fun p=>(fV (BB P) p.1,dV P p.1,p.2.dflts,cdV P p.1))=fnT.map (fun p=>(fX p.2,some [],[],true)):=by kernel_rfl
theorem a27 (P:Params) {a:Addr}{F:c6}(h:cQ a fnT=some F):vl (BB P) a F:=by
  have h:=jW (a5M P) h
  simp only [Prod.mk.injEq] at h
  exact Up h.1 h.2.1 (fun _ _=>by rw [h.2.2.1]; exact trivial) h.2.2.2
noncomputable def P6 (P:Params) (C:Addr):ClassData:=(aH (BB P C) fun o=>a2d o.data).getD default
noncomputable def clS (P:Params) (C:Addr) (i:Nat):Option Value:=((BB P C).map fun o=>o.slots.toList.getD i none).getD none
noncomputable def clP (P:Params) (C:Addr):Sk:=⟨(P6 P C).name,(P6 P C).qualname,(P6 P C).bases,(P6 P C).slotNames,(P6 P C).subclasses,(P6 P C).collection,aH (BB P C) Obj.dict,clS P C 0,clS P C 1,clS P C 2,clS P C 3,clS P C 5,"object.__new__"⟩
noncomputable def H5 (P:Params) (C:Addr):Option Obj:=BB P (P6 P C).ns
noncomputable def Wp (P:Params) (C:Addr):Addr:=(aH (nO (H5 P C) "__init__") rm).getD 0
noncomputable def cF (P:Params) (p:Nat × uY):=((BB P p.1,Ld (H5 P p.1),nO (H5 P p.1) "__getattribute__",nO (H5 P p.1) "__setattr__",nO (H5 P p.1) "__getattr__"),nO (H5 P p.1) "__init__",fV (BB P) (Wp P p.1),cdV P (Wp P p.1))
noncomputable def cG (P:Params) (p:Nat × uY):((Option Obj × Bool × Option Value × Option Value × Option Value) × Option Value × Option (((Option Value × Bool × Bool × Bool) × (List Str × FuncBody × Scope) × Addr × Addr × List (Str × Addr))) × Bool):=((some ((clP P p.1).obj p.1 (P6 P p.1).ns),true,none,none,none),some (.ref (Wp P p.1)),fX p.2.init,true)
theorem a6T (P:Params):No.map (cF P)=No.map (cG P):=by kernel_rfl
theorem oE (P:Params) {C:Addr}{k:uY}(h:cQ C No=some k):qR (BB P) C (P6 P C).ns (nO (H5 P C))∧cF P (C,k)=cG P (C,k):=by
  have h:=jW (a6T P) h
  have e1:BB P C=some ((clP P C).obj C (P6 P C).ns):=congrArg (·.1.1) h
  exact ⟨⟨⟨clP P C,F.objNew,e1⟩,lI (congrArg (·.1.2.1) h)⟩,h⟩
noncomputable def a6k:Value→Tok
  | .int _ t=>t
  | _=>0
noncomputable def toV:MV→Value→Value
  | .int i,v=>.int i (a6k v)
  | .bi b,_=>km b
  | .fn a,_=>.ref a
  | .cls a,_=>.ref a
  | .none,_=>.none
  | _,v=>.ref ((rm v).getD 0)
noncomputable def zV:List MV→List Value→List Value
  | [],_=>[]
  | m :: r,l=>toV m (l.headD .none) :: zV r l.tail
noncomputable def isI:List MV→Bool
  | []=>true
  | .int _ :: r=>isI r
  | _=>false
noncomputable def Rv:MV→Bool
  | .int _=>true
  | .bi _=>true
  | .fn _=>true
  | .cls _=>true
  | .none=>true
  | .tup xs=>isI xs
  | _=>false
noncomputable def a4t:Data→Nat
  | .seq _ n=>n
  | _=>0
noncomputable def tO (P:Params) (v:Value):MV→Option Obj
  | .tup _=>BB P ((rm v).getD 0)
  | _=>none
noncomputable def tX (P:Params) (v:Value):MV→Option Obj
  | .tup xs=>some (iN ⟨zV xs ((aH (BB P ((rm v).getD 0)) fun o=>XO o.data).getD [])⟩ (a4t ((BB P ((rm v).getD 0)).getD default).data))
  | _=>none
theorem qy {G:Gh}:∀ {xs:List MV}{l:List Value},isI xs=true→al G xs (zV xs l)
  | [],_,_=>trivial
  | m :: r,l,h=>by
    cases m with
    | int _=>exact ⟨⟨_,rfl⟩,qy h⟩
    | _=>exact Bool.noConfusion h
theorem Em {P:Params}{G:Gh}(hG:∀ a o,BB P a=some o→G a=.frz o) {v:MV}{mv:Value}(h:Rv v=true) (e:tO P mv v=tX P mv v):aw G v (toV v mv):=by
  cases v with
  | int i=>exact ⟨_,rfl⟩
  | none=>rfl
  | bi b=>rfl
  | fn a=>rfl
  | cls a=>rfl
  | tup xs=>exact ⟨_,_,_,rfl,hG _ _ e,qy h⟩
  | _=>exact Bool.noConfusion h
noncomputable def dvI (P:Params) (C:Addr):List Value:=(dV P (Wp P C)).getD []
noncomputable def tOs (P:Params):List MV→List Value→List (Bool × Option Obj)
  | [],_=>[]
  | m :: r,l=>(Rv m,tO P (l.headD .none) m) :: tOs P r l.tail
noncomputable def tXs (P:Params):List MV→List Value→List (Bool × Option Obj)
  | [],_=>[]
  | m :: r,l=>(true,tX P (l.headD .none) m) :: tXs P r l.tail
theorem CT {P:Params}{G:Gh}(hG:∀ a o,BB P a=some o→G a=.frz o):∀ {xs:List MV}{l:List Value},tOs P xs l=tXs P xs l→al G xs (zV xs l)
  | [],_,_=>trivial
  | x :: r,l,h=>⟨Em hG (congrArg (·.1) (List.cons.inj h).1) (congrArg (·.2) (List.cons.inj h).1),CT hG (List.cons.inj h).2⟩
theorem a4V (P:Params):No.map (fun p=>(dV P (Wp P p.1),tOs P p.2.init.dflts (dvI P p.1)))=No.map (fun p=>(some (zV p.2.init.dflts (dvI P p.1)),tXs P p.2.init.dflts (dvI P p.1))):=by kernel_rfl
theorem a3u (P:Params) {C:Addr}{k:uY}(h:cQ C No=some k):Yo (BB P) C k:=by
  have c:=oE P h
  have d:=jW (a4V P) h
  have e:=c.2
  have e1:nO (H5 P C) "__init__"=some (.ref (Wp P C)):=congrArg (·.2.1) e
  have e2:fV (BB P) (Wp P C)=fX k.init:=congrArg (·.2.2.1) e
  have f:=Up e2 (congrArg (·.1) d) (fun _ hG=>CT hG (congrArg (·.2) d)) (congrArg (·.2.2.2) e)
  obtain ⟨o,_,_,_,_,_,_,ho,hc,_⟩:=id f
  exact ⟨_,_,_,o,c.1,e1,ho,hc,f⟩
noncomputable def GT.toL:GT→List (Str × MV)
  | .leaf=>[]
  | .node _ x v l r=>(x,v) :: (l.toL ++ r.toL)
theorem GT.find_at {c:Nat}{p:Str × MV}:∀ {t:GT},t.find c=some p→p∈t.toL
  | .node k x v l r,h=>by
    have h:(match Nat.beq c k with | true=>some (x,v) | false=>match Nat.ble c k with | true=>l.find c | false=>r.find c)=some p:=h
    cases q:Nat.beq c k with
    | true=>rw [q] at h; rw [← Option.some.inj h]; exact List.mem_cons_self
    | false =>
      rw [q] at h
      refine List.mem_cons_of_mem _ (List.mem_append.mpr ?_)
      cases q':Nat.ble c k with
      | true=>rw [q'] at h; exact .inl (GT.find_at h)
      | false=>rw [q'] at h; exact .inr (GT.find_at h)
theorem mem_map {α β:Type}{f g:α→β}{x:α}:∀ {l:List α},l.map f=l.map g→x∈l→f x=g x
  | y :: r,h,m=>(List.mem_cons.mp m).elim (fun e=>e ▸ (List.cons.inj h).1) (mem_map (List.cons.inj h).2)
noncomputable def gV (P:Params) (x:Str):Option Value:=dn (nO (BB P mainGlobals) x) some (nO (BB P builtinsNs) x)
noncomputable def gD (P:Params) (x:Str):Value:=(gV P x).getD .none
theorem pr3 {α β γ:Type}{a a':α}{b b':β}{c c':γ}(h:(a,b,c)=(a',b',c')):a=a'∧b=b'∧c=c':=by cases h; exact ⟨rfl,rfl,rfl⟩
noncomputable def gR (P:Params) (p:Str × MV):Option Value × Bool × Option Obj:=(gV P p.1,Rv p.2,tO P (gD P p.1) p.2)
noncomputable def gS (P:Params) (p:Str × MV):Option Value × Bool × Option Obj:=(some (toV p.2 (gD P p.1)),true,tX P (gD P p.1) p.2)
theorem X8 (P:Params):ti.toL.map (gR P)=ti.toL.map (gS P):=by kernel_rfl
theorem Wl (P:Params) (x:Str) (v:MV) (h:gR P (x,v)=gS P (x,v)):gV P x=some (toV v (gD P x))∧Rv v=true∧tO P (gD P x) v=tX P (gD P x) v:=by
  unfold gR gS at h
  exact pr3 h
theorem WB (P:Params):Ld (BB P mainGlobals)=true:=by kernel_rfl
theorem a6V (P:Params):Ld (BB P builtinsNs)=true:=by kernel_rfl
theorem a5B (P:Params):Ld (BB P 2)=true:=by kernel_rfl
theorem HH {x:Str}{v:MV}(h:DB x=some v):(x,v)∈ti.toL:=by
  unfold DB at h
  cases e:ti.find (NB 0 x.cps.toList) with
  | none=>rw [e] at h; exact nn h
  | some p =>
    rw [e] at h
    have h:(match bB p.1 x with | true=>some p.2 | false=>none)=some v:=h
    cases q:bB p.1 x with
    | true=>rw [q] at h; rw [← (b7 _ _).mp q,← Option.some.inj h]; exact GT.find_at e
    | false=>rw [q] at h; exact nn h
theorem WU {m3 m0:Option Value}{mv:Value}{C:Prop}(h:dn m3 some m0=some mv) (k1:m3=some mv→C) (k2:m3=none→m0=some mv→C):C:=kE h (fun u e h=>k1 (by rw [e]; exact h)) k2
theorem Sx (P:Params) {x:Str}{v:MV}(h:DB x=some v):∃ mv mg og,(∀ G:Gh,(∀ a o,BB P a=some o→G a=.frz o)→aw G v mv)∧BB P mainGlobals=some og∧IP og mg∧(mg x=some mv∨(mg x=none∧∃ ob mb,BB P builtinsNs=some ob∧IP ob mb∧mb x=some mv)):=by
  have e:=Wl P x v (mem_map (X8 P) (HH h))
  obtain ⟨og,h3,n3⟩:=lI (WB P)
  obtain ⟨ob,h0,n0⟩:=lI (a6V P)
  exact ⟨_,nO (BB P mainGlobals),og,fun G hG=>Em hG e.2.1 e.2.2,h3,n3,WU (m3:=nO (BB P mainGlobals) x) (m0:=nO (BB P builtinsNs) x) e.1 .inl fun a b=>.inr ⟨a,ob,_,h0,n0,b⟩⟩
noncomputable def atF (P:Params) (p:Nat × List Str):=((cQ p.1 No).isSome,p.2.map (nO (H5 P p.1)),p.2.map (fastLookup "object"))
theorem Z2 (P:Params):Jb.map (atF P)=Jb.map (fun p=>(true,p.2.map (fun _=>none),p.2.map fun _=>some none)):=by kernel_rfl
theorem LL {x:Str}{y:Option Value}(h:fastLookup "object" x=some y):typeLookup (.type "object") x=pure y:=by rw [typeLookup_type,builtinLookup_eq_fast,h]
theorem PJ (P:Params) {C:Addr}{x:Str}(h:wf C x=true):∃ k,cQ C No=some k∧nO (H5 P C) x=none∧typeLookup (.type "object") x=pure none:=by
  have h:(match cQ C Jb with | some l=>rM x l | none=>false)=true:=h
  cases e:cQ C Jb with
  | none=>rw [e] at h; cases h
  | some l =>
    rw [e] at h
    have q:=jW (Z2 P) e
    obtain ⟨k,hk⟩:=Option.isSome_iff_exists.mp (congrArg (·.1) q)
    exact ⟨k,hk,sj (congrArg (·.2.1) q) h,LL (sj (congrArg (·.2.2) q) h)⟩
noncomputable def cgF (P:Params) (p:Nat × List (Str × MV)):=((cQ p.1 No).isSome,p.2.map (fun q=>(nO (H5 P p.1) q.1,isInt q.2,(fastLookup "object" q.1),(["__module__","__name__","__qualname__","__doc__","__annotations__"]:List Str).contains q.1)))
where isInt:MV→Bool
  | .int _=>true
  | _=>false
theorem a5r (P:Params):cgT.map (cgF P)=cgT.map (fun p=>(true,p.2.map (fun q=>(some (toV q.2 ((nO (H5 P p.1) q.1).getD .none)),true,some ((fastLookup "object" q.1).getD none),false)))):=by kernel_rfl
noncomputable def meF (P:Params) (p:Nat × List (Str × Addr)):=((cQ p.1 No).isSome,p.2.map (fun q=>(nO (H5 P p.1) q.1,(BB P q.2).map (·.cls),fastLookup "object" q.1)))
theorem a6y (P:Params):meT.map (meF P)=meT.map (fun p=>(true,p.2.map (fun q=>(some (.ref q.2),some (.type "function"),some ((fastLookup "object" q.1).getD none))))):=by kernel_rfl
theorem a1u (P:Params):xQ (BB P):=(lI (a5B P)).elim fun o h=>⟨o,_,h.1,h.2,by kernel_rfl⟩
theorem a5E (P:Params):∃ o,BB P sysModules=some o:=⟨_,show BB P sysModules=some (boot_o_1 P) by kernel_rfl⟩
theorem a2a (p:Program) (w:World) (os:OsState):wP ⟨p,w,BB w.params,os⟩ Wt where
  ok:={
    sys:=a5E _
    dbg:=by kernel_rfl
    glob:=fun x v e=>Sx _ e
    iget:=fun C x e=>by
      obtain ⟨k,hk,h1,h2⟩:=PJ w.params e
      have c:=oE w.params hk
      exact ⟨_,_,c.1,congrArg (·.1.2.2.1) c.2,h1,h2⟩
    iset:=fun C x e=>by
      obtain ⟨k,hk,h1,h2⟩:=PJ w.params e
      have c:=oE w.params hk
      exact ⟨_,_,c.1,congrArg (·.1.2.2.2.1) c.2,h1,h2⟩
    cget:=fun C x v e=>by
      have e:(match cQ C cgT with | some l=>look x l | none=>none)=some v:=e
      cases q:cQ C cgT with
      | none=>rw [q] at e; exact nn e
      | some l =>
        rw [q] at e
        have h:=jW (a5r w.params) q
        obtain ⟨k,hk⟩:=Option.isSome_iff_exists.mp (congrArg (·.1) h)
        have c:=oE w.params hk
        have h2:=sl (congrArg (·.2) h) e
        simp only [Prod.mk.injEq] at h2
        cases v with
        | int i=>exact ⟨_,_,i,_,_,c.1,congrArg (·.1.2.2.1) c.2,rfl,h2.1,LL h2.2.2.1,h2.2.2.2⟩
        | _=>exact nomatch h2.2.1
    meth:=fun C x f e=>by
      have e:(match cQ C meT with | some l=>look x l | none=>none)=some f:=e
      cases q:cQ C meT with
      | none=>rw [q] at e; exact nn e
      | some l =>
        rw [q] at e
        have h:=jW (a6y w.params) q
        obtain ⟨k,hk⟩:=Option.isSome_iff_exists.mp (congrArg (·.1) h)
        have c:=oE w.params hk
        have h2:=sl (congrArg (·.2) h) e
        simp only [Prod.mk.injEq] at h2
        exact fT h2.2.1 fun o ho hc=>⟨_,_,o,_,c.1,congrArg (·.1.2.2.1) c.2,congrArg (·.1.2.2.2.2) c.2,h2.1,ho,hc,LL h2.2.2⟩ }
  lim:=a1u _
  fn:=fun a F e=>a27 _ e
  cls:=fun C k e=>a3u _ e
end
section
set_option maxRecDepth 10000
theorem bX {p:Prop} [Decidable p] {a b:Prop}(h1:p→a) (h2:¬ p→b):aI (decide p) a b:=by
  by_cases h:p
  · rw [decide_eq_true h]; exact h1 h
  · rw [decide_eq_false h]; exact h2 h
theorem xv {p:Prop} [Decidable p] {a b:Prop}(h1:¬ p→a) (h2:p→b):aI (!decide p) a b:=by
  by_cases h:p
  · rw [decide_eq_true h]; exact h2 h
  · rw [decide_eq_false h]; exact h1 h
theorem big {x:Int}(h1:-1000000000000000000000≤x) (h2:x≤1000000000000000000000):x.natAbs<2 ^ 2000 :=
  Nat.lt_of_le_of_lt (show x.natAbs≤1000000000000000000000 by lia) (by decide +kernel)
theorem IK {x y:Int}(h1:-1000000000000000000≤x) (h2:x≤1000000000000000000):cB x y:=.inl (Nat.lt_of_le_of_lt (show x.natAbs≤1000000000000000000 by lia) (by decide +kernel))
theorem cf {p K:Prop} [Decidable p] (h:p) (k:K):bW p K:=by
  unfold bW; rwa [decide_eq_true h]
noncomputable def iD (k:Nat) (args:List MV):Int:=(aH (nth args k) ga).getD 0
noncomputable def bD (k:Nat) (args:List MV):Bool:=(aH (nth args k) oY).getD false
def M6 (x:Int):Prop:=-1000000≤x∧x≤1000000
def Ky (r:Int):Int:=if r > 1290 then 10000 else (r * r * r+131072).fdiv 262144
def gb (e t:Int):Int:=if e=0 then 0 else if t≤0 then 10000 else Ky ((e * 297).fdiv t)
def Su (r:Int) (Q:Int→Prop):Prop:=aI (decide (r > 1290)) (Q 10000) (bW (cB r r) (bW (cB (r * r) r) (Q ((r * r * r+131072).fdiv 262144))))
theorem Te {r:Int}{Q:Int→Prop}(r0:0≤r) (h:Q (Ky r)):Su r Q:=by
  unfold Ky at h
  refine bX (fun h5=>by rwa [if_pos h5] at h) fun h5=>?_
  rw [if_neg h5] at h
  have b1:r * r≤1290 * 1290:=Int.mul_le_mul (by lia) (by lia) r0 (by lia)
  have b0:0≤r * r:=Int.mul_nonneg r0 r0
  have b3:r * r * r≤1290 * 1290 * 1290:=Int.mul_le_mul b1 (by lia) r0 (by lia)
  exact cf (IK (by lia) (by lia)) (cf (IK (by lia) (by lia)) h)
theorem ID (e t:Int) (n:Nat) (st:St) (Q:aE):lT Wt (n+1) (.fn 145) [.int e,.int t] st Q =
    aI (decide (e<0)) False (aI (decide (e=0)) (Q (.int 0) st) (aI (decide (t≤0)) (Q (.int 10000) st) (aI (decide (e≤7230584)) (bW (cB e 297) (bW (t≠0∧t.natAbs<2 ^ 2000) (Su ((e * 297).fdiv t) fun r=>Q (.int r) st)))
      (aI (decide (t≥1663497)) (bW (t.fdiv 297≠0∧(t.fdiv 297).natAbs<2 ^ 2000) (Su (e.fdiv (t.fdiv 297)) fun r=>Q (.int r) st)) (Su e fun r=>Q (.int r) st))))):=by kernel_rfl
theorem oV {e t:Int}(he:0≤e) (ht:0<t):0≤(e * 297).fdiv t:=by
  rw [Int.fdiv_eq_ediv_of_nonneg _ (by lia)]
  exact Int.ediv_nonneg (by lia) (by lia)
def a1Z (e t:Int):Prop:=0≤e∧e≤1000000∧t≤1000000
theorem HC {e t:Int}{n:Nat}{st:St}{Q:aE}(p:a1Z e t) (h:Q (.int (gb e t)) st):lT Wt (n+1) (.fn 145) [.int e,.int t] st Q:=by
  obtain ⟨p1,p2,p3⟩:=p
  refine (ID ..).mpr (bX (fun _=>by omega) fun _=>bX (fun h1=>?_) fun h1=>bX (fun h2=>?_) fun h2=>bX (fun _=>cf (IK (by omega) (by omega)) (cf ⟨by omega,big (by omega) (by omega)⟩ (Te (oV p1 (by omega)) ?_))) fun _=>by omega)
  · rwa [gb,if_pos h1] at h
  · rwa [gb,if_neg h1,if_pos h2] at h
  · rwa [gb,if_neg h1,if_neg h2] at h
theorem wA {x lo hi:Int}{n:Nat}{st:St}{Q:aE}(h:Q (.bool (decide (lo≤x∧x≤hi))) st):lT Wt (n+1) (.fn 89) [.int x,.int lo,.int hi] st Q :=
  (show lT Wt (n+1) (.fn 89) [.int x,.int lo,.int hi] st Q=aI (decide (lo≤x)) (Q (.bool (decide (x≤hi))) st) (Q (.bool false) st) by kernel_rfl).mpr
    (bX (fun h1=>by rwa [show decide (lo≤x∧x≤hi)=decide (x≤hi) from decide_eq_decide.mpr (and_iff_right h1)] at h) fun h1=>by rwa [decide_eq_false (fun q=>h1 q.1)] at h)
theorem N9 {x:Int}{n:Nat}{st:St}{Q:aE}(p:M6 x) (h:Q (.int x) st):lT Wt (n+2) (.fn 103) [.int x] st Q :=
  (show lT Wt (n+2) (.fn 103) [.int x] st Q=aI (decide (-2147483647≤x)) (aI (!decide (x≤2147483647)) False (Q (.int x) st)) False by kernel_rfl).mpr
    (bX (fun _=>xv (fun q=>absurd p (by unfold M6; lia)) fun _=>h) fun q=>absurd p (by unfold M6; lia))
theorem Se {x:Int}{n:Nat}{st:St}{Q:aE}(p:M6 x) (h:Q (.int x) st):lT Wt (n+2) (.fn 110) [.int x] st Q :=
  (show lT Wt (n+2) (.fn 110) [.int x] st Q=aI (decide (-1073741823≤x)) (aI (!decide (x≤1073741823)) False (Q (.int x) st)) False by kernel_rfl).mpr
    (bX (fun _=>xv (fun q=>absurd p (by unfold M6; lia)) fun _=>h) fun q=>absurd p (by unfold M6; lia))
noncomputable abbrev sA:=List MV→Prop × MV
noncomputable def orc (T C:List (Nat × sA)) (c:ms):ms:=fun f args st Q=>match f with
  | .fn a=>kH (cQ a T) (fun o=>(o args).1∧Q (o args).2 st) (c f args st Q)
  | .cls a=>kH (cQ a C) (fun o=>(o args).1∧Q (o args).2 st) (c f args st Q)
  | _=>c f args st Q
noncomputable def gQ:sA:=fun a=>(a=[.int (iD 0 a),.int (iD 1 a),.int (iD 2 a)],.bool (decide (iD 1 a≤iD 0 a∧iD 0 a≤iD 2 a)))
noncomputable def fD:sA:=fun a=>(a=[.int (iD 0 a)]∧M6 (iD 0 a),.int (iD 0 a))
noncomputable def a0a:sA:=fun a=>(a=[.int (iD 0 a),.int (iD 1 a)]∧a1Z (iD 0 a) (iD 1 a),.int (gb (iD 0 a) (iD 1 a)))
noncomputable def uJ:List (Nat × sA):=[(89,gQ),(103,fD),(110,fD),(145,a0a)]
def j5 (F:Nat→MV) (T:List (Nat × sA)) (c:ms):Prop:=∀ a o,(a,o)∈T→∀ args st Q,(o args).1→Q (o args).2 st→c (F a) args st Q
theorem j5.nil {F:Nat→MV}{c:ms}:j5 F [] c:=fun _ _ m=>absurd m List.not_mem_nil
theorem j5.cons {F:Nat→MV}{a:Nat}{o:sA}{T:List (Nat × sA)}{c:ms}(h:∀ args st Q,(o args).1→Q (o args).2 st→c (F a) args st Q) (k:j5 F T c):j5 F ((a,o) :: T) c:=fun b p m=>(List.mem_cons.mp m).elim (fun e=>by cases e; exact h) (k b p)
theorem WJ {α:Type}{a b:Nat}{x y:α}{C:α→Prop}(h1:b=a→C x) (h2:C y):C (match Nat.beq b a with
    | true=>x
    | false=>y):=by
  cases e:Nat.beq b a with
  | true=>exact h1 (Nat.eq_of_beq_eq_true e)
  | false=>exact h2
theorem md {α:Type}{a:Nat}{v:α}:∀ {l:List (Nat × α)},cQ a l=some v→(a,v)∈l
  | p :: r,h=>WJ (C:=fun x=>x=some v→(a,v)∈p :: r) (fun e h=>by cases h; cases e; exact List.mem_cons_self) (fun h=>List.mem_cons_of_mem _ (md h)) h
theorem Xq {T U:List (Nat × sA)}{c c':ms}(ok:j5 .fn T c') (ok':j5 .cls U c') {f:MV}{args:List MV}{st:St}{Q:aE}(h:orc T U c f args st Q):c f args st Q∨c' f args st Q:=by
  cases f with
  | fn a=>exact du h (fun o e h=>.inr (ok a o (md e) args st Q h.1 h.2)) .inl
  | cls a=>exact du h (fun o e h=>.inr (ok' a o (md e) args st Q h.1 h.2)) .inl
  | _=>exact .inl h
theorem j5.le {F:Nat→MV}{T:List (Nat × sA)}{c c':ms}(h:j5 F T c) (k:∀ f args st Q,c f args st Q→c' f args st Q):j5 F T c':=fun a o m args st Q p q=>k _ _ _ _ (h a o m args st Q p q)
theorem OH (n:Nat):j5 .fn uJ (lT Wt (n+2)) :=
  .cons (fun a st Q p h=>by have e:a=_:=p; rw [e]; exact wA h) (.cons (fun a st Q p h=>by have e:a=_:=p.1; rw [e]; exact N9 p.2 h) (.cons (fun a st Q p h=>by have e:a=_:=p.1; rw [e]; exact Se p.2 h) (.cons (fun a st Q p h=>by have e:a=_:=p.1; rw [e]; exact HC p.2 h) .nil)))
end
section
set_option maxRecDepth 10000
structure Gl where
  w:Int
  s:Int
  o:Int
  k:Int
noncomputable def vX (g:Gl):MV:=.inst none 227 [(gB,.int g.w),(mq,.int g.s),(fh,.int g.o),(oe,.int g.k),(iU,.int 0)]
structure V6 where
  a0:Int
  a1:Int
  a2:Int
  a3:Int
  a4:Int
  a5:Int
noncomputable def vL (v:V6):List MV:=[.int v.a0,.int v.a1,.int v.a2,.int v.a3,.int v.a4,.int v.a5]
noncomputable def vV (v:V6):MV:=.tup (vL v)
noncomputable def z6:V6:=⟨0,0,0,0,0,0⟩
inductive Nd where
  | box (w:Int)
  | skip (g:Gl)
  | pen
  | disc
noncomputable def rF (m:Nat) (w:Int):MV:=.inst (some m) 275 [(lS,.int 2),(gB,.int w),(tg,.int 0),(Cc,.int 0),(ch,.fl []),(zd,.int 0),(NP,.int 0),(BV,.int 0),(DP,.tup [.int 0,.int 1])]
noncomputable def f7 (m:Nat):Nd→MV
  | .box w=>rF m w
  | .skip g=>.inst (some m) 297 [(Jg,vX g),(rE,.int 0),(tZ,.none)]
  | .pen=>.inst (some m) 318 [(CF,.int 10000)]
  | .disc=>.inst (some (m+1)) 339 [(ud,.fl [rF m 3]),(lZ,.fl []),(vA,.fl [])]
abbrev NL:=List (Nat × Nd)
noncomputable def cz (L:NL):List MV:=L.map fun p=>f7 p.1 p.2
noncomputable def cg (L:NL):List Nd:=L.map (·.2)
structure fF where
  pretol:Int
  tol:Int
  linep:Int
  hyph:Int
  adj:Int
  dbl:Int
  fin:Int
  loos:Int
  emer:Int
  lg:Gl
  rg:Gl
noncomputable def cH (S:fF):MV:=.inst none 413 [(dU,.int S.pretol),(bo,.int S.tol),(dX,.int S.linep),(c9,.int S.hyph),(dh,.int 0),(ij,.int S.adj),(dy,.int S.dbl),(dR,.int S.fin),(bA,.int S.loos),(gn,.int S.emer),(gj,vX S.lg),(fC,vX S.rg)]
structure Sh where
  w:Int
  ind:Int
  af:Int
noncomputable def mJ (s:Sh):MV:=.inst none 392 [(gB,.int s.w),(gL,.int s.ind),(t5,.int (s.w - s.ind.natAbs)),(ie,.int s.af),(fg,.tup []),(Mn,.int 0)]
noncomputable def rq (v:V6) (g:Gl):V6:=match g.o with
  | 0=>⟨v.a0+g.w,v.a1+g.s,v.a2,v.a3,v.a4,v.a5+g.k⟩
  | _=>⟨v.a0+g.w,v.a1,v.a2+g.s,v.a3,v.a4,v.a5+g.k⟩
noncomputable def Nd.drops:Nd→Bool
  | .skip _=>true
  | .pen=>true
  | _=>false
noncomputable def f9 (v:V6):Nd→V6
  | .box w=>⟨v.a0+w,v.a1,v.a2,v.a3,v.a4,v.a5⟩
  | .skip g=>rq v g
  | .pen=>v
  | .disc=>v
noncomputable def uQ (v:V6):List Nd→List V6
  | []=>[]
  | d :: r=>f9 v d :: uQ (f9 v d) r
structure Lb where
  pl:Nat
  pen:Int
  sort:Int
noncomputable def QN (b:Lb):MV:=.tup [.int b.pl,.int b.pen,.int b.sort]
noncomputable def aK (hy:Int):Nat→Bool→List Nd→List Lb
  | k,_,[]=>[⟨k,-10000,1⟩]
  | k,_,.box _ :: r=>aK hy (k+1) true r
  | k,b,.skip _ :: r=>match b with
    | true=>⟨k,0,0⟩ :: aK hy (k+1) false r
    | false=>aK hy (k+1) false r
  | k,_,.pen :: r=>aK hy (k+1) false r
  | k,_,.disc :: r=>if hy<10000 then ⟨k,if (-10000:Int) > hy then -10000 else hy,1⟩ :: aK hy (k+1) true r else aK hy (k+1) true r
noncomputable def bG:List Nd→Nat
  | []=>0
  | d :: r=>match d.drops with
    | true=>bG r+1
    | false=>0
noncomputable def bM (ds:List Nd) (k:Nat):Nat:=match ds[k]? with
  | some .disc=>k+1+bG (ds.drop (k+1))
  | _=>k+bG (ds.drop k)
structure Sp where
  pl:Int
  pen:Int
  sort:Int
  start:Nat
  b:V6
  e:V6
noncomputable def sB (s:Sp):MV:=.tup [.int s.pl,.int s.pen,.int s.sort,.int s.start,vV s.b,vV s.e]
noncomputable def dK (ds:List Nd):List V6:=z6 :: uQ z6 ds
noncomputable def a9 (ds:List Nd) (b:Lb):Sp :=
  if b.pl<ds.length∧b.sort=1 then ⟨b.pl,b.pen,b.sort,bM ds b.pl,{ (dK ds).getD (bM ds b.pl) z6 with a0:=((dK ds).getD (bM ds b.pl) z6).a0+0 },{ (dK ds).getD b.pl z6 with a0:=((dK ds).getD b.pl z6).a0+3 }⟩
  else ⟨b.pl,b.pen,b.sort,bM ds b.pl,(dK ds).getD (bM ds b.pl) z6,(dK ds).getD b.pl z6⟩
noncomputable def kQ (S:fF) (x:Int):V6:={ rq (rq z6 S.lg) S.rg with a1:=(rq (rq z6 S.lg) S.rg).a1+x }
noncomputable def jM (b e g:V6):V6:=⟨e.a0 - b.a0+g.a0,e.a1 - b.a1+g.a1,e.a2 - b.a2+g.a2,e.a3 - b.a3+g.a3,e.a4 - b.a4+g.a4,e.a5 - b.a5+g.a5⟩
noncomputable def fj (w:Int) (v:V6):Int × Int :=
  if w - v.a0 > 0 then
    if v.a2≠0∨v.a3≠0∨v.a4≠0 then (0,2)
    else (gb (w - v.a0) v.a1,if gb (w - v.a0) v.a1 > 99 then 0 else if gb (w - v.a0) v.a1 > 12 then 1 else 2)
  else if -(w - v.a0) > v.a5 then (10001,3) else (gb (-(w - v.a0)) v.a5,if gb (-(w - v.a0)) v.a5 > 12 then 3 else 2)
noncomputable def rP (lp bad pen:Int):Int :=
  let found:=if ((lp+bad).natAbs:Int)≥10000 then 100000000 else (lp+bad) * (lp+bad)
  if pen > 0 then found+pen * pen else if pen > -10000 then found - pen * pen else found
noncomputable def g8 (S:fF) (tw en:Bool) (apart:Int):Int :=
  let f:=if tw then 0+(if en then S.fin else S.dbl) else 0
  if apart > 1 then f+S.adj else f
noncomputable def eu (s:Sh) (k:Int):Int:=if s.ind=0∨¬ (decide (k≤s.af.natAbs)=decide (s.af<0)) then s.w else s.w - s.ind.natAbs
noncomputable def qN (s:Sh):Int:=if s.ind≠0 then s.af.natAbs else 0
noncomputable def dG (S:fF) (sh:Sh):Int:=if S.loos=0 then qN sh else 4294967294
inductive Wy where
  | top (sp:Sp) (line fit dem:Int)
  | on (sp:Sp) (line fit dem:Int) (bf:Wy)
noncomputable def Wy.sp:Wy→Sp
  | .top s _ _ _=>s
  | .on s _ _ _ _=>s
noncomputable def Wy.line:Wy→Int
  | .top _ l _ _=>l
  | .on _ l _ _ _=>l
noncomputable def Wy.fit:Wy→Int
  | .top _ _ f _=>f
  | .on _ _ f _ _=>f
noncomputable def Wy.dem:Wy→Int
  | .top _ _ _ d=>d
  | .on _ _ _ d _=>d
noncomputable def Wy.bf:Wy→Option Wy
  | .top _ _ _ _=>none
  | .on _ _ _ _ b=>some b
noncomputable def wyI (s:Sp) (l f d:Int) (b:MV):MV:=.inst none 434 [(oG,sB s),(ff,.int l),(jF,.int f),(f5,.int d),(u5,b)]
noncomputable def wyB:Wy→MV
  | .top _ _ _ _=>.none
  | .on _ _ _ _ b=>wyI b.sp b.line b.fit b.dem (wyB b)
noncomputable def bV (w:Wy):MV:=wyI w.sp w.line w.fit w.dem (wyB w)
abbrev Bst:=List (Int × (Int × Wy × Int))
noncomputable def lB (b:Bst):List (Int × MV):=b.map fun p=>(p.1,.tup [.int p.2.1,bV p.2.2.1,.int p.2.2.2])
noncomputable def a7 (l:List (Int × Int)):List (Int × MV):=l.map fun p=>(p.1,.int p.2)
structure LS where
  kept:List Wy
  best:Bst
  least:List (Int × Int)
structure TP where
  S:fF
  sh:Sh
  most:Int
  g:V6
  last:Bool
noncomputable def Qf (t:TP):MV:=.inst none 455 [(av,cH t.S),(kK,mJ t.sh),(xG,.int t.most),(dQ,vV t.g),(fJ,.bool t.last),(io,.int (dG t.S t.sh))]
noncomputable def eU (a b:Int):Int:=if b<a then b else a
noncomputable def jO (t:TP) (line fit dem:Int) (w:Wy) (s:LS):LS :=
  let group:=eU line (dG t.S t.sh+1)
  if (match ah (4 * group+fit) s.best with | none=>true | some (d,_,_)=>decide (dem≤d))=true then
    ⟨s.kept,cn (4 * group+fit) (dem,w,line) s.best,cn group (eU dem ((ah group s.least).getD dem)) s.least⟩
  else s
noncomputable def twF (sp:Sp) (w:Wy):Bool:=if sp.sort=1 then decide (w.sp.sort=1) else false
noncomputable def Sn (t:TP) (sp:Sp) (e:Bool) (w:Wy) (bad fit:Int) (rs:Bool):Int:=if rs then w.dem else w.dem+(rP t.S.linep bad sp.pen+g8 t.S (twF sp w) e (fit - w.fit).natAbs)
noncomputable def fY (t:TP) (sp:Sp) (e:Bool) (line bad fit:Int) (rs:Bool) (w:Wy) (u:LS):LS:=if bad > t.most∧rs=false then u else jO t line fit (Sn t sp e w bad fit rs) w u
noncomputable def iK (t:TP) (sp:Sp) (e:Bool) (len i:Nat) (w:Wy) (u:LS):LS :=
  let bf:=fj (eu t.sh (w.line+1)) (jM w.sp.b sp.e t.g)
  if bf.1 > 10000∨sp.pen=-10000 then fY t sp e (w.line+1) bf.1 bf.2 (t.last && (u.kept.isEmpty && (u.best.isEmpty && decide ((i:Int)=(len:Int) - 1)))) w u
  else fY t sp e (w.line+1) bf.1 bf.2 false w { u with kept:=u.kept ++ [w] }
noncomputable def dk (t:TP) (sp:Sp) (e:Bool) (len:Nat):Nat→List Wy→LS→LS
  | _,[],u=>u
  | i,w :: r,u=>dk t sp e len (i+1) r (iK t sp e len i w u)
noncomputable def db (t:TP) (sp:Sp) (u:LS):List Int→List Wy→List Wy
  | [],acc=>acc
  | k :: r,acc=>match ah k u.best with
    | some (d,w,l)=>db t sp u r (if d≤((ah (k.fdiv 4) u.least).getD 0)+(t.S.adj.natAbs:Int) then acc ++ [.on sp l (k.fmod 4) d w] else acc)
    | none=>db t sp u r acc
noncomputable def bI (t:TP) (sp:Sp) (e:Bool) (ws:List Wy):List Wy :=
  db t sp (dk t sp e ws.length 0 ws ⟨[],[],[]⟩) (((dk t sp e ws.length 0 ws ⟨[],[],[]⟩).best.map (·.1)).mergeSort (fun a b=>decide (a≤b))) (dk t sp e ws.length 0 ws ⟨[],[],[]⟩).kept
noncomputable def da:Wy→List Wy→Wy
  | b,[]=>b
  | b,w :: r=>da (if w.dem<b.dem then w else b) r
noncomputable def fu (b:Wy) (lo:Int):List Wy→Wy→Int→Wy × Int
  | [],f,a=>(f,a)
  | w :: r,f,a=>if ((lo≤w.line - b.line∧w.line - b.line<a)∨(a<w.line - b.line∧w.line - b.line≤lo))∨(w.line - b.line=a∧w.dem<f.dem) then fu b lo r w (w.line - b.line) else fu b lo r f a
noncomputable def cC (lo:Int) (ws:List Wy):Wy × Int:=match ws with
  | []=>(.top ⟨0,0,0,0,z6,z6⟩ 0 0 0,0)
  | w :: r=>if lo≠0 then fu (da w (w :: r)) lo (w :: r) (da w (w :: r)) 0 else (da w (w :: r),0)
noncomputable def Wy.pls:Wy→List Int
  | .top _ _ _ _=>[]
  | .on s _ _ _ b=>s.pl :: b.pls
noncomputable def cI:Wy:=.top ⟨-1,0,0,0,z6,z6⟩ 0 2 0
noncomputable def iO (t:TP) (len:Int):List Sp→List Wy→Option (List Wy)
  | [],ws=>some ws
  | sp :: r,ws=>match bI t sp (decide (sp.pl=len)) ws with
    | []=>none
    | ws'=>iO t len r ws'
noncomputable def np (t:TP) (len:Int) (sps:List Sp):Option (List Int):=match iO t len sps [cI] with
  | none=>none
  | some ws=>if (cC t.S.loos ws).2≠t.S.loos∧t.last=false then none else some (cC t.S.loos ws).1.pls.reverse
noncomputable def Vn (S:fF) (sh:Sh) (tol x:Int) (last:Bool):TP:=⟨S,sh,eU tol 10000,kQ S x,last⟩
noncomputable def xt (S:fF) (sh:Sh) (ds:List Nd) (tol x:Int) (last:Bool):Option (List Int):=np (Vn S sh tol x last) ds.length ((aK S.hyph 0 false ds).map (a9 ds))
end
section
set_option maxRecDepth 10000
noncomputable def aO (n:Str):MV→Option MV
  | .inst _ _ fs=>look n fs
  | _=>none
noncomputable def aD (n:Str) (v:MV):MV:=(aO n v).getD .none
noncomputable def Zj (k:Nat) (v:MV):MV:=(aH (jw v) fun xs=>nth xs k).getD .none
noncomputable def pP (v:MV):Int:=(ga v).getD 0
noncomputable def B6 (k:Nat) (a:List MV):MV:=(nth a k).getD .none
noncomputable def v6D (v:MV):V6:=⟨pP (Zj 0 v),pP (Zj 1 v),pP (Zj 2 v),pP (Zj 3 v),pP (Zj 4 v),pP (Zj 5 v)⟩
noncomputable def glD (v:MV):Gl:=⟨pP (aD gB v),pP (aD mq v),pP (aD fh v),pP (aD oe v)⟩
noncomputable def stD (v:MV):fF:=⟨pP (aD dU v),pP (aD bo v),pP (aD dX v),pP (aD c9 v),pP (aD ij v),pP (aD dy v),pP (aD dR v),pP (aD bA v),pP (aD gn v),glD (aD gj v),glD (aD fC v)⟩
noncomputable def shD (v:MV):Sh:=⟨pP (aD gB v),pP (aD gL v),pP (aD ie v)⟩
section
variable {c:ms}{st:St}{Q:aE}
def a0C (e t:Int) (K:Int→Prop):Prop:=(a0a [.int e,.int t]).1∧K (gb e t)
def qP (Q:aE) (st:St) (x y:Int):Prop:=Q (.tup [.int x,.int y]) st
def YD (w:Int) (v:V6):Prop:=w - v.a0≤1000000∧-1000000≤w - v.a0∧v.a1≤1000000∧v.a5≤1000000
theorem a1b {w:Int}{v:V6}(p:YD w v) (h:qP Q st (fj w v).1 (fj w v).2):ek Wt (orc uJ [] c) (.fn 541) [.int w,vV v] st Q:=by
  obtain ⟨h1,h2,h3,h4⟩:=p
  refine (show ek Wt (orc uJ [] c) (.fn 541) [.int w,vV v] st Q=(fun X Y=>aI (decide (w - v.a0 > 0)) (aI (!decide (v.a2=0)) X (aI (!decide (v.a3=0)) X (aI (!decide (v.a4=0)) X Y)))
    (aI (decide (-(w - v.a0) > v.a5)) (qP Q st 10001 3) (a0C (-(w - v.a0)) v.a5 fun b=>aI (decide (b > 12)) (qP Q st b 3) (qP Q st b 2))))
    (qP Q st 0 2) (a0C (w - v.a0) v.a1 fun b=>aI (decide (b > 99)) (qP Q st b 0) (aI (decide (b > 12)) (qP Q st b 1) (qP Q st b 2))) by kernel_rfl).mpr ?_
  unfold fj at h
  refine bX (fun k=>?_) fun k=>?_
  · rw [if_pos k] at h
    have hz:∀ {p:Prop} [Decidable p] {q:Prop},(¬ p→v.a2≠0∨v.a3≠0∨v.a4≠0)→(p→q)→aI (!decide p) (qP Q st 0 2) q:=fun a b=>xv (fun g=>by rwa [if_pos (a g)] at h) b
    refine hz .inl fun g1=>hz (.inr ∘ .inl) fun g2=>hz (.inr ∘ .inr) fun g3=>⟨⟨rfl,by show 0≤w - v.a0; lia,h1,h3⟩,?_⟩
    rw [if_neg (fun q=>q.elim (fun q=>q g1) fun q=>q.elim (fun q=>q g2) fun q=>q g3)] at h
    refine bX (fun k=>by rwa [if_pos k] at h) fun k=>?_
    rw [if_neg k] at h
    exact bX (fun k=>by rwa [if_pos k] at h) fun k=>by rwa [if_neg k] at h
  · rw [if_neg k] at h
    refine bX (fun k=>by rwa [if_pos k] at h) fun k'=>⟨⟨rfl,by show 0≤-(w - v.a0); lia,by show -(w - v.a0)≤1000000; lia,h4⟩,?_⟩
    rw [if_neg k'] at h
    exact bX (fun k=>by rwa [if_pos k] at h) fun k=>by rwa [if_neg k] at h
def SF (lp b p:Int):Prop:=(-1000000≤lp∧lp≤1000000)∧(-1000000≤b∧b≤1000000)∧(-1000000≤p∧p≤1000000)
def Mv (p:Int) (Q:aE) (st:St) (f:Int):Prop:=aI (decide (p > 0)) (bW (cB p p) (Q (.int (f+p * p)) st)) (aI (decide (p > -10000)) (bW (cB p p) (Q (.int (f - p * p)) st)) (Q (.int f) st))
theorem a0d {S:fF}{b p:Int}(q:SF S.linep b p) (h:Q (.int (rP S.linep b p)) st):ek Wt (orc uJ [] c) (.fn 548) [cH S,.int b,.int p] st Q:=by
  obtain ⟨⟨a1,a2⟩,⟨b1,b2⟩,p1,p2⟩:=q
  refine (show ek Wt (orc uJ [] c) (.fn 548) [cH S,.int b,.int p] st Q=aI (decide (((S.linep+b).natAbs:Int)≥10000)) (Mv p Q st 100000000) (bW (cB (S.linep+b) (S.linep+b)) (Mv p Q st ((S.linep+b) * (S.linep+b)))) by kernel_rfl).mpr ?_
  have g:∀ f,(Q (.int (if p > 0 then f+p * p else if p > -10000 then f - p * p else f)) st)→Mv p Q st f:=fun f h=>bX (fun k=>cf (IK (by lia) (by lia)) (by rwa [if_pos k] at h)) fun k=>by
    rw [if_neg k] at h
    exact bX (fun k=>cf (IK (by lia) (by lia)) (by rwa [if_pos k] at h)) fun k=>by rwa [if_neg k] at h
  unfold rP at h
  exact bX (fun k=>g _ (by rwa [if_pos k] at h)) fun k=>cf (IK (by lia) (by lia)) (g _ (by rwa [if_neg k] at h))
theorem Xr {S:fF}{t e:Bool}{p:Int}(h:Q (.int (g8 S t e p)) st):ek Wt (orc uJ [] c) (.fn 555) [cH S,.bool t,.bool e,.int p] st Q:=by
  refine (show ek Wt (orc uJ [] c) (.fn 555) [cH S,.bool t,.bool e,.int p] st Q=(fun X=>aI t (aI e (X (0+S.fin)) (X (0+S.dbl))) (X 0)) (fun f=>aI (decide (p > 1)) (Q (.int (f+S.adj)) st) (Q (.int f) st)) by kernel_rfl).mpr ?_
  have g:∀ f,(Q (.int (if p > 1 then f+S.adj else f)) st)→aI (decide (p > 1)) (Q (.int (f+S.adj)) st) (Q (.int f) st):=fun f h=>bX (fun k=>by rwa [if_pos k] at h) fun k=>by rwa [if_neg k] at h
  cases t with
  | true=>cases e with
    | true=>exact g _ h
    | false=>exact g _ h
  | false=>exact g _ h
theorem Hh {s:Sh}(h:Q (.int (qN s)) st):ek Wt (orc uJ [] c) (.fn 382) [mJ s] st Q :=
  (show ek Wt (orc uJ [] c) (.fn 382) [mJ s] st Q=aI (!decide (s.ind=0)) (Q (.int s.af.natAbs) st) (Q (.int 0) st) by kernel_rfl).mpr
    (xv (fun k=>by rwa [qN,if_pos k] at h) fun k=>by rwa [qN,if_neg (not_not_intro k)] at h)
noncomputable def XQ (s:Sh) (k:Int):Int:=if s.ind=0∨¬ (decide (k≤s.af.natAbs)=decide (s.af<0)) then 0 else if s.ind > 0 then s.ind else 0
theorem Wk {s:Sh}{k:Int}(p:1≤k∧k≤4294967294) (h:qP Q st (XQ s k) (eu s k)):ek Wt (orc uJ [] c) (.fn 389) [mJ s,.int k] st Q:=by
  refine (show ek Wt (orc uJ [] c) (.fn 389) [mJ s,.int k] st Q=(fun X Y=>(gQ [.int k,.int 1,.int (2 * 2147483647)]).1∧aI (!decide (1≤k∧k≤2 * 2147483647)) False (aI (decide (s.ind=0)) X (aI (!decide (decide (k≤s.af.natAbs)=decide (s.af<0))) X Y))) (qP Q st 0 s.w) (qP Q st (if s.ind > 0 then s.ind else 0) (s.w - s.ind.natAbs)) by kernel_rfl).mpr ⟨rfl,xv (fun q=>q p) fun _=>?_⟩
  unfold XQ eu at h
  have hx:(s.ind=0∨¬ (decide (k≤s.af.natAbs)=decide (s.af<0)))→qP Q st 0 s.w:=fun q=>by rwa [if_pos q,if_pos q] at h
  exact bX (fun q=>hx (.inl q)) fun q=>xv (fun r=>hx (.inr r)) fun r=>by
    have n:=not_or.mpr ⟨q,not_not_intro r⟩
    rwa [if_neg n,if_neg n] at h
def pg (g:Gl):Prop:=(M6 g.w∧M6 g.s∧M6 g.k)∧(0≤g.o∧g.o≤3)∧(g.s=0→g.o=0)
theorem MB {g:Gl}(p:pg g) (h:Q (vX g) st):ek Wt (orc uJ [] c) (.cls 227) [.int g.w,.int g.s,.int g.o,.int g.k,.int 0] st Q:=by
  obtain ⟨⟨p1,p2,p3⟩,p4,p5⟩:=p
  refine (show ek Wt (orc uJ [] c) (.cls 227) [.int g.w,.int g.s,.int g.o,.int g.k,.int 0] st Q=(fun X:Int→Prop=>(gQ [.int g.o,.int 0,.int 3]).1∧aI (!decide (0≤g.o∧g.o≤3)) False ((gQ [.int 0,.int 0,.int 3]).1∧(fD [.int g.w]).1∧(fD [.int g.s]).1∧aI (!decide (g.s=0)) (X g.o) (X 0))) (fun o=>(fD [.int g.k]).1∧aI (!decide (g.k=0)) (Q (vX { g with o:=o }) st) (Q (vX { g with o:=o }) st)) by kernel_rfl).mpr
    ⟨rfl,xv (fun q=>q p4) fun _=>⟨rfl,⟨rfl,p1⟩,⟨rfl,p2⟩,?_⟩⟩
  have x:∀ o,o=g.o→(fD [.int g.k]).1∧aI (!decide (g.k=0)) (Q (vX { g with o:=o }) st) (Q (vX { g with o:=o }) st):=fun o e=>by
    subst e; exact ⟨⟨rfl,p3⟩,xv (fun _=>h) fun _=>h⟩
  exact xv (fun _=>x _ rfl) fun q=>x _ (p5 q).symm
end
end
section
set_option maxRecDepth 10000
def a8N (e t:Int):Prop:=0≤e∧e≤1000000∧t≤1000000
noncomputable def a0L:sA:=fun a=>(a=[.int (iD 0 a),vV (v6D (B6 1 a))]∧YD (iD 0 a) (v6D (B6 1 a)),.tup [.int (fj (iD 0 a) (v6D (B6 1 a))).1,.int (fj (iD 0 a) (v6D (B6 1 a))).2])
noncomputable def Yr:sA:=fun a=>(a=[cH (stD (B6 0 a)),.int (iD 1 a),.int (iD 2 a)]∧SF (stD (B6 0 a)).linep (iD 1 a) (iD 2 a),.int (rP (stD (B6 0 a)).linep (iD 1 a) (iD 2 a)))
noncomputable def Jw:sA:=fun a=>(a=[cH (stD (B6 0 a)),.bool (bD 1 a),.bool (bD 2 a),.int (iD 3 a)],.int (g8 (stD (B6 0 a)) (bD 1 a) (bD 2 a) (iD 3 a)))
noncomputable def TX:sA:=fun a=>(a=[mJ (shD (B6 0 a))],.int (qN (shD (B6 0 a))))
noncomputable def Tj:sA:=fun a=>(a=[mJ (shD (B6 0 a)),.int (iD 1 a)]∧1≤iD 1 a∧iD 1 a≤4294967294,.tup [.int (XQ (shD (B6 0 a)) (iD 1 a)),.int (eu (shD (B6 0 a)) (iD 1 a))])
noncomputable def glA (a:List MV):Gl:=⟨iD 0 a,iD 1 a,iD 2 a,iD 3 a⟩
noncomputable def lf:sA:=fun a=>((a=[]∨a=[.int (iD 0 a),.int (iD 1 a),.int (iD 2 a),.int (iD 3 a),.int 0])∧pg (glA a),vX (glA a))
noncomputable def oT2:List (Nat × sA):=(541,a0L) :: (548,Yr) :: (555,Jw) :: (382,TX) :: (389,Tj) :: uJ
noncomputable def oC2:List (Nat × sA):=[(227,lf)]
noncomputable def bs:Nat→ms
  | 0=>ek Wt (orc uJ [] (lT Wt 3))
  | n+1=>ek Wt (orc oT2 oC2 (bs n))
noncomputable abbrev cO (n:Nat):ms:=orc oT2 oC2 (bs n)
noncomputable def orB:ms:=fun f a st Q=>bs 0 f a st Q∨lT Wt 3 f a st Q
theorem NK:j5 .fn oT2 orB :=
  .cons (fun a st Q p h=>by have e:a=_:=p.1; rw [e]; exact .inl (a1b p.2 h)) (.cons (fun a st Q p h=>by have e:a=_:=p.1; rw [e]; exact .inl (a0d p.2 h)) (.cons (fun a st Q p h=>by have e:a=_:=p; rw [e]; exact .inl (Xr h))
    (.cons (fun a st Q p h=>by have e:a=_:=p; rw [e]; exact .inl (Hh h)) (.cons (fun a st Q p h=>by have e:a=_:=p.1; rw [e]; exact .inl (Wk p.2 h)) ((OH 1).le fun _ _ _ _ h=>.inr h)))))
theorem J7:j5 .cls oC2 orB :=
  .cons (fun a st Q p h=>p.1.elim (fun e=>by
      rw [e] at p h ⊢
      exact .inl ((show ∀ c,ek Wt (orc uJ [] c) (.cls 227) [] st Q=ek Wt (orc uJ [] c) (.cls 227) [.int 0,.int 0,.int 0,.int 0,.int 0] st Q from fun c=>by kernel_rfl) _ |>.mpr (MB (g:=glA []) p.2 h))) fun e=>by rw [e]; exact .inl (MB (g:=glA a) p.2 h)) .nil
theorem rA.orc {b:Bs}{m k k':Nat}{T U:List (Nat × sA)}{c c1 c2:ms}(h:rA b Wt m c) (h1:rA b Wt k c1) (h2:rA b Wt k' c2) (e:k≤m) (e':k'≤m)
    (o1:j5 .fn T fun f a st Q=>c1 f a st Q∨c2 f a st Q) (o2:j5 .cls U fun f a st Q=>c1 f a st Q∨c2 f a st Q):rA b Wt m (orc T U c):=fun A E R f args st Q G s fv vs Φ E' w=>by
  rcases Xq o1 o2 w with w | w | w
  · exact h A E R f args st Q G s fv vs Φ E' w
  · exact h1 A E (R.less e) f args st Q G s fv vs Φ E' w
  · exact h2 A E (R.less e') f args st Q G s fv vs Φ E' w
theorem rI {b:Bs}(hW:wP b Wt):rA b Wt 4 (bs 0):=((rA.cal hW 3).orc (rA.cal hW 3) (rA.cal hW 3) (Nat.le_refl _) (Nat.le_refl _) ((OH 1).le fun _ _ _ _ h=>.inl h) .nil).step hW
theorem Pk {b:Bs}(hW:wP b Wt):∀ n,rA b Wt (n+4) (bs n)
  | 0=>rI hW
  | n+1=>((Pk hW n).orc (rI hW) (rA.cal hW 3) (by lia) (by lia) NK J7).step hW
end
section
set_option maxRecDepth 10000
set_option backward.match.sparseCases false
noncomputable def Fb:Stmt→Expr × List Stmt × List Stmt × Expr
  | .For t _ b ..=>(t,b,[],t)
  | .While t b ..=>(t,b,[],t)
  | .If t b o ..=>(t,b,o,t)
  | .Assign ts e _=>(ts.headD e,[],[],e)
  | .Return (some e) _=>(e,[],[],e)
  | _=>default
noncomputable def gh (s:Stmt):Expr:=(Fb s).1
noncomputable def cw (s:Stmt):List Stmt:=(Fb s).2.1
noncomputable def a2c (s:Stmt):List Stmt:=(Fb s).2.2.1
noncomputable def xb (s:Stmt):Expr:=(Fb s).2.2.2
noncomputable def de (n:Nat) (F:c6) (b:List Stmt):aF→St→aq→Prop:=jx Wt (cO n) ⟨F.scope,[]⟩ b
def fe (n:Nat) (F:c6) (s:Stmt) (d:Option (List MO)) (ns:List Str) (I:d8) (xs:List MV) (loc:aF) (st:St) (Q:aq):Prop :=
  Ih (jI Wt (cO n) ⟨F.scope,[]⟩ (gh s)) (de n F (cw s)) ns d I xs loc st Q
def Xn (n:Nat) (F:c6) (s:Stmt) (ns:List Str) (k:Nat) (loc:aF) (st:St) (Q:aq):Prop :=
  ox (Hp Wt (cO n) ⟨F.scope,[]⟩ (gh s) (cj Wt (cO n) ⟨F.scope,[]⟩ (gh s))) (de n F (cw s)) ns k loc st Q
noncomputable def aB (n:Nat) (F:c6) (r:List Stmt) (Q:aq):aq:=fun fl loc st=>match fl with
  | .next=>de n F r loc st Q
  | .brk=>Q .brk loc st
  | .cont=>Q .cont loc st
  | .ret v=>Q (.ret v) loc st
noncomputable def gW (n:Nat) (F:c6) (s:Stmt) (d:Option (List MO)) (ns:List Str) (I:d8) (X:List MV) (Q:aq):aq:=fun fl loc st=>match fl with
  | .next=>qg d I ns loc st fun loc st=>fe n F s d ns I X loc st Q
  | .cont=>qg d I ns loc st fun loc st=>fe n F s d ns I X loc st Q
  | .brk=>ju (cutL ns loc) fun loc=>Q .next loc st
  | .ret v=>Q (.ret v) loc st
noncomputable def cN (Q:aE) (st:St):aq:=fun fl _ s=>match fl with
  | .ret v=>ad (fz 0 s.l v) fun v=>Q v ⟨st.l,s.u⟩
  | .next=>ad (fz 0 s.l .none) fun v=>Q v ⟨st.l,s.u⟩
  | _=>False
noncomputable def Vr {α:Type}:List α→List α→List α
  | acc,[]=>acc
  | acc,x :: r=>Vr (aL acc x) r
theorem br {α:Type}(x:α):∀ l:List α,aL l x=l ++ [x]
  | []=>rfl
  | a :: r=>congrArg (a :: ·) (br x r)
theorem wH {α:Type}:∀ (r acc:List α),Vr acc r=acc ++ r
  | [],acc=>(List.append_nil acc).symm
  | x :: r,acc=>(wH r (aL acc x)).trans (by rw [br,List.append_assoc]; rfl)
theorem sy {α:Type}(r:List α):Vr [] r=r:=wH r []
theorem dA {α:Type}(l:List α) (x:α):(aL l x).length=l.length+1:=by rw [br]; exact List.length_append
theorem cE (L:NL):(cz L).length=L.length:=List.length_map _
section
variable {n:Nat}{st:St}{Q:aE}
noncomputable def a2C (L:List MV) (S:MV) (b:Bool):aF:=[(ch,.fl L),(av,S),(bz,.ref 0),(a0b,.bool true),(tL,.bool b)]
def lY (n:Nat) (L:List MV) (S:MV) (st:St) (Q:aE) (b:Bool) (acc X:List MV):Prop:=fe (n+1) cS (aa cS.body 2) none (bH (a2C [] S b)) (.enum L) X (a2C L S b) ⟨[.list acc],st.u⟩ (aB (n+1) cS (cS.body.drop 3) (cN Q st))
theorem fU {L:List MV}{S:fF}(hL:L.length≤100000):∀ (X:NL) (k:Nat) (b:Bool) (acc:List MV),k+X.length=L.length→acc.length+X.length<99999→Q (.fl (Vr acc ((aK S.hyph k b (cg X)).map QN))) st→lY n L (cH S) st Q b acc (cp k (cz X))
  | [],k,b,acc,e,hl,h=>(show lY n L (cH S) st Q b acc []=bW (L.length≤100000) (bW (acc.length<100000) (Q (.fl (aL acc (.tup [.int L.length,.int (-10000),.int 1]))) st)) by kernel_rfl).mpr (cf hL (cf (Nat.lt_of_le_of_lt (Nat.le_add_right ..) (Nat.lt_of_lt_of_le hl (by decide))) (by rw [← e]; exact h)))
  | (m,.box w) :: X,k,b,acc,e,hl,h=>(show lY n L (cH S) st Q b acc (.tup [.int k,f7 m (.box w)] :: cp (k+1) (cz X))=(True∧lY n L (cH S) st Q true acc (cp (k+1) (cz X))) by kernel_rfl).mpr ⟨⟨⟩,fU hL X _ _ _ (by rw [← e]; exact Nat.succ_add_eq_add_succ ..) (Nat.lt_of_succ_lt hl) h⟩
  | (m,.pen) :: X,k,b,acc,e,hl,h=>(show lY n L (cH S) st Q b acc (.tup [.int k,f7 m .pen] :: cp (k+1) (cz X))=(True∧lY n L (cH S) st Q false acc (cp (k+1) (cz X))) by kernel_rfl).mpr ⟨⟨⟩,fU hL X _ _ _ (by rw [← e]; exact Nat.succ_add_eq_add_succ ..) (Nat.lt_of_succ_lt hl) h⟩
  | (m,.skip g) :: X,k,b,acc,e,hl,h=>(show lY n L (cH S) st Q b acc (.tup [.int k,f7 m (.skip g)] :: cp (k+1) (cz X))=aI b (bW (acc.length<100000) (True∧lY n L (cH S) st Q false (aL acc (QN ⟨k,0,0⟩)) (cp (k+1) (cz X)))) (True∧lY n L (cH S) st Q false acc (cp (k+1) (cz X))) by kernel_rfl).mpr (by
    have e':k+1+X.length=L.length:=by rw [← e]; exact Nat.succ_add_eq_add_succ ..
    cases b with
    | true=>exact cf (Nat.lt_of_le_of_lt (Nat.le_add_right ..) (Nat.lt_of_lt_of_le hl (by decide))) ⟨⟨⟩,fU hL X _ _ _ e' (by rw [dA,Nat.succ_add_eq_add_succ]; exact hl) h⟩
    | false=>exact ⟨⟨⟩,fU hL X _ _ _ e' (Nat.lt_of_succ_lt hl) h⟩)
  | (m,.disc) :: X,k,b,acc,e,hl,h=>(show lY n L (cH S) st Q b acc (.tup [.int k,f7 m .disc] :: cp (k+1) (cz X))=aI (decide (S.hyph<10000)) (bW (acc.length<100000) (True∧lY n L (cH S) st Q true (aL acc (QN ⟨k,if (-10000:Int) > S.hyph then -10000 else S.hyph,1⟩)) (cp (k+1) (cz X)))) (True∧lY n L (cH S) st Q true acc (cp (k+1) (cz X))) by kernel_rfl).mpr (by
    have e':k+1+X.length=L.length:=by rw [← e]; exact Nat.succ_add_eq_add_succ ..
    have h:Q (.fl (Vr acc ((if S.hyph<10000 then ⟨k,if (-10000:Int) > S.hyph then -10000 else S.hyph,1⟩ :: aK S.hyph (k+1) true (cg X) else aK S.hyph (k+1) true (cg X)).map QN))) st:=h
    exact bX (fun q=>by
      rw [if_pos q] at h
      exact cf (Nat.lt_of_le_of_lt (Nat.le_add_right ..) (Nat.lt_of_lt_of_le hl (by decide))) ⟨⟨⟩,fU hL X _ _ _ e' (by rw [dA,Nat.succ_add_eq_add_succ]; exact hl) h⟩) fun q=>by
      rw [if_neg q] at h
      exact ⟨⟨⟩,fU hL X _ _ _ e' (Nat.lt_of_succ_lt hl) h⟩)
theorem SP {L:NL}{S:fF}(hl:L.length≤1000) (h:Q (.fl ((aK S.hyph 0 false (cg L)).map QN)) st):bs (n+2) (.fn 480) [.fl (cz L),cH S] st Q :=
  (show bs (n+2) (.fn 480) [.fl (cz L),cH S] st Q=lY n (cz L) (cH S) st Q false [] (cp 0 (cz L)) by kernel_rfl).mpr
    (fU (by rw [cE]; lia) L 0 false [] (by rw [cE]; exact Nat.zero_add _) (by show 0+L.length<99999; lia) (by rwa [sy]))
end
end
section
set_option maxRecDepth 10000
theorem aR {α:Type}{o:Option α}{v:α}{K:α→Prop}(e:o=some v) (h:K v):ad o K:=by rw [e]; exact h
theorem a3F {xs:List MV}{k:Nat}:bq xs (k:Int)=nth xs k:=rfl
theorem nL {α β:Type}{f:α→β}:∀ {l:List α}{k:Nat}{x:α},nth l k=some x→nth (l.map f) k=some (f x)
  | _ :: _,0,_,h=>congrArg (fun o=>o.map f) h
  | _ :: r,k+1,_,h=>nL (l:=r) h
theorem d9 {c:Bool}{K:Prop}(e:c=true) (h:K):bw c K:=by rw [e]; exact h
theorem g7 {α:Type}:∀ {l:List α}{k:Nat}{x:α}{X:List α},l.drop k=x :: X→nth l k=some x∧l.drop (k+1)=X
  | _ :: _,0,_,_,h=>⟨congrArg some (List.cons.inj h).1,(List.cons.inj h).2⟩
  | _ :: r,k+1,_,_,h=>g7 (l:=r) h
  | [],0,_,_,h=>by cases h
  | [],_+1,_,_,h=>by cases h
theorem Z1 {L:NL}{k:Nat}{p:Nat × Nd}(h:nth L k=some p):bq (cz L) (k:Int)=some (f7 p.1 p.2):=nL (f:=fun p:Nat × Nd=>f7 p.1 p.2) h
theorem MS {k:Nat}(h:k<100000):aT (.int k)=true:=(show aT (.int (k:Int))=decide ((k:Int)<100000) by kernel_rfl).trans (decide_eq_true (by lia))
section
variable {n:Nat}{st s:St}{Q:aE}
theorem Hi {m:Nat}{d:Nd}(h:Q (.bool d.drops) st):bs (n+1) (.fn 473) [f7 m d] st Q:=match d,h with
  | .box w,h=>(show bs (n+1) (.fn 473) [f7 m (.box w)] st Q=Q (.bool false) st by kernel_rfl).mpr h
  | .skip g,h=>(show bs (n+1) (.fn 473) [f7 m (.skip g)] st Q=Q (.bool true) st by kernel_rfl).mpr h
  | .pen,h=>(show bs (n+1) (.fn 473) [f7 m .pen] st Q=Q (.bool true) st by kernel_rfl).mpr h
  | .disc,h=>(show bs (n+1) (.fn 473) [f7 m .disc] st Q=Q (.bool false) st by kernel_rfl).mpr h
noncomputable def sbL (L:List MV) (k:Int):aF:=[(ch,.fl L),(cy,.int k)]
def Zs (n:Nat) (L:List MV) (st:St) (Q:aE) (k:Int) (f:Nat) (s:St):Prop:=Xn (n+1) cX (aa cX.body 1) [ch,cy] f (sbL L k) s (aB (n+1) cX (cX.body.drop 2) (cN Q st))
theorem yd {L:NL}(hL:L.length<100000):∀ (X:NL) (k:Nat) (s:St),L.drop k=X→k+X.length=L.length→Q (.int ((k+bG (cg X):Nat):Int)) ⟨st.l,s.u⟩→Zs n (cz L) st Q k (X.length+1) s
  | [],k,s,e,l,h=>(show Zs n (cz L) st Q k 1 s=bW ((cz L).length≤100000) (aI (decide ((k:Int)<(cz L).length)) (ad (bq (cz L) k) fun v=>bw (aT (.int k)) (bs (n+1) (.fn 473) [v] s fun r s=>dF r fun b=>aI b False (Q (.int k) ⟨st.l,s.u⟩))) (Q (.int k) ⟨st.l,s.u⟩)) by kernel_rfl).mpr (cf (by rw [cE]; exact Nat.le_of_lt hL) (bX (fun q=>by rw [cE,← l] at q; exact absurd q (Int.lt_irrefl _)) fun _=>h))
  | p :: X,k,s,e,l,h=>(show Zs n (cz L) st Q k (X.length+1+1) s=bW ((cz L).length≤100000) (aI (decide ((k:Int)<(cz L).length)) (ad (bq (cz L) k) fun v=>bw (aT (.int k)) (bs (n+1) (.fn 473) [v] s fun r s=>dF r fun b=>aI b (Zs n (cz L) st Q (k+1:Nat) (X.length+1) s) (Q (.int k) ⟨st.l,s.u⟩))) (Q (.int k) ⟨st.l,s.u⟩)) by kernel_rfl).mpr (cf (by rw [cE]; exact Nat.le_of_lt hL) (bX (fun q=>aR (Z1 (g7 e).1) (d9 (MS (k:=k) (by lia)) (Hi (by
    have h:Q (.int ((k+(match p.2.drops with
      | true=>bG (cg X)+1
      | false=>0):Nat):Int)) ⟨st.l,s.u⟩:=h
    show aI p.2.drops _ _
    cases e':p.2.drops with
    | true =>
      rw [e'] at h
      exact yd hL X (k+1) s (g7 e).2 (by rw [← l]; exact Nat.succ_add_eq_add_succ ..) (by rw [Nat.succ_add_eq_add_succ]; exact h)
    | false=>rw [e'] at h; exact h)))) fun q=>absurd (show (k:Int)<(cz L).length by rw [cE,← l,List.length_cons]; lia) q))
def Ix (v:MV) (k:Int) (K:Bool→Prop):Prop:=ad (jH Wt v lS ⟨[],0⟩) fun a=>ad (eY ⟨[],0⟩ .Eq a (.int k)) K
noncomputable def Nd.isDisc:Nd→Bool
  | .disc=>true
  | _=>false
theorem a4Z {m:Nat}{d:Nd}{K:Bool→Prop}(h:K d.isDisc):Ix (f7 m d) 8 K:=match d,h with
  | .box w,h=>(show Ix (f7 m (.box w)) 8 K=K false by kernel_rfl).mpr h
  | .skip g,h=>(show Ix (f7 m (.skip g)) 8 K=K false by kernel_rfl).mpr h
  | .pen,h=>(show Ix (f7 m .pen) 8 K=K false by kernel_rfl).mpr h
  | .disc,h=>(show Ix (f7 m .disc) 8 K=K true by kernel_rfl).mpr h
def Je (v:MV) (st:St) (K:Bool→Prop):Prop:=ad (jH Wt v lZ st) fun a=>ad (eY st .NotEq a (.fl [])) K
theorem a0T {m:Nat}{K:Bool→Prop}(h:K false):Je (f7 m .disc) st K:=(show Je (f7 m .disc) st K=K false by kernel_rfl).mpr h
theorem Gq {d:Nd}(h:d.isDisc=true):d=.disc:=by cases d <;> first | rfl | exact Bool.noConfusion h
theorem KZ {L:NL}{k:Nat}:(cg L)[k]?=(L[k]?).map (·.2):=List.getElem?_map ..
theorem iZ {α:Type}:∀ {l:List α}{k:Nat},nth l k=l[k]?
  | [],_=>rfl
  | _ :: _,0=>rfl
  | _ :: r,_+1=>iZ (l:=r)
theorem Jo {L:NL}{k:Nat}:cg (L.drop k)=(cg L).drop k:=List.map_drop
theorem xf {ds:List Nd}{k:Nat}(h:ds[k]?=some .disc):bM ds k=k+1+bG (ds.drop (k+1)):=by rw [bM,h]
theorem uf {ds:List Nd}{k:Nat}(h:∀ d,ds[k]?=some d→d.isDisc=false):bM ds k=k+bG (ds.drop k):=by
  unfold bM
  split
  · rename_i e; cases h _ e
  · rfl
theorem MW {L:NL}{k:Nat}(hL:L.length<100000) (hk:k≤L.length) (h:Q (.int ((k+bG ((cg L).drop k):Nat):Int)) ⟨st.l,s.u⟩):∃ f,Zs n (cz L) st Q k f s :=
  ⟨_,yd hL (L.drop k) k s rfl (by rw [List.length_drop]; exact Nat.add_sub_of_le hk) (by rw [Jo]; exact h)⟩
theorem QO {L:NL}{k:Nat}(hL:L.length<100000) (hk:k≤L.length) (h:Q (.int (bM (cg L) k)) st):bs (n+2) (.fn 487) [.fl (cz L),.int k] st Q:=by
  refine (show bs (n+2) (.fn 487) [.fl (cz L),.int k] st Q=(fun E=>bW ((cz L).length≤100000) (aI (decide ((k:Int)<(cz L).length)) (ad (bq (cz L) k) fun v=>bw (aT (.int k)) (Ix v 8 fun b=>aI b (ad (bq (cz L) k) fun v=>bw (aT (.int k)) (Je v ⟨[],st.u⟩ fun b=>aI b (Q (.int (k+1)) st) (E (k+1)))) (E k))) (E k)))
    (fun k=>∃ f,Zs n (cz L) st Q k f ⟨[],st.u⟩) by kernel_rfl).mpr (cf (by rw [cE]; exact Nat.le_of_lt hL) (bX (fun q=>?_) fun q=>?_))
  · have q:k<L.length:=by rw [cE] at q; exact Int.ofNat_lt.mp q
    have e:nth L k=some L[k]:=iZ.trans (List.getElem?_eq_getElem q)
    have e2:(cg L)[k]?=some L[k].2:=by rw [KZ,← iZ,e]; rfl
    have o:=MS (k:=k) (by lia)
    refine aR (Z1 e) (d9 o (a4Z ?_))
    cases e3:L[k].2.isDisc with
    | true =>
      rw [Gq e3] at e2
      exact aR (Z1 e) (d9 o (by
        rw [Gq e3]
        exact a0T (MW (k:=k+1) hL q (by rwa [← xf e2]))))
    | false=>exact MW hL hk (by rwa [← uf fun d e4=>by rw [e2] at e4; rw [← Option.some.inj e4]; exact e3])
  · exact MW hL hk (by rwa [← uf fun d e4=>absurd (List.getElem?_eq_some_iff.mp e4).1 fun q'=>q (by rw [cE]; exact Int.ofNat_lt.mpr (by rwa [← show (cg L).length=L.length from List.length_map _]))])
end
end
section
set_option maxRecDepth 10000
def yI:Nd→Prop
  | .skip g=>g.o=0∨g.o=1
  | _=>True
section
variable {n:Nat}{st s:St}{Q:aE}
def wI (n:Nat) (L:List MV) (st:St) (Q:aE) (v:V6) (acc X:List MV):Prop:=fe (n+1) d0 (aa d0.body 2) none [ch,Ua,bz] (.seq L) X [(ch,.fl L),(Ua,.ref 0),(bz,.ref 1)] ⟨[.list (vL v),.list acc],st.u⟩ (aB (n+1) d0 (d0.body.drop 3) (cN Q st))
theorem Rs {L X acc:List MV}{v:V6}{m:Nat}{d:Nd}(o:yI d) (hl:acc.length<100000) (h:wI (n+1) L st Q (f9 v d) (aL acc (vV (f9 v d))) X):wI (n+1) L st Q v acc (f7 m d :: X):=match d,o,h with
  | .box w,o,h=>(show wI (n+1) L st Q v acc (f7 m (.box w) :: X)=bW (acc.length<100000) (True∧wI (n+1) L st Q (f9 v (.box w)) (aL acc (vV (f9 v (.box w)))) X) by kernel_rfl).mpr (cf hl ⟨⟨⟩,h⟩)
  | .skip ⟨w,s,o',k⟩,o,h=>o.elim (fun e=>by
      obtain rfl:o'=0:=e
      exact (show wI (n+1) L st Q v acc (f7 m (.skip ⟨w,s,0,k⟩) :: X)=bW (acc.length<100000) (True∧wI (n+1) L st Q (f9 v (.skip ⟨w,s,0,k⟩)) (aL acc (vV (f9 v (.skip ⟨w,s,0,k⟩)))) X) by kernel_rfl).mpr (cf hl ⟨⟨⟩,h⟩)) fun e=>by
      obtain rfl:o'=1:=e
      exact (show wI (n+1) L st Q v acc (f7 m (.skip ⟨w,s,1,k⟩) :: X)=bW (acc.length<100000) (True∧wI (n+1) L st Q (f9 v (.skip ⟨w,s,1,k⟩)) (aL acc (vV (f9 v (.skip ⟨w,s,1,k⟩)))) X) by kernel_rfl).mpr (cf hl ⟨⟨⟩,h⟩)
  | .pen,o,h=>(show wI (n+1) L st Q v acc (f7 m .pen :: X)=bW (acc.length<100000) (True∧(fun v=>wI (n+1) L st Q v (aL acc (vV v)) X) { v with a0:=v.a0+0 }) by kernel_rfl).mpr (cf hl ⟨⟨⟩,by rw [Int.add_zero]; exact h⟩)
  | .disc,o,h=>(show wI (n+1) L st Q v acc (f7 m .disc :: X)=bW (acc.length<100000) (True∧(fun v=>wI (n+1) L st Q v (aL acc (vV v)) X) { v with a0:=v.a0+0 }) by kernel_rfl).mpr (cf hl ⟨⟨⟩,by rw [Int.add_zero]; exact h⟩)
theorem CW {L:List MV}:∀ (X:NL) (v:V6) (acc:List MV),(∀ d∈cg X,yI d)→acc.length+X.length<100000→Q (.fl (Vr acc ((uQ v (cg X)).map vV))) st→wI (n+1) L st Q v acc (cz X)
  | [],v,acc,o,hl,h=>(show wI (n+1) L st Q v acc []=Q (.fl acc) st by kernel_rfl).mpr h
  | (m,d) :: X,v,acc,o,hl,h=>Rs (o d List.mem_cons_self) (by simp only [List.length_cons] at hl; lia) (CW X (f9 v d) (aL acc (vV (f9 v d))) (fun d' h'=>o d' (List.mem_cons_of_mem _ h')) (by simp only [List.length_cons] at hl; rw [dA]; lia) h)
theorem Xp {L:NL}(o:∀ d∈cg L,yI d) (hl:L.length<99999) (h:Q (.fl ((dK (cg L)).map vV)) st):bs (n+3) (.fn 508) [.fl (cz L)] st Q :=
  (show bs (n+3) (.fn 508) [.fl (cz L)] st Q=wI (n+1) (cz L) st Q z6 [vV z6] (cz L) by kernel_rfl).mpr (CW L z6 [vV z6] o (by show 1+_<_; lia) (by rw [wH]; exact h))
end
end
section
set_option maxRecDepth 10000
section
structure sQ where
  L:NL
  S:fF
  U:List MV
  u:Nat
  Q:aq
noncomputable def sQ.loc (K:sQ):aF:=[(ch,.fl (cz K.L)),(av,cH K.S),(f4,.fl ((dK (cg K.L)).map vV)),(bz,.ref 0)]
def sQ.F (n:Nat) (K:sQ) (acc X:List MV):Prop:=fe (n) bu (aa bu.body 2) none [ch,av,f4,bz] (.seq K.U) X K.loc ⟨[.list acc],K.u⟩ K.Q
noncomputable def sQ.T (n:Nat) (K:sQ) (X:List MV):aq:=gW (n) bu (aa bu.body 2) none [ch,av,f4,bz] (.seq K.U) X K.Q
noncomputable def sQ.l (K:sQ) (b:Lb):aF:=K.loc ++ [(cy,.int b.pl),(qC,.int b.pen),(rE,.int b.sort)]
noncomputable abbrev Zq:List Stmt:=cw (aa bu.body 2)
def sQ.R (n:Nat) (K:sQ) (acc X:List MV) (b:Lb) (k:Nat) (x y:MV):Prop:=de (n) bu (Zq.drop 2) (K.l b ++ [(kj,.int k),(mC,y),(ru,x)]) ⟨[.list acc],K.u⟩ (K.T n X)
noncomputable abbrev spI:List Stmt:=cw (aa Zq 2)
def sQ.A1 (n:Nat) (K:sQ) (acc X:List MV) (b:Lb) (k:Nat) (a c:V6) (p:MV):Prop:=cO (n) (.fn 501) [p] ⟨[.list acc],K.u⟩ fun r s=>unW .USub r s fun r s=>cO (n) (.fn 515) [vV a,r] s fun v s=>de (n) bu (spI.drop 1) (K.l b ++ [(kj,.int k),(mC,vV c),(ru,v)]) s (aB (n) bu (Zq.drop 3) (K.T n X))
def sQ.A2 (n:Nat) (K:sQ) (acc X:List MV) (b:Lb) (k:Nat) (a c:V6) (p:MV):Prop:=cO (n) (.fn 501) [p] ⟨[.list acc],K.u⟩ fun r s=>cO (n) (.fn 515) [vV c,r] s fun v s=>de (n) bu [] (K.l b ++ [(kj,.int k),(mC,v),(ru,vV a)]) s (aB (n) bu (Zq.drop 3) (K.T n X))
variable {n:Nat}{K:sQ}{acc X:List MV}{b:Lb}{k:Nat}{a c:V6}
def sQ.N (n:Nat) (K:sQ) (acc X:List MV) (b:Lb) (k:Nat) (a c:V6):Prop:=bW (acc.length<100000) (True∧K.F n (aL acc (sB ⟨b.pl,b.pen,b.sort,k,a,c⟩)) X)
theorem sp0:K.F n acc (QN b :: X)=bs (n) (.fn 487) [.fl (cz K.L),.int b.pl] ⟨[.list acc],K.u⟩ (fun v s=>de (n) bu (Zq.drop 1) (K.l b ++ [(kj,v)]) s (K.T n X)):=by kernel_rfl
theorem sp1:de (n) bu (Zq.drop 1) (K.l b ++ [(kj,.int k)]) ⟨[.list acc],K.u⟩ (K.T n X)=(ad (bq ((dK (cg K.L)).map vV) k) fun x=>bw (aT (.int k)) (ad (bq ((dK (cg K.L)).map vV) b.pl) fun y=>bw (aT (.int b.pl)) (K.R n acc X b k x y))):=by kernel_rfl
theorem sp2:K.R n acc X b k (vV a) (vV c)=(bW ((cz K.L).length≤100000) (aI (decide ((b.pl:Int)<(cz K.L).length)) (aI (decide (b.sort=1)) (ad (bq (cz K.L) b.pl) fun x=>bw (aT (.int b.pl)) (ad (jH Wt x lZ ⟨[.list acc],K.u⟩) (K.A1 n acc X b k a c))) (K.N n acc X b k a c)) (K.N n acc X b k a c))):=by kernel_rfl
theorem sp3:K.A1 (n+2) acc X b k a c (.fl [])=(fun a=>ad (bq (cz K.L) b.pl) fun x=>bw (aT (.int b.pl)) (ad (jH Wt x ud ⟨[.list acc],K.u⟩) (K.A2 (n+2) acc X b k a c))) { a with a0:=a.a0+0 }:=by kernel_rfl
theorem sp4 {m:Nat}:K.A2 (n+2) acc X b k a c (.fl [rF m 3])=(True∧K.N (n+2) acc X b k a { c with a0:=c.a0+3 }):=by kernel_rfl
theorem a43 {m:Nat}{C:MV→Prop}{st:St}(h:C (.fl [rF m 3])):ad (jH Wt (f7 m .disc) ud st) C:=(show ad (jH Wt (f7 m .disc) ud st) C=C (.fl [rF m 3]) by kernel_rfl).mpr h
theorem a68 {m:Nat}{C:MV→Prop}{st:St}(h:C (.fl [])):ad (jH Wt (f7 m .disc) lZ st) C:=(show ad (jH Wt (f7 m .disc) lZ st) C=C (.fl []) by kernel_rfl).mpr h
def lR (hy:Int) (all:List Nd) (b:Lb):Prop:=(b.pl=all.length∧b.pen=-10000∧b.sort=1)∨(b.pl<all.length∧((b.sort=0∧b.pen=0∧∃ g,all[b.pl]?=some (.skip g))∨(b.sort=1∧b.pen=(if (-10000:Int) > hy then -10000 else hy)∧all[b.pl]?=some .disc∧hy<10000)))
theorem uH {α:Type}{all r:List α}{d:α}{k:Nat}(h:all.drop k=d :: r):all[k]?=some d∧all.drop (k+1)=r:=⟨by rw [← iZ]; exact (g7 h).1,(g7 h).2⟩
theorem ky {hy:Int}{k:Nat}{b:Bool}{r:List Nd}:aK hy k b (.disc :: r)=if hy<10000 then ⟨k,if (-10000:Int) > hy then -10000 else hy,1⟩ :: aK hy (k+1) true r else aK hy (k+1) true r:=rfl
theorem iy {hy:Int}{all:List Nd}:∀ (ds:List Nd) (k:Nat) (bh:Bool),k+ds.length=all.length→all.drop k=ds→∀ b∈aK hy k bh ds,lR hy all b
  | [],k,bh,h,e,b,hb=>.inl (by rw [List.mem_singleton.mp hb]; exact ⟨h,rfl,rfl⟩)
  | d :: r,k,bh,h,e,b,hb=>by
    have h':k+1+r.length=all.length:=(Nat.succ_add_eq_add_succ ..).trans h
    have e':=uH e
    have ih:=fun bh=>iy (hy:=hy) r (k+1) bh h' e'.2 b
    have hk:k<all.length:=(List.getElem?_eq_some_iff.mp e'.1).1
    have e3:=e'.1
    cases d with
    | box w=>exact ih _ hb
    | pen=>exact ih _ hb
    | skip g=>cases bh with
      | false=>exact ih _ hb
      | true=>exact (List.mem_cons.mp hb).elim (fun q=>.inr (by rw [q]; exact ⟨hk,.inl ⟨rfl,rfl,g,e3⟩⟩)) (ih _)
    | disc =>
      by_cases q:hy<10000
      · rw [ky,if_pos q] at hb
        exact (List.mem_cons.mp hb).elim (fun u=>.inr (by rw [u]; exact ⟨hk,.inr ⟨rfl,rfl,e3,q⟩⟩)) (ih _)
      · rw [ky,if_neg q] at hb
        exact ih _ hb
theorem pz:∀ ds:List Nd,bG ds≤ds.length
  | []=>Nat.le_refl _
  | d :: r=>by
    show (match d.drops with
      | true=>bG r+1
      | false=>0)≤_
    cases d.drops with
    | true=>exact Nat.succ_le_succ (pz r)
    | false=>exact Nat.zero_le _
theorem tm {ds:List Nd}{k:Nat}(h:k≤ds.length):k+bG (ds.drop k)≤ds.length:=by
  have:=pz (ds.drop k)
  rw [List.length_drop] at this
  lia
theorem HU {ds:List Nd}{k:Nat}(h:k≤ds.length):bM ds k≤ds.length:=by
  unfold bM
  split
  · rename_i e; exact tm (List.getElem?_eq_some_iff.mp e).1
  · exact tm h
theorem qB:∀ (ds:List Nd) (v:V6),(uQ v ds).length=ds.length
  | [],_=>rfl
  | _ :: r,_=>congrArg (·+1) (qB r _)
theorem On {ds:List Nd}{k:Nat}{C:MV→Prop}(h:k≤ds.length) (c:C (vV ((dK ds).getD k z6))):ad (bq ((dK ds).map vV) (k:Int)) C:=by
  have h':k<(dK ds).length:=Nat.lt_succ_of_le (by rw [qB]; exact h)
  refine aR (nL (f:=vV) (iZ.trans (List.getElem?_eq_getElem h'))) ?_
  rwa [List.getD_eq_getElem?_getD,List.getElem?_eq_getElem h'] at c
theorem fM (L:NL):(cg L).length=L.length:=List.length_map _
theorem RI (hL:K.L.length<100000) (ha:acc.length<100000) (hb:lR K.S.hyph (cg K.L) b) (h:K.F (n+2) (aL acc (sB (a9 (cg K.L) b))) X):K.F (n+2) acc (QN b :: X):=by
  have hl:=fM K.L
  have hp:b.pl≤(cg K.L).length:=hb.elim (fun q=>Nat.le_of_eq q.1) fun q=>Nat.le_of_lt q.1
  have hs:=HU hp
  have N0:∀ {a c},K.F (n+2) (aL acc (sB ⟨b.pl,b.pen,b.sort,bM (cg K.L) b.pl,a,c⟩)) X→K.N (n+2) acc X b (bM (cg K.L) b.pl) a c:=fun h=>cf ha ⟨⟨⟩,h⟩
  have o1:aT (.int b.pl)=true:=MS (by lia)
  refine sp0.mpr (QO hL (by lia) (sp1.mpr (On hs (d9 (MS (by lia)) (On hp (d9 o1 (sp2.mpr (cf (by rw [cE]; lia) (bX (fun q=>bX (fun r=>?_) fun r=>?_) fun q=>?_)))))))))
  all_goals rw [cE,← hl] at q
  · have q':b.pl<(cg K.L).length:=by lia
    obtain ⟨m,e⟩:∃ m,nth K.L b.pl=some (m,.disc):=by
      have e:(cg K.L)[b.pl]?=some .disc:=by
        rcases hb with u | ⟨_,u | u⟩
        · lia
        · lia
        · exact u.2.2.1
      rw [KZ,← iZ] at e
      obtain ⟨⟨m,d⟩,e1,e2⟩:=Option.map_eq_some_iff.mp e
      obtain rfl:d=.disc:=e2
      exact ⟨m,e1⟩
    rw [a9,if_pos ⟨q',r⟩] at h
    exact aR (Z1 e) (d9 o1 (a68 (sp3.mpr (aR (Z1 e) (d9 o1 (a43 (sp4.mpr ⟨⟨⟩,N0 h⟩)))))))
  · rw [a9,if_neg (fun u=>r u.2)] at h
    exact N0 h
  · rw [a9,if_neg (fun u=>q (by lia))] at h
    exact N0 h
theorem Dd (hL:K.L.length<100000):∀ (bs:List Lb) (acc:List MV),(∀ b∈bs,lR K.S.hyph (cg K.L) b)→acc.length+bs.length<100000→K.Q .next K.loc ⟨[.list (Vr acc (bs.map fun b=>sB (a9 (cg K.L) b)))],K.u⟩→K.F (n+2) acc (bs.map QN)
  | [],acc,_,_,h=>h
  | b :: r,acc,hb,hl,h=>RI hL (by simp only [List.length_cons] at hl; lia) (hb b List.mem_cons_self) (Dd hL r _ (fun c m=>hb c (List.mem_cons_of_mem _ m)) (by simp only [List.length_cons] at hl; rw [dA]; lia) h)
theorem f6 (hy:Int):∀ (ds:List Nd) (k:Nat) (b:Bool),(aK hy k b ds).length≤ds.length+1
  | [],_,_=>Nat.le_refl _
  | .box _ :: r,k,_=>Nat.le_succ_of_le (f6 hy r (k+1) true)
  | .pen :: r,k,_=>Nat.le_succ_of_le (f6 hy r (k+1) false)
  | .skip _ :: r,k,false=>Nat.le_succ_of_le (f6 hy r (k+1) false)
  | .skip _ :: r,k,true=>Nat.succ_le_succ (f6 hy r (k+1) false)
  | .disc :: r,k,b=>by
    show (if hy<10000 then (⟨k,if (-10000:Int) > hy then -10000 else hy,1⟩:Lb) :: aK hy (k+1) true r else aK hy (k+1) true r).length≤_
    split
    · exact Nat.succ_le_succ (f6 hy r (k+1) true)
    · exact Nat.le_succ_of_le (f6 hy r (k+1) true)
def spE (m:Nat) (L:List MV) (S:MV) (st:St) (Q:aE) (v:MV) (s:St):Prop:=de m bu (bu.body.drop 1) [(ch,.fl L),(av,S),(f4,v)] s (cN Q st)
theorem Rx {L:NL}{S:fF}{st:St}{Q:aE}(o:∀ d∈cg L,yI d) (hl:L.length<1000) (h:Q (.fl ((aK S.hyph 0 false (cg L)).map fun b=>sB (a9 (cg L) b))) st):bs (n+4) (.fn 522) [.fl (cz L),cH S] st Q :=
  (show ∀ m,bs (m+1) (.fn 522) [.fl (cz L),cH S] st Q=bs m (.fn 508) [.fl (cz L)] ⟨[],st.u⟩ (spE m (cz L) (cH S) st Q) from fun m=>by kernel_rfl) (n+3) |>.mpr
    (Xp o (by lia) ((show ∀ m U,spE m (cz L) (cH S) st Q (.fl U) ⟨[],st.u⟩=bs m (.fn 480) [.fl (cz L),cH S] ⟨[.list []],st.u⟩ (fun v s=>ad (iL s v) fun I=>bw (Wn I (gh (aa bu.body 2))) (fe m bu (aa bu.body 2) none [ch,av,f4,bz] I (bU I) [(ch,.fl (cz L)),(av,cH S),(f4,.fl U),(bz,.ref 0)] s (aB m bu (bu.body.drop 3) (cN Q st)))) from fun m U=>by kernel_rfl) (n+3) _ |>.mpr
      (SP (by lia) (Dd (K:=⟨L,S,(aK S.hyph 0 false (cg L)).map QN,st.u,_⟩) (by show L.length<_; lia) (aK S.hyph 0 false (cg L)) [] (iy _ 0 false (Nat.zero_add _) rfl) (by have:=f6 S.hyph (cg L) 0 false; rw [fM] at this; show 0+_<_; lia)
        ((show ∀ m K X,aB m bu (bu.body.drop 3) (cN Q st) .next (sQ.loc K) ⟨[.list X],st.u⟩=Q (.fl X) st from fun m K X=>by kernel_rfl) (n+3) ⟨L,S,[],0,cN Q st⟩ _ |>.mpr (by rw [sy]; exact h))))))
end
end
section
set_option maxRecDepth 10000
section
structure WX where
  t:TP
  sp:Sp
  e:Bool
  U:List MV
  u:Nat
  Q:aq
noncomputable def WX.base (K:WX):aF:=[(DV,Qf K.t),(oG,sB K.sp),(uZ,.fl K.U),(Nr,.bool K.e),(cy,.int K.sp.pl),(qC,.int K.sp.pen),(rE,.int K.sp.sort),(mC,vV K.sp.e),(av,cH K.t.S),(ia,.ref 2),(gF,.ref 1),(XK,.ref 0)]
noncomputable def WX.h (K:WX) (kv:List MV) (bv lv:List (Int × MV)) (J:List MO):St:=⟨.list kv :: .idict bv :: .idict lv :: J,K.u⟩
noncomputable abbrev wxD:Option (List MO):=some [.list [],.idict [],.idict []]
def WX.F (n:Nat) (K:WX) (X:List MV) (kv:List MV) (bv lv:List (Int × MV)):Prop:=fe n ax (aa ax.body 3) wxD (bH K.base) (.enum K.U) X K.base (K.h kv bv lv []) K.Q
noncomputable def WX.T (n:Nat) (K:WX) (X:List MV):aq:=gW n ax (aa ax.body 3) wxD (bH K.base) (.enum K.U) X K.Q
noncomputable abbrev wxB:List Stmt:=cw (aa ax.body 3)
structure WT where
  X:List MV
  i:Nat
  w:Wy
  v:V6
  bf:Int × Int
noncomputable def WX.l (K:WX) (t:WT) (rs:Bool):aF:=K.base ++ [(pC,.int t.i),(G7,bV t.w),(ff,.int (t.w.line+1)),(f4,vV t.v),(a2k,.int t.bf.1),(jF,.int t.bf.2),(tG,.bool rs)]
variable {n:Nat}{K:WX}{X:List MV}{i:Nat}{w:Wy}{v:V6}{bf:Int × Int}{rs:Bool}{t:WT}{kv:List MV}{bv lv:List (Int × MV)}{J:List MO}{dem:Int}{tw:Option Bool}
def WX.R (j:Nat) (n:Nat) (K:WX) (t:WT) (rs:Bool) (kv:List MV) (bv lv:List (Int × MV)) (J:List MO):Prop:=de n ax (wxB.drop j) (K.l t rs) (K.h kv bv lv J) (K.T n t.X)
noncomputable def twL (dem:Int):Option Bool→aF
  | none=>[(f5,.int dem)]
  | some b=>[(f5,.int dem),(wu,.bool b)]
def WX.R8 (n:Nat) (K:WX) (t:WT) (rs:Bool) (kv:List MV) (bv lv:List (Int × MV)) (J:List MO) (dem:Int) (tw:Option Bool):Prop:=de n ax (wxB.drop 8) (K.l t rs ++ twL dem tw) (K.h kv bv lv J) (K.T n t.X)
noncomputable def WX.gr (K:WX) (t:WT):Int:=eU (t.w.line+1) (dG K.t.S K.t.sh+1)
def WX.R10 (n:Nat) (K:WX) (t:WT) (rs:Bool) (kv:List MV) (bv lv:List (Int × MV)) (J:List MO) (dem:Int) (tw:Option Bool) (old:MV):Prop:=de n ax (wxB.drop 10) (K.l t rs ++ twL dem tw ++ [(SY,.int (K.gr t)),(a1D,old)]) (K.h kv bv lv J) (K.T n t.X)
def WX.P (n:Nat) (K:WX) (t:WT) (kv:List MV) (bv lv:List (Int × MV)):Prop:=(True∧True∧True∧True)∧True∧K.F n t.X kv bv lv
theorem a6U {r:aF}:K.T n t.X .next (K.base ++ r) (K.h kv bv lv J)=K.P n t kv bv lv:=by kernel_rfl
theorem a4T {r:aF}:K.T n t.X .cont (K.base ++ r) (K.h kv bv lv J)=K.P n t kv bv lv:=by kernel_rfl
theorem w1:K.F (n+1) (.tup [.int i,bV w] :: X) kv bv lv=(fun (G:V6→Prop) V=>aI (decide ((w.sp.start:Int) > K.sp.pl)) (G K.t.g) (V (G (jM w.sp.b K.sp.e K.t.g)))) (fun v=>(Tj [mJ K.t.sh,.int (w.line+1)]).1∧(a0L [.int (eu K.t.sh (w.line+1)),vV v]).1∧K.R 4 (n+1) ⟨X,i,w,v,fj (eu K.t.sh (w.line+1)) v⟩ false kv bv lv []) (fun V=>True∧True∧True∧True∧True∧True∧V):=by kernel_rfl
theorem w4:K.R 4 n t false kv bv lv []=(fun T E=>aI (decide (t.bf.1 > 10000)) T (aI (decide (K.sp.pen=-10000)) T E))
    (aI K.t.last (ad (eY (K.h kv bv lv []) .Eq (.ref 0) (.fl [])) fun c=>aI c (ad (eY (K.h kv bv lv [.idict []]) .Eq (.ref 1) (.ref 3)) fun c=>aI c (bW (K.U.length≤100000) (K.R 5 n t (decide ((t.i:Int)=(K.U.length:Int) - 1)) kv bv lv [.idict []])) (K.R 5 n t c kv bv lv [.idict []])) (K.R 5 n t c kv bv lv [])) (K.R 5 n t K.t.last kv bv lv []))
    (bW (kv.length<100000) (K.R 5 n t false (aL kv (bV t.w)) bv lv [])):=by kernel_rfl
theorem w5:K.R 5 n t rs kv bv lv J=(fun E=>aI (decide (t.bf.1 > K.t.most)) (aI (!rs) (K.P n t kv bv lv) E) E)
    (aI (!rs) ((fun D=>aI (decide (K.sp.sort=1)) (D (decide (t.w.sp.sort=1))) (D (decide (K.sp.sort=1)))) fun tw=>(Yr [cH K.t.S,.int t.bf.1,.int K.sp.pen]).1∧(Jw [cH K.t.S,.bool tw,.bool K.e,.int (t.bf.2 - t.w.fit).natAbs]).1∧K.R8 n t rs kv bv lv J (t.w.dem+(rP K.t.S.linep t.bf.1 K.sp.pen+g8 K.t.S tw K.e (t.bf.2 - t.w.fit).natAbs)) (some tw))
      (K.R8 n t rs kv bv lv J t.w.dem none)):=by kernel_rfl
theorem w8:K.R8 n t rs kv bv lv J dem tw=K.R10 n t rs kv bv lv J dem tw ((ah (4 * K.gr t+t.bf.2) bv).getD .none):=by cases tw <;> kernel_rfl
def WX.put (n:Nat) (K:WX) (t:WT) (kv:List MV) (bv lv:List (Int × MV)) (dem:Int):Prop:=bW (bv.length<100000) (ad (ga ((ah (K.gr t) lv).getD (.int dem))) fun y=>bW (lv.length<100000) (K.P n t kv (cn (4 * K.gr t+t.bf.2) (.tup [.int dem,bV t.w,.int (t.w.line+1)]) bv) (cn (K.gr t) (.int (if y<dem then y else dem)) lv)))
noncomputable def jL:Bool→List MO
  | true=>[.idict []]
  | false=>[]
theorem a5s {j:Bool}:K.R10 n t rs kv bv lv (jL j) dem tw .none=K.put n t kv bv lv dem:=by cases tw <;> cases j <;> kernel_rfl
theorem a42 {j:Bool}{d:Int}{x y:MV}:K.R10 n t rs kv bv lv (jL j) dem tw (.tup [.int d,x,y])=aI (decide (dem≤d)) (K.put n t kv bv lv dem) (K.P n t kv bv lv):=by cases tw <;> cases j <;> kernel_rfl
end
end
section
set_option maxRecDepth 10000
theorem aC {α:Type}{C:α→Prop}{p:Prop} [Decidable p] {a b:α}(h1:p→C a) (h2:¬ p→C b):C (if p then a else b):=by
  by_cases h:p
  · rw [if_pos h]; exact h1 h
  · rw [if_neg h]; exact h2 h
section
variable {α β:Type}{f:α→β}{k k':Int}{v:α}
theorem cD:∀ {l:List (Int × α)},ah k (l.map fun p=>(p.1,f p.2))=(ah k l).map f
  | []=>rfl
  | (a,b) :: r=>by
    show (if a=k then some (f b) else ah k (r.map fun p=>(p.1,f p.2)))=(if a=k then some b else ah k r).map f
    rw [cD (l:=r)]
    exact aC (C:=fun o=>o=(if a=k then some b else ah k r).map f) (fun h=>by rw [if_pos h]; rfl) fun h=>by rw [if_neg h]
theorem kS:∀ {l:List (Int × α)},cn k (f v) (l.map fun p=>(p.1,f p.2))=(cn k v l).map fun p=>(p.1,f p.2)
  | []=>rfl
  | (a,b) :: r=>by
    show (if a=k then (a,f v) :: r.map (fun p=>(p.1,f p.2)) else (a,f b) :: cn k (f v) (r.map fun p=>(p.1,f p.2)))=(if a=k then (a,v) :: r else (a,b) :: cn k v r).map fun p=>(p.1,f p.2)
    rw [kS (l:=r)]
    exact aC (C:=fun o=>o=(if a=k then (a,v) :: r else (a,b) :: cn k v r).map fun p=>(p.1,f p.2)) (fun h=>by rw [if_pos h]; rfl) fun h=>by rw [if_neg h]; rfl
theorem jp {a:Int}{b:α}{r:List (Int × α)}:ah k ((a,b) :: r)=if a=k then some b else ah k r:=rfl
theorem mt {a:Int}{b:α}{r:List (Int × α)}:cn k v ((a,b) :: r)=if a=k then (a,v) :: r else (a,b) :: cn k v r:=rfl
theorem bN:∀ {l:List (Int × α)},ah k' (cn k v l)=if k'=k then some v else ah k' l
  | []=>aC (C:=fun o=>o=if k'=k then some v else none) (fun h=>(if_pos h.symm).symm) fun h=>(if_neg fun e=>h e.symm).symm
  | (a,b) :: r=>by
    by_cases e:a=k
    · rw [mt,if_pos e,jp,jp]
      by_cases e':k'=k
      · rw [if_pos (e.trans e'.symm),if_pos e']
      · have n:a≠k':=fun q=>e' (q.symm.trans e)
        rw [if_neg n,if_neg e',if_neg n]
    · rw [mt,if_neg e,jp,jp,bN (l:=r)]
      by_cases e':a=k'
      · rw [if_pos e',if_pos e',if_neg fun q=>e (e'.trans q)]
      · rw [if_neg e',if_neg e']
theorem fy:∀ {l:List (Int × α)},k'∈(cn k v l).map (·.1)→k'=k∨k'∈l.map (·.1)
  | [],h=>.inl (List.mem_singleton.mp h)
  | (a,b) :: r,h=>by
    by_cases e:a=k
    · rw [mt,if_pos e] at h; exact .inr h
    · rw [mt,if_neg e] at h
      exact (List.mem_cons.mp h).elim (fun q=>.inr (List.mem_cons.mpr (.inl q))) fun q=>(fy q).imp_right fun q=>List.mem_cons_of_mem _ q
theorem lx:∀ {l:List (Int × α)},(l.map (·.1)).Nodup→((cn k v l).map (·.1)).Nodup
  | [],_=>List.nodup_cons.mpr ⟨List.not_mem_nil,List.nodup_nil⟩
  | (a,b) :: r,h=>by
    by_cases e:a=k
    · rw [mt,if_pos e]; exact h
    · rw [mt,if_neg e]
      exact List.nodup_cons.mpr ⟨fun hm=>(fy hm).elim e (List.nodup_cons.mp h).1,lx (List.nodup_cons.mp h).2⟩
theorem rn:∀ l:List (Int × α),(cn k v l).length≤l.length+1
  | []=>Nat.le_refl _
  | (a,b) :: r=>aC (C:=fun l=>List.length l≤r.length+2) (fun _=>Nat.le_succ _) fun _=>Nat.succ_le_succ (rn r)
theorem uP (c:Int):∀ (n:Nat) (l:List Int),l.Nodup→(∀ k∈l,c≤k∧k<c+n)→l.length≤n
  | 0,[],_,_=>Nat.le_refl _
  | 0,k :: r,_,hb=>by have:=hb k List.mem_cons_self; lia
  | n+1,l,h,hb=>by
    by_cases hm:(c+n)∈l
    · have:=uP c n (l.erase (c+n)) (h.erase _) fun k hk=>by
        obtain ⟨h1,h2⟩:=(h.mem_erase_iff).mp hk
        have:=hb k h2
        lia
      rw [List.length_erase_of_mem hm] at this
      exact Nat.le_add_of_sub_le this
    · exact Nat.le_succ_of_le (uP c n l h fun k hk=>⟨(hb k hk).1,by
        have:=hb k hk
        have:k≠c+n:=fun e=>hm (e ▸ hk)
        lia⟩)
end
theorem ZE {r:Int}(r0:0≤r) (h:r≤1290):(0≤r * r∧r * r≤1664100)∧0≤r * r * r∧r * r * r≤2146689000:=by
  have a:=Int.mul_nonneg r0 r0
  have b:r * r≤1290 * 1290:=Int.mul_le_mul h h r0 (by decide)
  exact ⟨⟨a,b⟩,Int.mul_nonneg a r0,Int.mul_le_mul b h r0 (by decide)⟩
theorem Nh {e t:Int}(he:0≤e):0≤gb e t∧gb e t≤10000:=by
  unfold gb Ky
  refine aC (C:=fun x=>0≤x∧x≤(10000:Int)) (fun _=>by decide) fun _=>aC (C:=fun x=>0≤x∧x≤(10000:Int)) (fun _=>by decide) fun h=>aC (C:=fun x=>0≤x∧x≤(10000:Int)) (fun _=>by decide) fun h2=>?_
  have:=(ZE (oV he (by omega)) (Int.not_lt.mp h2)).2
  rw [Int.fdiv_eq_ediv_of_nonneg _ (by decide)]
  omega
theorem pE (w:Int) (v:V6):(0≤(fj w v).1∧(fj w v).1≤10001)∧0≤(fj w v).2∧(fj w v).2≤3:=by
  have g:∀ {p:Prop} [Decidable p] {a b:Int},(0≤a∧a≤3)→(0≤b∧b≤3)→0≤(if p then a else b)∧(if p then a else b)≤3:=fun h k=>aC (C:=fun x=>0≤x∧x≤3) (fun _=>h) fun _=>k
  have bd:∀ {e t:Int},0≤e→0≤gb e t∧gb e t≤10001:=fun h=>⟨(Nh h).1,Int.le_trans (Nh h).2 (by decide)⟩
  refine aC (C:=fun q:Int × Int=>(0≤q.1∧q.1≤10001)∧0≤q.2∧q.2≤3) (fun h=>aC (C:=fun q:Int × Int=>(0≤q.1∧q.1≤10001)∧0≤q.2∧q.2≤3) (fun _=>by decide) fun _=>⟨bd (Int.le_of_lt h),g (by decide) (g (by decide) (by decide))⟩) fun h=>aC (C:=fun q:Int × Int=>(0≤q.1∧q.1≤10001)∧0≤q.2∧q.2≤3) (fun _=>by decide) fun _=>⟨bd (by lia),g (by decide) (by decide)⟩
noncomputable def Xv (t:TP) (line fit dem:Int) (w:Wy) (s:LS):LS :=
  ⟨s.kept,cn (4 * eU line (dG t.S t.sh+1)+fit) (dem,w,line) s.best,cn (eU line (dG t.S t.sh+1)) (eU dem ((ah (eU line (dG t.S t.sh+1)) s.least).getD dem)) s.least⟩
noncomputable def JJ (b:Bst) (k dem:Int):Bool:=match ah k b with
  | none=>true
  | some (d,_,_)=>decide (dem≤d)
theorem kD (t:TP) (line fit dem:Int) (w:Wy) (s:LS):jO t line fit dem w s=if JJ s.best (4 * eU line (dG t.S t.sh+1)+fit) dem=true then Xv t line fit dem w s else s:=rfl
theorem QU {C:LS→Prop}{t:TP}{sp:Sp}{e:Bool}{len i:Nat}{w:Wy}{u:LS}
    (h:∀ u',(u'=u∨u'={ u with kept:=u.kept ++ [w] })→C u'∧∀ dem,C (Xv t (w.line+1) (fj (eu t.sh (w.line+1)) (jM w.sp.b sp.e t.g)).2 dem w u')):C (iK t sp e len i w u):=by
  have g:∀ {rs u'},(u'=u∨u'={ u with kept:=u.kept ++ [w] })→C (fY t sp e (w.line+1) (fj (eu t.sh (w.line+1)) (jM w.sp.b sp.e t.g)).1 (fj (eu t.sh (w.line+1)) (jM w.sp.b sp.e t.g)).2 rs w u'):=fun {rs u'} q =>
    aC (C:=C) (fun _=>(h u' q).1) fun _=>by rw [kD]; exact aC (fun _=>(h u' q).2 _) fun _=>(h u' q).1
  exact aC (C:=C) (fun _=>g (.inl rfl)) fun _=>g (.inr rfl)
structure I1 (i:Nat) (u:LS):Prop where
  keys:∀ k:Int,k∈u.best.map (·.1)→(4≤k∧k<4+(60:Nat))∧(ah (k.fdiv 4) u.least).isSome=true
  nd:(u.best.map (·.1)).Nodup
  kept:u.kept.length≤i
  least:u.least.length≤i
theorem I1.best {i:Nat}{u:LS}(h:I1 i u):u.best.length≤60:=by
  have:=uP 4 60 _ h.nd fun k m=>(h.keys k m).1
  rwa [List.length_map] at this
theorem Mc (S:fF) (sh:Sh):0≤dG S sh:=aC (C:=fun x:Int=>0≤x) (fun _=>aC (C:=fun x:Int=>0≤x) (fun _=>Int.natCast_nonneg _) fun _=>Int.le_refl _) fun _=>by decide
theorem R9 {a b:Int}(h:1≤a) (h':a≤15) (k:1≤b):1≤eU a b∧eU a b≤15:=aC (C:=fun x=>1≤x∧x≤(15:Int)) (fun q=>⟨k,Int.le_trans (Int.le_of_lt q) h'⟩) fun _=>⟨h,h'⟩
theorem I1.turn {t:TP}{sp:Sp}{e:Bool}{len i j:Nat}{w:Wy}{u:LS}(h:I1 i u) (h1:0≤w.line) (h2:w.line≤14):I1 (i+1) (iK t sp e len j w u):=by
  refine QU fun u' q=>?_
  have o:I1 (i+1) u':=q.elim (fun q=>by rw [q]; exact ⟨h.keys,h.nd,Nat.le_succ_of_le h.kept,Nat.le_succ_of_le h.least⟩) fun q=>by
    rw [q]
    exact ⟨h.keys,h.nd,by rw [List.length_append]; exact Nat.succ_le_succ h.kept,Nat.le_succ_of_le h.least⟩
  have ol:u'.least.length≤i:=q.elim (fun q=>by rw [q]; exact h.least) fun q=>by rw [q]; exact h.least
  have hf:=(pE (eu t.sh (w.line+1)) (jM w.sp.b sp.e t.g)).2
  have hg:=R9 (a:=w.line+1) (b:=dG t.S t.sh+1) (by lia) (by lia) (by have:=Mc t.S t.sh; lia)
  refine ⟨o,fun dem=>⟨fun k m=>?_,lx o.nd,o.kept,Nat.le_trans (rn _) (Nat.succ_le_succ ol)⟩⟩
  show _∧(ah (k.fdiv 4) (cn (eU (w.line+1) (dG t.S t.sh+1)) _ u'.least)).isSome=true
  rw [bN]
  rcases fy m with e | m
  · refine ⟨by lia,?_⟩
    rw [if_pos (by rw [e,Int.fdiv_eq_ediv_of_nonneg _ (by decide)]; lia)]
    rfl
  · exact ⟨(o.keys k m).1,aC (C:=fun o=>Option.isSome o=true) (fun _=>rfl) fun _=>(o.keys k m).2⟩
end
section
set_option maxRecDepth 10000
section
def WX.G (n:Nat) (K:WX) (X:List MV) (u:LS):Prop:=K.F n X (u.kept.map bV) (lB u.best) (a7 u.least)
variable {n:Nat}{K:WX}{X:List MV}{i:Nat}{w:Wy}{rs:Bool}{t:WT}{j:Bool}{dem:Int}{tw:Option Bool}{u:LS}
theorem nT {a b:Prop}(h:b):aI (!true) a b:=h
theorem nF {a b:Prop}(h:a):aI (!false) a b:=h
theorem iT {a b:Prop}(h:a):aI true a b:=h
theorem iF {a b:Prop}(h:b):aI false a b:=h
theorem ke {α β:Type}{f:α→β}{l:List α}{n:Nat}(h:l.length<n):(l.map f).length<n:=by rwa [List.length_map]
theorem gP (h:K.G n t.X u):K.P n t (u.kept.map bV) (lB u.best) (a7 u.least):=⟨⟨⟨⟩,⟨⟩,⟨⟩,⟨⟩⟩,⟨⟩,h⟩
theorem MF (o:Option Int) (d:Int):ga ((o.map MV.int).getD (.int d))=some (o.getD d):=by cases o <;> rfl
theorem ME (hb:u.best.length<100000) (hl:u.least.length<100000) (h:K.G n t.X (Xv K.t (t.w.line+1) t.bf.2 dem t.w u)):K.put n t (u.kept.map bV) (lB u.best) (a7 u.least) dem:=by
  refine cf (ke hb) (aR (by rw [a7,cD,MF]) (cf (ke hl) ?_))
  rw [lB,kS (f:=fun q:Int × Wy × Int=>MV.tup [.int q.1,bV q.2.1,.int q.2.2]) (v:=(dem,t.w,t.w.line+1)),a7,kS (f:=MV.int)]
  exact gP h
theorem Pw (hb:u.best.length<100000) (hl:u.least.length<100000) (h:K.G n t.X (jO K.t (t.w.line+1) t.bf.2 dem t.w u)):K.R8 n t rs (u.kept.map bV) (lB u.best) (a7 u.least) (jL j) dem tw:=by
  rw [kD,JJ] at h
  rw [w8,lB,cD (f:=fun q:Int × Wy × Int=>MV.tup [.int q.1,bV q.2.1,.int q.2.2])]
  cases e:ah (4 * K.gr t+t.bf.2) u.best with
  | none =>
    rw [show ah (4 * eU (t.w.line+1) (dG K.t.S K.t.sh+1)+t.bf.2) u.best=none from e,if_pos rfl] at h
    exact a5s.mpr (ME hb hl h)
  | some q =>
    rw [show ah (4 * eU (t.w.line+1) (dG K.t.S K.t.sh+1)+t.bf.2) u.best=some q from e] at h
    refine a42.mpr (bX (fun r=>ME hb hl ?_) fun r=>gP ?_)
    · rwa [if_pos (decide_eq_true r)] at h
    · rwa [if_neg (fun q=>r (of_decide_eq_true q))] at h
theorem I0 (hb:u.best.length<100000) (hl:u.least.length<100000) (p:SF K.t.S.linep t.bf.1 K.sp.pen) (h:K.G n t.X (fY K.t K.sp K.e (t.w.line+1) t.bf.1 t.bf.2 rs t.w u)):K.R 5 n t rs (u.kept.map bV) (lB u.best) (a7 u.least) (jL j):=by
  have g:K.G n t.X (jO K.t (t.w.line+1) t.bf.2 (Sn K.t K.sp K.e t.w t.bf.1 t.bf.2 rs) t.w u)→aI (!rs) ((fun D=>aI (decide (K.sp.sort=1)) (D (decide (t.w.sp.sort=1))) (D (decide (K.sp.sort=1)))) fun tw=>(Yr [cH K.t.S,.int t.bf.1,.int K.sp.pen]).1∧(Jw [cH K.t.S,.bool tw,.bool K.e,.int (t.bf.2 - t.w.fit).natAbs]).1∧K.R8 n t rs (u.kept.map bV) (lB u.best) (a7 u.least) (jL j) (t.w.dem+(rP K.t.S.linep t.bf.1 K.sp.pen+g8 K.t.S tw K.e (t.bf.2 - t.w.fit).natAbs)) (some tw))
      (K.R8 n t rs (u.kept.map bV) (lB u.best) (a7 u.least) (jL j) t.w.dem none):=fun h=>by
    unfold Sn twF at h
    cases rs with
    | true=>exact nT (Pw hb hl h)
    | false=>exact nF (bX (fun r=>⟨⟨rfl,p⟩,rfl,Pw hb hl (by rwa [if_pos r] at h)⟩) fun r=>⟨⟨rfl,p⟩,rfl,Pw hb hl (by rw [if_neg r] at h; rw [decide_eq_false r]; exact h)⟩)
  unfold fY at h
  refine w5.mpr (bX (fun r=>?_) fun r=>g (by rwa [if_neg fun q=>r q.1] at h))
  cases rs with
  | true=>exact nT (g (by rwa [if_neg fun q=>Bool.noConfusion q.2] at h))
  | false=>exact nF (gP (by rwa [if_pos ⟨r,rfl⟩] at h))
theorem WO {kv:List MV}{bv lv:List (Int × MV)}:eY (K.h kv bv lv []) .Eq (.ref 0) (.fl [])=some kv.isEmpty:=by cases kv <;> kernel_rfl
theorem YV {kv:List MV}{bv lv:List (Int × MV)}:eY (K.h kv bv lv [.idict []]) .Eq (.ref 1) (.ref 3)=some bv.isEmpty:=by cases bv <;> kernel_rfl
theorem a3r (hU:K.U.length≤1000) (hk:u.kept.length<100000) (hb:u.best.length<100000) (hl:u.least.length<100000) (p:SF K.t.S.linep t.bf.1 K.sp.pen)
    (h:K.G n t.X (if t.bf.1 > 10000∨K.sp.pen=-10000 then fY K.t K.sp K.e (t.w.line+1) t.bf.1 t.bf.2 (K.t.last && (u.kept.isEmpty && (u.best.isEmpty && decide ((t.i:Int)=(K.U.length:Int) - 1)))) t.w u else fY K.t K.sp K.e (t.w.line+1) t.bf.1 t.bf.2 false t.w { u with kept:=u.kept ++ [t.w] })) :
    K.R 4 n t false (u.kept.map bV) (lB u.best) (a7 u.least) []:=by
  have T:(t.bf.1 > 10000∨K.sp.pen=-10000)→(aI K.t.last (ad (eY (K.h (u.kept.map bV) (lB u.best) (a7 u.least) []) .Eq (.ref 0) (.fl [])) fun c=>aI c (ad (eY (K.h (u.kept.map bV) (lB u.best) (a7 u.least) [.idict []]) .Eq (.ref 1) (.ref 3)) fun c=>aI c (bW (K.U.length≤100000) (K.R 5 n t (decide ((t.i:Int)=(K.U.length:Int) - 1)) (u.kept.map bV) (lB u.best) (a7 u.least) [.idict []])) (K.R 5 n t c (u.kept.map bV) (lB u.best) (a7 u.least) [.idict []])) (K.R 5 n t c (u.kept.map bV) (lB u.best) (a7 u.least) [])) (K.R 5 n t K.t.last (u.kept.map bV) (lB u.best) (a7 u.least) [])):=fun r=>by
    rw [if_pos r] at h
    have g0:∀ {b},K.G n t.X (fY K.t K.sp K.e (t.w.line+1) t.bf.1 t.bf.2 b t.w u)→K.R 5 n t b (u.kept.map bV) (lB u.best) (a7 u.least) []:=fun h=>I0 (j:=false) hb hl p h
    have g1:∀ {b},K.G n t.X (fY K.t K.sp K.e (t.w.line+1) t.bf.1 t.bf.2 b t.w u)→K.R 5 n t b (u.kept.map bV) (lB u.best) (a7 u.least) [.idict []]:=fun h=>I0 (j:=true) hb hl p h
    cases e:K.t.last with
    | false=>rw [e] at h; exact iF (g0 h)
    | true =>
      rw [e] at h
      refine iT (aR WO ?_)
      rw [List.isEmpty_map]
      cases e1:u.kept.isEmpty with
      | false=>rw [e1] at h; exact iF (g0 h)
      | true =>
        rw [e1] at h
        refine iT (aR YV ?_)
        rw [lB,List.isEmpty_map,← lB]
        cases e2:u.best.isEmpty with
        | false=>rw [e2] at h; exact iF (g1 h)
        | true=>rw [e2] at h; exact iT (cf (Nat.le_trans hU (by decide)) (g1 h))
  refine w4.mpr (bX (fun r=>T (.inl r)) fun r=>bX (fun q=>T (.inr q)) fun q=>cf (ke hk) ?_)
  rw [if_neg (not_or.mpr ⟨r,q⟩)] at h
  rw [show aL (u.kept.map bV) (bV t.w)=(u.kept ++ [t.w]).map bV by rw [br,List.map_append]; rfl]
  exact I0 (u:={ u with kept:=u.kept ++ [t.w] }) (j:=false) hb hl p h
def wt (t:TP) (sp:Sp) (w:Wy):Prop:=0≤w.line∧w.line≤14∧(w.sp.start:Int)≤sp.pl∧YD (eu t.sh (w.line+1)) (jM w.sp.b sp.e t.g)
theorem XR (ok:wt K.t K.sp w) (hU:K.U.length≤1000) (p:M6 K.t.S.linep∧M6 K.sp.pen) (o:I1 i u) (hi:i≤1000) (h:K.G (n+1) X (iK K.t K.sp K.e K.U.length i w u)):K.G (n+1) (.tup [.int i,bV w] :: X) u:=by
  obtain ⟨a1,a2,a3,a4⟩:=ok
  have fb:=(pE (eu K.t.sh (w.line+1)) (jM w.sp.b K.sp.e K.t.g)).1
  have:=o.best
  have:=o.kept
  have:=o.least
  exact w1.mpr (bX (fun r=>absurd a3 (Int.not_le.mpr r)) fun _=>⟨⟨⟩,⟨⟩,⟨⟩,⟨⟩,⟨⟩,⟨⟩,⟨rfl,by show 1≤w.line+1∧w.line+1≤4294967294; lia⟩,⟨rfl,a4⟩,
    a3r (t:=⟨X,i,w,jM w.sp.b K.sp.e K.t.g,fj (eu K.t.sh (w.line+1)) (jM w.sp.b K.sp.e K.t.g)⟩) hU (by lia) (by lia) (by lia) ⟨p.1,⟨Int.le_trans (by decide) fb.1,Int.le_trans fb.2 (by decide)⟩,p.2⟩ h⟩)
theorem IS (hU:K.U.length≤1000) (p:M6 K.t.S.linep∧M6 K.sp.pen):∀ (ws:List Wy) (i:Nat) (u:LS),(∀ w∈ws,wt K.t K.sp w)→I1 i u→i+ws.length≤1000→(∀ u',I1 (i+ws.length) u'→u'=dk K.t K.sp K.e K.U.length i ws u→K.Q .next K.base (K.h (u'.kept.map bV) (lB u'.best) (a7 u'.least) []))→K.G (n+1) (cp i (ws.map bV)) u
  | [],i,u,_,o,_,h=>h u o rfl
  | w :: r,i,u,ok,o,hi,h=>XR (ok w List.mem_cons_self) hU p o (Nat.le_trans (Nat.le_add_right ..) hi) (by
    have e:i+1+r.length=i+(w :: r).length:=Nat.succ_add_eq_add_succ ..
    exact IS hU p r (i+1) _ (fun w' m=>ok w' (List.mem_cons_of_mem _ m)) (o.turn (ok w List.mem_cons_self).1 (ok w List.mem_cons_self).2.1) (by rw [e]; exact hi) fun u' o' e'=>h u' (e ▸ o') e')
end
end
section
set_option maxRecDepth 10000
section
theorem Ie {k:Int}(h:k<100000):aT (.int k)=true:=(show aT (.int k)=decide (k<100000) by kernel_rfl).trans (decide_eq_true h)
theorem ji {α:Type}{k:Int}:∀ {l:List (Int × α)},k∈l.map (·.1)→∃ v,ah k l=some v
  | (a,b) :: r,h=>by
    by_cases e:a=k
    · exact ⟨b,by rw [jp,if_pos e]⟩
    · obtain ⟨v,q⟩:=ji ((List.mem_cons.mp h).resolve_left fun q=>e q.symm)
      exact ⟨v,by rw [jp,if_neg e]; exact q⟩
noncomputable abbrev wy2:Stmt:=aa ax.body 4
noncomputable def WX.T2 (n:Nat) (K:WX) (I X:List MV):aq:=gW n ax wy2 none (bH K.base) (.seq I) X K.Q
def WX.F2 (n:Nat) (K:WX) (I X:List MV) (kv:List MV) (bv lv:List (Int × MV)):Prop:=fe n ax wy2 none (bH K.base) (.seq I) X K.base (K.h kv bv lv []) K.Q
variable {n:Nat}{K:WX}{I X:List MV}{k:Int}{w:Wy}{kv:List MV}{bv lv:List (Int × MV)}{u:LS}{d l y:Int}
def WX.V2 (n:Nat) (K:WX) (I X:List MV) (k:Int) (kv:List MV) (bv lv:List (Int × MV)) (v:MV):Prop:=jI Wt (cO n) ⟨ax.scope,[]⟩ (gh (aa (cw wy2) 0)) v (K.base ++ [(pC,.int k)]) (K.h kv bv lv []) fun loc st=>de n ax ((cw wy2).drop 1) loc st (K.T2 n I X)
theorem v1:K.F2 n I (.int k :: X) kv bv lv=ad (ah k bv) fun v=>bw (aT (.int k)) (K.V2 n I X k kv bv lv v):=by kernel_rfl
def WX.V3 (n:Nat) (K:WX) (I X:List MV) (k:Int) (kv:List MV) (bv lv:List (Int × MV)) (d:Int) (w:Wy) (l:Int) (y:MV):Prop:=mP .Add y (.int K.t.S.adj.natAbs) (K.h kv bv lv []) fun b s=>ad (eY s .LtE (.int d) b) fun c=>(fun (loc:aF)=>aI c (de n ax (cw (aa (cw wy2) 1)) loc s (aB n ax [] (K.T2 n I X))) (de n ax [] loc s (aB n ax [] (K.T2 n I X)))) (K.base ++ [(pC,.int k),(f5,.int d),(G7,bV w),(ff,.int l)])
theorem v2:K.V2 n I X k kv bv lv (.tup [.int d,bV w,.int l])=ad (ah (k.fdiv 4) lv) fun y=>bw (aT (.int (k.fdiv 4))) (K.V3 n I X k kv bv lv d w l y):=by kernel_rfl
theorem v3:K.V3 (n+1) I X k kv bv lv d w l (.int y)=aI (decide (d≤y+K.t.S.adj.natAbs)) (bW (kv.length<100000) (True∧K.F2 (n+1) I X (aL kv (bV (.on K.sp l (k.fmod 4) d w))) bv lv)) (True∧K.F2 (n+1) I X kv bv lv):=by kernel_rfl
theorem VX (o:∀ k:Int,k∈u.best.map (·.1)→(4≤k∧k<4+(60:Nat))∧(ah (k.fdiv 4) u.least).isSome=true):∀ (ks:List Int) (acc:List Wy),(∀ k∈ks,k∈u.best.map (·.1))→acc.length+ks.length<100000 →
    K.Q .next K.base (K.h ((db K.t K.sp u ks acc).map bV) (lB u.best) (a7 u.least) [])→K.F2 (n+1) I (ks.map .int) (acc.map bV) (lB u.best) (a7 u.least)
  | [],acc,_,_,h=>h
  | k :: r,acc,hk,hl,h=>by
    have m:=o k (hk k List.mem_cons_self)
    have r':∀ acc,acc.length+r.length<100000→K.Q .next K.base (K.h ((db K.t K.sp u r acc).map bV) (lB u.best) (a7 u.least) [])→K.F2 (n+1) I (r.map .int) (acc.map bV) (lB u.best) (a7 u.least):=fun acc hl h=>VX o r acc (fun c m=>hk c (List.mem_cons_of_mem _ m)) hl h
    obtain ⟨⟨d,w,l⟩,e⟩:=ji (hk k List.mem_cons_self)
    obtain ⟨y,ey⟩:=Option.isSome_iff_exists.mp m.2
    have h:K.Q .next K.base (K.h ((match ah k u.best with | some (d,w,l)=>db K.t K.sp u r (if d≤((ah (k.fdiv 4) u.least).getD 0)+(K.t.S.adj.natAbs:Int) then acc ++ [Wy.on K.sp l (k.fmod 4) d w] else acc) | none=>db K.t K.sp u r acc).map bV) (lB u.best) (a7 u.least) []):=h
    rw [e] at h
    have h:K.Q .next K.base (K.h ((db K.t K.sp u r (if d≤((ah (k.fdiv 4) u.least).getD 0)+(K.t.S.adj.natAbs:Int) then acc ++ [.on K.sp l (k.fmod 4) d w] else acc)).map bV) (lB u.best) (a7 u.least) []):=h
    rw [ey] at h
    have hl:acc.length+r.length+1<100000:=hl
    refine v1.mpr (aR ((cD (f:=fun q:Int × Wy × Int=>MV.tup [.int q.1,bV q.2.1,.int q.2.2])).trans (by rw [e]; rfl)) (d9 (Ie (by lia)) (v2.mpr (aR ((cD (f:=MV.int)).trans (by rw [ey]; rfl)) (d9 (Ie (by rw [Int.fdiv_eq_ediv_of_nonneg _ (by decide)]; lia)) (v3.mpr (bX (fun q=>cf (ke (by lia)) ⟨⟨⟩,?_⟩) fun q=>⟨⟨⟩,?_⟩)))))))
    · rw [if_pos (show d≤(some y).getD 0+(K.t.S.adj.natAbs:Int) from q)] at h
      rw [show aL (acc.map bV) (bV (Wy.on K.sp l (k.fmod 4) d w))=(acc ++ [Wy.on K.sp l (k.fmod 4) d w]).map bV by rw [br,List.map_append]; rfl]
      exact r' _ (by rw [List.length_append]; exact (by lia:acc.length+1+r.length<100000)) h
    · rw [if_neg (show ¬ d≤(some y).getD 0+(K.t.S.adj.natAbs:Int) from q)] at h
      exact r' _ (by lia) h
theorem Q5 (b:Bst):(lB b).map (·.1)=b.map (·.1):=List.map_map
theorem WK {t:TP}{sp:Sp}{e:Bool}{ws:List Wy}{st:St}{Q:aE}(ok:∀ w∈ws,wt t sp w) (hl:ws.length≤1000) (p:M6 t.S.linep∧M6 sp.pen) (h:Q (.fl ((bI t sp e ws).map bV)) st):bs (n+2) (.fn 562) [Qf t,sB sp,.fl (ws.map bV),.bool e] st Q:=by
  have hU:(ws.map bV).length=ws.length:=List.length_map _
  refine (show ∀ U m,bs (m+1) (.fn 562) [Qf t,sB sp,.fl U,.bool e] st Q=WX.F m ⟨t,sp,e,U,st.u,aB m ax (ax.body.drop 4) (cN Q st)⟩ (cp 0 U) [] [] [] from fun U m=>by kernel_rfl) _ (n+1) |>.mpr
    (IS (K:=⟨t,sp,e,ws.map bV,st.u,aB (n+1) ax (ax.body.drop 4) (cN Q st)⟩) (by show (ws.map bV).length≤1000; rw [hU]; exact hl) p ws 0 ⟨[],[],[]⟩ ok ⟨fun k m=>absurd m List.not_mem_nil,List.nodup_nil,Nat.le_refl _,Nat.le_refl _⟩ (by rw [Nat.zero_add]; exact hl) fun u o e'=>?_)
  rw [hU] at e'
  refine (show ∀ U m kv bv lv,aB m ax (ax.body.drop 4) (cN Q st) .next (WX.base ⟨t,sp,e,U,st.u,aB m ax (ax.body.drop 4) (cN Q st)⟩) (WX.h ⟨t,sp,e,U,st.u,aB m ax (ax.body.drop 4) (cN Q st)⟩ kv bv lv [])=bW (bv.length<64) ((fun I=>WX.F2 m ⟨t,sp,e,U,st.u,aB m ax (ax.body.drop 5) (cN Q st)⟩ I I kv bv lv) (((bv.map (·.1)).mergeSort (fun a b=>decide (a≤b))).map .int)) from fun U m kv bv lv=>by kernel_rfl) _ _ _ _ _ |>.mpr (cf (ke (Nat.lt_of_le_of_lt o.best (by decide))) ?_)
  rw [Q5]
  have hm:=List.mergeSort_perm (u.best.map (·.1)) (fun a b=>decide (a≤b))
  refine VX o.keys _ _ (fun k m=>hm.mem_iff.mp m) ?_ ((show ∀ U m kv bv lv,aB m ax (ax.body.drop 5) (cN Q st) .next (WX.base ⟨t,sp,e,U,st.u,aB m ax (ax.body.drop 5) (cN Q st)⟩) (WX.h ⟨t,sp,e,U,st.u,aB m ax (ax.body.drop 5) (cN Q st)⟩ kv bv lv [])=Q (.fl kv) st from fun U m kv bv lv=>by kernel_rfl) _ _ _ _ _ |>.mpr (by rw [e']; exact h))
  rw [hm.length_eq,List.length_map]
  have:=o.best
  have:=o.kept
  lia
end
end
section
set_option maxRecDepth 10000
section
variable {n:Nat}{L X:List MV}{lo a:Int}{b f w:Wy}{u:Nat}{Q':aq}{st:St}{Q:aE}
def pkB (n:Nat) (L:List MV) (lo:Int) (u:Nat) (Q:aq) (X:List MV) (b:Wy):Prop:=fe n bQ (aa bQ.body 1) none [jY,bA,gF] (.seq L) X [(jY,.fl L),(bA,.int lo),(gF,bV b)] ⟨[],u⟩ Q
noncomputable def pkL (L:List MV) (lo:Int) (b f:Wy) (a:Int):aF:=[(jY,.fl L),(bA,.int lo),(gF,bV b),(io,.int a),(bz,bV f)]
def vf (n:Nat) (L:List MV) (lo:Int) (u:Nat) (Q:aq) (X:List MV) (b f:Wy) (a:Int):Prop:=fe n bQ (aa (cw (aa bQ.body 3)) 0) none [jY,bA,gF,io,bz] (.seq L) X (pkL L lo b f a) ⟨[],u⟩ Q
theorem rV:∀ (ws:List Wy) (b:Wy),Q' .next [(jY,.fl L),(bA,.int lo),(gF,bV (da b ws))] ⟨[],u⟩→pkB n L lo u Q' (ws.map bV) b
  | [],b,h=>h
  | w :: r,b,h=>(show pkB n L lo u Q' (bV w :: r.map bV) b=aI (decide (w.dem<b.dem)) (True∧pkB n L lo u Q' (r.map bV) w) (True∧pkB n L lo u Q' (r.map bV) b) by kernel_rfl).mpr (by
    have h:Q' .next [(jY,.fl L),(bA,.int lo),(gF,bV (da (if w.dem<b.dem then w else b) r))] ⟨[],u⟩:=h
    exact bX (fun q=>⟨⟨⟩,rV r w (by rwa [if_pos q] at h)⟩) fun q=>⟨⟨⟩,rV r b (by rwa [if_neg q] at h)⟩)
theorem QC {r:List Wy}:fu b lo (w :: r) f a=if ((lo≤w.line - b.line∧w.line - b.line<a)∨(a<w.line - b.line∧w.line - b.line≤lo))∨(w.line - b.line=a∧w.dem<f.dem) then fu b lo r w (w.line - b.line) else fu b lo r f a:=rfl
theorem sx:∀ (ws:List Wy) (f:Wy) (a:Int),Q' .next (pkL L lo b (fu b lo ws f a).1 (fu b lo ws f a).2) ⟨[],u⟩→vf n L lo u Q' (ws.map bV) b f a
  | [],f,a,h=>h
  | w :: r,f,a,h=>(show vf n L lo u Q' (bV w :: r.map bV) b f a=(fun T F=>(fun E=>(fun A=>aI (decide (lo≤w.line - b.line)) (aI (decide (w.line - b.line<a)) (aI (decide (w.line - b.line<a)) T E) A) A) (aI (decide (a<w.line - b.line)) (aI (decide (w.line - b.line≤lo)) T E) E)) (aI (decide (w.line - b.line=a)) (aI (decide (w.dem<f.dem)) T F) F))
      (True∧vf n L lo u Q' (r.map bV) b w (w.line - b.line)) (True∧vf n L lo u Q' (r.map bV) b f a) by kernel_rfl).mpr (by
    rw [QC] at h
    have T:((lo≤w.line - b.line∧w.line - b.line<a)∨(a<w.line - b.line∧w.line - b.line≤lo))∨(w.line - b.line=a∧w.dem<f.dem)→True∧vf n L lo u Q' (r.map bV) b w (w.line - b.line):=fun q=>⟨⟨⟩,sx r _ _ (by rwa [if_pos q] at h)⟩
    have E:¬ ((lo≤w.line - b.line∧w.line - b.line<a)∨(a<w.line - b.line∧w.line - b.line≤lo))→aI (decide (w.line - b.line=a)) (aI (decide (w.dem<f.dem)) (True∧vf n L lo u Q' (r.map bV) b w (w.line - b.line)) (True∧vf n L lo u Q' (r.map bV) b f a)) (True∧vf n L lo u Q' (r.map bV) b f a):=fun q=>by
      have F:¬ (w.line - b.line=a∧w.dem<f.dem)→True∧vf n L lo u Q' (r.map bV) b f a:=fun q'=>⟨⟨⟩,sx r _ _ (by rwa [if_neg (not_or.mpr ⟨q,q'⟩)] at h)⟩
      exact bX (fun e=>bX (fun d=>T (.inr ⟨e,d⟩)) fun d=>F fun z=>d z.2) fun e=>F fun z=>e z.1
    have A:¬ (lo≤w.line - b.line∧w.line - b.line<a)→aI (decide (a<w.line - b.line)) (aI (decide (w.line - b.line≤lo)) (True∧vf n L lo u Q' (r.map bV) b w (w.line - b.line)) (aI (decide (w.line - b.line=a)) (aI (decide (w.dem<f.dem)) (True∧vf n L lo u Q' (r.map bV) b w (w.line - b.line)) (True∧vf n L lo u Q' (r.map bV) b f a)) (True∧vf n L lo u Q' (r.map bV) b f a))) (aI (decide (w.line - b.line=a)) (aI (decide (w.dem<f.dem)) (True∧vf n L lo u Q' (r.map bV) b w (w.line - b.line)) (True∧vf n L lo u Q' (r.map bV) b f a)) (True∧vf n L lo u Q' (r.map bV) b f a)):=fun q =>
      bX (fun e=>bX (fun d=>T (.inl (.inr ⟨e,d⟩))) fun d=>E (not_or.mpr ⟨q,fun z=>d z.2⟩)) fun e=>E (not_or.mpr ⟨q,fun z=>e z.1⟩)
    exact bX (fun q=>bX (fun q'=>bX (fun _=>T (.inl (.inl ⟨q,q'⟩))) fun z=>absurd q' z) fun q'=>A fun z=>q' z.2) fun q=>A fun z=>q z.1)
theorem OF {w:Wy}{r:List Wy}(h:Q (.tup [bV (cC lo (w :: r)).1,.int (cC lo (w :: r)).2]) st):bs (n+1) (.fn 569) [.fl ((w :: r).map bV),.int lo] st Q:=by
  refine (show ∀ L,bs (n+1) (.fn 569) [.fl (bV w :: L),.int lo] st Q=pkB n (bV w :: L) lo st.u (aB n bQ (bQ.body.drop 2) (cN Q st)) (bV w :: L) w from fun L=>by kernel_rfl) _ |>.mpr (rV (w :: r) w ?_)
  refine (show ∀ L b,aB n bQ (bQ.body.drop 2) (cN Q st) .next [(jY,.fl L),(bA,.int lo),(gF,bV b)] ⟨[],st.u⟩=aI (!decide (lo=0)) (vf n L lo st.u (aB n bQ [] (aB n bQ (bQ.body.drop 4) (cN Q st))) L b b 0) (Q (.tup [bV b,.int 0]) st) from fun L b=>by kernel_rfl) _ _ |>.mpr ?_
  rw [cC] at h
  refine xv (fun q=>sx (w :: r) _ _ ((show ∀ L b f a,aB n bQ [] (aB n bQ (bQ.body.drop 4) (cN Q st)) .next (pkL L lo b f a) ⟨[],st.u⟩=Q (.tup [bV f,.int a]) st from fun L b f a=>by kernel_rfl) _ _ _ _ |>.mpr ?_)) fun q=>?_
  · rwa [if_pos q] at h
  · rwa [if_neg (not_not_intro q)] at h
end
end
section
set_option maxRecDepth 10000
section
variable {n:Nat}{st:St}{Q:aE}
def plW (n:Nat) (st:St) (Q:aE) (f:Nat) (v:MV) (acc:List MV):Prop:=Xn n eO (aa eO.body 1) [G7,bz] f [(G7,v),(bz,.ref 0)] ⟨[.list acc],st.u⟩ (aB n eO (eO.body.drop 2) (cN Q st))
theorem wV (l:List MV):(List.range l.length).filterMap (l[·]?)=l:=by
  induction l with
  | nil=>rfl
  | cons x r ih =>
    rw [List.length_cons,List.range_succ_eq_map,List.filterMap_cons,List.filterMap_map]
    exact congrArg (x :: ·) ih
theorem HL (xs:List MV):dD xs none none (some (-1))=xs.reverse:=by
  unfold dD
  rw [show sliceBounds none none (some (-1)) xs.length=((xs.length:Int) - 1,-1,-1) by first | rfl | simp [sliceBounds]]
  show (sliceRange ((xs.length:Int) - 1) (-1) (-1)).filterMap (xs[·]?)=_
  rw [krv_sliceRange,krv_range,List.filterMap_reverse,wV]
theorem CH:∀ (w:Wy) (acc:List MV),acc.length+w.pls.length<100000→Q (.fl (Vr acc (w.pls.map .int)).reverse) st→plW n st Q (w.pls.length+1) (bV w) acc
  | .top s l f d,acc,hl,h=>(show plW n st Q 1 (bV (.top s l f d)) acc=bW (some (-1:Int)≠some 0∧acc.length≤100000) (Q (.fl (dD acc none none (some (-1)))) st) by kernel_rfl).mpr (cf ⟨by decide,Nat.le_of_lt hl⟩ (by rw [HL]; exact h))
  | .on s l f d b,acc,hl,h=>(show plW n st Q (b.pls.length+1+1) (bV (.on s l f d b)) acc=bW (acc.length<100000) (plW n st Q (b.pls.length+1) (bV b) (aL acc (.int s.pl))) by kernel_rfl).mpr (cf (Nat.lt_of_le_of_lt (Nat.le_add_right ..) hl) (CH b _ (by rw [dA,Nat.succ_add_eq_add_succ]; exact hl) h))
theorem MK {w:Wy}(hl:w.pls.length<100000) (h:Q (.fl (w.pls.reverse.map .int)) st):bs (n+1) (.fn 576) [bV w] st Q :=
  (show bs (n+1) (.fn 576) [bV w] st Q=∃ f,plW n st Q f (bV w) [] by kernel_rfl).mpr ⟨_,CH w [] (by rw [List.length_nil,Nat.zero_add]; exact hl) (by rw [sy,← List.map_reverse]; exact h)⟩
end
end
section
set_option maxRecDepth 10000
def qp (S:fF):Prop:=(M6 S.pretol∧M6 S.tol∧M6 S.linep∧M6 S.hyph)∧(M6 S.adj∧M6 S.dbl∧M6 S.fin∧M6 S.loos∧M6 S.emer)∧S.lg.o=0∧S.rg.o=0
section
variable {n m:Nat}{st s:St}{Q:aE}{S:fF}{sh:Sh}{tol x:Int}{last:Bool}{L:List MV}
def P9 (x:Int) (K:Prop):Prop:=(fD [.int x]).1∧True∧K
theorem Rb {x:Int}{K:Prop}(h:M6 x) (k:K):P9 x K:=⟨⟨rfl,h⟩,⟨⟩,k⟩
theorem Qo (o:qp S) (h:Q .none st):bs (n+1) (.fn 466) [cH S] st Q:=by
  obtain ⟨⟨a,b,c,d⟩,⟨e,f,g,i,j⟩,_⟩:=o
  exact (show bs (n+1) (.fn 466) [cH S] st Q=P9 S.pretol (P9 S.tol (P9 S.linep (P9 S.hyph (P9 0 (P9 S.adj (P9 S.dbl (P9 S.fin (P9 S.loos ((fD [.int S.emer]).1∧Q .none st))))))))) by kernel_rfl).mpr
    (Rb a (Rb b (Rb c (Rb d (Rb (by unfold M6; decide) (Rb e (Rb f (Rb g (Rb i ⟨⟨rfl,j⟩,h⟩)))))))))
theorem Ka (o:qp S) (hx:M6 x) (h:Q (vV (kQ S x)) st):bs (n+2) (.fn 529) [cH S,.int x] st Q:=by
  obtain ⟨_,_,_,_,_,_,_,_,_,⟨_,_,o1,_⟩,⟨_,_,o2,_⟩⟩:=S
  obtain ⟨_,_,e1,e2⟩:=o
  obtain rfl:o1=0:=e1
  obtain rfl:o2=0:=e2
  exact (show bs (n+2) (.fn 529) [cH ⟨_,_,_,_,_,_,_,_,_,⟨_,_,0,_⟩,⟨_,_,0,_⟩⟩,.int x] st Q=((fD [.int x]).1∧Q (vV (kQ ⟨_,_,_,_,_,_,_,_,_,⟨_,_,0,_⟩,⟨_,_,0,_⟩⟩ x)) st) by kernel_rfl).mpr ⟨⟨rfl,hx⟩,h⟩
theorem Ru {t:TP}(h:Q (Qf t) st):bs (n+1) (.cls 455) [cH t.S,mJ t.sh,.int t.most,vV t.g,.bool t.last] st Q :=
  (show bs (n+1) (.cls 455) [cH t.S,mJ t.sh,.int t.most,vV t.g,.bool t.last] st Q=(fun X:Int→Prop=>aI (decide (t.S.loos=0)) ((TX [mJ t.sh]).1∧X (qN t.sh)) (X 4294967294)) (fun a=>Q (.inst none 455 [(av,cH t.S),(kK,mJ t.sh),(xG,.int t.most),(dQ,vV t.g),(fJ,.bool t.last),(io,.int a)]) st) by kernel_rfl).mpr (by
    unfold Qf dG at h
    exact bX (fun q=>⟨rfl,by rwa [if_pos q] at h⟩) fun q=>by rwa [if_neg q] at h)
theorem YT {p:Sp}{l f d:Int}(h:Q (wyI p l f d .none) st):bs (n+1) (.cls 434) [sB p,.int l,.int f,.int d,.none] st Q :=
  (show bs (n+1) (.cls 434) [sB p,.int l,.int f,.int d,.none] st Q=Q (wyI p l f d .none) st by kernel_rfl).mpr h
noncomputable def YF:Option (List Int)→MV
  | none=>.none
  | some l=>.fl (l.map .int)
structure CX where
  L:List MV
  S:fF
  sh:Sh
  tol:Int
  x:Int
  last:Bool
  st:St
  Q:aE
variable {K:CX}{X:List MV}{ws:List Wy}{w:Wy}{a:Int}{g t v:MV}
noncomputable def CX.l0 (K:CX):aF:=[(ch,.fl K.L),(av,cH K.S),(kK,mJ K.sh),(bo,.int K.tol),(kL,.int K.x),(fJ,.bool K.last)]
noncomputable def CX.l (K:CX) (g t a:MV):aF:=K.l0 ++ [(dQ,g),(DV,t),(uZ,a)]
noncomputable def CX.P (K:CX):aq:=cN K.Q K.st
noncomputable abbrev chS:Stmt:=aa bF.body 4
def CX.A (m:Nat) (K:CX) (g t a v:MV) (s:St):Prop:=ad (iL s v) fun I=>bw (Wn I (gh chS)) (fe m bF chS none (bH (K.l g t a)) I (bU I) (K.l g t (.fl [a])) s (aB m bF (bF.body.drop 5) K.P))
noncomputable def CX.tp (K:CX):TP:=Vn K.S K.sh K.tol K.x K.last
def CX.F (m:Nat) (K:CX) (I X:List MV) (ws:List MV):Prop:=fe m bF chS none (bH (K.l .none .none .none)) (.seq I) X (K.l (vV K.tp.g) (Qf K.tp) (.fl ws)) ⟨[],K.st.u⟩ (aB m bF (bF.body.drop 5) K.P)
theorem ch0:bs (m+1) (.fn 583) [.fl K.L,cH K.S,mJ K.sh,.int K.tol,.int K.x,.bool K.last] K.st K.Q=(bs m (.fn 466) [cH K.S] ⟨[],K.st.u⟩ fun _ s=>bs m (.fn 529) [cH K.S,.int K.x] s fun g s=>(fD [.int K.tol]).1∧bs m (.cls 455) [cH K.S,mJ K.sh,.int (eU K.tol 10000),g,.bool K.last] s fun t s=>bs m (.cls 434) [sB ⟨-1,0,0,0,z6,z6⟩,.int 0,.int 2,.int 0,.none] s fun a s=>bw (aY [a]) (bs m (.fn 522) [.fl K.L,cH K.S] s (K.A m g t a))):=by kernel_rfl
theorem chA {I:List MV}:K.A m (vV K.tp.g) (Qf K.tp) (bV cI) (.fl I) ⟨[],K.st.u⟩=K.F m I I [bV cI]:=by kernel_rfl
def CX.W (m:Nat) (K:CX) (I X:List MV) (sp:Sp) (v:MV) (s:St):Prop:=de m bF ((cw chS).drop 1) (K.l (vV K.tp.g) (Qf K.tp) v ++ [(oG,sB sp)]) s (gW m bF chS none (bH (K.l .none .none .none)) (.seq I) X (aB m bF (bF.body.drop 5) K.P))
theorem ch1 {I:List MV}{sp:Sp}{ws:List MV}:K.F m I (sB sp :: X) ws=bW (K.L.length≤100000) (bs m (.fn 562) [Qf K.tp,sB sp,.fl ws,.bool (decide (sp.pl=K.L.length))] ⟨[],K.st.u⟩ (K.W m I X sp)):=by kernel_rfl
theorem ch2 {I:List MV}{sp:Sp}:K.W m I X sp (.fl []) ⟨[],K.st.u⟩=K.Q .none K.st:=by kernel_rfl
theorem ch3 {I:List MV}{sp:Sp}{r:List MV}:K.W m I X sp (.fl (v :: r)) ⟨[],K.st.u⟩=(True∧K.F m I X (v :: r)):=by kernel_rfl
def CX.E (m:Nat) (K:CX) (ws:List MV) (v:MV) (s:St):Prop:=jI Wt (cO m) ⟨bF.scope,[]⟩ (gh (aa bF.body 5)) v (K.l (vV K.tp.g) (Qf K.tp) (.fl ws)) s fun loc st=>de m bF (bF.body.drop 6) loc st K.P
theorem ch4 {I ws:List MV}:K.F m I [] ws=bs m (.fn 569) [.fl ws,.int K.S.loos] ⟨[],K.st.u⟩ (K.E m ws):=by kernel_rfl
theorem ch5 {ws:List MV}:K.E m ws (.tup [v,.int a]) ⟨[],K.st.u⟩=(fun X=>aI (!decide (a=K.S.loos)) (aI (!K.last) (K.Q .none K.st) X) X) (bs m (.fn 576) [v] ⟨[],K.st.u⟩ fun v s=>ad (fz 0 s.l v) fun v=>K.Q v ⟨K.st.l,s.u⟩):=by kernel_rfl
noncomputable def oO (t:TP) (len:Int):List Sp→List Wy→Prop
  | [],_=>True
  | sp :: r,ws=>(∀ w∈ws,wt t sp w)∧M6 sp.pen∧oO t len r (bI t sp (decide (sp.pl=len)) ws)
theorem D0 {t:TP}{sp:Sp}{e:Bool}{len:Nat}:∀ (ws:List Wy) (i:Nat) (u:LS),(∀ w∈ws,wt t sp w)→I1 i u→I1 (i+ws.length) (dk t sp e len i ws u)
  | [],i,u,_,o=>o
  | w :: r,i,u,ok,o=>by
    rw [List.length_cons,← Nat.succ_add_eq_add_succ]
    exact D0 r (i+1) _ (fun w' m=>ok w' (List.mem_cons_of_mem _ m)) (o.turn (ok w List.mem_cons_self).1 (ok w List.mem_cons_self).2.1)
theorem ve {t:TP}{sp:Sp}{u:LS}:∀ (ks:List Int) (acc:List Wy),(db t sp u ks acc).length≤acc.length+ks.length
  | [],acc=>Nat.le_refl _
  | k :: r,acc=>by
    have g:∀ a:List Wy,a.length≤acc.length+1→(db t sp u r a).length≤acc.length+(r.length+1):=fun a h=>Nat.le_trans (ve r a) (by lia)
    show (match ah k u.best with
      | some (d,w,l)=>db t sp u r (if d≤((ah (k.fdiv 4) u.least).getD 0)+(t.S.adj.natAbs:Int) then acc ++ [Wy.on sp l (k.fmod 4) d w] else acc)
      | none=>db t sp u r acc).length≤_
    cases ah k u.best with
    | none=>exact g _ (Nat.le_succ _)
    | some q=>exact aC (C:=fun a=>(db t sp u r a).length≤acc.length+(r.length+1)) (fun _=>g _ (by rw [List.length_append]; exact Nat.le_refl _)) fun _=>g _ (Nat.le_succ _)
theorem L8 {t:TP}{sp:Sp}{e:Bool}{ws:List Wy}(h:∀ w∈ws,wt t sp w):(bI t sp e ws).length≤ws.length+60:=by
  have o:=D0 (e:=e) (len:=ws.length) ws 0 ⟨[],[],[]⟩ h ⟨fun k m=>absurd m List.not_mem_nil,List.nodup_nil,Nat.le_refl _,Nat.le_refl _⟩
  have k:=ve (t:=t) (sp:=sp) (u:=dk t sp e ws.length 0 ws ⟨[],[],[]⟩) (((dk t sp e ws.length 0 ws ⟨[],[],[]⟩).best.map (·.1)).mergeSort (fun a b=>decide (a≤b))) (dk t sp e ws.length 0 ws ⟨[],[],[]⟩).kept
  rw [(List.mergeSort_perm _ _).length_eq,List.length_map] at k
  have:=o.best
  have:=o.kept
  exact Nat.le_trans k (by lia)
noncomputable def a1q (t:TP) (ws:List Wy):Option (List Int):=if (cC t.S.loos ws).2≠t.S.loos∧t.last=false then none else some (cC t.S.loos ws).1.pls.reverse
theorem xJ {I:List MV}{t:TP}(et:t=K.tp) (hL:K.L.length≤100000) (p:M6 t.S.linep):∀ (sps:List Sp) (ws:List Wy),ws≠[]→ws.length+60 * sps.length≤1000→oO t K.L.length sps ws→(∀ ws',iO t K.L.length sps ws=some ws'→(cC t.S.loos ws').1.pls.length≤1000) →
    K.Q (YF (match iO t K.L.length sps ws with
      | none=>none
      | some ws=>a1q t ws)) K.st→K.F (n+2) I (sps.map sB) (ws.map bV)
  | [],[],hn,_,_,_,_=>absurd rfl hn
  | [],w :: r,_,_,_,hp,h=>by
    have hp:=hp _ rfl
    subst et
    have h:K.Q (YF (if (cC K.S.loos (w :: r)).2≠K.S.loos∧K.last=false then none else some (cC K.S.loos (w :: r)).1.pls.reverse)) K.st:=h
    have g:¬ ((cC K.S.loos (w :: r)).2≠K.S.loos∧K.last=false)→bs (n+2) (.fn 576) [bV (cC K.S.loos (w :: r)).1] ⟨[],K.st.u⟩ fun v s=>ad (fz 0 s.l v) fun v=>K.Q v ⟨K.st.l,s.u⟩:=fun q=>by
      rw [if_neg q] at h
      exact MK (Nat.lt_of_le_of_lt hp (by decide)) h
    refine ch4.mpr (OF (ch5.mpr (xv (fun q=>?_) fun q=>g fun z=>z.1 q)))
    cases e:K.last with
    | true=>exact nT (g fun z=>by rw [e] at z; exact Bool.noConfusion z.2)
    | false=>exact nF (by rwa [if_pos ⟨q,e⟩] at h)
  | sp :: r,ws,_,hl,o,hp,h=>by
    have hl:ws.length+60 * (r.length+1)≤1000:=hl
    have ol:=L8 (e:=decide (sp.pl=K.L.length)) o.1
    have hp:∀ ws',(match bI t sp (decide (sp.pl=K.L.length)) ws with
      | []=>none
      | ws'=>iO t K.L.length r ws')=some ws'→(cC t.S.loos ws').1.pls.length≤1000:=hp
    have h:K.Q (YF (match (match bI t sp (decide (sp.pl=K.L.length)) ws with
      | []=>none
      | ws'=>iO t K.L.length r ws') with
      | none=>none
      | some ws=>a1q t ws)) K.st:=h
    have o':=o.2.2
    subst et
    refine ch1.mpr (cf hL (WK o.1 (by omega) ⟨p,o.2.1⟩ ?_))
    cases e:bI K.tp sp (decide (sp.pl=K.L.length)) ws with
    | nil=>rw [e] at h; exact ch2.mpr h
    | cons w t =>
      rw [e] at h hp ol o'
      exact ch3.mpr ⟨⟨⟩,xJ rfl hL p r (w :: t) (List.cons_ne_nil _ _) (by omega) o' hp h⟩
theorem Nz {L:NL}{S:fF}{sh:Sh}{tol x:Int}{last:Bool}(o:qp S) (hd:∀ d∈cg L,yI d) (hl:L.length<1000) (hx:M6 x) (ht:M6 tol)
    (hn:(aK S.hyph 0 false (cg L)).length≤14) (hr:oO (Vn S sh tol x last) L.length ((aK S.hyph 0 false (cg L)).map (a9 (cg L))) [cI])
    (hp:∀ ws,iO (Vn S sh tol x last) L.length ((aK S.hyph 0 false (cg L)).map (a9 (cg L))) [cI]=some ws→(cC S.loos ws).1.pls.length≤1000)
    (h:Q (YF (xt S sh (cg L) tol x last)) st):bs (n+5) (.fn 583) [.fl (cz L),cH S,mJ sh,.int tol,.int x,.bool last] st Q:=by
  rw [xt,np,fM] at h
  refine ch0 (K:=⟨cz L,S,sh,tol,x,last,st,Q⟩) |>.mpr (Qo o (Ka o hx ⟨⟨rfl,ht⟩,Ru (t:=Vn S sh tol x last) (YT (Rx hd hl (chA.mpr ?_)))⟩))
  rw [show ∀ l:List Lb,l.map (fun b=>sB (a9 (cg L) b))=(l.map (a9 (cg L))).map sB from fun l=>(List.map_map (g:=sB) (f:=a9 (cg L))).symm]
  refine xJ (K:=⟨cz L,S,sh,tol,x,last,st,Q⟩) rfl (by rw [cE]; lia) o.1.2.2.1 _ [cI] (List.cons_ne_nil _ _) (by rw [List.length_map]; show 1+60 * (aK S.hyph 0 false (cg L)).length≤1000; lia) ?_ ?_ ?_
  all_goals rw [show CX.L ⟨cz L,S,sh,tol,x,last,st,Q⟩=cz L from rfl,cE]
  · exact hr
  · exact hp
  · exact h
end
end
section
set_option maxRecDepth 10000
section
structure Il (S:fF) (sh:Sh) (ds:List Nd) (tol x:Int) (last:Bool):Prop where
  hlb:(aK S.hyph 0 false ds).length≤14
  hrun:oO (Vn S sh tol x last) ds.length ((aK S.hyph 0 false ds).map (a9 ds)) [cI]
  hpl:∀ ws,iO (Vn S sh tol x last) ds.length ((aK S.hyph 0 false ds).map (a9 ds)) [cI]=some ws→(cC S.loos ws).1.pls.length≤1000
variable {n m:Nat}{st s:St}{Q:aE}{S:fF}{sh:Sh}{L C:List MV}{v:MV}{p:Bool}{x:Int}{last:Bool}
noncomputable def jf (Q:aE):aq:=fun fl _ s=>match fl with
  | .ret v=>Q v s
  | .next=>Q .none s
  | _=>False
noncomputable def bkL (L:List MV) (S:fF) (sh:Sh) (hy:MV) (r:aF):aF:=(ch,.fl L) :: (av,cH S) :: (kK,mJ sh) :: (uF,hy) :: r
noncomputable def plO (v:MV):Bool→aF
  | true=>[(lr,v)]
  | false=>[]
noncomputable def ctO (c v:MV):Bool→aF
  | true=>[(lr,v),(OA,c)]
  | false=>[(OA,c),(lr,v)]
variable {a:Arguments}{b:List Stmt}{sc:Scope}{cs:List (Str × Nat)}
def bk1 (m:Nat) (L:List MV) (S:fF) (sh:Sh) (hy:MV) (Q:aE) (v:MV) (s:St):Prop:=de m bT ((cw (aa bT.body 0)).drop 1) (bkL L S sh hy [(lr,v)]) s (aB m bT (bT.body.drop 1) (jf Q))
def bk2 (m:Nat) (L:List MV) (S:fF) (sh:Sh) (hy:MV) (Q:aE) (p:Bool) (s:St):Prop:=de m bT (bT.body.drop 1) (bkL L S sh hy (plO .none p)) s (jf Q)
def bk3 (m:Nat) (L:List MV) (S:fF) (sh:Sh) (hy:MV) (Q:aE) (p:Bool) (v:MV) (s:St):Prop:=de m bT (bT.body.drop 2) (bkL L S sh hy (plO .none p ++ [(OA,v)])) s (jf Q)
def bk4 (m:Nat) (L:List MV) (S:fF) (sh:Sh) (hy:MV) (Q:aE) (p:Bool) (C:List MV) (v:MV) (s:St):Prop:=de m bT (bT.body.drop 3) (bkL L S sh hy (ctO (.fl C) v p)) s (jf Q)
theorem a6g:bs (m+1) (.fn 590) [.fl L,cH S,mJ sh,.clos a b sc cs] st Q=aI (decide (S.pretol≥0)) (bs m (.fn 583) [.fl L,cH S,mJ sh,.int S.pretol,.int 0,.bool false] st (bk1 m L S sh (.clos a b sc cs) Q)) (bk2 m L S sh (.clos a b sc cs) Q false st):=by kernel_rfl
theorem a2W:bk1 m L S sh (.clos a b sc cs) Q .none s=bk2 m L S sh (.clos a b sc cs) Q true s:=by kernel_rfl
theorem a0E:bk1 m L S sh (.clos a b sc cs) Q (.fl C) s=bW (L.length≤100000) (Q (.tup [.fl L,.fl C]) s):=by kernel_rfl
theorem a51:bk2 m L S sh (.clos a b sc cs) Q p s=bs m (.clos a b sc cs) [.fl L] s (bk3 m L S sh (.clos a b sc cs) Q p):=by cases p <;> kernel_rfl
theorem a4P:bk3 m L S sh (.clos a b sc cs) Q p (.fl C) s=bs m (.fn 583) [.fl C,cH S,mJ sh,.int S.tol,.int 0,.bool (decide (S.emer≤0))] s (bk4 m L S sh (.clos a b sc cs) Q p C):=by cases p <;> kernel_rfl
theorem a1J:bk4 m L S sh (.clos a b sc cs) Q p C .none s=bs m (.fn 583) [.fl C,cH S,mJ sh,.int S.tol,.int S.emer,.bool true] s (fun v s=>Q (.tup [.fl C,v]) s):=by cases p <;> kernel_rfl
theorem Z8 {D:List MV}:bk4 m L S sh (.clos a b sc cs) Q p C (.fl D) s=Q (.tup [.fl C,.fl D]) s:=by cases p <;> kernel_rfl
theorem Yh {L:NL}{tol x:Int}(o:qp S) (hd:∀ d∈cg L,yI d) (hl:L.length<1000) (hx:M6 x) (ht:M6 tol) (k:Il S sh (cg L) tol x last) (h:Q (YF (xt S sh (cg L) tol x last)) st):bs (n+5) (.fn 583) [.fl (cz L),cH S,mJ sh,.int tol,.int x,.bool last] st Q :=
  Nz o hd hl hx ht k.hlb (by rw [← fM]; exact k.hrun) (by rw [← fM]; exact k.hpl) h
noncomputable def Cz (S:fF) (sh:Sh) (ds:List Nd):Option (List Int):=match xt S sh ds S.tol 0 (decide (S.emer≤0)) with
  | some l=>some l
  | none=>xt S sh ds S.tol S.emer true
theorem Q1 {L C:NL}{st':St}(o:qp S) (hd:∀ d∈cg L,yI d) (hd':∀ d∈cg C,yI d) (hl:L.length<1000) (hl':C.length<1000) (o0:S.pretol≥0→Il S sh (cg L) S.pretol 0 false) (o1:Il S sh (cg C) S.tol 0 (decide (S.emer≤0))) (o2:Il S sh (cg C) S.tol S.emer true)
    (hc:∀ Q',Q' (.fl (cz C)) st'→bs (n+5) (.clos a b sc cs) [.fl (cz L)] st Q')
    (h1:∀ l,S.pretol≥0→xt S sh (cg L) S.pretol 0 false=some l→Q (.tup [.fl (cz L),.fl (l.map .int)]) st)
    (h2:(S.pretol≥0→xt S sh (cg L) S.pretol 0 false=none)→Q (.tup [.fl (cz C),YF (Cz S sh (cg C))]) st'):bs (n+6) (.fn 590) [.fl (cz L),cH S,mJ sh,.clos a b sc cs] st Q:=by
  have z:M6 0:=by unfold M6; decide
  have g:∀ p,(S.pretol≥0→xt S sh (cg L) S.pretol 0 false=none)→bk2 (n+5) (cz L) S sh (.clos a b sc cs) Q p st:=fun p q=>by
    have h2:=h2 q
    unfold Cz at h2
    refine a51.mpr (hc _ (a4P.mpr (Yh o hd' hl' z o.1.2.1 o1 ?_)))
    cases e:xt S sh (cg C) S.tol 0 (decide (S.emer≤0)) with
    | none=>rw [e] at h2; exact a1J.mpr (Yh o hd' hl' o.2.1.2.2.2.2 o.1.2.1 o2 h2)
    | some l=>rw [e] at h2; exact Z8.mpr h2
  refine a6g.mpr (bX (fun q=>Yh o hd hl z o.1.1 (o0 q) ?_) fun q=>g false fun r=>absurd r q)
  cases e:xt S sh (cg L) S.pretol 0 false with
  | none=>exact a2W.mpr (g true fun _=>e)
  | some l=>exact a0E.mpr (cf (by rw [cE]; lia) (h1 l q e))
end
end
section
set_option maxRecDepth 10000
section
variable {n m:Nat}{st s:St}{Q:aE}{Q':aq}{L I X:List MV}{w c:Int}
def tsT (n:Nat) (F:c6) (s:Stmt) (loc:aF) (st:St) (K:Bool→St→Prop):Prop:=Hp Wt (cO n) ⟨F.scope,[]⟩ (gh s) (cj Wt (cO n) ⟨F.scope,[]⟩ (gh s)) loc st K
@[irreducible] def dN (w:Int):Prop:=0≤w∧w<10 ^ 300
theorem dN.i {w:Int}:dN w↔0≤w∧w<10 ^ 300:=by unfold dN; exact Iff.rfl
theorem dN.mod (z:Int):dN (z.fmod (10 ^ (300:Int).toNat)):=dN.i.mpr ⟨Int.fmod_nonneg_of_pos _ (by decide +kernel),Int.fmod_lt_of_pos _ (by decide +kernel)⟩
theorem dN.zero:dN 0:=dN.i.mpr ⟨Int.le_refl _,by decide +kernel⟩
theorem dN.div {a k:Int}(h:dN a) (hk:0<k):dN (a.fdiv k):=by
  have h:=dN.i.mp h
  refine dN.i.mpr ?_
  rw [Int.fdiv_eq_ediv_of_nonneg _ (Int.le_of_lt hk)]
  exact ⟨Int.ediv_nonneg h.1 (Int.le_of_lt hk),Int.lt_of_le_of_lt (Int.ediv_le_self _ h.1) h.2⟩
def aM (k:Nat) (a b:Int):Prop:=dN a∧0≤b∧b≤k
noncomputable def YN (L:List MV) (w:Int):aF:=[(bS,.fl L),(kN,.int w)]
noncomputable abbrev Zg:List Stmt:=cw (aa aZ.body 1)
def YK (n:Nat) (L I:List MV) (st:St) (Q:aq) (w:Int) (X:List MV):Prop:=fe n aZ (aa aZ.body 1) none [bS,kN] (.seq I) X (YN L w) st Q
noncomputable abbrev poK (n:Nat) (L I:List MV) (Q:aq) (X:List MV):aq:=gW n aZ (aa aZ.body 1) none [bS,kN] (.seq I) X Q
noncomputable def poM (L:List MV) (w c p:Int):aF:=YN L w ++ [(wD,.int c),(XI,.int p)]
noncomputable def poP (c:Int):Int:=(2 * (c.natAbs:Int)+1+(if decide (c<0) then 1 else 0))
theorem qD {F:c6}{s:Stmt}{d:Option (List MO)}{ns:List Str}{I:d8}{x:MV}{X:List MV}{loc:aF}:fe n F s d ns I (x :: X) loc st Q'=jI Wt (cO n) ⟨F.scope,[]⟩ (gh s) x loc st fun loc st=>de n F (cw s) loc st (gW n F s d ns I X Q'):=rfl
theorem GU {F:c6}{a:Stmt}{r:List Stmt}{loc:aF}:de n F (a :: r) loc st Q'=II Wt (cO n) ⟨F.scope,[]⟩ a loc st (aB n F r Q'):=by kernel_rfl
theorem ba {F:c6}{r:List Stmt}{loc:aF}:aB n F r Q' .next loc st=de n F r loc st Q':=rfl
theorem nW {F:c6}{s:Stmt}{d:Option (List MO)}{ns:List Str}{I:d8}{loc:aF}:fe n F s d ns I [] loc st Q'=Q' .next loc st:=rfl
theorem po0 {K:aF→St→Prop}:jI Wt (cO n) ⟨aZ.scope,[]⟩ (gh (aa aZ.body 1)) (.int c) (YN L w) st K=K (YN L w ++ [(wD,.int c)]) st:=by kernel_rfl
theorem W2:Zg=aa Zg 0 :: Zg.drop 1:=by kernel_rfl
theorem po1:II Wt (cO n) ⟨aZ.scope,[]⟩ (aa Zg 0) (YN L w ++ [(wD,.int c)]) st Q'=Q' .next (poM L w c c.natAbs) st:=by kernel_rfl
theorem po2 {p:Int}:de n aZ (Zg.drop 1) (poM L w c p) st Q'=(fun X=>aI (decide (p<10 ^ (18:Int).toNat)) (bW (cB (2 * p+1+(if decide (c<0) then 1 else 0)) 618033988749894848204586834365638117720309179805762862135449) (X (((2 * p+1+(if decide (c<0) then 1 else 0)) * 618033988749894848204586834365638117720309179805762862135449).fmod (10 ^ (60:Int).toNat)))) (X p)) fun p=>bW (cB w 1000003) (Q' .next (poM L ((w * 1000003+p).fmod (10 ^ (300:Int).toNat)) c p) st):=by kernel_rfl
theorem po3 {p:Int}:poK n L I Q' X .next (poM L w c p) st=(True∧YK n L I st Q' w X):=by kernel_rfl
variable {d1 d2:MO}{u:Nat}{J:List MO}{x y k:Int}
theorem QX (g:∀ w',dN w'→YK n L I st Q' w' X):YK n L I st Q' w (.int c :: X):=by
  have r:∀ p,bW (cB w 1000003) (poK n L I Q' X .next (poM L ((w * 1000003+p).fmod (10 ^ (300:Int).toNat)) c p) st):=fun p=>cf (.inr (by decide +kernel)) (po3.mpr ⟨⟨⟩,g _ (dN.mod _)⟩)
  unfold YK
  rw [qD,po0,show cw (aa aZ.body 1)=Zg from rfl,W2,GU,po1,ba,po2]
  show aI (decide ((c.natAbs:Int)<10 ^ (18:Int).toNat)) _ _
  with_reducible refine bX (fun q=>cf (.inl ?_) (r _)) fun _=>r _
  rw [show (10:Int) ^ (Int.toNat 18)=1000000000000000000 by decide +kernel] at q
  have e:∀ b:Int,0≤b→b≤1→(2 * (c.natAbs:Int)+1+b).natAbs<2 ^ 63:=fun b _ _=>Nat.lt_of_le_of_lt (show _≤2000000000000000002 by lia) (by decide)
  exact aC (C:=fun b:Int=>(2 * (c.natAbs:Int)+1+b).natAbs<2 ^ 63) (fun _=>e 1 (by decide) (by decide)) fun _=>e 0 (by decide) (by decide)
theorem Cu:∀ (X:List MV) (w:Int),(∀ v∈X,∃ c,v=.int c)→dN w→(∀ w,dN w→Q' .next (YN L w) st)→YK n L I st Q' w X
  | [],w,_,h,g=>by unfold YK; rw [nW]; exact g w h
  | v :: X,w,hv,h,g=>by
    obtain ⟨c,rfl⟩:=hv v List.mem_cons_self
    with_reducible exact QX fun w' h'=>Cu X w' (fun v m=>hv v (List.mem_cons_of_mem _ m)) h' g
theorem X4 {l:List Int}(hl:l.length≤1000) (h:∀ w,aM 0 w 0→Q (.ref 2) ⟨[d1,d2,.list [.int w,.int 0]],u⟩):bs (n+1) (.fn 597) [.fl (l.map .int)] ⟨[d1,d2],u⟩ Q :=
  (show ∀ L,bs (n+1) (.fn 597) [.fl L] ⟨[d1,d2],u⟩ Q=bW ((none:Option Int)≠some 0∧L.length≤100000) (YK n L (dD L none (some 24) none) ⟨[d1,d2],u⟩ (aB n aZ (aZ.body.drop 2) (jf Q)) 0 (dD L none (some 24) none)) from fun L=>by kernel_rfl) _ |>.mpr
    (cf ⟨nofun,by rw [List.length_map]; lia⟩ (Cu _ 0 (fun v m=>by
      obtain ⟨i,_,e⟩:=List.mem_filterMap.mp m
      obtain ⟨c,_,e⟩:=List.mem_map.mp (List.mem_of_getElem? e)
      exact ⟨c,e.symm⟩) dN.zero fun w hw=>(show ∀ L,aB n aZ (aZ.body.drop 2) (jf Q) .next (YN L w) ⟨[d1,d2],u⟩=Q (.ref 2) ⟨[d1,d2,.list [.int w,.int 0]],u⟩ from fun L=>by kernel_rfl) _ |>.mpr (h w ⟨hw,Int.le_refl _,Int.le_refl _⟩)))
theorem ow {c:Nat}(hc:c≤1000) (hk:0<k∧k≤1000) (o:aM c x y) (h:∀ d x y,0≤d→d<k→aM (c+1) x y→Q (.int d) ⟨d1 :: d2 :: .list [.int x,.int y] :: J,u⟩):bs (n+1) (.fn 604) [.ref 2,.int k] ⟨d1 :: d2 :: .list [.int x,.int y] :: J,u⟩ Q:=by
  obtain ⟨o1,o3,o4⟩:=o
  refine (show bs (n+1) (.fn 604) [.ref 2,.int k] ⟨d1 :: d2 :: .list [.int x,.int y] :: J,u⟩ Q=aI (decide (x > 0)) (bW (k≠0) (bW (k≠0∧k.natAbs<2 ^ 2000) (ju J fun J=>Q (.int (x.fmod k)) ⟨d1 :: d2 :: .list [.int (x.fdiv k),.int y] :: J,u⟩)))
    (ju J fun J=>bW (cB (7 * (y+1)) (y+1)) (bW (k≠0) (Q (.int ((7 * (y+1) * (y+1)+5 * (y+1)+3).fmod 101 |>.fmod k)) ⟨d1 :: d2 :: .list [.int x,.int (y+1)] :: J,u⟩))) by kernel_rfl).mpr ?_
  rw [b9,b9]
  exact bX (fun _=>cf (by lia) (cf ⟨by lia,big (by lia) (by lia)⟩ (h _ _ _ (Int.fmod_nonneg_of_pos _ hk.1) (Int.fmod_lt_of_pos _ hk.1) ⟨o1.div hk.1,o3,by lia⟩))) fun _ =>
    cf (IK (by lia) (by lia)) (cf (by lia) (h _ _ _ (Int.fmod_nonneg_of_pos _ hk.1) (Int.fmod_lt_of_pos _ hk.1) ⟨o1,by lia,by lia⟩))
end
end
section
set_option maxRecDepth 10000
section
variable {n m j:Nat}{S:fF}{x y k:Int}{u c:Nat}{P:aq}{Q:aE}
noncomputable def stF (S:fF):List (Str × MV):=[(dU,.int S.pretol),(bo,.int S.tol),(dX,.int S.linep),(c9,.int S.hyph),(dh,.int 0),(ij,.int S.adj),(dy,.int S.dbl),(dR,.int S.fin),(bA,.int S.loos),(gn,.int S.emer),(gj,vX S.lg),(fC,vX S.rg)]
noncomputable def c2 (x y:Int):List MO:=[.cell none,.cell none,.list [.int x,.int y]]
noncomputable def hY (S:fF) (u:Nat) (x y:Int):St:=⟨[.cell none,.cell none,.list [.int x,.int y],.obj 413 (stF S)],u⟩
noncomputable def D4:aF:=[(dC,.ref 2),(bz,.ref 3)]
def iQ (m j:Nat) (S:fF) (u:Nat) (x y:Int) (P:aq):Prop:=de m bj (bj.body.drop j) D4 (hY S u x y) P
def Gy (m j:Nat) (v:MV) (s:St) (K:aF→St→Prop):Prop:=jI Wt (cO m) ⟨bj.scope,[]⟩ (gh (aa bj.body j)) v D4 s K
def IJ (m j:Nat) (vals:List MV) (P:aq) (d:MV) (s:St):Prop:=ad (iP s (.fl vals) d) fun v=>bw (aT d) (Gy m j v s fun loc s=>de m bj (bj.body.drop (j+1)) loc s P)
theorem Ww {d:Int}{k:Nat}(h0:0≤d) (h:d<k):∃ i:Nat,i<k∧d=i:=⟨d.toNat,by lia,by lia⟩
theorem ja {α:Type}{enc:α→MV}{vals:List α}{f:α→fF}(e2:∀ v x y K,Gy (n+1) j (enc v) (hY S u x y) K=K D4 (hY (f v) u x y)) (hk:(vals.length:Int)=k) (hk':0<vals.length∧vals.length≤1000) (hc:c≤1000) (o:aM c x y)
    (h:∀ v,v∈vals→∀ x y,aM (c+1) x y→iQ (n+1) (j+1) (f v) u x y P):bs (n+1) (.fn 604) [.ref 2,.int k] (hY S u x y) (IJ (n+1) j (vals.map enc) P) :=
  ow hc (by lia) o fun d x y h0 h1 o'=>by
    obtain ⟨i,hi,rfl⟩:=Ww (k:=vals.length) h0 (by lia)
    have e:nth vals i=some vals[i]:=iZ.trans (List.getElem?_eq_getElem hi)
    refine aR (show bq (vals.map enc) (i:Int)=_ from nL e) (d9 (MS (by lia)) ?_)
    show Gy (n+1) j (enc vals[i]) (hY S u x y) _
    rw [e2]
    exact h _ (List.getElem_mem hi) _ _ o'
theorem se1:iQ m 1 S u x y P=bs m (.fn 604) [.ref 2,.int 5] (hY S u x y) (IJ m 1 (([0,-1,100,10000,30]:List Int).map .int) P):=by kernel_rfl
theorem sf1 {v:Int}{K:aF→St→Prop}:Gy m 1 (.int v) (hY S u x y) K=K D4 (hY { S with pretol:=v } u x y):=by kernel_rfl
theorem se2:iQ m 2 S u x y P=bs m (.fn 604) [.ref 2,.int 5] (hY S u x y) (IJ m 2 (([200,50,10000,12000,9999]:List Int).map .int) P):=by kernel_rfl
theorem sf2 {v:Int}{K:aF→St→Prop}:Gy m 2 (.int v) (hY S u x y) K=K D4 (hY { S with tol:=v } u x y):=by kernel_rfl
theorem se3:iQ m 3 S u x y P=bs m (.fn 604) [.ref 2,.int 3] (hY S u x y) (IJ m 3 (([0,20,60]:List Int).map .int) P):=by kernel_rfl
theorem sf3 {v:Int}{K:aF→St→Prop}:Gy m 3 (.int v) (hY S u x y) K=K D4 (hY { S with emer:=v } u x y):=by kernel_rfl
theorem se4:iQ m 4 S u x y P=bs m (.fn 604) [.ref 2,.int 3] (hY S u x y) (IJ m 4 (([10,0,1]:List Int).map .int) P):=by kernel_rfl
theorem sf4 {v:Int}{K:aF→St→Prop}:Gy m 4 (.int v) (hY S u x y) K=K D4 (hY { S with linep:=v } u x y):=by kernel_rfl
theorem se5:iQ m 5 S u x y P=bs m (.fn 604) [.ref 2,.int 4] (hY S u x y) (IJ m 5 (([50,-40,10000,200]:List Int).map .int) P):=by kernel_rfl
theorem sf5 {v:Int}{K:aF→St→Prop}:Gy m 5 (.int v) (hY S u x y) K=K D4 (hY { S with hyph:=v } u x y):=by kernel_rfl
theorem se6:iQ m 6 S u x y P=bs m (.fn 604) [.ref 2,.int 2] (hY S u x y) (IJ m 6 (([0,5000]:List Int).map .int) P):=by kernel_rfl
theorem sf6 {v:Int}{K:aF→St→Prop}:Gy m 6 (.int v) (hY S u x y) K=K D4 (hY { S with adj:=v } u x y):=by kernel_rfl
theorem se7:iQ m 7 S u x y P=bs m (.fn 604) [.ref 2,.int 2] (hY S u x y) (IJ m 7 (([0,3000]:List Int).map .int) P):=by kernel_rfl
theorem sf7 {v:Int}{K:aF→St→Prop}:Gy m 7 (.int v) (hY S u x y) K=K D4 (hY { S with dbl:=v } u x y):=by kernel_rfl
theorem se8:iQ m 8 S u x y P=bs m (.fn 604) [.ref 2,.int 2] (hY S u x y) (IJ m 8 (([0,700]:List Int).map .int) P):=by kernel_rfl
theorem sf8 {v:Int}{K:aF→St→Prop}:Gy m 8 (.int v) (hY S u x y) K=K D4 (hY { S with fin:=v } u x y):=by kernel_rfl
theorem se9:iQ m 9 S u x y P=bs m (.fn 604) [.ref 2,.int 5] (hY S u x y) (IJ m 9 (([0,0,0,1,-1]:List Int).map .int) P):=by kernel_rfl
theorem sf9 {v:Int}{K:aF→St→Prop}:Gy m 9 (.int v) (hY S u x y) K=K D4 (hY { S with loos:=v } u x y):=by kernel_rfl
theorem a57:iQ m 10 S u x y P=((lf []).1∧(lf [.int 1,.int 2,.int 0,.int 1,.int 0]).1∧bs m (.fn 604) [.ref 2,.int 2] (hY S u x y) (IJ m 10 (([⟨0,0,0,0⟩,⟨1,2,0,1⟩]:List Gl).map vX) P)):=by kernel_rfl
theorem a5j {v:Gl}{K:aF→St→Prop}:Gy m 10 (vX v) (hY S u x y) K=K D4 (hY { S with lg:=v } u x y):=by kernel_rfl
theorem a4X:iQ m 11 S u x y P=((lf []).1∧(lf [.int 0,.int 8,.int 0,.int 0,.int 0]).1∧bs m (.fn 604) [.ref 2,.int 2] (hY S u x y) (IJ m 11 (([⟨0,0,0,0⟩,⟨0,8,0,0⟩]:List Gl).map vX) P)):=by kernel_rfl
theorem a4R {v:Gl}{K:aF→St→Prop}:Gy m 11 (vX v) (hY S u x y) K=K D4 (hY { S with rg:=v } u x y):=by kernel_rfl
structure H6 (S:fF):Prop where
  pretol:S.pretol∈([0,-1,100,10000,30]:List Int)
  tol:S.tol∈([200,50,10000,12000,9999]:List Int)
  emer:S.emer∈([0,20,60]:List Int)
  linep:S.linep∈([10,0,1]:List Int)
  hyph:S.hyph∈([50,-40,10000,200]:List Int)
  adj:S.adj∈([0,5000]:List Int)
  dbl:S.dbl∈([0,3000]:List Int)
  fin:S.fin∈([0,700]:List Int)
  loos:S.loos∈([0,0,0,1,-1]:List Int)
  lg:S.lg∈([⟨0,0,0,0⟩,⟨1,2,0,1⟩]:List Gl)
  rg:S.rg∈([⟨0,0,0,0⟩,⟨0,8,0,0⟩]:List Gl)
noncomputable def eh (l0:List MO) (Q:aE):aq:=fun fl _ s=>match fl with
  | .ret v=>ad (fz (ln l0) s.l v) fun v=>dq l0 s fun st=>Q v st
  | .next=>ad (fz (ln l0) s.l .none) fun v=>dq l0 s fun st=>Q v st
  | _=>False
theorem gl0:pg ⟨0,0,0,0⟩:=by unfold pg M6; decide
theorem gl1:pg ⟨1,2,0,1⟩:=by unfold pg M6; decide
theorem gl2:pg ⟨0,8,0,0⟩:=by unfold pg M6; decide
noncomputable def Xe:fF:=⟨0,10000,0,0,0,0,0,0,0,⟨0,0,0,0⟩,⟨0,0,0,0⟩⟩
theorem wc {l:List MO}{Q:aE}(e:l=c2 x y) (h:Q (.ref 3) (hY Xe u x y)):bs (n+1) (.cls 413) [] ⟨l,u⟩ Q:=by
  subst e
  exact (show bs (n+1) (.cls 413) [] ⟨c2 x y,u⟩ Q=((lf []).1∧(lf []).1∧Q (.ref 3) (hY Xe u x y)) by kernel_rfl).mpr ⟨⟨.inl rfl,gl0⟩,⟨.inl rfl,gl0⟩,h⟩
theorem se0 {x0 y0:Int}:bs (m+1) (.fn 625) [.ref 2] ⟨c2 x y,u⟩ Q=bs m (.cls 413) [] ⟨c2 x y,u⟩ (fun v s=>de m bj (bj.body.drop 1) [(dC,.ref 2),(bz,v)] s (eh (c2 x y) Q)):=by kernel_rfl
theorem a7c {x0 y0:Int}:iQ m 12 S u x y (eh (c2 x0 y0) Q)=((MO.cell none=MO.cell none∧MO.cell none=MO.cell none∧True∧True)∧Q (cH S) ⟨c2 x y,u⟩):=by kernel_rfl
theorem cr {c:Nat}(hc:c≤1000) (o:aM c x y) (h:∀ v:Int,v∈([0,-1,100,10000,30]:List Int)→∀ x y,aM (c+1) x y→iQ (n+1) 2 { S with pretol:=v } u x y P):iQ (n+1) 1 S u x y P:=se1.mpr (ja (fun _ _ _ _=>sf1) rfl (by decide) hc o h)
theorem eG {c:Nat}(hc:c≤1000) (o:aM c x y) (h:∀ v:Int,v∈([200,50,10000,12000,9999]:List Int)→∀ x y,aM (c+1) x y→iQ (n+1) 3 { S with tol:=v } u x y P):iQ (n+1) 2 S u x y P:=se2.mpr (ja (fun _ _ _ _=>sf2) rfl (by decide) hc o h)
theorem IN {c:Nat}(hc:c≤1000) (o:aM c x y) (h:∀ v:Int,v∈([0,20,60]:List Int)→∀ x y,aM (c+1) x y→iQ (n+1) 4 { S with emer:=v } u x y P):iQ (n+1) 3 S u x y P:=se3.mpr (ja (fun _ _ _ _=>sf3) rfl (by decide) hc o h)
theorem X2 {c:Nat}(hc:c≤1000) (o:aM c x y) (h:∀ v:Int,v∈([10,0,1]:List Int)→∀ x y,aM (c+1) x y→iQ (n+1) 5 { S with linep:=v } u x y P):iQ (n+1) 4 S u x y P:=se4.mpr (ja (fun _ _ _ _=>sf4) rfl (by decide) hc o h)
theorem VC {c:Nat}(hc:c≤1000) (o:aM c x y) (h:∀ v:Int,v∈([50,-40,10000,200]:List Int)→∀ x y,aM (c+1) x y→iQ (n+1) 6 { S with hyph:=v } u x y P):iQ (n+1) 5 S u x y P:=se5.mpr (ja (fun _ _ _ _=>sf5) rfl (by decide) hc o h)
theorem Zc {c:Nat}(hc:c≤1000) (o:aM c x y) (h:∀ v:Int,v∈([0,5000]:List Int)→∀ x y,aM (c+1) x y→iQ (n+1) 7 { S with adj:=v } u x y P):iQ (n+1) 6 S u x y P:=se6.mpr (ja (fun _ _ _ _=>sf6) rfl (by decide) hc o h)
theorem st7 {c:Nat}(hc:c≤1000) (o:aM c x y) (h:∀ v:Int,v∈([0,3000]:List Int)→∀ x y,aM (c+1) x y→iQ (n+1) 8 { S with dbl:=v } u x y P):iQ (n+1) 7 S u x y P:=se7.mpr (ja (fun _ _ _ _=>sf7) rfl (by decide) hc o h)
theorem st8 {c:Nat}(hc:c≤1000) (o:aM c x y) (h:∀ v:Int,v∈([0,700]:List Int)→∀ x y,aM (c+1) x y→iQ (n+1) 9 { S with fin:=v } u x y P):iQ (n+1) 8 S u x y P:=se8.mpr (ja (fun _ _ _ _=>sf8) rfl (by decide) hc o h)
theorem st9 {c:Nat}(hc:c≤1000) (o:aM c x y) (h:∀ v:Int,v∈([0,0,0,1,-1]:List Int)→∀ x y,aM (c+1) x y→iQ (n+1) 10 { S with loos:=v } u x y P):iQ (n+1) 9 S u x y P:=se9.mpr (ja (fun _ _ _ _=>sf9) rfl (by decide) hc o h)
theorem a62 {c:Nat}(hc:c≤1000) (o:aM c x y) (h:∀ v:Gl,v∈([⟨0,0,0,0⟩,⟨1,2,0,1⟩]:List Gl)→∀ x y,aM (c+1) x y→iQ (n+1) 11 { S with lg:=v } u x y P):iQ (n+1) 10 S u x y P:=a57.mpr ⟨⟨.inl rfl,gl0⟩,⟨.inr rfl,gl1⟩,ja (fun _ _ _ _=>a5j) rfl (by decide) hc o h⟩
theorem a7g {c:Nat}(hc:c≤1000) (o:aM c x y) (h:∀ v:Gl,v∈([⟨0,0,0,0⟩,⟨0,8,0,0⟩]:List Gl)→∀ x y,aM (c+1) x y→iQ (n+1) 12 { S with rg:=v } u x y P):iQ (n+1) 11 S u x y P:=a4X.mpr ⟨⟨.inl rfl,gl0⟩,⟨.inr rfl,gl2⟩,ja (fun _ _ _ _=>a4R) rfl (by decide) hc o h⟩
theorem wT (o:aM 0 x y) (h:∀ S x y,H6 S→aM 11 x y→Q (cH S) ⟨c2 x y,u⟩):bs (n+2) (.fn 625) [.ref 2] ⟨c2 x y,u⟩ Q :=
  (se0 (x0:=x) (y0:=y)).mpr (wc rfl (show iQ (n+1) 1 Xe u x y (eh (c2 x y) Q) from
    cr (by decide) o fun v1 m1 x y o =>
    eG (by decide) o fun v2 m2 x y o =>
    IN (by decide) o fun v3 m3 x y o =>
    X2 (by decide) o fun v4 m4 x y o =>
    VC (by decide) o fun v5 m5 x y o =>
    Zc (by decide) o fun v6 m6 x y o =>
    st7 (by decide) o fun v7 m7 x y o =>
    st8 (by decide) o fun v8 m8 x y o =>
    st9 (by decide) o fun v9 m9 x y o =>
    a62 (by decide) o fun v10 m10 x y o =>
    a7g (by decide) o fun v11 m11 x y o =>
    a7c.mpr ⟨⟨rfl,rfl,⟨⟩,⟨⟩⟩,h ⟨v1,v2,v4,v5,v6,v7,v8,v9,v3,v10,v11⟩ x y ⟨m1,m2,m3,m4,m5,m6,m7,m8,m9,m10,m11⟩ o⟩))
end
end
section
set_option maxRecDepth 10000
theorem a0f {a b:Prop}:aI true a b=a:=rfl
theorem a0s {a b:Prop}:aI false a b=b:=rfl
theorem Zt {n:Nat}{F:c6}{b r:List Stmt}{a:Stmt}{loc:aF}{st:St}{Q:aq}(e:b=a :: r):de n F b loc st Q=II Wt (cO n) ⟨F.scope,[]⟩ a loc st (aB n F r Q):=by rw [e,GU]
section
structure LX where
  S:fF
  u:Nat
  x:Int
  y:Int
  left:Int
  R:List MV
  N:List MV
  C:List MV
  D:List MV
noncomputable def LX.h (K:LX):St:=⟨[.cell none,.cell none,.list [.int K.x,.int K.y],.list K.R,.list K.N,.list K.C,.list K.D],K.u⟩
noncomputable def LX.l (K:LX):aF:=[(dC,.ref 2),(av,cH K.S),(fg,.ref 3),(ny,.ref 4),(iE,.ref 5),(eT,.ref 6),(Nu,.int K.left)]
noncomputable abbrev Y7:Stmt:=aa ai.body 1
noncomputable abbrev liB:List Stmt:=cw Y7
noncomputable abbrev QY:Stmt:=aa liB 1
noncomputable abbrev tP:List Stmt:=cw QY
noncomputable def Zo:List Str:=[dC,av,fg,ny,iE,eT,Nu]
def LX.T (m:Nat) (z:Int) (X:List MV) (P:aq) (K:LX):Prop:=fe m ai Y7 none Zo (.rng z) X K.l K.h P
noncomputable def liQ (m:Nat) (z:Int) (X:List MV) (P:aq):aq:=gW m ai Y7 none Zo (.rng z) X P
noncomputable def exL:Option (MV × MV)→aF
  | none=>[]
  | some p=>[(nK,p.1),(xF,p.2)]
noncomputable def exN:Option (MV × MV)→List Str
  | none=>[]
  | some p=>[nK,xF]
noncomputable def LX.L (K:LX) (t:Int) (ex:Option (MV × MV)):aF:=K.l ++ (sm,.int t) :: exL ex
noncomputable def XH (ex:Option (MV × MV)):List Str:=Zo ++ sm :: exN ex
def LX.H (m:Nat) (z:Int) (X:List MV) (P:aq) (K:LX) (t:Int) (ex:Option (MV × MV)):Prop:=fe m ai QY none (XH ex) (.rng z) X (K.L t ex) K.h P
noncomputable def UB (m:Nat) (z:Int) (X:List MV) (P:aq) (ex:Option (MV × MV)):aq:=gW m ai QY none (XH ex) (.rng z) X P
variable {n m:Nat}{z t:Int}{X:List MV}{P:aq}{K:LX}{ex:Option (MV × MV)}{Q:aE}
def Vq (m:Nat) (a:Int) (s':Stmt) (ns:List Str) (loc:aF) (P:aq) (d:MV) (s:St):Prop:=mP .Add (.int a) d s fun v s=>ad (aH (qe [v]) ga) fun z=>bW (0≤z∧z≤100000) (bw (Wn (.rng z) (gh s')) (fe m ai s' none ns (.rng z) (a1S z) loc s P))
noncomputable def LX.K0 (S:fF) (u:Nat) (x y:Int):LX:=⟨S,u,x,y,3,[],[],[],[]⟩
theorem li0 {S:fF}{u:Nat}{x y:Int}:bs (m+1) (.fn 632) [.ref 2,cH S] ⟨c2 x y,u⟩ Q=bs m (.fn 604) [.ref 2,.int 2] (LX.K0 S u x y).h (Vq m 2 Y7 Zo (LX.K0 S u x y).l (aB m ai (ai.body.drop 2) (eh (c2 x y) Q))):=by kernel_rfl
theorem li1:K.T m z (.int 0 :: X) P=bs m (.fn 604) [.ref 2,.int 2] K.h (Vq m 1 QY (XH none) (K.L 0 none) (aB m ai [] (liQ m z X P))):=by kernel_rfl
def LX.g3 (m:Nat) (z:Int) (X:List MV) (P:aq) (K:LX) (t:Int) (a b:MV) (c:MV) (s:St):Prop:=de m ai ((cw (aa liB 0)).drop 1) (K.l ++ [(sm,.int t),(nK,.tup [a,b,.int 0,c])]) s (aB m ai (liB.drop 1) (liQ m z X P))
def LX.g2 (m:Nat) (z:Int) (X:List MV) (P:aq) (K:LX) (t:Int) (a:MV) (b:MV) (s:St):Prop:=mP .Add (.int 1) b s fun b s=>bs m (.fn 604) [.ref 2,.int 3] s (K.g3 m z X P t a b)
def LX.g1 (m:Nat) (z:Int) (X:List MV) (P:aq) (K:LX) (t:Int) (a:MV) (s:St):Prop:=mP .Add (.int 4) a s fun a s=>bs m (.fn 604) [.ref 2,.int 6] s (K.g2 m z X P t a)
theorem li2:K.T m z (.int 1 :: X) P=bs m (.fn 604) [.ref 2,.int 3] K.h (K.g1 m z X P 1):=by kernel_rfl
theorem li3:K.T m z (.int 2 :: X) P=bs m (.fn 604) [.ref 2,.int 3] K.h (K.g1 m z X P 2):=by kernel_rfl
theorem li4 {a:Int}:K.g1 m z X P t (.int a) K.h=bs m (.fn 604) [.ref 2,.int 6] K.h (K.g2 m z X P t (.int (4+a))):=by kernel_rfl
theorem li5 {a:MV}{b:Int}:K.g2 m z X P t a (.int b) K.h=bs m (.fn 604) [.ref 2,.int 3] K.h (K.g3 m z X P t a (.int (1+b))):=by kernel_rfl
noncomputable def LX.add (K:LX) (r v:MV) (k:Nat):LX:={ K with R:=aL K.R r,N:=aL K.N v,C:=aL K.C r,D:=aL K.D v,u:=K.u+k }
def LX.cap (K:LX) (Z:Prop):Prop:=bW (K.R.length<100000) (bW (K.N.length<100000) (bW (K.C.length<100000) (bW (K.D.length<100000) Z)))
variable {Q':aq}
theorem li6 {a b c:Int}:de (n+3) ai ((cw (aa liB 0)).drop 1) (K.l ++ [(sm,.int t),(nK,.tup [.int a,.int b,.int 0,.int c])]) K.h Q'=((lf [.int a,.int b,.int 0,.int c,.int 0]).1∧(gQ [.int 0,.int 0,.int 5]).1 ∧
    K.cap (Q' .next ((K.add (.tup [.bool false,.int a,.int b,.int 0,.int c,.int 0,.none]) (f7 K.u (.skip ⟨a,b,0,c⟩)) 1).L t (some (.tup [.int a,.int b,.int 0,.int c],f7 K.u (.skip ⟨a,b,0,c⟩)))) (K.add (.tup [.bool false,.int a,.int b,.int 0,.int c,.int 0,.none]) (f7 K.u (.skip ⟨a,b,0,c⟩)) 1).h)):=by kernel_rfl
theorem li7:de m ai (liB.drop 1) (K.L t ex) K.h P=bs m (.fn 604) [.ref 2,.int 2] K.h (Vq m 1 QY (XH ex) (K.L t ex) (aB m ai [] P)):=by cases ex <;> kernel_rfl
noncomputable def Ip (h:Int):Option MV→aF
  | none=>[(N6,.int h)]
  | some v=>[(N6,.int h),(pc,v)]
def LX.haK (m:Nat) (z:Int) (X:List MV) (P:aq) (K:LX) (t:Int) (ex:Option (MV × MV)) (h:Int) (cs:Option MV) (d:MV) (s:St):Prop:=mP .Add (.int 8) d s fun v s=>de m ai (tP.drop 2) (K.L t ex ++ Ip h cs ++ [(eE,v)]) s (UB m z X P ex)
theorem ha1:K.H m z (.int 0 :: X) P t ex=bs m (.fn 604) [.ref 2,.int 16] K.h (K.haK m z X P t ex 0 none):=by cases ex <;> kernel_rfl
noncomputable def a0k (ex:Option (MV × MV)) (v:MV):Option (MV × MV):=ex.map fun p=>(p.1,v)
noncomputable def ndO (v:MV):Option (MV × MV)→aF
  | none=>[(xF,v)]
  | some _=>[]
noncomputable def LX.bx (K:LX) (w:Int):LX:=K.add (.tup [.bool true,.int w,.int 0,.int 0,.int 0,.none,.none]) (rF K.u w) 1
noncomputable def LX.E (K:LX) (t:Int) (ex:Option (MV × MV)) (h:Int) (cs:Option MV) (w:Int) (v:MV):aF:=K.L t (a0k ex v) ++ Ip h cs ++ (eE,.int w) :: ndO v ex
theorem ha2 {h w:Int}{cs:Option MV}:de (n+3) ai (tP.drop 2) (K.L t ex ++ Ip h cs ++ [(eE,.int w)]) K.h Q'=((gQ [.int 2,.int 2,.int 3]).1∧(fD [.int w]).1∧(fD [.int 0]).1∧(fD [.int 0]).1∧K.cap (Q' .next ((K.bx w).E t ex h cs w (rF K.u w)) (K.bx w).h)):=by cases ex <;> cases cs <;> kernel_rfl
theorem ha3 {h w:Int}{cs:Option MV}{v:MV}:UB m z X P ex .next (K.E t ex h cs w v) K.h=(True∧K.H m z X P t (a0k ex v)):=by cases ex <;> cases cs <;> kernel_rfl
theorem haA {K':aF→St→Prop}:jI Wt (cO m) ⟨ai.scope,[]⟩ (gh QY) (.int 1) (K.L t ex) K.h K'=K' (K.L t ex ++ Ip 1 none) K.h:=by cases ex <;> kernel_rfl
theorem We:tP=aa tP 0 :: tP.drop 1:=by kernel_rfl
theorem haI {loc:aF}{st:St}:II Wt (cO m) ⟨ai.scope,[]⟩ (aa tP 0) loc st Q'=tsT m ai (aa tP 0) loc st (fun b s=>aI b (de m ai (cw (aa tP 0)) loc s Q') (Q' .next loc s)):=by kernel_rfl
theorem haT {K':Bool→St→Prop}:tsT m ai (aa tP 0) (K.L t ex ++ Ip 1 none) K.h K'=aI (decide (K.left > 0)) (K' true K.h) (K' false K.h):=by cases ex <;> kernel_rfl
theorem ha4:K.H m z (.int 1 :: X) P t ex=aI (decide (K.left > 0)) (de m ai (cw (aa tP 0)) (K.L t ex ++ Ip 1 none) K.h (aB m ai (tP.drop 1) (UB m z X P ex))) (aB m ai (tP.drop 1) (UB m z X P ex) .next (K.L t ex ++ Ip 1 none) K.h):=by
  unfold LX.H
  rw [qD,haA,Zt We,haI,haT,a0f,a0s]
  rfl
noncomputable def LX.dc (K:LX) (c:MV):LX:={ K with C:=aL K.C (.tup [.bool true,.int 0,.int 0,.int 0,.int 0,c,.tup [.int 3,.none]]),D:=aL K.D (f7 K.u .disc),u:=K.u+2,left:=K.left - 1 }
theorem ha5:de (n+3) ai (cw (aa tP 0)) (K.L t ex ++ Ip 1 none) K.h Q'=(fun X:MV→Prop=>aI (decide (K.S.hyph<10000)) (X (.int K.S.hyph)) (X .none)) fun c=>(gQ [.int 2,.int 2,.int 3]).1∧(fD [.int 3]).1∧(fD [.int 0]).1∧(fD [.int 0]).1∧True∧bW (K.C.length<100000) (bW (K.D.length<100000) (Q' .next ((K.dc c).L t ex ++ Ip 1 (some c)) (K.dc c).h)):=by cases ex <;> kernel_rfl
theorem ha6 {c:MV}:de m ai (tP.drop 1) (K.L t ex ++ Ip 1 (some c)) K.h (UB m z X P ex)=bs m (.fn 604) [.ref 2,.int 16] K.h (K.haK m z X P t ex 1 (some c)):=by cases ex <;> kernel_rfl
end
end
section
set_option maxRecDepth 10000
noncomputable def lU (hy:Int) (b:Bool):Nd→MV
  | .box w=>.tup [.bool true,.int w,.int 0,.int 0,.int 0,.none,.none]
  | .skip g=>.tup [.bool false,.int g.w,.int g.s,.int g.o,.int g.k,match b with
    | true=>.int 0
    | false=>.none,.none]
  | .pen=>.tup [.bool false,.int 0,.int 0,.int 0,.int 0,.none,.none]
  | .disc=>.tup [.bool true,.int 0,.int 0,.int 0,.int 0,if hy<10000 then .int hy else .none,.tup [.int 3,.none]]
noncomputable def dj (hy:Int):Bool→List Nd→List MV
  | _,[]=>[]
  | b,d :: r=>lU hy b d :: dj hy (!d.drops) r
noncomputable def xq:Bool→List Nd→Bool
  | b,[]=>b
  | _,d :: r=>xq (!d.drops) r
def NdB:Nd→Prop
  | .box w=>0≤w∧w≤100
  | .skip g=>(0≤g.w∧g.w≤100)∧(0≤g.s∧g.s≤100)∧(g.o=0∨g.o=1)∧(0≤g.k∧g.k≤100)
  | _=>True
noncomputable def jQ:List Nd→Prop
  | []=>True
  | .disc :: r=>(∃ w t,r=.box w :: t)∧jQ r
  | _ :: r=>jQ r
noncomputable def VI:List Nd→Nat
  | []=>0
  | .box _ :: r=>VI r
  | _ :: r=>VI r+1
structure gm (N B:Nat) (ds:List Nd):Prop where
  len:ds.length≤N
  nb:VI ds≤B
  all:∀ d∈ds,NdB d
  adj:jQ ds
theorem Dp (hy:Int):∀ (a b:List Nd) (f:Bool),dj hy f (a ++ b)=dj hy f a ++ dj hy (xq f a) b
  | [],_,_=>rfl
  | d :: r,b,_=>congrArg (_ :: ·) (Dp hy r b _)
theorem DJ:∀ (a b:List Nd) (f:Bool),xq f (a ++ b)=xq (xq f a) b
  | [],_,_=>rfl
  | d :: r,b,_=>DJ r b _
theorem jQ.app {b:List Nd}(g:jQ b):∀ {a:List Nd},jQ a→jQ (a ++ b)
  | [],_=>g
  | .disc :: r,h=>⟨h.1.imp fun w=>Exists.imp' (· ++ b) fun t e=>by rw [e]; rfl,jQ.app g h.2⟩
  | .box _ :: r,h=>jQ.app g (a:=r) h
  | .skip _ :: r,h=>jQ.app g (a:=r) h
  | .pen :: r,h=>jQ.app g (a:=r) h
theorem pN (b:List Nd):∀ a:List Nd,VI (a ++ b)=VI a+VI b
  | []=>(Nat.zero_add _).symm
  | .box _ :: r=>pN b r
  | .disc :: r=>(congrArg (·+1) (pN b r)).trans (Nat.succ_add _ _).symm
  | .skip _ :: r=>(congrArg (·+1) (pN b r)).trans (Nat.succ_add _ _).symm
  | .pen :: r=>(congrArg (·+1) (pN b r)).trans (Nat.succ_add _ _).symm
theorem gm.app {a b n m:Nat}{x y:List Nd}(h:gm a b x) (g:gm n m y):gm (a+n) (b+m) (x ++ y) :=
  ⟨by rw [List.length_append]; exact Nat.add_le_add h.len g.len,by rw [pN]; exact Nat.add_le_add h.nb g.nb,fun d q=>(List.mem_append.mp q).elim (h.all d) (g.all d),g.adj.app h.adj⟩
def lA (hy:Int) (a b:Nat) (f:Bool) (R N:List MV):Prop:=∃ L:NL,(N=cz L∧R=dj hy false (cg L))∧xq false (cg L)=f∧gm a b (cg L)
section
variable {hy:Int}{a b n m:Nat}{f:Bool}{R N:List MV}
theorem lA.app (L:NL) (g:gm n m (cg L)) (h:lA hy a b f R N):lA hy (a+n) (b+m) (xq f (cg L)) (R ++ dj hy f (cg L)) (N ++ cz L):=by
  obtain ⟨M,⟨rfl,rfl⟩,rfl,g'⟩:=h
  refine ⟨M ++ L,⟨List.map_append.symm,?_⟩,?_,?_⟩
  all_goals rw [show cg (M ++ L)=cg M ++ cg L from List.map_append]
  · exact (Dp ..).symm
  · exact DJ ..
  · exact g'.app g
theorem lA.le {a' b':Nat}(h:lA hy a b f R N) (e:a≤a') (e':b≤b'):lA hy a' b' f R N:=h.imp fun _ k=>⟨k.1,k.2.1,⟨Nat.le_trans k.2.2.len e,Nat.le_trans k.2.2.nb e',k.2.2.all,k.2.2.adj⟩⟩
theorem lA.nil:lA hy 0 0 false [] []:=⟨[],⟨rfl,rfl⟩,rfl,⟨Nat.le_refl _,Nat.le_refl _,fun _ m=>absurd m List.not_mem_nil,⟨⟩⟩⟩
theorem nJ {d:Nd}(h:NdB d):∀ x∈[d],NdB x:=fun x m=>by rw [List.mem_singleton.mp m]; exact h
theorem lA.box {k:Nat}{w:Int}(h:lA hy a b f R N) (hw:0≤w∧w≤100):lA hy (a+1) b true (aL R (.tup [.bool true,.int w,.int 0,.int 0,.int 0,.none,.none])) (aL N (rF k w)):=by
  rw [br,br]; exact h.app [(k,.box w)] ⟨Nat.le_refl _,Nat.le_refl _,nJ hw,⟨⟩⟩
theorem lA.skip {k:Nat}{w s l:Int}(h:lA hy a b true R N) (hw:(0≤w∧w≤100)∧(0≤s∧s≤100)∧0≤l∧l≤100):lA hy (a+1) (b+1) false (aL R (.tup [.bool false,.int w,.int s,.int 0,.int l,.int 0,.none])) (aL N (f7 k (.skip ⟨w,s,0,l⟩))):=by
  rw [br,br]; exact h.app [(k,.skip ⟨w,s,0,l⟩)] ⟨Nat.le_refl _,Nat.le_refl _,nJ ⟨hw.1,hw.2.1,.inl rfl,hw.2.2⟩,⟨⟩⟩
theorem lA.dbox {k k':Nat}{w:Int}{c:MV}(h:lA hy a b f R N) (hw:0≤w∧w≤100) (ec:c=if hy<10000 then .int hy else .none):lA hy (a+2) (b+1) true (aL (aL R (.tup [.bool true,.int 0,.int 0,.int 0,.int 0,c,.tup [.int 3,.none]])) (.tup [.bool true,.int w,.int 0,.int 0,.int 0,.none,.none])) (aL (aL N (f7 k .disc)) (rF k' w)):=by
  rw [br,br,br,br,List.append_assoc,List.append_assoc,ec]
  exact h.app [(k,.disc),(k',.box w)] ⟨Nat.le_refl _,Nat.le_refl _,fun x m=>(List.mem_cons.mp m).elim (fun e=>by rw [e]; exact ⟨⟩) fun m=>nJ (d:=.box w) hw x m,⟨⟨w,[],rfl⟩,⟨⟩⟩⟩
theorem lA.ends {k k':Nat}(h:lA hy a b f R N):lA hy (a+2) (b+2) false (aL (aL R (.tup [.bool false,.int 0,.int 0,.int 0,.int 0,.none,.none])) (.tup [.bool false,.int 0,.int 5,.int 1,.int 0,.none,.none])) (aL (aL N (f7 k .pen)) (f7 k' (.skip ⟨0,5,1,0⟩))):=by
  rw [br,br,br,br,List.append_assoc,List.append_assoc]
  exact h.app [(k,.pen),(k',.skip ⟨0,5,1,0⟩)] ⟨Nat.le_refl _,Nat.le_refl _,fun x m=>(List.mem_cons.mp m).elim (fun e=>by rw [e]; exact ⟨⟩) fun m=>nJ (d:=.skip ⟨0,5,1,0⟩) ⟨by decide,by decide,.inr rfl,by decide⟩ x m,⟨⟩⟩
theorem lA.ln (h:lA hy a b f R N):R.length≤a∧N.length≤a:=by
  have rl:∀ (ds:List Nd) (b:Bool),(dj hy b ds).length=ds.length:=fun ds=>by
    induction ds with
    | nil=>exact fun _=>rfl
    | cons d r ih=>exact fun _=>congrArg (·+1) (ih _)
  obtain ⟨L,⟨rfl,rfl⟩,_,g⟩:=h
  exact ⟨by rw [rl]; exact g.len,by rw [cE,← fM]; exact g.len⟩
end
end
section
set_option maxRecDepth 10000
section
structure LI (c a b ca cb:Nat) (f:Bool) (K:LX):Prop where
  pool:aM c K.x K.y
  ns:lA K.S.hyph a b f K.R K.N
  cs:lA K.S.hyph ca cb f K.C K.D
variable {n m c a b ca cb:Nat}{z t:Int}{X:List MV}{P:aq}{K:LX}{ex:Option (MV × MV)}{Q:aE}{f:Bool}
theorem rg0:Vq m 2 Y7 Zo K.l P (.int 0) K.h=K.T m 2 [.int 0,.int 1] P:=by kernel_rfl
theorem rg1:Vq m 2 Y7 Zo K.l P (.int 1) K.h=K.T m 3 [.int 0,.int 1,.int 2] P:=by kernel_rfl
theorem rg2:Vq m 1 QY (XH ex) (K.L t ex) P (.int 0) K.h=K.H m 1 [.int 0] P t ex:=by cases ex <;> kernel_rfl
theorem rg3:Vq m 1 QY (XH ex) (K.L t ex) P (.int 1) K.h=K.H m 2 [.int 0,.int 1] P t ex:=by cases ex <;> kernel_rfl
theorem ha7:liQ m z X P .next (K.L t ex) K.h=(True∧K.T m z X P):=by cases ex <;> kernel_rfl
theorem two {d:Int}(h0:0≤d) (h:d<2):d=0∨d=1:=by lia
noncomputable def LX.tk (K:LX) (x y:Int):LX:={ K with x:=x,y:=y }
def LX.few (K:LX):Prop:=(K.R.length≤200∧K.N.length≤200)∧K.C.length≤200∧K.D.length≤200
theorem l7 {k:Nat}(h:k≤200):k<100000:=Nat.lt_of_le_of_lt h (by decide)
theorem LX.few.cap {Z:Prop}(g:K.few) (h:Z):K.cap Z:=cf (l7 g.1.1) (cf (l7 g.1.2) (cf (l7 g.2.1) (cf (l7 g.2.2) h)))
theorem LI.few (o:LI c a b ca cb f K) (ha:a≤100∧ca≤100):K.few:=by
  have l:=o.ns.ln
  have l':=o.cs.ln
  unfold LX.few
  lia
theorem YC {k:Int}{Q:aE}(hc:c≤500) (hk:0<k∧k≤1000) (o:aM c K.x K.y) (h:∀ d x y,0≤d→d<k→aM (c+1) x y→Q (.int d) (K.tk x y).h):bs (n+1) (.fn 604) [.ref 2,.int k] K.h Q:=ow (Nat.le_trans hc (by decide)) hk o h
theorem Zm {x:Int}(h0:0≤x) (h:x≤1000):M6 x:=⟨Int.le_trans (by decide) h0,Int.le_trans h (by decide)⟩
theorem m60:M6 0:=Zm (Int.le_refl _) (by decide)
theorem a5a:de m ai (tP.drop 1) (K.L t ex ++ Ip 1 none) K.h (UB m z X P ex)=bs m (.fn 604) [.ref 2,.int 16] K.h (K.haK m z X P t ex 1 none):=by cases ex <;> kernel_rfl
theorem Wq {h w:Int}{cs:Option MV}:K.haK m z X P t ex h cs (.int w) K.h=de m ai (tP.drop 2) (K.L t ex ++ Ip h cs ++ [(eE,.int (8+w))]) K.h (UB m z X P ex):=by kernel_rfl
theorem wx {h:Int}{cs:Option MV}(hc:c≤500) (pl:aM c K.x K.y) (g:K.few) (k:∀ w x y ex',0≤w∧w≤100→aM (c+1) x y→((K.tk x y).bx w).H (n+3) z X P t ex'):bs (n+3) (.fn 604) [.ref 2,.int 16] K.h (K.haK (n+3) z X P t ex h cs) :=
  YC (n:=n+2) hc (by decide) pl fun d x y h0 h1 p=>(Wq (K:=K.tk x y)).mpr (ha2.mpr ⟨rfl,⟨rfl,(Zm (by lia) (by lia):M6 (8+d))⟩,⟨rfl,m60⟩,⟨rfl,m60⟩,LX.few.cap (K:=K.tk x y) g (ha3.mpr ⟨⟨⟩,k _ x y _ (by lia) p⟩)⟩)
theorem U1 (hc:c≤500) (ha:a≤100∧ca≤100) (o:LI c a b ca cb f K) (k:∀ K' ex',K'.S=K.S→LI (c+1) (a+1) b (ca+1) cb true K'→K'.H (n+3) z X P t ex'):K.H (n+3) z (.int 0 :: X) P t ex :=
  ha1.mpr (wx hc o.pool (o.few ha) fun w x y ex' hw p=>k _ _ rfl ⟨p,o.ns.box hw,o.cs.box hw⟩)
theorem a3g (hc:c≤500) (ha:a≤100∧ca≤100) (o:LI c a b ca cb f K) (k:∀ K' ex',K'.S=K.S→LI (c+1) (a+1) b (ca+2) (cb+1) true K'→K'.H (n+3) z X P t ex'):K.H (n+3) z (.int 1 :: X) P t ex:=by
  have g:=o.few ha
  refine ha4.mpr (bX (fun _=>ha5.mpr ?_) fun _=>?_)
  · have r:∀ c',c'=(if K.S.hyph<10000 then MV.int K.S.hyph else .none)→(gQ [.int 2,.int 2,.int 3]).1∧(fD [.int 3]).1∧(fD [.int 0]).1∧(fD [.int 0]).1∧True∧bW (K.C.length<100000) (bW (K.D.length<100000) (aB (n+3) ai (tP.drop 1) (UB (n+3) z X P ex) .next ((K.dc c').L t ex ++ Ip 1 (some c')) (K.dc c').h)):=fun c' ec =>
      ⟨rfl,⟨rfl,Zm (by decide) (by decide)⟩,⟨rfl,m60⟩,⟨rfl,m60⟩,⟨⟩,cf (l7 g.2.1) (cf (l7 g.2.2) (by
        rw [ba,show (K.dc c').L t ex=(K.dc c').L t ex from rfl,ha6]
        exact wx hc o.pool ⟨g.1,by show (aL _ _).length≤200∧(aL _ _).length≤200; have:=o.cs.ln; rw [dA,dA]; lia⟩ fun w x y ex' hw p=>k _ _ rfl ⟨p,o.ns.box hw,o.cs.dbox hw ec⟩))⟩
    exact bX (fun q=>r _ (if_pos q).symm) fun q=>r _ (if_neg q).symm
  · rw [ba,a5a]
    exact wx hc o.pool g fun w x y ex' hw p=>k _ _ rfl ⟨p,o.ns.box hw,(o.cs.box hw).le (Nat.le_succ _) (Nat.le_succ _)⟩
end
end
section
set_option maxRecDepth 10000
section
variable {n m c a b ca cb:Nat}{z t:Int}{X:List MV}{P:aq}{K:LX}{ex:Option (MV × MV)}{Q:aE}{Q':aq}{f:Bool}
theorem glk {a b c:Int}(h:(0≤a∧a≤1000)∧(0≤b∧b≤1000)∧0≤c∧c≤1000):pg ⟨a,b,0,c⟩:=⟨⟨Zm h.1.1 h.1.2,Zm h.2.1.1 h.2.1.2,Zm h.2.2.1 h.2.2.2⟩,⟨Int.le_refl _,(by decide:(0:Int)≤3)⟩,fun _=>rfl⟩
theorem gl3:pg ⟨0,5,1,0⟩:=by unfold pg M6; decide
theorem lP {F:c6}{loc:aF}{st:St}:de m F [] loc st Q'=Q' .next loc st:=by kernel_rfl
theorem aM.more {x y:Int}(h:aM c x y):aM (c+1) x y:=⟨h.1,h.2.1,Int.le_trans h.2.2 (Int.ofNat_le.mpr (Nat.le_succ _))⟩
theorem LI.le {c' a' b' ca' cb':Nat}(h:LI c a b ca cb f K) (e:c+1=c'∧(a≤a'∧b≤b')∧ca≤ca'∧cb≤cb'):LI c' a' b' ca' cb' f K:=⟨e.1 ▸ h.pool.more,h.ns.le e.2.1.1 e.2.1.2,h.cs.le e.2.2.1 e.2.2.2⟩
theorem haE:K.H m z [] P t ex=P .next (K.L t ex) K.h:=by unfold LX.H; rw [nW]
theorem JH (hc:c≤490) (ha:a≤90∧ca≤90) (o:LI c a b ca cb f K) (k:∀ K',K'.S=K.S→LI (c+3) (a+2) b (ca+3) (cb+1) true K'→K'.T (n+3) z X P):bs (n+3) (.fn 604) [.ref 2,.int 2] K.h (Vq (n+3) 1 QY (XH ex) (K.L t ex) (aB (n+3) ai [] (liQ (n+3) z X P))):=by
  have fin:∀ {z'} {K' ex'},K'.S=K.S→LI (c+3) (a+2) b (ca+3) (cb+1) true K'→K'.H (n+3) z' [] (aB (n+3) ai [] (liQ (n+3) z X P)) t ex':=fun e o=>by
    rw [haE,ba,lP,ha7]
    exact ⟨⟨⟩,k _ e o⟩
  refine YC (n:=n+2) (by lia) (by decide) o.pool fun d x y h0 h1 p=>?_
  have o':LI (c+1) a b ca cb f (K.tk x y):=⟨p,o.ns,o.cs⟩
  rcases two h0 h1 with rfl | rfl
  · exact (rg2 (K:=K.tk x y)).mpr (U1 (by lia) (by lia) o' fun K' ex' e o=>fin e (o.le (by lia)))
  · exact (rg3 (K:=K.tk x y)).mpr (U1 (by lia) (by lia) o' fun K' ex' e o=>a3g (by lia) (by lia) o fun K'' ex'' e' o=>fin (e'.trans e) o)
theorem TY (hc:c≤490) (ha:a≤90∧ca≤90) (o:LI c a b ca cb f K) (k:∀ K',K'.S=K.S→LI (c+3) (a+2) b (ca+3) (cb+1) true K'→K'.T (n+3) z X P):K.T (n+3) z (.int 0 :: X) P:=li1.mpr (JH hc ha o k)
theorem JG (ht:t=1∨t=2) (hc:c≤480) (ha:a≤80∧ca≤80) (o:LI c a b ca cb true K) (k:∀ K',K'.S=K.S→LI (c+6) (a+3) (b+1) (ca+4) (cb+2) true K'→K'.T (n+3) z X P):K.T (n+3) z (.int t :: X) P:=by
  have e:K.T (n+3) z (.int t :: X) P=bs (n+3) (.fn 604) [.ref 2,.int 3] K.h (K.g1 (n+3) z X P t):=ht.elim (fun e=>by rw [e]; exact li2) fun e=>by rw [e]; exact li3
  rw [e]
  refine YC (n:=n+2) (by lia) (by decide) o.pool fun d1 x1 y1 h1 h1' p1=>(li4 (K:=K.tk x1 y1)).mpr ?_
  refine YC (n:=n+2) (K:=K.tk x1 y1) (by lia) (by decide) p1 fun d2 x2 y2 h2 h2' p2=>(li5 (K:=K.tk x2 y2)).mpr ?_
  refine YC (n:=n+2) (K:=K.tk x2 y2) (by lia) (by decide) p2 fun d3 x3 y3 h3 h3' p3=>(li6 (K:=K.tk x3 y3)).mpr ⟨⟨.inr rfl,glk (a:=4+d1) (b:=1+d2) (c:=d3) (by lia)⟩,rfl,LX.few.cap (K:=K.tk x3 y3) (o.few (by lia)) ?_⟩
  rw [ba,li7]
  exact JH (c:=c+3) (a:=a+1) (b:=b+1) (ca:=ca+1) (cb:=cb+1) (f:=false) (by lia) (by lia) ⟨p3,o.ns.skip ⟨by lia,by lia,by lia⟩,o.cs.skip ⟨by lia,by lia,by lia⟩⟩ fun K' e o=>k K' e o
def fiK (m:Nat) (K:LX) (P:aq) (d:MV) (s:St):Prop:=ad (eY s .Lt d (.int 2)) fun b=>aI b (de m ai (cw (aa ai.body 2)) K.l s (aB m ai (ai.body.drop 3) P)) (de m ai [] K.l s (aB m ai (ai.body.drop 3) P))
theorem fi1:de m ai (ai.body.drop 2) K.l K.h P=bs m (.fn 604) [.ref 2,.int 3] K.h (fiK m K P):=by kernel_rfl
theorem fi2 {d:Int}{s:St}:fiK m K P (.int d) s=aI (decide (d<2)) (de m ai (cw (aa ai.body 2)) K.l s (aB m ai (ai.body.drop 3) P)) (de m ai [] K.l s (aB m ai (ai.body.drop 3) P)):=rfl
noncomputable def LX.e1 (K:LX):LX:=K.add (.tup [.bool false,.int 0,.int 0,.int 0,.int 0,.none,.none]) (f7 K.u .pen) 2
noncomputable def LX.e2 (K:LX):LX:={ K.e1 with R:=aL K.e1.R (.tup [.bool false,.int 0,.int 5,.int 1,.int 0,.none,.none]),N:=aL K.e1.N (f7 (K.u+1) (.skip ⟨0,5,1,0⟩)),C:=aL K.e1.C (.tup [.bool false,.int 0,.int 5,.int 1,.int 0,.none,.none]),D:=aL K.e1.D (f7 (K.u+1) (.skip ⟨0,5,1,0⟩)) }
noncomputable def enO (v:List MV):aF:=[(wG,.fl v)]
noncomputable def LX.ev (K:LX):List MV:=[.tup [.tup [.bool false,.int 0,.int 0,.int 0,.int 0,.none,.none],f7 K.u .pen],.tup [.tup [.bool false,.int 0,.int 5,.int 1,.int 0,.none,.none],f7 (K.u+1) (.skip ⟨0,5,1,0⟩)]]
theorem fi3:de (n+3) ai (cw (aa ai.body 2)) K.l K.h Q'=((fD [.int 10000]).1∧(lf [.int 0,.int 5,.int 1,.int 0,.int 0]).1∧(gQ [.int 0,.int 0,.int 5]).1∧K.cap (True∧K.e1.cap (True∧Q' .next (K.l ++ [(wG,.fl K.ev)]) K.e2.h))):=by kernel_rfl
theorem fi4 {r:List MV}{x y:Int}:de m ai (ai.body.drop 3) (K.l ++ [(wG,.fl r)]) K.h (eh (c2 x y) Q)=((MO.cell none=MO.cell none∧MO.cell none=MO.cell none∧True∧True)∧Q (.tup [.fl K.R,.fl K.N,.fl K.C,.fl K.D]) ⟨c2 K.x K.y,K.u⟩):=by kernel_rfl
theorem fi5 {x y:Int}:de m ai (ai.body.drop 3) K.l K.h (eh (c2 x y) Q)=((MO.cell none=MO.cell none∧MO.cell none=MO.cell none∧True∧True)∧Q (.tup [.fl K.R,.fl K.N,.fl K.C,.fl K.D]) ⟨c2 K.x K.y,K.u⟩):=by kernel_rfl
theorem aM.up {k:Nat}{x y:Int}(h:aM c x y) (e:c≤k):aM k x y:=⟨h.1,h.2.1,Int.le_trans h.2.2 (Int.ofNat_le.mpr e)⟩
theorem RC {S:fF}{x y:Int}{u:Nat}(hc:c≤100) (o:aM c x y) (h:∀ x y u f f' R N C D,aM 200 x y→lA S.hyph 20 10 f R N→lA S.hyph 20 10 f' C D→Q (.tup [.fl R,.fl N,.fl C,.fl D]) ⟨c2 x y,u⟩):bs (n+4) (.fn 632) [.ref 2,cH S] ⟨c2 x y,u⟩ Q:=by
  have fin:∀ {z} {K':LX},K'.S=S→LI (c+20) 8 2 11 5 true K'→K'.T (n+3) z [] (aB (n+3) ai (ai.body.drop 2) (eh (c2 x y) Q)):=fun {z} {K'} e o=>by
    subst e
    unfold LX.T
    rw [nW,ba,fi1]
    refine YC (n:=n+2) (by lia) (by decide) o.pool fun d x1 y1 h0 h1 p=>?_
    have p:=p.up (k:=200) (by lia)
    have fw:LX.few (K'.tk x1 y1):=o.few (by decide)
    show fiK (n+3) (K'.tk x1 y1) _ _ _
    rw [fi2]
    refine bX (fun _=>fi3.mpr ⟨⟨rfl,(⟨by decide,by decide⟩:M6 10000)⟩,⟨.inr rfl,gl3⟩,rfl,fw.cap ⟨⟨⟩,LX.few.cap (K:=(K'.tk x1 y1).e1) ?_ ⟨⟨⟩,?_⟩⟩⟩) fun _=>?_
    · have l:=o.ns.ln
      have l':=o.cs.ln
      show ((aL _ _).length≤200∧(aL _ _).length≤200)∧(aL _ _).length≤200∧(aL _ _).length≤200
      rw [dA,dA,dA,dA]
      show (K'.R.length+1≤200∧K'.N.length+1≤200)∧K'.C.length+1≤200∧K'.D.length+1≤200
      lia
    · rw [ba]
      exact (fi4 (K:=(K'.tk x1 y1).e2)).mpr ⟨⟨rfl,rfl,⟨⟩,⟨⟩⟩,h _ _ _ _ _ _ _ _ _ p (o.ns.ends.le (by decide) (by decide)) (o.cs.ends.le (by decide) (by decide))⟩
    · rw [lP,ba]
      exact (fi5 (K:=K'.tk x1 y1)).mpr ⟨⟨rfl,rfl,⟨⟩,⟨⟩⟩,h _ _ _ _ _ _ _ _ _ p (o.ns.le (by decide) (by decide)) (o.cs.le (by decide) (by decide))⟩
  refine li0.mpr (YC (n:=n+2) (K:=LX.K0 S u x y) (by lia) (by decide) o fun d x1 y1 h0 h1 p=>?_)
  have o0:LI (c+1) 0 0 0 0 false ((LX.K0 S u x y).tk x1 y1):=⟨p,.nil,.nil⟩
  rcases two h0 h1 with rfl | rfl
  · refine (rg0 (K:=(LX.K0 S u x y).tk x1 y1)).mpr (TY (by lia) (by decide) o0 fun K1 e1 o1=>JG (.inl rfl) (by lia) (by decide) o1 fun K2 e2 o2=>fin (e2.trans e1) ⟨o2.pool.up (by lia),o2.ns.le (by decide) (by decide),o2.cs.le (by decide) (by decide)⟩)
  · refine (rg1 (K:=(LX.K0 S u x y).tk x1 y1)).mpr (TY (by lia) (by decide) o0 fun K1 e1 o1=>JG (.inl rfl) (by lia) (by decide) o1 fun K2 e2 o2=>JG (.inr rfl) (by lia) (by decide) o2 fun K3 e3 o3=>fin ((e3.trans e2).trans e1) ⟨o3.pool.up (by lia),o3.ns.le (by decide) (by decide),o3.cs.le (by decide) (by decide)⟩)
end
end
section
set_option maxRecDepth 10000
structure Tl where
  ds:List Nd
  S:fF
  g:V6
  z0:Int
  z1:Int
  tol:Int
noncomputable def Tl.R (T:Tl):List MV:=dj T.S.hyph false T.ds
noncomputable def bC (T:Tl):List Lb:=aK T.S.hyph 0 false T.ds
structure TH where
  T:Tl
  a:MO
  b:MO
  c:MO
  d:MO
  e:MO
  cs:List (Int × Int)
  hs:List Int
  sn:List (Int × MV)
  ls:List (Int × Int)
  u:Nat
noncomputable def TH.tE (K:TH):List (Str × MV):=[(fg,.fl K.T.R),(dQ,.fl (vL K.T.g)),(eI,.fl [.int K.T.z0,.int K.T.z1]),(bo,.int K.T.tol),(av,cH K.T.S),(eJ,.fl ((bC K.T).map fun b=>.int b.pl)),(gv,.ref 6),(jo,.fl (K.hs.map .int)),(mC,.int K.T.ds.length),(sf,.ref 8),(ia,.ref 9)]
noncomputable def jC:Bool→List MO
  | false=>[]
  | true=>[.cell (some (.ref 7))]
noncomputable def TH.l (K:TH) (j:Bool):List MO:=K.a :: K.b :: K.c :: K.d :: K.e :: .cell (some (.fl K.T.R)) :: .idict (a7 K.cs) :: .sdict K.tE :: .idict K.sn :: .idict (a7 K.ls) :: jC j
noncomputable def TH.st (K:TH) (j:Bool):St:=⟨K.l j,K.u⟩
theorem fK:∀ o:MO,yz o o
  | .list _=>⟨⟩
  | .idict _=>⟨⟩
  | .sdict _=>rfl
  | .obj _ _=>rfl
  | .cell _=>rfl
theorem vn (r:List MO):∀ l:List MO,iS l (l ++ r)
  | []=>⟨⟩
  | o :: l=>⟨fK o,vn r l⟩
theorem Ut (r:List MO):∀ l l':List MO,l.length=l'.length→tk l (l' ++ r)=l'
  | [],[],_=>by cases r <;> rfl
  | _ :: l,o :: l',e=>congrArg (o :: ·) (Ut r l l' (Nat.succ.inj e))
  | [],_ :: _,e=>nomatch e
  | _ :: _,[],e=>nomatch e
theorem Gz {l l' r:List MO}{u:Nat}{Z:St→Prop}(k:iS l (l' ++ r)) (e:l.length=l'.length) (h:Z ⟨l',u⟩):dq l ⟨l' ++ r,u⟩ Z:=⟨k,by
  show ju (tk l (l' ++ r)) _
  rw [b9,Ut r l l' e]; exact h⟩
theorem dJ {l r:List MO}{u:Nat}{Z:St→Prop}(h:Z ⟨l,u⟩):dq l ⟨l ++ r,u⟩ Z:=Gz (vn r l) rfl h
theorem nS {α:Type}(xs:List α) (a:Nat):∀ n:Nat,(List.range n).filterMap (fun k=>xs[a+k]?)=(xs.drop a).take n
  | 0=>rfl
  | n+1=>by
    rw [List.range_succ,List.filterMap_append,nS xs a n,List.take_succ,List.getElem?_drop]
    refine congrArg (fun l=>(xs.drop a).take n ++ l) ?_
    show List.filterMap _ [n]=_
    unfold List.filterMap
    cases xs[a+n]? <;> rfl
theorem vE {α:Type}(xs:List α) (lo hi:Option Int) (a b:Nat) (h:sliceBounds lo hi none xs.length=((a:Int),(b:Int),1)) (hab:a≤b):dD xs lo hi none=(xs.take b).drop a:=by
  unfold dD
  rw [h]
  show (sliceRange (a:Int) (b:Int) 1).filterMap (xs[·]?)=_
  have e:sliceRange (a:Int) (b:Int) 1=(List.range (b - a)).map fun k=>a+k:=by
    unfold sliceRange
    rw [if_pos (show (1:Int) > 0 from by decide)]
    have:(if (a:Int)<b then ((b:Int) - a+1 - 1) / 1 else 0).toNat=b - a:=aC (C:=fun x:Int=>x.toNat=b - a) (fun _=>by rw [Int.ediv_one]; lia) fun h=>(Nat.sub_eq_zero_of_le (by lia)).symm
    show List.map _ (List.range (Int.toNat (if (a:Int)<b then ((b:Int) - a+1 - 1) / 1 else 0)))=_
    rw [this]
    exact List.map_congr_left fun k _=>by lia
  rw [e,List.filterMap_map,List.drop_take]
  exact nS xs a (b - a)
theorem xR {a n:Nat}(h:a≤n):(if (1:Int) > 0 then max 0 (min (if (a:Int)<0 then (a:Int)+n else a) n) else max (-1) (min (if (a:Int)<0 then (a:Int)+n else a) ((n:Int) - 1)))=a:=by
  rw [if_pos (by decide),if_neg (Int.not_lt.mpr (Int.natCast_nonneg a)),Int.min_eq_left (Int.ofNat_le.mpr h),Int.max_eq_right (Int.natCast_nonneg a)]
theorem HP {α:Type}(xs:List α) (a b:Nat) (hab:a≤b) (hb:b≤xs.length):dD xs (some (a:Int)) (some (b:Int)) none=(xs.take b).drop a:=by
  exact vE xs _ _ a b (Prod.ext (xR (Nat.le_trans hab hb)) (Prod.ext (xR hb) rfl)) hab
theorem nl (hy:Int):∀ (ds:List Nd) (b:Bool),(dj hy b ds).length=ds.length
  | [],_=>rfl
  | d :: r,b=>congrArg (·+1) (nl hy r _)
theorem yw (hy:Int):∀ (ds:List Nd) (b:Bool) (k:Nat) (d:Nd),ds[k]?=some d→∃ b',nth (dj hy b ds) k=some (lU hy b' d)
  | [],_,_,_,e=>nn (List.getElem?_nil.symm.trans e)
  | d :: r,b,0,d',e=>⟨b,by rw [← Option.some.inj e]; rfl⟩
  | d :: r,b,k+1,d',e=>yw hy r _ k d' e
noncomputable def jX (ds:List Nd) (at_:Int) (p:Nat):Nat :=
  if at_<0 then 0 else
    match ds[at_.toNat]? with
    | some .disc=>at_.toNat+1+bG ((ds.take p).drop (at_.toNat+1))
    | _=>at_.toNat+bG ((ds.take p).drop at_.toNat)
noncomputable def kx (v:V6):List Nd→V6
  | []=>v
  | d :: r=>kx (f9 v d) r
noncomputable def mD (v:V6):Option Nd→V6
  | some .disc=>{ v with a0:=v.a0+3 }
  | _=>v
noncomputable def ej (ds:List Nd) (g:V6) (at_:Int) (p:Nat):V6:=mD (kx g ((ds.take p).drop (jX ds at_ p))) ds[p]?
section
structure SX where
  K:TH
  j:Bool
  at_:Int
  p:Nat
  Q:aE
noncomputable def SX.h (X:SX) (v:V6):St:=⟨X.K.l X.j ++ [.list (vL v)],X.K.u⟩
noncomputable def SX.P (X:SX):aq:=eh (X.K.l X.j) X.Q
noncomputable def sxN:Bool→Nat
  | false=>10
  | true=>11
noncomputable def txL:Option MV→aF
  | none=>[]
  | some v=>[(E7,v)]
noncomputable def txN:Option MV→List Str
  | none=>[]
  | some v=>[E7]
noncomputable def SX.loc (X:SX) (f:Int) (tx:Option MV):aF:=[(cJ,.ref 7),(mO,.int X.at_),(cy,.int X.p),(f4,.ref (sxN X.j)),(CC,.int f),(fg,.fl X.K.T.R)] ++ txL tx
noncomputable def a15 (tx:Option MV):List Str:=[cJ,mO,cy,f4,CC,fg] ++ txN tx
variable {n:Nat}{X:SX}{k a:Nat}{tx:Option MV}{v:V6}{hy:Int}{b:Bool}{d:Nd}
@[irreducible] noncomputable def SX.go (n:Nat) (X:SX) (f:Int) (tx:Option MV) (v:V6) (j:Nat):Prop:=de n aU (aU.body.drop j) (X.loc f tx) (X.h v) X.P
noncomputable def UG:Nd→MV
  | .disc=>.tup [.int 3,.none]
  | _=>.none
def UE (s:St) (r:MV) (K:MV→Prop):Prop:=ad (iP s r (.int 6)) fun t=>bw (aT (.int 6)) (K t)
theorem a2F {K:MV→Prop}{s:St}(h:K (UG d)):UE s (lU hy b d) K:=match d,h with
  | .box w,h=>(show UE s (lU hy b (.box w)) K=K .none by kernel_rfl).mpr h
  | .skip g,h=>(show UE s (lU hy b (.skip g)) K=K .none by kernel_rfl).mpr h
  | .pen,h=>(show UE s (lU hy b .pen) K=K .none by kernel_rfl).mpr h
  | .disc,h=>(show UE s (lU hy b .disc) K=K (.tup [.int 3,.none]) by kernel_rfl).mpr h
noncomputable abbrev suI:List Stmt:=cw (aa aU.body 1)
def SX.tq (n:Nat) (X:SX) (t:MV):Prop:=de n aU (suI.drop 1) (X.loc 0 (some t)) (X.h X.K.T.g) (aB n aU (aU.body.drop 2) X.P)
theorem ls0:bs (n+1) (.fn 644) [.ref 7,.int X.at_,.int X.p] (X.K.st X.j) X.Q=aI (decide (X.at_≥0)) (ad (bq X.K.T.R X.at_) fun r=>bw (aT (.int X.at_)) (UE (X.h X.K.T.g) r (X.tq n))) (X.go n 0 none X.K.T.g 2):=by
  obtain ⟨K,j,at_,p,Q⟩:=X
  cases j <;> kernel_rfl
noncomputable abbrev suW:Stmt:=aa (a2c (aa suI 2)) 0
@[irreducible] noncomputable def SX.W (n:Nat) (X:SX) (t:MV) (k:Int) (f:Nat):Prop:=Xn n aU suW (a15 (some t)) f (X.loc k (some t)) (X.h X.K.T.g) (aB n aU [] (aB n aU [] (aB n aU (aU.body.drop 2) X.P)))
theorem ls1 {t:MV}(e:t=UG d):X.tq n t=∃ f,X.W n t (match d with
  | .disc=>X.at_+1
  | _=>X.at_) f:=by
  obtain ⟨K,j,at_,p,Q⟩:=X
  subst e
  cases d <;> cases j <;> kernel_rfl
@[irreducible] noncomputable def SX.w0 (n:Nat) (X:SX) (t:MV) (k:Int) (f:Nat) (r:MV):Prop:=ad (iP (X.h X.K.T.g) r (.int 0)) fun x=>bw (aT (.int 0)) (dF x fun b=>aI (!b) (X.W n t (k+1) f) (X.go n k (some t) X.K.T.g 2))
theorem ls2 {t:MV}{k:Int}{f:Nat}:X.W n t k (f+1)=aI (decide (k<X.p)) (ad (bq X.K.T.R k) fun r=>bw (aT (.int k)) (X.w0 n t k f r)) (X.go n k (some t) X.K.T.g 2):=by
  obtain ⟨K,j,at_,p,Q⟩:=X
  cases j <;> kernel_rfl
theorem ls3 {t:MV}{k:Int}{f:Nat}:X.w0 n t k f (lU hy b d)=aI (!!d.drops) (X.W n t (k+1) f) (X.go n k (some t) X.K.T.g 2):=by
  cases d <;> kernel_rfl
@[irreducible] noncomputable def SX.F (n:Nat) (X:SX) (f:Int) (tx:Option MV) (I:List MV) (v:V6) (Y:List MV):Prop:=fe n aU (aa aU.body 2) none (a15 tx) (.seq I) Y (X.loc f tx) (X.h v) (aB n aU (aU.body.drop 3) X.P)
theorem ls4 {f:Int}:X.go n f tx v 2=bW ((none:Option Int)≠some 0∧X.K.T.R.length≤100000) ((fun I=>X.F n f tx I v I) (dD X.K.T.R (some f) (some X.p) none)):=by
  obtain ⟨K,j,at_,p,Q⟩:=X
  cases j <;> cases tx <;> kernel_rfl
noncomputable def ZL (v:V6):Nd→V6
  | .box w=>⟨v.a0+w,v.a1+0,v.a2,v.a3,v.a4,v.a5+0⟩
  | .skip g=>rq v g
  | _=>⟨v.a0+0,v.a1+0,v.a2,v.a3,v.a4,v.a5+0⟩
theorem ls5 {f:Int}{I Y:List MV}(o:yI d):X.F n f tx I v (lU hy b d :: Y)=(True∧X.F n f tx I (ZL v d) Y):=by
  obtain ⟨K,j,at_,p,Q⟩:=X
  match d,o with
  | .box w,_=>cases j <;> cases tx <;> kernel_rfl
  | .pen,_=>cases j <;> cases tx <;> kernel_rfl
  | .disc,_=>cases j <;> cases tx <;> kernel_rfl
  | .skip ⟨w,s,o',k⟩,o =>
    rcases o with e | e
    · obtain rfl:o'=0:=e
      cases j <;> cases tx <;> kernel_rfl
    · obtain rfl:o'=1:=e
      cases j <;> cases tx <;> kernel_rfl
def H4 (s:St) (r:MV) (K:MV→Prop):Prop:=UE s r fun t=>ad (iP s t (.int 0)) fun y=>bw (aT (.int 0)) (K y)
theorem VY {K:MV→Prop}{s:St}(h:K (.int 3)):H4 s (lU hy b .disc) K:=(show H4 s (lU hy b .disc) K=K (.int 3) by kernel_rfl).mpr h
def SX.e3 (n:Nat) (X:SX) (f:Int) (tx:Option MV) (v:V6) (y:MV):Prop:=H0 .Add (.int v.a0) y (X.h v) fun r s=>kh (.ref (sxN X.j)) (.int 0) r s fun s=>de n aU (aU.body.drop 4) (X.loc f tx) s X.P
def SX.e2 (n:Nat) (X:SX) (f:Int) (tx:Option MV) (v:V6) (y:MV):Prop:=ad (eY (X.h v) .IsNot y .none) fun c=>aI c (ad (bq X.K.T.R X.p) fun r=>bw (aT (.int X.p)) (H4 (X.h v) r (X.e3 n f tx v))) (X.go n f tx v 4)
def SX.e1 (n:Nat) (X:SX) (f:Int) (tx:Option MV) (v:V6) (t:MV):Prop:=ad (eY (X.h v) .IsNot t .none) fun c=>aI c (ad (bq X.K.T.R X.p) fun r=>bw (aT (.int X.p)) (H4 (X.h v) r (X.e2 n f tx v))) (X.go n f tx v 4)
theorem ls6 {f:Int}{I:List MV}:X.F n f tx I v []=bW (X.K.T.R.length≤100000) (aI (decide ((X.p:Int)<X.K.T.R.length)) (ad (bq X.K.T.R X.p) fun r=>bw (aT (.int X.p)) (UE (X.h v) r (X.e1 n f tx v))) (X.go n f tx v 4)):=by
  obtain ⟨K,j,at_,p,Q⟩:=X
  cases j <;> cases tx <;> kernel_rfl
theorem ls7 {f:Int}:X.e1 n f tx v .none=X.go n f tx v 4:=by kernel_rfl
theorem ls8 {f:Int}:X.e1 n f tx v (.tup [.int 3,.none])=ad (bq X.K.T.R X.p) fun r=>bw (aT (.int X.p)) (H4 (X.h v) r (X.e2 n f tx v)):=by kernel_rfl
theorem ls9 {f:Int}:X.e2 n f tx v (.int 3)=ad (bq X.K.T.R X.p) fun r=>bw (aT (.int X.p)) (H4 (X.h v) r (X.e3 n f tx v)):=by kernel_rfl
theorem a6b {f:Int}:X.e3 n f tx v (.int 3)=X.go n f tx { v with a0:=v.a0+3 } 4:=by
  obtain ⟨K,j,at_,p,Q⟩:=X
  cases j <;> kernel_rfl
theorem KT {f:Int}:X.go n f tx v 4=dq (X.K.l X.j) (X.h v) fun st=>X.Q (.fl (vL v)) st:=by
  obtain ⟨K,j,at_,p,Q⟩:=X
  cases j <;> cases tx <;> kernel_rfl
theorem Rt {v:V6}:∀ d,ZL v d=f9 v d
  | .box w=>by show V6.mk _ _ _ _ _ _=V6.mk _ _ _ _ _ _; rw [Int.add_zero,Int.add_zero]
  | .skip g=>rfl
  | .pen=>by show V6.mk _ _ _ _ _ _=v; rw [Int.add_zero,Int.add_zero,Int.add_zero]
  | .disc=>by show V6.mk _ _ _ _ _ _=v; rw [Int.add_zero,Int.add_zero,Int.add_zero]
theorem qx (hy:Int):∀ (ds:List Nd) (b:Bool) (p:Nat),(dj hy b ds).take p=dj hy b (ds.take p)
  | [],b,0=>rfl
  | [],b,p+1=>rfl
  | d :: r,b,0=>rfl
  | d :: r,b,p+1=>congrArg (_ :: ·) (qx hy r _ p)
theorem qK (hy:Int):∀ (ds:List Nd) (b:Bool) (p:Nat),∃ b',(dj hy b ds).drop p=dj hy b' (ds.drop p)
  | ds,b,0=>⟨b,rfl⟩
  | [],b,p+1=>⟨b,rfl⟩
  | d :: r,b,p+1=>qK hy r _ p
theorem px {T:Tl}(e:T.ds[k]?=some d) (hk:k<100000) {K:MV→Prop}(h:∀ b,K (lU T.S.hyph b d)):ad (bq T.R k) fun r=>bw (aT (.int k)) (K r) :=
  (yw T.S.hyph T.ds false k d e).elim fun b e=>aR (show bq T.R k=_ from e) (d9 (MS hk) (h b))
theorem Wv {f:Int}{I:List MV}(hl:X.K.T.ds.length≤1000) (h:X.Q (.fl (vL (mD v X.K.T.ds[X.p]?))) (X.K.st X.j)):X.F n f tx I v []:=by
  have rl:X.K.T.R.length=X.K.T.ds.length:=nl _ _ _
  refine ls6.mpr (cf (by lia) (bX (fun q=>?_) fun q=>?_))
  · have q:X.p<X.K.T.ds.length:=by lia
    have e:=List.getElem?_eq_getElem q
    rw [e] at h
    refine px e (by lia) fun _=>a2F ?_
    generalize X.K.T.ds[X.p]=d at *
    cases d with
    | box _=>exact ls7.mpr (KT.mpr (dJ h))
    | skip _=>exact ls7.mpr (KT.mpr (dJ h))
    | pen=>exact ls7.mpr (KT.mpr (dJ h))
    | disc=>exact ls8.mpr (px e (by lia) fun _=>VY (ls9.mpr (px e (by lia) fun _=>VY (a6b.mpr (KT.mpr (dJ h))))))
  · rw [List.getElem?_eq_none (by lia)] at h
    exact KT.mpr (dJ h)
theorem FB {f:Int}{I:List MV}(hl:X.K.T.ds.length≤1000):∀ (dr:List Nd) (b:Bool) (v:V6),(∀ d∈dr,yI d)→X.Q (.fl (vL (mD (kx v dr) X.K.T.ds[X.p]?))) (X.K.st X.j)→X.F n f tx I v (dj hy b dr)
  | [],b,v,_,h=>Wv hl h
  | d :: r,b,v,o,h=>(ls5 (o d List.mem_cons_self)).mpr ⟨⟨⟩,by rw [Rt]; exact FB hl r _ _ (fun d m=>o d (List.mem_cons_of_mem _ m)) h⟩
theorem Z5 (hl:X.K.T.ds.length≤1000) (o:∀ d∈X.K.T.ds,yI d) (hp:X.p≤X.K.T.ds.length) (hk:k≤X.p) (h:X.Q (.fl (vL (mD (kx X.K.T.g ((X.K.T.ds.take X.p).drop k)) X.K.T.ds[X.p]?))) (X.K.st X.j)):X.go n k tx X.K.T.g 2:=by
  have rl:X.K.T.R.length=X.K.T.ds.length:=nl _ _ _
  refine ls4.mpr (cf ⟨nofun,by lia⟩ ?_)
  rw [HP _ _ _ hk (by rw [rl]; exact hp),Tl.R,qx]
  obtain ⟨b,e⟩:=qK X.K.T.S.hyph (X.K.T.ds.take X.p) false k
  rw [e]
  exact FB hl _ _ _ (fun d m=>o d (List.mem_of_mem_take (List.mem_of_mem_drop m))) h
theorem vd {t:MV}(hl:X.K.T.ds.length≤1000) (hp:X.p≤X.K.T.ds.length):∀ (m k:Nat),k+m=X.p→X.go n (k+bG ((X.K.T.ds.take X.p).drop k):Nat) (some t) X.K.T.g 2→X.W n t k (m+1)
  | 0,k,e,h=>by
    obtain rfl:k=X.p:=e
    rw [List.drop_eq_nil_of_le (List.length_take_le ..)] at h
    exact ls2.mpr (bX (fun q=>absurd q (Int.lt_irrefl _)) fun _=>h)
  | m+1,k,e,h=>by
    have hk:k<(X.K.T.ds.take X.p).length:=by rw [List.length_take]; lia
    rw [List.drop_eq_getElem_cons hk,List.getElem_take] at h
    refine ls2.mpr (bX (fun _=>px (List.getElem?_eq_getElem (show k<X.K.T.ds.length by lia)) (by lia) fun b=>ls3.mpr ?_) fun q=>absurd (Int.ofNat_lt.mpr (show k<X.p by lia)) q)
    generalize X.K.T.ds[k]=d at *
    have h:X.go n (k+(match d.drops with
      | true=>bG ((X.K.T.ds.take X.p).drop (k+1))+1
      | false=>0):Nat) (some t) X.K.T.g 2:=h
    cases e':d.drops with
    | true =>
      rw [e'] at h
      exact nF (vd hl hp m (k+1) (by lia) (by rw [Nat.succ_add_eq_add_succ]; exact h))
    | false=>rw [e'] at h; exact nT h
theorem I9 {ds:List Nd}{p k:Nat}(hk:k≤p):k+bG ((ds.take p).drop k)≤p:=by
  have h:=pz ((ds.take p).drop k)
  rw [List.length_drop,List.length_take] at h
  exact Nat.le_trans (Nat.add_le_add_left (Nat.le_trans h (Nat.sub_le_sub_right (Nat.min_le_left _ _) k)) k) (Nat.le_of_eq (Nat.add_sub_cancel' hk))
theorem Rc {K:TH}{j:Bool}{at_:Int}{p:Nat}{Q:aE}(hl:K.T.ds.length≤1000) (o:∀ d∈K.T.ds,yI d) (h0:-1≤at_) (h1:at_<p) (h2:p≤K.T.ds.length) (h:Q (.fl (vL (ej K.T.ds K.T.g at_ p))) (K.st j)):bs (n+1) (.fn 644) [.ref 7,.int at_,.int p] (K.st j) Q:=by
  have g:∀ {tx k},k≤p→jX K.T.ds at_ p=k→SX.go n ⟨K,j,at_,p,Q⟩ (k:Nat) tx K.T.g 2:=fun hk e=>Z5 (X:=⟨K,j,at_,p,Q⟩) hl o h2 hk (by rw [ej,e] at h; exact h)
  refine ls0 (X:=⟨K,j,at_,p,Q⟩) |>.mpr (bX (fun q=>?_) fun q=>g (Nat.zero_le _) (if_pos (Int.not_le.mp q)))
  obtain ⟨a,rfl⟩:=Int.eq_ofNat_of_zero_le q
  have h1:a<p:=Int.ofNat_lt.mp h1
  have e:=List.getElem?_eq_getElem (show a<K.T.ds.length by lia)
  have w:∀ {t k},k≤p→jX K.T.ds a p=k+bG ((K.T.ds.take p).drop k)→∃ f,SX.W n ⟨K,j,a,p,Q⟩ t k f:=fun {t k} hk e=>⟨p - k+1,vd (X:=⟨K,j,a,p,Q⟩) hl h2 (p - k) k (by show k+(p - k)=p; lia) (g (I9 hk) e)⟩
  refine px e (by lia) fun _=>a2F (ls1 (d:=K.T.ds[a]) rfl |>.mpr ?_)
  have z:jX K.T.ds a p=match K.T.ds[a]? with
    | some .disc=>a+1+bG ((K.T.ds.take p).drop (a+1))
    | _=>a+bG ((K.T.ds.take p).drop a):=if_neg (Int.not_lt.mpr (Int.natCast_nonneg a))
  rw [e] at z
  generalize K.T.ds[a]=d at *
  match d,z with
  | .box _,z=>exact w (Nat.le_of_lt h1) z
  | .skip _,z=>exact w (Nat.le_of_lt h1) z
  | .pen,z=>exact w (Nat.le_of_lt h1) z
  | .disc,z=>exact w h1 z
end
end
section
set_option maxRecDepth 10000
section
variable {n:Nat}{st:St}{Q:aE}
theorem ZN {e t:Int}:bs (n+1) (.fn 651) [.int e,.int t] st Q=aI (decide (e=0)) (Q (.int 0) st) ((fun X:Int→Prop=>aI (decide (t≤0)) (X 1291) (bW (cB 297 e) (bW (t≠0∧t.natAbs<2 ^ 2000) (X ((297 * e).fdiv t))))) fun r=>aI (decide (r > 1290)) (Q (.int 10000) st)
    (bW ((0:Int)≤3∧(3:Int)≤1000∧r.natAbs<2 ^ 63) ((fun c=>bW (c≠0∧(r ^ (3:Int).toNat).natAbs<2 ^ 2000∧c.natAbs<2 ^ 2000) ((fun d=>bW (cB 2 d) (Q (.int ((r ^ (3:Int).toNat).fdiv c+if decide (2 * d≥c) then 1 else 0)) st)) ((r ^ (3:Int).toNat).fmod c))) ((64:Int) ^ (3:Int).toNat)))):=by kernel_rfl
theorem OR {e t:Int}(h0:0≤e) (h1:e≤1000000) (h2:t≤1000000) (h:Q (.int (gb e t)) st):bs (n+1) (.fn 651) [.int e,.int t] st Q:=by
  refine ZN.mpr (bX (fun q=>by rwa [gb,if_pos q] at h) fun q=>?_)
  rw [gb,if_neg q] at h
  refine bX (fun q2=>?_) fun q2=>cf (IK (by lia) (by lia)) (cf ⟨by lia,big (by lia) (by lia)⟩ ?_)
  · rw [if_pos q2] at h
    exact bX (fun _=>h) fun z=>absurd (by decide:(1291:Int) > 1290) z
  · rw [if_neg q2,Int.mul_comm] at h
    have r0:=oV h0 (show 0<t by lia)
    rw [Int.mul_comm] at r0
    unfold Ky at h
    generalize (297 * e).fdiv t=r at *
    refine bX (fun q3=>by rwa [if_pos q3] at h) fun q3=>?_
    rw [if_neg q3] at h
    have cb:=(ZE r0 (Int.not_lt.mp q3)).2
    have e3:r ^ (3:Int).toNat=r * r * r:=by show r ^ 3=_; rw [Int.pow_succ,Int.pow_succ,Int.pow_succ,Int.pow_zero,Int.one_mul]
    rw [e3,show (64:Int) ^ (3:Int).toNat=262144 by decide +kernel]
    generalize r * r * r=c at *
    rw [Int.fdiv_eq_ediv_of_nonneg _ (by decide)] at h
    refine cf ⟨by decide,by decide,Nat.lt_of_le_of_lt (show r.natAbs≤1290 by lia) (by decide)⟩ (cf ⟨by decide,big (by lia) (by lia),by decide +kernel⟩ (cf (IK (by decide) (by decide)) ?_))
    rw [Int.fdiv_eq_ediv_of_nonneg _ (by decide),Int.fmod_eq_emod_of_nonneg _ (by decide)]
    rwa [show (c+131072) / 262144=c / 262144+(if decide (2 * (c % 262144)≥262144) then 1 else 0) from aC (C:=fun z:Int=>(c+131072) / 262144=c / 262144+z) (fun g=>by have:=of_decide_eq_true g; lia) fun g=>by have g:¬ 2 * (c % 262144)≥262144:=fun z=>g (decide_eq_true z); lia] at h
def Ga (v:V6):Prop:=((0≤v.a0∧v.a0≤100000)∧0≤v.a1∧v.a1≤100000)∧0≤v.a2∧0≤v.a3∧0≤v.a4∧0≤v.a5∧v.a5≤100000
structure tc (T:Tl):Prop where
  hl:T.ds.length≤99
  hO:∀ d∈T.ds,yI d
  sum:∀ (at_:Int) (p:Nat),-1≤at_→at_<p→p≤T.ds.length→Ga (ej T.ds T.g at_ p)
  z:(-100000≤T.z0∧T.z0≤100000)∧-100000≤T.z1∧T.z1≤100000
  hlp:0≤T.S.linep∧T.S.linep≤100000
  hhy:-10000<T.S.hyph
def gJ (T:Tl) (sn:List (Int × MV)):Prop:=(sn.map (·.1)).Nodup∧∀ k v,ah k sn=some v→∃ (at_:Int) (p:Nat),k=100 * (at_+1)+p∧-1≤at_∧at_<p∧p≤T.ds.length∧v=.fl (vL (ej T.ds T.g at_ p))
noncomputable def TH.w (K:TH) (sn:List (Int × MV)):TH:={ K with sn:=sn }
theorem TU {K:TH}{j:Bool}{sn:List (Int × MV)}{ls:List (Int × Int)}:iS (K.l j) (({ K with sn:=sn,ls:=ls }:TH).l j):=⟨fK _,fK _,fK _,fK _,fK _,rfl,⟨⟩,rfl,⟨⟩,⟨⟩,by cases j; exact ⟨⟩; exact ⟨rfl,⟨⟩⟩⟩
theorem ip {K:TH}{j:Bool}{sn:List (Int × MV)}{ls:List (Int × Int)}{Z:St→Prop}(h:Z (({ K with sn:=sn,ls:=ls }:TH).st j)):dq (K.l j) (({ K with sn:=sn,ls:=ls }:TH).st j) Z:=⟨TU,by
  show ju (tk (K.l j) (({ K with sn:=sn,ls:=ls }:TH).l j)) _
  rw [b9,show tk (K.l j) (({ K with sn:=sn,ls:=ls }:TH).l j)=(({ K with sn:=sn,ls:=ls }:TH).l j) by cases j <;> rfl]
  exact h⟩
structure NX where
  K:TH
  j:Bool
  at_:Int
  p:Nat
  li:Int
  Q:aE
noncomputable def NX.k (X:NX):Int:=100 * (X.at_+1)+X.p
noncomputable def NX.P (X:NX):aq:=eh (X.K.l X.j) X.Q
noncomputable def NX.loc (X:NX):aF:=[(cJ,.ref 7),(mO,.int X.at_),(cy,.int X.p),(ff,.int X.li),(oG,.int X.k)]
@[irreducible] noncomputable def NX.go (n:Nat) (X:NX) (sn:List (Int × MV)):Prop:=de n bP (bP.body.drop 2) X.loc ((X.K.w sn).st X.j) X.P
def NX.put (n:Nat) (X:NX) (v:MV) (s:St):Prop:=jI Wt (cO n) ⟨bP.scope,[]⟩ (gh (aa (cw (aa bP.body 1)) 0)) v X.loc s fun loc s=>de n bP (bP.body.drop 2) loc s X.P
variable {X:NX}{sn:List (Int × MV)}{v:V6}{V:List MV}
theorem ln0:bs (n+1) (.fn 658) [.ref 7,.int X.at_,.int X.p,.int X.li] (X.K.st X.j) X.Q=bW (cB 100 (X.at_+1)) (aI (!(ah X.k X.K.sn).isSome) (bs n (.fn 644) [.ref 7,.int X.at_,.int X.p] (X.K.st X.j) (X.put n)) (X.go n X.K.sn)):=by
  obtain ⟨K,j,at_,p,li,Q⟩:=X
  cases j <;> kernel_rfl
theorem ln1:X.put n (.fl V) (X.K.st X.j)=bW (X.K.sn.length<100000) (X.go n (cn X.k (.fl V) X.K.sn)):=by
  obtain ⟨K,j,at_,p,li,Q⟩:=X
  cases j <;> kernel_rfl
noncomputable def YZ (li:Int):Int:=if 2 - 1<li then 2 - 1 else li
def NX.g3 (n:Nat) (X:NX) (sn:List (Int × MV)) (v:MV) (w:MV):Prop:=ad (iP ((X.K.w sn).st X.j) v (.int 0)) fun a=>bw (aT (.int 0)) (mP .Sub w a ((X.K.w sn).st X.j) fun s st=>de n bP (bP.body.drop 4) (X.loc ++ [(eI,.fl [.int X.K.T.z0,.int X.K.T.z1]),(f4,v),(Fi,s)]) st X.P)
def NX.g2 (n:Nat) (X:NX) (sn:List (Int × MV)) (v:MV):Prop:=ad (bq [.int X.K.T.z0,.int X.K.T.z1] (YZ X.li)) fun w=>bw (aT (.int (YZ X.li))) (X.g3 n sn v w)
theorem ln2:X.go n sn=ad (ah X.k sn) fun v=>bw (aT (.int X.k)) (X.g2 n sn v):=by
  obtain ⟨K,j,at_,p,li,Q⟩:=X
  cases j <;> kernel_rfl
def NX.R (X:NX) (sn:List (Int × MV)) (x y:Int):Prop:=dq (X.K.l X.j) ((X.K.w sn).st X.j) fun st=>X.Q (.tup [.int x,.int y]) st
def NX.g4 (n:Nat) (X:NX) (sn:List (Int × MV)) (v:V6) (w:Int) (b:MV) (s:St):Prop:=de n bP (bP.body.drop 7) (X.loc ++ [(eI,.fl [.int X.K.T.z0,.int X.K.T.z1]),(f4,.fl (vL v)),(Fi,.int (w - v.a0)),(jn,b)]) s X.P
theorem ln3 {w:Int}:X.g3 n sn (.fl (vL v)) (.int w)=(fun B=>aI (decide (w - v.a0 > 0)) (aI (decide (v.a2+v.a3+v.a4 > 0)) (X.R sn 0 2) B) B) (aI (decide (w - v.a0 < -v.a5)) (X.R sn 10001 3) ((fun Y=>aI (decide (w - v.a0 > 0)) (Y v.a1) (Y v.a5)) fun t=>bs n (.fn 651) [.int (w - v.a0).natAbs,.int t] ((X.K.w sn).st X.j) (X.g4 n sn v w))):=by
  obtain ⟨K,j,at_,p,li,Q⟩:=X
  cases j <;> kernel_rfl
theorem ln4 {w b:Int}:X.g4 n sn v w (.int b) ((X.K.w sn).st X.j)=aI (decide (b≤12)) (X.R sn b 2) (aI (decide (w - v.a0<0)) (X.R sn b 3) (aI (decide (b≤99)) (X.R sn b 1) (X.R sn b 0))):=by
  obtain ⟨K,j,at_,p,li,Q⟩:=X
  cases j <;> kernel_rfl
noncomputable def wF (T:Tl) (line:Int):Int:=if line=0 then T.z0 else T.z1
theorem gJ.len {T:Tl}(hl:T.ds.length≤99) (h:gJ T sn):sn.length≤20000:=by
  have:=uP 0 20000 (sn.map (·.1)) h.1 fun k m=>by
    obtain ⟨v,e⟩:=ji m
    obtain ⟨a,p,q⟩:=h.2 k v e
    omega
  rwa [List.length_map] at this
theorem Yd {w:Int}(o:Ga v) (hw:-100000≤w∧w≤100000) (h:X.R sn (fj w v).1 (fj w v).2):X.g3 (n+1) sn (.fl (vL v)) (.int w):=by
  obtain ⟨⟨⟨b0,c0⟩,b1,c1⟩,b2,b3,b4,b5,c5⟩:=o
  have R:∀ {b f:Int},X.R sn b f→f=(if b≤12 then 2 else if w - v.a0<0 then 3 else if b≤99 then 1 else 0)→X.g4 (n+1) sn v w (.int b) ((X.K.w sn).st X.j):=fun h e=>ln4.mpr (by
    subst e
    refine bX (fun q=>by rwa [if_pos q] at h) fun q=>?_
    rw [if_neg q] at h
    refine bX (fun q=>by rwa [if_pos q] at h) fun q=>?_
    rw [if_neg q] at h
    exact bX (fun q=>by rwa [if_pos q] at h) fun q=>by rwa [if_neg q] at h)
  unfold fj at h
  refine ln3.mpr ?_
  by_cases s:w - v.a0 > 0
  · rw [if_pos s] at h
    have B:¬ (v.a2+v.a3+v.a4 > 0)→aI (decide (w - v.a0 < -v.a5)) (X.R sn 10001 3) ((fun Y=>aI (decide (w - v.a0 > 0)) (Y v.a1) (Y v.a5)) fun t=>bs (n+1) (.fn 651) [.int (w - v.a0).natAbs,.int t] ((X.K.w sn).st X.j) (X.g4 (n+1) sn v w)):=fun q=>by
      rw [if_neg (by lia)] at h
      refine bX (fun z=>by lia) fun _=>bX (fun _=>?_) fun z=>absurd s z
      rw [show (((w - v.a0).natAbs:Nat):Int)=w - v.a0 by lia]
      refine OR (by lia) (by lia) (by lia) (R h ?_)
      generalize gb (w - v.a0) v.a1=b
      by_cases q1:b≤12
      · rw [if_pos q1,if_neg (by lia),if_neg (by lia)]
      · rw [if_neg q1,if_neg (by lia:¬ w - v.a0<0),if_pos (by lia:b > 12)]
        by_cases q2:b≤99
        · rw [if_pos q2,if_neg (by lia)]
        · rw [if_neg q2,if_pos (by lia)]
    exact bX (fun _=>bX (fun q=>by rwa [if_pos (by lia)] at h) B) fun z=>absurd s z
  · rw [if_neg s] at h
    refine bX (fun z=>absurd z s) fun _=>bX (fun q=>by rwa [if_pos (by lia)] at h) fun q=>bX (fun z=>absurd z s) fun _=>?_
    rw [if_neg (by lia)] at h
    rw [show (((w - v.a0).natAbs:Nat):Int)=-(w - v.a0) by lia]
    refine OR (by lia) (by lia) (by lia) (R h ?_)
    by_cases q1:gb (-(w - v.a0)) v.a5≤12
    · rw [if_pos q1,if_neg (by lia)]
    · rw [if_neg q1,if_pos (by lia),if_pos]
      refine Int.not_le.mp fun z=>q1 ?_
      rw [gb,if_pos (by lia)]
      decide
theorem rB {K:TH}{j:Bool}{at_ li:Int}{p:Nat}{Q:aE}(hT:tc K.T) (hs:gJ K.T K.sn) (h0:-1≤at_) (h1:at_<p) (h2:p≤K.T.ds.length) (hli:0≤li)
    (h:∀ sn,gJ K.T sn→Q (.tup [.int (fj (wF K.T li) (ej K.T.ds K.T.g at_ p)).1,.int (fj (wF K.T li) (ej K.T.ds K.T.g at_ p)).2]) ((K.w sn).st j)):bs (n+2) (.fn 658) [.ref 7,.int at_,.int p,.int li] (K.st j) Q:=by
  have hlen:=hT.hl
  have fin:∀ {sn},gJ K.T sn→ah (100 * (at_+1)+p) sn=some (.fl (vL (ej K.T.ds K.T.g at_ p)))→NX.go (n+1) ⟨K,j,at_,p,li,Q⟩ sn:=fun {sn} o e=>by
    refine ln2.mpr (aR e (d9 (Ie (by show 100 * (at_+1)+(p:Int)<_; lia)) ?_))
    have m:bq [.int K.T.z0,.int K.T.z1] (YZ li)=some (.int (wF K.T li))∧YZ li<100000:=by
      by_cases e:li=0
      · subst e
        exact ⟨rfl,by decide⟩
      · rw [show YZ li=1 from by unfold YZ; exact aC (C:=fun x:Int=>x=1) (fun _=>rfl) fun _=>by lia,wF,if_neg e]
        exact ⟨rfl,by decide⟩
    exact aR m.1 (d9 (Ie m.2) (Yd (X:=⟨K,j,at_,p,li,Q⟩) (hT.sum at_ p h0 h1 h2) (aC (C:=fun x=>-100000≤x∧x≤(100000:Int)) (fun _=>hT.z.1) fun _=>hT.z.2) (ip (h sn o))))
  refine ln0 (X:=⟨K,j,at_,p,li,Q⟩) |>.mpr (cf (IK (by decide) (by decide)) ?_)
  show aI (!(ah (100 * (at_+1)+(p:Int)) K.sn).isSome) _ _
  cases e:ah (100 * (at_+1)+(p:Int)) K.sn with
  | some v =>
    obtain ⟨a,q,e1,e2,e3,e4,e5⟩:=hs.2 _ _ e
    obtain rfl:at_=a:=by lia
    obtain rfl:p=q:=by lia
    exact nT (fin hs (by rw [e,e5]))
  | none =>
    have S:gJ K.T (cn (100 * (at_+1)+(p:Int)) (.fl (vL (ej K.T.ds K.T.g at_ p))) K.sn):=⟨lx hs.1,fun k v q=>by
      rw [bN] at q
      by_cases e':k=100 * (at_+1)+p
      · rw [if_pos e'] at q
        exact ⟨at_,p,e',h0,h1,h2,(Option.some.inj q).symm⟩
      · rw [if_neg e'] at q
        exact hs.2 k v q⟩
    exact nF (Rc (Nat.le_trans hlen (by decide)) hT.hO h0 h1 h2 (ln1.mpr (cf (Nat.lt_of_le_of_lt (hs.len hlen) (by decide)) (fin S (bN.trans (if_pos rfl))))))
end
end
section
set_option maxRecDepth 10000
theorem ck (T:Tl):∀ b∈bC T,lR T.S.hyph T.ds b:=iy T.ds 0 false (Nat.zero_add _) rfl
noncomputable def M3 (T:Tl) (k:Int):Bool:=(bC T).any fun b=>decide ((b.pl:Int)=k∧b.sort=1∧b.pl<T.ds.length)
theorem rQ {T:Tl}{k:Int}:M3 T k=true↔∃ b∈bC T,(b.pl:Int)=k∧b.sort=1∧b.pl<T.ds.length :=
  List.any_eq_true.trans ⟨fun ⟨b,h,e⟩=>⟨b,h,of_decide_eq_true e⟩,fun ⟨b,h,e⟩=>⟨b,h,decide_eq_true e⟩⟩
theorem ph {T:Tl}{b:Lb}(hb:b∈bC T):M3 T b.pl=true↔b.sort=1∧b.pl<T.ds.length:=by
  refine rQ.trans ⟨fun ⟨b',h1,h2,h3,h4⟩=>?_,fun h=>⟨b,hb,rfl,h⟩⟩
  have h2:b'.pl=b.pl:=Int.ofNat.inj h2
  rcases ck T b' h1 with q | ⟨_,q | q⟩
  · lia
  · lia
  · rcases ck T b hb with u | ⟨u,u' | u'⟩
    · lia
    · obtain ⟨_,_,g,e⟩:=u'
      rw [← h2,q.2.2.1] at e
      cases e
    · exact ⟨u'.1,u⟩
noncomputable def kR (T:Tl) (at_:Int) (b:Lb) (worse apart:Int):Int:=rP T.S.linep worse b.pen+g8 T.S (M3 T at_ && decide (b.sort=1)) (decide (b.pl=T.ds.length)) apart
theorem fG:∀ l:List Int,ci (l.map .int)=some l
  | []=>rfl
  | a :: r=>congrArg (Option.map (a :: ·)) (fG r)
noncomputable def Y8 (l:List Int) (k:Int):Option Bool:=(ci (l.map .int)).map fun l=>decide (k∈l)
theorem Kn {l:List Int}{k:Int}:Y8 l k=some (decide (k∈l)):=by rw [Y8,fG]; rfl
structure jy (K:TH):Prop where
  T:tc K.T
  cs:∀ b∈bC K.T,ah (b.pl:Int) K.cs=some b.pen
  hs:∀ k:Int,k∈K.hs↔M3 K.T k=true
  sn:gJ K.T K.sn
section
structure DX where
  K:TH
  j:Bool
  at_:Int
  p:Nat
  w:Int
  ap:Int
  Q:aE
noncomputable def DX.loc (X:DX) (c f:Int):aF:=[(cJ,.ref 7),(mO,.int X.at_),(cy,.int X.p),(jn,.int X.w),(io,.int X.ap),(pc,.int c),(av,cH X.K.T.S),(Qv,.int (X.K.T.S.linep+X.w)),(bz,.int f)]
@[irreducible] noncomputable def DX.go (i n:Nat) (X:DX) (c f:Int):Prop:=de n cY (cY.body.drop i) (X.loc c f) (X.K.st X.j) (eh (X.K.l X.j) X.Q)
def DX.c (n:Nat) (X:DX) (c:MV):Prop:=de n cY (cY.body.drop 1) [(cJ,.ref 7),(mO,.int X.at_),(cy,.int X.p),(jn,.int X.w),(io,.int X.ap),(pc,c),(av,cH X.K.T.S)] (X.K.st X.j) (eh (X.K.l X.j) X.Q)
variable {n:Nat}{X:DX}{c f:Int}{b:Lb}
theorem ld0:bs (n+1) (.fn 665) [.ref 7,.int X.at_,.int X.p,.int X.w,.int X.ap] (X.K.st X.j) X.Q=ad (ah (X.p:Int) (a7 X.K.cs)) fun c=>bw (aT (.int X.p)) (X.c n c):=by
  obtain ⟨K,j,at_,p,w,ap,Q⟩:=X
  cases j <;> kernel_rfl
theorem ld1:X.c n (.int c)=(fun A:Int→Prop=>(fun l=>aI (decide (l≥10000)) (A (10 ^ (8:Int).toNat)) (bW (cB l l) (A (l * l)))) (X.K.T.S.linep+X.w)) fun f=>aI (decide (c > -10000)) (bW (cB c c) (aI (decide (c > 0)) (bW (cB (c * c) 1) (X.go 4 n c (f+c * c * 1))) (bW (cB (c * c) (-1)) (X.go 4 n c (f+c * c * -1))))) (X.go 4 n c f):=by
  obtain ⟨K,j,at_,p,w,ap,Q⟩:=X
  cases j <;> kernel_rfl
theorem ld2:X.go 4 n c f=ad (Y8 X.K.hs X.at_) fun a=>aI a (ad (Y8 X.K.hs X.p) fun b=>aI b (X.go 5 n c (f+X.K.T.S.dbl)) (X.go 5 n c f)) (X.go 5 n c f):=by
  obtain ⟨K,j,at_,p,w,ap,Q⟩:=X
  cases j <;> kernel_rfl
theorem ld3:X.go 5 n c f=ad (Y8 X.K.hs X.at_) fun a=>aI a (aI (decide ((X.p:Int)=X.K.T.ds.length)) (X.go 6 n c (f+X.K.T.S.fin)) (X.go 6 n c f)) (X.go 6 n c f):=by
  obtain ⟨K,j,at_,p,w,ap,Q⟩:=X
  cases j <;> kernel_rfl
theorem ld4:X.go 6 n c f=(fun Y:Int→Prop=>aI (decide (X.ap > 1)) (Y X.K.T.S.adj) (Y 0)) fun z=>dq (X.K.l X.j) (X.K.st X.j) fun st=>X.Q (.int (f+z)) st:=by
  obtain ⟨K,j,at_,p,w,ap,Q⟩:=X
  cases j <;> kernel_rfl
theorem se {tw en:Bool}{f0:Int}(h:X.Q (.int (f0+g8 X.K.T.S tw en X.ap)) (X.K.st X.j)) (e:f=f0+(if tw then (if en then X.K.T.S.fin else X.K.T.S.dbl) else 0)):X.go 6 n c f:=by
  unfold g8 at h
  refine ld4.mpr (bX (fun q=>ip ?_) fun q=>ip ?_)
  · rw [if_pos q,← Int.add_assoc] at h
    rw [e]
    cases tw with
    | true=>rwa [if_pos rfl,Int.zero_add] at h
    | false=>exact h
  · rw [if_neg q] at h
    rw [e,Int.add_zero]
    cases tw with
    | true=>rwa [if_pos rfl,Int.zero_add] at h
    | false=>exact h
theorem L4 (o:jy X.K) (hb:b∈bC X.K.T) (e:X.p=b.pl) {f:Int}(h:X.Q (.int (f+g8 X.K.T.S (M3 X.K.T X.at_ && decide (b.sort=1)) (decide (b.pl=X.K.T.ds.length)) X.ap)) (X.K.st X.j)):X.go 4 n c f:=by
  have ea:Y8 X.K.hs X.at_=some (M3 X.K.T X.at_):=Kn.trans (congrArg some (by
    cases e:M3 X.K.T X.at_ with
    | true=>exact decide_eq_true ((o.hs _).mpr e)
    | false=>exact decide_eq_false fun z=>by rw [(o.hs _).mp z] at e; cases e))
  refine ld2.mpr (aR ea ?_)
  cases ha:M3 X.K.T X.at_ with
  | false =>
    rw [ha] at h ea
    exact iF (ld3.mpr (aR ea (iF (se (tw:=false) h (Int.add_zero _).symm))))
  | true =>
    rw [ha,Bool.true_and] at h
    rw [ha] at ea
    have g5:∀ f',(b.pl=X.K.T.ds.length→X.go 6 n c (f'+X.K.T.S.fin))→(b.pl≠X.K.T.ds.length→X.go 6 n c f')→X.go 5 n c f':=fun f' h1 h2=>ld3.mpr (aR ea (iT (bX (fun q=>h1 (by lia)) fun q=>h2 (by lia))))
    refine iT (aR Kn (bX (fun q=>?_) fun q=>?_))
    · rw [o.hs,e] at q
      obtain ⟨q1,q2⟩:=(ph hb).mp q
      rw [decide_eq_true q1,decide_eq_false (Nat.ne_of_lt q2)] at h
      exact g5 _ (fun z=>absurd z (Nat.ne_of_lt q2)) fun _=>se h rfl
    · rw [o.hs,e,ph hb] at q
      refine g5 _ (fun z=>?_) fun z=>?_
      · have s:b.sort=1:=(ck _ b hb).elim (·.2.2) fun u=>by lia
        rw [decide_eq_true s,decide_eq_true z] at h
        exact se h rfl
      · have s:b.sort≠1:=fun s=>q ⟨s,(ck _ b hb).elim (fun u=>absurd u.1 z) (·.1)⟩
        rw [decide_eq_false s] at h
        exact se (tw:=false) h (Int.add_zero _).symm
theorem Pb {K:TH}{j:Bool}{at_ worse ap:Int}{Q:aE}(o:jy K) (hb:b∈bC K.T) (h0:0≤worse) (h1:worse≤10000) (h:Q (.int (kR K.T at_ b worse ap)) (K.st j)):bs (n+1) (.fn 665) [.ref 7,.int at_,.int b.pl,.int worse,.int ap] (K.st j) Q:=by
  have hp:b.pl<100000∧-10000≤b.pen∧b.pen≤10000:=by
    have:=o.T.hhy
    have:=o.T.hl
    rcases ck _ b hb with u | ⟨u,u' | u'⟩
    · lia
    · lia
    · obtain ⟨_,e,_,_⟩:=u'
      rw [if_neg (by lia)] at e
      lia
  have hlp:=o.T.hlp
  unfold kR rP at h
  refine ld0 (X:=⟨K,j,at_,b.pl,worse,ap,Q⟩) |>.mpr (aR ((cD (f:=MV.int)).trans (by rw [o.cs b hb]; rfl)) (d9 (MS hp.1) (ld1.mpr ?_)))
  have g:∀ {f},f=(if ((K.T.S.linep+worse).natAbs:Int)≥10000 then 100000000 else (K.T.S.linep+worse) * (K.T.S.linep+worse))→aI (decide (b.pen > -10000)) (bW (cB b.pen b.pen) (aI (decide (b.pen > 0)) (bW (cB (b.pen * b.pen) 1) (DX.go 4 n ⟨K,j,at_,b.pl,worse,ap,Q⟩ b.pen (f+b.pen * b.pen * 1))) (bW (cB (b.pen * b.pen) (-1)) (DX.go 4 n ⟨K,j,at_,b.pl,worse,ap,Q⟩ b.pen (f+b.pen * b.pen * -1))))) (DX.go 4 n ⟨K,j,at_,b.pl,worse,ap,Q⟩ b.pen f):=fun {f} e=>by
    rw [← e] at h
    have m:∀ x,cB x 1∧cB x (-1):=fun x=>⟨.inr (by decide),.inr (by decide)⟩
    refine bX (fun q=>cf (IK (by lia) (by lia)) (bX (fun q2=>cf (m _).1 ?_) fun q2=>cf (m _).2 ?_)) fun q=>?_
    · rw [if_pos q2] at h
      rw [Int.mul_one]
      exact L4 o hb rfl h
    · rw [if_neg q2,if_pos q] at h
      rw [Int.mul_neg,Int.mul_one,← Int.sub_eq_add_neg]
      exact L4 o hb rfl h
    · rw [if_neg (by lia),if_neg q] at h
      exact L4 o hb rfl h
  exact bX (fun q=>g (by show (10:Int) ^ 8=_; rw [if_pos (by have q:K.T.S.linep+worse≥10000:=q; lia)]; decide)) fun q=>cf (IK (by have q:¬ K.T.S.linep+worse≥10000:=q; show _≤K.T.S.linep+worse; lia) (by have q:¬ K.T.S.linep+worse≥10000:=q; show K.T.S.linep+worse≤_; lia)) (g (by rw [if_neg (by have q:¬ K.T.S.linep+worse≥10000:=q; lia)]))
end
end
section
set_option maxRecDepth 10000
noncomputable def ez (T:Tl) (at_:Int) (b:Lb) (line:Int):Int × Int:=fj (wF T line) (ej T.ds T.g at_ b.pl)
noncomputable def mQ (k v:Int) (l:List (Int × Int)):List (Int × Int):=if (match ah k l with | none=>true | some x=>decide (v<x))=true then cn k v l else l
noncomputable def Wa (T:Tl) (b:Lb) (at_ line fit sofar:Int):Int:=sofar+kR T at_ b (ez T at_ b line).1 ((ez T at_ b line).2 - fit).natAbs
noncomputable def jb (T:Tl):List Lb→Int→Int→Int→Int→List (Int × Int)→List (Int × Int)
  | [],_,_,_,_,l=>l
  | b :: r,at_,line,fit,sofar,l =>
    if (ez T at_ b line).1 > 10000 then l else
      let l':=if (ez T at_ b line).1≤T.tol then
          (if b.pl<T.ds.length then jb T r b.pl (line+1) (ez T at_ b line).2 (Wa T b at_ line fit sofar) l else mQ (line+1) (Wa T b at_ line fit sofar) l)
        else l
      if b.pen≤-10000 then l' else jb T r at_ line fit sofar l'
def fS (l:List (Int × Int)):Prop:=(l.map (·.1)).Nodup∧∀ k∈l.map (·.1),(1:Int)≤k∧k<1+(50:Nat)
theorem fS.len {l:List (Int × Int)}(h:fS l):l.length≤50:=by
  have:=uP 1 50 _ h.1 h.2
  rwa [List.length_map] at this
theorem fS.upd {k v:Int}{l:List (Int × Int)}(h:fS l) (h1:1≤k∧k<1+(50:Nat)):fS (mQ k v l):=aC (C:=fS) (fun _=>⟨lx h.1,fun c m=>(fy m).elim (fun e=>by rw [e]; exact h1) (h.2 c)⟩) fun _=>h
theorem nt (T:Tl):∀ (r:List Lb) (at_ line fit sofar:Int) (l:List (Int × Int)),fS l→0≤line→line+r.length≤50→fS (jb T r at_ line fit sofar l)
  | [],_,_,_,_,l,h,_,_=>h
  | b :: r,at_,line,fit,sofar,l,h,h0,h1=>by
    have h1:line+(r.length+1:Nat)≤50:=h1
    have s:fS (if (ez T at_ b line).1≤T.tol then (if b.pl<T.ds.length then jb T r b.pl (line+1) (ez T at_ b line).2 (Wa T b at_ line fit sofar) l else mQ (line+1) (Wa T b at_ line fit sofar) l) else l) :=
      aC (C:=fS) (fun _=>aC (C:=fS) (fun _=>nt T r _ _ _ _ l h (by lia) (by lia)) fun _=>h.upd (by lia)) fun _=>h
    exact aC (C:=fS) (fun _=>h) fun _=>aC (C:=fS) (fun _=>s) fun _=>nt T r _ _ _ _ _ s h0 (by lia)
theorem il {hy:Int}:∀ (ds:List Nd) (k:Nat) (bh:Bool),(aK hy k bh ds).Pairwise (fun a b=>a.pl<b.pl)∧∀ b∈aK hy k bh ds,k≤b.pl
  | [],k,bh=>⟨List.pairwise_singleton _ _,fun b m=>by rw [List.mem_singleton.mp m]; exact Nat.le_refl _⟩
  | d :: r,k,bh=>by
    have up:∀ bh,(aK hy (k+1) bh r).Pairwise (fun a b=>a.pl<b.pl)∧∀ b∈aK hy (k+1) bh r,k≤b.pl:=fun bh=>(il r (k+1) bh).imp_right fun h b m=>Nat.le_of_succ_le (h b m)
    have cs:∀ bh (x:Lb),x.pl=k→(x :: aK hy (k+1) bh r).Pairwise (fun a b=>a.pl<b.pl)∧∀ b∈x :: aK hy (k+1) bh r,k≤b.pl:=fun bh x hx=>⟨List.pairwise_cons.mpr ⟨fun b m=>by rw [hx]; exact (il r (k+1) bh).2 b m,(up bh).1⟩,fun b m=>(List.mem_cons.mp m).elim (fun e=>by rw [e,hx]; exact Nat.le_refl _) ((up bh).2 b)⟩
    match d,bh with
    | .box _,_=>exact up _
    | .pen,_=>exact up _
    | .skip _,false=>exact up _
    | .skip _,true=>exact cs _ ⟨k,0,0⟩ rfl
    | .disc,_=>exact aC (C:=fun l:List Lb=>l.Pairwise (fun a b=>a.pl<b.pl)∧∀ b∈l,k≤b.pl) (fun _=>cs _ ⟨k,if (-10000:Int) > hy then -10000 else hy,1⟩ rfl) fun _=>up _
theorem jU (T:Tl):(bC T).Pairwise (fun a b=>a.pl<b.pl):=(il T.ds 0 false).1
section
structure YX where
  K:TH
  I:List MV
  at_:Int
  li:Int
  fit:Int
  so:Int
  Q:aE
noncomputable def TH.stL (K:TH) (lv:List (Int × MV)):St:=⟨K.a :: K.b :: K.c :: K.d :: K.e :: .cell (some (.fl K.T.R)) :: .idict (a7 K.cs) :: .sdict K.tE :: .idict K.sn :: .idict lv :: [],K.u⟩
noncomputable def TH.v (K:TH) (sn:List (Int × MV)) (ls:List (Int × Int)):TH:={ K with sn:=sn,ls:=ls }
noncomputable def YX.loc (X:YX):aF:=[(cJ,.ref 7),(mO,.int X.at_),(ff,.int X.li),(jF,.int X.fit),(rG,.int X.so)]
noncomputable abbrev tyS:Stmt:=aa aJ.body 0
noncomputable abbrev QF:List Stmt:=cw tyS
noncomputable def YX.P (X:YX):aq:=eh (X.K.l false) X.Q
@[irreducible] noncomputable def YX.F (n:Nat) (X:YX) (K:TH) (Y:List MV):Prop:=fe n aJ tyS none [cJ,mO,ff,jF,rG] (.seq X.I) Y X.loc (K.st false) (aB n aJ [] X.P)
noncomputable def YX.t (n:Nat) (X:YX) (Y:List MV):aq:=gW n aJ tyS none [cJ,mO,ff,jF,rG] (.seq X.I) Y (aB n aJ [] X.P)
def YX.out (X:YX) (K:TH):Prop:=dq (X.K.l false) (K.st false) fun st=>X.Q .none st
noncomputable def whL:Option Int→aF
  | none=>[]
  | some w=>[(kN,.int w)]
noncomputable def YX.L (X:YX) (p:Nat) (w o:Int) (wh:Option Int):aF:=X.loc ++ [(cy,.int p),(jn,.int w),(Kb,.int o)] ++ whL wh
def YX.b (n:Nat) (X:YX) (Y:List MV) (p:Nat) (v:MV) (s:St):Prop:=jI Wt (cO n) ⟨aJ.scope,[]⟩ (gh (aa QF 1)) v (X.loc ++ [(cy,.int p)]) s fun loc s=>de n aJ (QF.drop 2) loc s (X.t n Y)
def YX.e (n:Nat) (X:YX) (Y:List MV) (p:Nat) (w o:Int) (wh:Option Int) (s:St):Prop:=de n aJ (QF.drop 4) (X.L p w o wh) s (X.t n Y)
def YX.c (n:Nat) (X:YX) (Y:List MV) (p:Nat) (w o:Int) (v:MV) (s:St):Prop:=mP .Add (.int X.so) v s fun v s=>de n aJ ((cw (aa QF 3)).drop 1) (X.loc ++ [(cy,.int p),(jn,.int w),(Kb,.int o),(kN,v)]) s (aB n aJ (QF.drop 4) (X.t n Y))
def YX.f (n:Nat) (X:YX) (Y:List MV) (K:TH) (p:Nat) (w o:Int) (wh:Option Int) (c:MV):Prop:=ad (eY (K.st false) .LtE c (.int (-10000))) fun c=>aI c (X.out K) (True∧X.F n K Y)
variable {n:Nat}{X:YX}{K:TH}{Y:List MV}{p:Nat}{w o d:Int}{wh:Option Int}
theorem lt0:bs (n+1) (.fn 672) [.ref 7,.int X.at_,.int X.li,.int X.fit,.int X.so] (X.K.st false) X.Q=(fun I=>YX.F n { X with I:=I } X.K I) ((bC X.K.T).map fun b=>.int b.pl):=by kernel_rfl
theorem lt1:X.F n K (.int p :: Y)=aI (decide ((p:Int)≤X.at_)) (True∧X.F n K Y) (bs n (.fn 658) [.ref 7,.int X.at_,.int p,.int X.li] (K.st false) (X.b n Y p)):=by kernel_rfl
theorem lt2:X.b n Y p (.tup [.int w,.int o]) (K.st false)=aI (decide (w > 10000)) (X.out K) (aI (decide (w≤K.T.tol)) (bs n (.fn 665) [.ref 7,.int X.at_,.int p,.int w,.int (o - X.fit).natAbs] (K.st false) (X.c n Y p w o)) (X.e n Y p w o none (K.st false))):=by kernel_rfl
noncomputable abbrev Zr:Stmt:=aa (a2c (aa (cw (aa QF 3)) 1)) 0
def YX.els (n:Nat) (X:YX) (Y:List MV) (p:Nat) (w o:Int) (wh:Int) (K:TH):Prop:=de n aJ [Zr] (X.L p w o (some wh)) (K.st false) (aB n aJ [] (aB n aJ (QF.drop 4) (X.t n Y)))
def YX.in (n:Nat) (X:YX) (Y:List MV) (p:Nat) (w o:Int) (wh:Int) (c:Bool) (s:St):Prop:=(fun Z=>aI c (de n aJ (cw Zr) (X.L p w o (some wh)) s Z) (Z .next (X.L p w o (some wh)) s)) (aB n aJ [] (aB n aJ [] (aB n aJ (QF.drop 4) (X.t n Y))))
theorem lt3:X.c n Y p w o (.int d) (K.st false)=aI (decide ((p:Int)<K.T.ds.length)) (bs n (.fn 672) [.ref 7,.int p,.int (X.li+1),.int o,.int (X.so+d)] (K.st false) (fun _ s=>X.e n Y p w o (some (X.so+d)) s))
    (X.els n Y p w o (X.so+d) K):=by kernel_rfl
theorem a6s {wh:Int}:X.els n Y p w o wh K=tsT n aJ Zr (X.L p w o (some wh)) (K.st false) (X.in n Y p w o wh):=by kernel_rfl
def ltX (n:Nat) (wh:Int) (s:St) (li:Int) (Z:Bool→St→Prop) (x:MV):Prop:=ad (eY s .Lt (.int wh) x) fun c=>aI c (Z true s) (Z false s)
theorem a6B {wh:Int}{Z:Bool→St→Prop}:tsT n aJ Zr (X.L p w o (some wh)) (K.st false) Z=aI (!(ah (X.li+1) (a7 K.ls)).isSome) (Z true (K.st false)) (ad (ah (X.li+1) (a7 K.ls)) fun x=>bw (aT (.int (X.li+1))) (ltX n wh (K.st false) X.li Z x)):=by kernel_rfl
theorem a6i {wh:Int}{Q':aq}:de n aJ (cw Zr) (X.L p w o (some wh)) (K.st false) Q'=bW ((a7 K.ls).length<100000) (Q' .next (X.L p w o (some wh)) (K.stL (cn (X.li+1) (.int wh) (a7 K.ls)))):=by kernel_rfl
theorem lt4:X.e n Y p w o wh (K.st false)=ad (ah (p:Int) (a7 K.cs)) fun c=>bw (aT (.int p)) (X.f n Y K p w o wh c):=by cases wh <;> kernel_rfl
theorem lt5:X.F n K []=X.out K:=by kernel_rfl
theorem lt6 {c:Int}:X.f n Y K p w o wh (.int c)=aI (decide (c≤-10000)) (X.out K) (True∧X.F n K Y):=by kernel_rfl
theorem TH.stL_eq {ls:List (Int × Int)}:K.stL (a7 ls)=(K.v K.sn ls).st false:=rfl
theorem EZ {wh:Int}{c:Bool}{s:St}(h1:c=true→de n aJ (cw Zr) (X.L p w o (some wh)) s (aB n aJ [] (aB n aJ [] (aB n aJ (QF.drop 4) (X.t n Y))))) (h2:c=false→X.e n Y p w o (some wh) s):X.in n Y p w o wh c s:=by
  unfold YX.in
  cases c with
  | true=>with_reducible exact iT (h1 rfl)
  | false =>
    with_reducible refine iF ?_
    rw [ba,lP,ba,lP,ba]
    exact h2 rfl
theorem Nc {wh:Int}(hl:fS K.ls) (h:X.e n Y p w o (some wh) ((K.v K.sn (cn (X.li+1) wh K.ls)).st false)):X.in n Y p w o wh true (K.st false):=EZ (fun _=>a6i.mpr (cf (ke (Nat.lt_of_le_of_lt hl.len (by decide))) (by
  rw [ba,lP,ba,lP,ba,a7,kS (f:=MV.int),← a7,TH.stL_eq]
  exact h))) nofun
theorem SK {wh:Int}(hl:fS K.ls) (hi:X.li<1000) (h:X.e n Y p w o (some wh) ((K.v K.sn (mQ (X.li+1) wh K.ls)).st false)):X.els n Y p w o wh K:=by
  unfold mQ at h
  have e:ah (X.li+1) (a7 K.ls)=(ah (X.li+1) K.ls).map .int:=cD (f:=MV.int)
  refine a6s.mpr (a6B.mpr ?_)
  rw [e]
  cases e':ah (X.li+1) K.ls with
  | none =>
    rw [e',if_pos rfl] at h
    exact nF (Nc hl h)
  | some x =>
    rw [e'] at h
    refine nT (d9 (Ie (by lia)) ?_)
    show aI (decide (wh<x)) _ _
    refine bX (fun q=>Nc hl ?_) fun q=>EZ nofun fun _=>?_
    · rwa [if_pos (decide_eq_true q)] at h
    · rwa [if_neg (fun z=>q (of_decide_eq_true z))] at h
end
end
section
set_option maxRecDepth 10000
section
variable {n:Nat}{X:YX}{K:TH}{Y:List MV}
theorem jy.v {sn:List (Int × MV)}{ls:List (Int × Int)}(o:jy K) (h:gJ K.T sn):jy (K.v sn ls):=⟨o.T,o.cs,o.hs,h⟩
theorem wb:∀ pre:List Lb,(∀ b∈pre,(b.pl:Int)≤X.at_)→X.F n K Y→X.F n K (pre.map (fun b=>.int b.pl) ++ Y)
  | [],_,h=>h
  | b :: r,g,h=>lt1.mpr (bX (fun _=>⟨⟨⟩,wb r (fun c m=>g c (List.mem_cons_of_mem _ m)) h⟩) fun q=>absurd (g b List.mem_cons_self) q)
noncomputable abbrev Ou (X:YX) (r:List Lb) (ls:List (Int × Int)):List (Int × Int):=jb X.K.T r X.at_ X.li X.fit X.so ls
theorem rz {b:Lb}{r:List Lb}{sn:List (Int × MV)}{ls L:List (Int × Int)}{w o:Int}{wh:Option Int}(ok:jy X.K) (hb:b∈bC X.K.T) (e:(if b.pen≤-10000 then ls else Ou X r ls)=L)
    (h1:ls=L→X.out (X.K.v sn ls)) (h2:Ou X r ls=L→X.F n (X.K.v sn ls) Y):X.e n Y b.pl w o wh ((X.K.v sn ls).st false):=by
  have hp:=ok.T.hl
  refine lt4.mpr (aR ((cD (f:=MV.int)).trans (congrArg _ (ok.cs b hb))) (d9 (MS ((ck _ b hb).elim (fun q=>by omega) fun q=>by omega)) (lt6.mpr (bX (fun q=>h1 ?_) fun q=>⟨⟨⟩,h2 ?_⟩))))
  · rwa [if_pos q] at e
  · rwa [if_neg q] at e
theorem rb {M:Nat}(ok:jy X.K) (h0:-1≤X.at_) (hl:0≤X.li) {L:List (Int × Int)}(h:∀ sn,gJ X.K.T sn→X.Q .none ((X.K.v sn L).st false))
    (rec:∀ (r p2:List Lb) (b:Lb) (o so:Int) (sn:List (Int × MV)) (ls:List (Int × Int)) (Q:aE),bC X.K.T=p2 ++ b :: r→X.li+(r.length+1:Nat)≤50→r.length<M→gJ X.K.T sn→fS ls→(∀ sn,gJ X.K.T sn→Q .none ((X.K.v sn (jb X.K.T r b.pl (X.li+1) o so ls)).st false))→bs (n+2) (.fn 672) [.ref 7,.int b.pl,.int (X.li+1),.int o,.int so] ((X.K.v sn ls).st false) Q) :
    ∀ (r p2:List Lb) (sn:List (Int × MV)) (ls:List (Int × Int)),bC X.K.T=p2 ++ r→(∀ b∈r,X.at_<b.pl)→X.li+r.length≤50→r.length≤M→gJ X.K.T sn→fS ls→Ou X r ls=L→X.F (n+2) (X.K.v sn ls) (r.map fun b=>.int b.pl)
  | [],p2,sn,ls,_,_,_,_,s,l,e=>lt5.mpr (ip (K:=X.K) (by obtain rfl:ls=L:=e; exact h sn s))
  | b :: r,p2,sn,ls,e,g,hr,hM,s,l,eL=>by
    have hb:b∈bC X.K.T:=by rw [e]; exact List.mem_append_right _ List.mem_cons_self
    have hbl:b.pl≤X.K.T.ds.length:=(ck _ b hb).elim (fun q=>Nat.le_of_eq q.1) fun q=>Nat.le_of_lt q.1
    have hab:=g b List.mem_cons_self
    have hr:X.li+(r.length+1:Nat)≤50:=hr
    have nx:∀ {sn ls},gJ X.K.T sn→fS ls→Ou X r ls=L→X.F (n+2) (X.K.v sn ls) (r.map fun b=>.int b.pl):=fun {sn ls} s l e'=>rb ok h0 hl h rec r (p2 ++ [b]) sn ls (by rw [e,List.append_assoc]; rfl) (fun c m=>g c (List.mem_cons_of_mem _ m)) (by lia) (Nat.le_of_succ_le hM) s l e'
    have out:∀ {sn ls},gJ X.K.T sn→ls=L→X.out (X.K.v sn ls):=fun {sn ls} s e=>ip (K:=X.K) (by rw [e]; exact h sn s)
    refine lt1.mpr (bX (fun q=>by lia) fun _=>rB (K:=X.K.v sn ls) ok.T s h0 hab hbl hl fun sn s=>?_)
    have fb:=(pE (wF X.K.T X.li) (ej X.K.T.ds X.K.T.g X.at_ b.pl)).1.1
    have eL:(if (ez X.K.T X.at_ b X.li).1 > 10000 then ls else (fun l'=>if b.pen≤-10000 then l' else Ou X r l') (if (ez X.K.T X.at_ b X.li).1≤X.K.T.tol then (if b.pl<X.K.T.ds.length then jb X.K.T r b.pl (X.li+1) (ez X.K.T X.at_ b X.li).2 (Wa X.K.T b X.at_ X.li X.fit X.so) ls else mQ (X.li+1) (Wa X.K.T b X.at_ X.li X.fit X.so) ls) else ls))=L:=eL
    unfold Wa ez at eL
    show X.b (n+2) _ b.pl (.tup [.int (fj (wF X.K.T X.li) (ej X.K.T.ds X.K.T.g X.at_ b.pl)).1,.int (fj (wF X.K.T X.li) (ej X.K.T.ds X.K.T.g X.at_ b.pl)).2]) ((X.K.v sn ls).st false)
    generalize fj (wF X.K.T X.li) (ej X.K.T.ds X.K.T.g X.at_ b.pl)=f at *
    refine lt2.mpr (bX (p:=f.1 > 10000) (fun q=>out s (by rwa [if_pos q] at eL)) fun q=>?_)
    rw [if_neg q] at eL
    refine bX (p:=f.1≤X.K.T.tol) (fun q1=>?_) fun q1=>?_
    · rw [if_pos q1] at eL
      refine Pb (K:=X.K.v sn ls) (ok.v s) hb fb (Int.not_lt.mp q) (lt3.mpr (bX (p:=(b.pl:Int)<X.K.T.ds.length) (fun q2=>?_) fun q2=>?_))
      · rw [if_pos (Int.ofNat_lt.mp q2)] at eL
        have lo:=nt X.K.T r b.pl (X.li+1) f.2 (X.so+kR X.K.T X.at_ b f.1 (f.2 - X.fit).natAbs) ls l (by lia) (by lia)
        exact rec r p2 b _ _ sn ls _ e hr hM s l fun sn s=>rz ok hb eL (out s) (nx s lo)
      · rw [if_neg (fun z=>q2 (Int.ofNat_lt.mpr z))] at eL
        exact SK (K:=X.K.v sn ls) l (by lia) (rz ok hb eL (out s) (nx s (l.upd (by lia))))
    · rw [if_neg q1] at eL
      exact rz ok hb eL (out s) (nx s l)
theorem a2M:∀ (N:Nat) (K:TH) (rest pre:List Lb) (at_ li fit so:Int) (Q:aE),rest.length≤N→jy K→bC K.T=pre ++ rest→(∀ b∈pre,(b.pl:Int)≤at_)→(∀ b∈rest,at_<b.pl)→-1≤at_→0≤li→li+rest.length≤50→fS K.ls →
    (∀ sn,gJ K.T sn→Q .none ((K.v sn (jb K.T rest at_ li fit so K.ls)).st false))→bs (N+3) (.fn 672) [.ref 7,.int at_,.int li,.int fit,.int so] (K.st false) Q:=fun N=>by
  induction N with
  | zero =>
    intro K rest pre at_ li fit so Q hN ok e h1 h2 h0 hl hr l h
    refine lt0 (X:=⟨K,[],at_,li,fit,so,Q⟩) |>.mpr ?_
    show YX.F 2 ⟨K,(bC K.T).map fun b=>.int b.pl,at_,li,fit,so,Q⟩ K ((bC K.T).map fun b=>.int b.pl)
    rw [e,List.map_append]
    exact wb pre h1 (rb (X:=⟨K,_,at_,li,fit,so,Q⟩) (M:=0) ok h0 hl h (fun r p2 b o so sn ls Q e' hr' hM=>absurd hM (Nat.not_lt_zero _)) rest pre K.sn K.ls e h2 hr hN ok.sn l rfl)
  | succ N ih =>
    intro K rest pre at_ li fit so Q hN ok e h1 h2 h0 hl hr l h
    refine lt0 (X:=⟨K,[],at_,li,fit,so,Q⟩) |>.mpr ?_
    show YX.F (N+3) ⟨K,(bC K.T).map fun b=>.int b.pl,at_,li,fit,so,Q⟩ K ((bC K.T).map fun b=>.int b.pl)
    rw [e,List.map_append]
    refine wb pre h1 (rb (X:=⟨K,_,at_,li,fit,so,Q⟩) (M:=N+1) ok h0 hl h (fun r p2 b o so sn ls Q e' hr' hM s l h=>?_) rest pre K.sn K.ls e h2 hr hN ok.sn l rfl)
    have st:=jU K.T
    rw [show bC K.T=p2 ++ b :: r from e'] at st
    obtain ⟨_,s2,s3⟩:=List.pairwise_append.mp st
    have h0':(0:Int)≤(b.pl:Int):=Int.natCast_nonneg _
    have hr':li+(r.length+1:Nat)≤50:=hr'
    exact ih (K.v sn ls) r (p2 ++ [b]) b.pl (li+1) o so Q (Nat.le_of_lt_succ hM) (ok.v s) (by rw [show bC (K.v sn ls).T=p2 ++ b :: r from e',List.append_assoc]; rfl)
      (fun c m=>(List.mem_append.mp m).elim (fun m=>Int.ofNat_le.mpr (Nat.le_of_lt (s3 c m b List.mem_cons_self))) fun m=>by rw [List.mem_singleton.mp m]; exact Int.le_refl _)
      (fun c m=>Int.ofNat_lt.mpr ((List.pairwise_cons.mp s2).1 c m)) (by lia) (by lia) (by lia) l h
end
end
section
set_option maxRecDepth 10000
set_option backward.match.sparseCases false
noncomputable def RK:Expr→Expr × Expr
  | .BinOp l _ r _=>(l,r)
  | .Tuple (a :: b :: _) _ _=>(a,b)
  | .Call _ (a :: _) _ _=>(a,a)
  | .Subscript v i _=>(v,i)
  | .Compare l _ (c :: _) _=>(l,c)
  | .IfExp _ b o _=>(b,o)
  | e=>(e,e)
def Pz (n:Nat) (cel:List (Str × Nat)) (e:Expr) (I:d8) (Y acc:List MV) (st:St) (Q:List MV→St→Prop):Prop:=match e with
  | .ListComp elt [c] sc _=>qo (jI Wt (cO n) ⟨sc,cel⟩ c.target) (Ob Wt (cO n) ⟨sc,cel⟩ c.ifs) (cj Wt (cO n) ⟨sc,cel⟩ elt) I Y acc st Q
  | _=>False
noncomputable def sR (n:Nat) (fr:cA) (b:List Stmt):aF→St→aq→Prop:=jx Wt (cO n) fr b
def HX (n:Nat) (fr:cA) (s:Stmt) (d:Option (List MO)) (ns:List Str) (I:d8) (xs:List MV) (loc:aF) (st:St) (Q:aq):Prop:=Ih (jI Wt (cO n) fr (gh s)) (sR n fr (cw s)) ns d I xs loc st Q
noncomputable def gy (n:Nat) (fr:cA) (r:List Stmt) (Q:aq):aq:=fun fl loc st=>match fl with
  | .next=>sR n fr r loc st Q
  | .brk=>Q .brk loc st
  | .cont=>Q .cont loc st
  | .ret v=>Q (.ret v) loc st
section
structure OX where
  H:TH
  tol:Int
  x:Int
  Q:aE
noncomputable def OX.G (O:OX):MV:=.fl [.int (0+O.H.T.S.lg.w+O.H.T.S.rg.w),.int (O.x+O.H.T.S.lg.s+O.H.T.S.rg.s),.int 0,.int 0,.int 0,.int (0+O.H.T.S.lg.k+O.H.T.S.rg.k)]
noncomputable def OX.Z (O:OX):MV:=.fl [.int O.H.T.z0,.int O.H.T.z1]
noncomputable def OX.l (O:OX):aF:=[(av,cH O.H.T.S),(eI,O.Z),(bo,.int O.tol),(kL,.int O.x),(dQ,O.G)]
noncomputable def OX.R (O:OX):List MV:=O.H.T.R
noncomputable def OX.h0 (O:OX):St:=⟨[O.H.a,O.H.b,O.H.c,O.H.d,O.H.e,.cell (some (.fl O.R))],O.H.u⟩
noncomputable def OX.h1 (O:OX) (cs:List (Int × MV)):St:=⟨[O.H.a,O.H.b,O.H.c,O.H.d,O.H.e,.cell (some (.fl O.R)),.idict cs],O.H.u⟩
noncomputable def OX.tE (O:OX) (lg:List MV):List (Str × MV):=[(fg,.fl O.R),(dQ,O.G),(eI,O.Z),(bo,.int (eU O.tol 10000)),(av,cH O.H.T.S),(eJ,.fl lg),(gv,.ref 6)]
noncomputable def OX.h2 (O:OX) (cs:List (Int × MV)) (lg:List MV):St:=⟨[O.H.a,O.H.b,O.H.c,O.H.d,O.H.e,.cell (some (.fl O.R)),.idict cs,.sdict (O.tE lg)],O.H.u⟩
noncomputable def OX.h3 (O:OX) (cs:List (Int × MV)) (lg hs:List MV):St:=⟨[O.H.a,O.H.b,O.H.c,O.H.d,O.H.e,.cell (some (.fl O.R)),.idict cs,.sdict (O.tE lg ++ [(jo,.fl hs),(mC,.int O.R.length),(sf,.ref 8),(ia,.ref 9)]),.idict [],.idict []],O.H.u⟩
noncomputable abbrev Y0 (j:Nat):Stmt:=aa cZ.body j
noncomputable abbrev toC:List (Str × Nat):=[(fg,5)]
noncomputable abbrev Td:cA:=⟨cZ.scope,toC⟩
@[irreducible] noncomputable def OX.ss (j n:Nat) (O:OX) (lg:List MV) (r:aF) (s:St):Prop:=sR n Td (cZ.body.drop j) (O.l ++ (eJ,.fl lg) :: r) s (jf O.Q)
def OX.a1 (n:Nat) (O:OX) (ys:List MV) (s:St):Prop:=cj Wt (cO n) Td (RK (xb (Y0 2))).2 O.l s fun b s=>mP .Add (.fl ys) b s fun v s=>sR n Td (cZ.body.drop 3) (O.l ++ [(eJ,v)]) s (jf O.Q)
@[irreducible] noncomputable def OX.c1 (n:Nat) (O:OX) (Y acc:List MV):Prop:=Pz n toC (RK (xb (Y0 2))).1 (.enum O.R) Y acc O.h0 (O.a1 n)
variable {n:Nat}{O:OX}{Y acc ys lg SL:List MV}{p:Int}{cs:List (Int × MV)}{x0 x1 x2 x3 x4 c t:MV}{k i:Int}{Q':aq}
theorem to0:bs (n+1) (.fn 637) [.fl O.R,cH O.H.T.S,O.Z,.int O.tol,.int O.x] ⟨[O.H.a,O.H.b,O.H.c,O.H.d,O.H.e],O.H.u⟩ O.Q=(True∧True∧bW ((cp 0 O.R).length≤100000) (O.c1 n (cp 0 O.R) [])):=by kernel_rfl
theorem Q8:O.c1 n (.tup [.int k,.tup [x0,x1,x2,x3,x4,.none,t]] :: Y) acc=(True∧O.c1 n Y acc):=by kernel_rfl
theorem a2H:O.c1 n (.tup [.int k,.tup [x0,x1,x2,x3,x4,.int i,t]] :: Y) acc=(True∧O.c1 n Y (aL acc (.int k))):=by kernel_rfl
theorem a5W:O.c1 n [] acc=bW (O.R.length≤100000) (bW (acc.length+[MV.int O.R.length].length≤100000) (O.ss 3 n (acc ++ [.int O.R.length]) [] O.h0)):=by kernel_rfl
@[irreducible] noncomputable def OX.f (n:Nat) (O:OX) (lg SL Y:List MV) (cs:List (Int × MV)) (Q':aq):Prop:=HX n Td (Y0 4) none [av,eI,bo,kL,dQ,eJ,gv] (.seq SL) Y (O.l ++ [(eJ,.fl lg),(gv,.ref 6)]) (O.h1 cs) Q'
theorem to2:O.ss 3 n lg [] O.h0=bW (O.R.length≤100000) (bW ((none:Option Int)≠some 0∧lg.length≤100000) ((fun SL=>O.f n lg SL SL [((O.R.length:Int),.int (-10000))] (gy n Td (cZ.body.drop 5) (jf O.Q))) (dD lg none (some (-1)) none))):=by kernel_rfl
def OX.p5 (n:Nat) (O:OX) (lg SL Y:List MV) (cs:List (Int × MV)) (Q':aq) (p:Int) (r:MV):Prop:=ad (iP (O.h1 cs) r (.int 5)) fun v=>bw (aT (.int 5)) (bw (ce v) (bW (cs.length<100000) (True∧O.f n lg SL Y (cn p v cs) Q')))
theorem to3:O.f n lg SL (.int p :: Y) cs Q'=ad (bq O.R p) fun r=>bw (aT (.int p)) (O.p5 n lg SL Y cs Q' p r):=by kernel_rfl
theorem a2r:O.p5 n lg SL Y cs Q' p (.tup [x0,x1,x2,x3,x4,.int i,t])=bW (cs.length<100000) (True∧O.f n lg SL Y (cn p (.int i) cs) Q'):=by kernel_rfl
noncomputable def OX.l2 (O:OX) (lg:List MV):aF:=O.l ++ [(eJ,.fl lg),(gv,.ref 6),(cJ,.ref 7)]
def OX.a2 (n:Nat) (O:OX) (lg:List MV) (ys:List MV) (s:St):Prop:=cj Wt (cO n) Td (RK (xb (Y0 6))).2 (O.l2 lg) s fun b s=>jI Wt (cO n) Td (gh (Y0 6)) (.tup [.fl ys,b]) (O.l2 lg) s fun loc s=>sR n Td (cZ.body.drop 7) loc s (jf O.Q)
@[irreducible] noncomputable def OX.c2 (n:Nat) (O:OX) (lg SL Y acc:List MV) (cs:List (Int × MV)):Prop:=Pz n toC (RK (xb (Y0 6))).1 (.seq SL) Y acc (O.h2 cs lg) (O.a2 n lg)
theorem to4:gy n Td (cZ.body.drop 5) (jf O.Q) .next (O.l ++ [(eJ,.fl lg),(gv,.ref 6)]) (O.h1 cs)=bW ((none:Option Int)≠some 0∧lg.length≤100000) ((fun SL=>bW ((bU (.seq SL)).length≤100000) (O.c2 n lg SL SL [] cs)) (dD lg none (some (-1)) none)):=by kernel_rfl
def OX.p6 (n:Nat) (O:OX) (lg SL Y acc:List MV) (cs:List (Int × MV)) (p:Int) (r:MV):Prop:=ad (iP (O.h2 cs lg) r (.int 6)) fun v=>bw (aT (.int 6)) (ad (eY (O.h2 cs lg) .IsNot v .none) fun c=>aI c (True∧O.c2 n lg SL Y (aL acc (.int p)) cs) (True∧O.c2 n lg SL Y acc cs))
theorem to5:O.c2 n lg SL (.int p :: Y) acc cs=ad (bq O.R p) fun r=>bw (aT (.int p)) (O.p6 n lg SL Y acc cs p r):=by kernel_rfl
theorem a7f:O.p6 n lg SL Y acc cs p (.tup [x0,x1,x2,x3,x4,c,.none])=(True∧O.c2 n lg SL Y acc cs):=by kernel_rfl
theorem a64 {ts:List MV}:O.p6 n lg SL Y acc cs p (.tup [x0,x1,x2,x3,x4,c,.tup ts])=(True∧O.c2 n lg SL Y (aL acc (.int p)) cs):=by kernel_rfl
theorem to6:O.c2 n lg SL [] acc cs=bW (O.R.length≤100000) (bs n (.fn 672) [.ref 7,.int (-1),.int 0,.int 2,.int 0] (O.h3 cs lg acc) fun _ s=>O.Q (.ref 7) s):=by kernel_rfl
theorem M1 {fr:cA}{s:Stmt}{d:Option (List MO)}{ns:List Str}{I:d8}{loc:aF}{st:St}:HX n fr s d ns I [] loc st Q'=Q' .next loc st:=by unfold HX; rfl
end
end
section
set_option maxRecDepth 10000
theorem o6 {α:Type}(xs:List α) (x:α):dD (xs ++ [x]) none (some (-1)) none=xs:=by
  rw [vE (xs ++ [x]) _ _ 0 xs.length ?_ (Nat.zero_le _)]
  · exact List.take_left' rfl
  · unfold sliceBounds
    rw [List.length_append]
    simp
    lia
noncomputable def sM (hy:Int):Nat→Bool→List Nd→List Lb
  | _,_,[]=>[]
  | k,_,.box _ :: r=>sM hy (k+1) true r
  | k,b,.skip _ :: r=>match b with
    | true=>⟨k,0,0⟩ :: sM hy (k+1) false r
    | false=>sM hy (k+1) false r
  | k,_,.pen :: r=>sM hy (k+1) false r
  | k,_,.disc :: r=>if hy<10000 then ⟨k,if (-10000:Int) > hy then -10000 else hy,1⟩ :: sM hy (k+1) true r else sM hy (k+1) true r
theorem MX {hy:Int}{k:Nat}{b:Bool}{r:List Nd}:sM hy k b (.disc :: r)=if hy<10000 then ⟨k,if (-10000:Int) > hy then -10000 else hy,1⟩ :: sM hy (k+1) true r else sM hy (k+1) true r:=rfl
theorem nQ (hy:Int):∀ (ds:List Nd) (k:Nat) (b:Bool),aK hy k b ds=sM hy k b ds ++ [⟨k+ds.length,-10000,1⟩]
  | [],k,b=>rfl
  | d :: r,k,b=>by
    have e:∀ b,aK hy (k+1) b r=sM hy (k+1) b r ++ [⟨k+(r.length+1),-10000,1⟩]:=fun b=>(nQ hy r (k+1) b).trans (by rw [Nat.succ_add_eq_add_succ])
    match d,b with
    | .box _,_=>exact e _
    | .pen,_=>exact e _
    | .skip _,true=>exact congrArg (_ :: ·) (e _)
    | .skip _,false=>exact e _
    | .disc,_ =>
      show (if hy<10000 then _ :: aK hy (k+1) true r else aK hy (k+1) true r)=(if hy<10000 then _ :: sM hy (k+1) true r else sM hy (k+1) true r) ++ _
      by_cases q:hy<10000
      · rw [if_pos q,if_pos q,e]; rfl
      · rw [if_neg q,if_neg q]; exact e _
def D6 (hy:Int) (b:Lb) (row:MV):Prop:=∃ x0 x1 x2 x3 x4,(row=.tup [x0,x1,x2,x3,x4,.int 0,.none]∧b.sort=0∧b.pen=0)∨(row=.tup [x0,x1,x2,x3,x4,.int hy,.tup [.int 3,.none]]∧b.sort=1∧b.pen=(if (-10000:Int) > hy then -10000 else hy))
theorem OL {hy:Int}{R:List MV}:∀ (ds:List Nd) (k:Nat) (bh:Bool),R.drop k=dj hy bh ds→∀ b∈sM hy k bh ds,∃ row,nth R b.pl=some row∧D6 hy b row
  | [],k,bh,e,b,m=>absurd m List.not_mem_nil
  | d :: r,k,bh,e,b,m=>by
    have e':=g7 e
    have ih:=fun bh' h=>OL (hy:=hy) (R:=R) r (k+1) bh' h b
    cases d with
    | box=>exact ih _ e'.2 m
    | pen=>exact ih _ e'.2 m
    | skip=>cases bh with
      | false=>exact ih _ e'.2 m
      | true=>exact (List.mem_cons.mp m).elim (fun q=>by rw [q]; exact ⟨_,e'.1,_,_,_,_,_,.inl ⟨rfl,rfl,rfl⟩⟩) (ih _ e'.2)
    | disc =>
      by_cases q:hy<10000
      · rw [MX,if_pos q] at m
        refine (List.mem_cons.mp m).elim (fun u=>?_) (ih _ e'.2)
        rw [u]
        exact ⟨_,e'.1,.bool true,.int 0,.int 0,.int 0,.int 0,.inr ⟨by rw [lU,if_pos q],rfl,rfl⟩⟩
      · rw [MX,if_neg q] at m
        exact ih _ e'.2 m
section
variable {n:Nat}{O:OX}{acc lg SL:List MV}{hy:Int}{Q':aq}{cs:List (Int × MV)}
theorem lG:∀ (ds:List Nd) (k:Nat) (b:Bool) (acc:List MV),O.c1 n [] (acc ++ (sM hy k b ds).map fun b=>.int b.pl)→O.c1 n (cp k (dj hy b ds)) acc
  | [],k,b,acc,h=>by rw [show acc=acc ++ List.map (fun b:Lb=>MV.int b.pl) [] from (List.append_nil _).symm]; exact h
  | d :: r,k,b,acc,h=>by
    have s:∀ {b'},O.c1 n [] (acc ++ .int k :: (sM hy (k+1) b' r).map fun b=>.int b.pl)→True∧O.c1 n (cp (k+1) (dj hy b' r)) (aL acc (.int k)):=fun h=>⟨⟨⟩,lG r (k+1) _ _ (by rw [br,List.append_assoc]; exact h)⟩
    match d,b,h with
    | .box _,_,h=>exact Q8.mpr ⟨⟨⟩,lG r (k+1) true _ h⟩
    | .pen,_,h=>exact Q8.mpr ⟨⟨⟩,lG r (k+1) false _ h⟩
    | .skip _,false,h=>exact Q8.mpr ⟨⟨⟩,lG r (k+1) false _ h⟩
    | .skip _,true,h=>exact a2H.mpr (s h)
    | .disc,_,h =>
      rw [MX] at h
      show O.c1 n (.tup [.int k,.tup [.bool true,.int 0,.int 0,.int 0,.int 0,if hy<10000 then .int hy else .none,.tup [.int 3,.none]]] :: _) acc
      by_cases q:hy<10000
      · rw [if_pos q] at h ⊢
        exact a2H.mpr (s h)
      · rw [if_neg q] at h ⊢
        exact Q8.mpr ⟨⟨⟩,lG r (k+1) true _ h⟩
theorem xi {R:List MV}{k:Nat}{v:MV}(h:nth R k=some v):k<R.length:=by
  rw [iZ] at h
  exact (List.getElem?_eq_some_iff.mp h).1
theorem yg {l:List Lb}(hy0:-10000<hy) (hR:O.R.length≤1000) (hl:∀ b∈l,∃ row,nth O.R b.pl=some row∧D6 hy b row) (so:l.Pairwise fun a b=>a.pl<b.pl) (h:∀ cs,(∀ b∈l,ah (b.pl:Int) cs=some b.pen)→ah (O.R.length:Int) cs=some (-10000)→Q' .next (O.l ++ [(eJ,.fl lg),(gv,.ref 6)]) (O.h1 (a7 cs))) :
    ∀ (r d:List Lb) (cs:List (Int × Int)),l=d ++ r→(∀ b∈d,ah (b.pl:Int) cs=some b.pen)→ah (O.R.length:Int) cs=some (-10000)→cs.length+r.length≤2000→O.f n lg SL (r.map fun b=>.int b.pl) (a7 cs) Q'
  | [],d,cs,e,g,g',_=>by
    rw [List.append_nil] at e
    unfold OX.f
    exact M1.mpr (h cs (e ▸ g) g')
  | b :: r,d,cs,e,g,g',hc=>by
    obtain ⟨row,er,x0,x1,x2,x3,x4,eb⟩:=hl b (e ▸ List.mem_append_right _ List.mem_cons_self)
    have lt:=xi er
    have hc:cs.length+(r.length+1)≤2000:=hc
    have st:∀ {t},bW ((a7 cs).length<100000) (True∧O.f n lg SL (r.map fun b=>.int b.pl) (cn (b.pl:Int) (.int b.pen) (a7 cs)) Q')∧t=t:=fun {t:Unit}=>⟨cf (ke (by lia)) ⟨⟨⟩,by
      rw [a7,kS (f:=MV.int),← a7]
      refine yg hy0 hR hl so h r (d ++ [b]) _ (by rw [e,List.append_assoc]; rfl) (fun c m=>?_) (bN.trans ((if_neg (by lia)).trans g')) (by have:=rn (k:=(b.pl:Int)) (v:=b.pen) cs; lia)
      refine bN.trans ((List.mem_append.mp m).elim (fun m=>?_) fun m=>by rw [List.mem_singleton.mp m,if_pos rfl])
      rw [e] at so
      rw [if_neg (fun z:(c.pl:Int)=b.pl=>Nat.ne_of_lt ((List.pairwise_append.mp so).2.2 c m b List.mem_cons_self) (Int.ofNat.inj z))]
      exact g c m⟩,rfl⟩
    refine to3.mpr (aR er (d9 (MS (by lia)) ?_))
    rcases eb with ⟨rfl,_,ep⟩ | ⟨rfl,_,ep⟩
    · rw [ep] at st
      exact a2r.mpr (st (t:=())).1
    · rw [ep,if_neg (by lia)] at st
      exact a2r.mpr (st (t:=())).1
theorem Op {l:List Lb}(hR:O.R.length≤1000) (hl:∀ b∈l,∃ row,nth O.R b.pl=some row∧D6 hy b row):∀ (r:List Lb) (acc:List MV),(∀ b∈r,b∈l)→O.c2 n lg SL [] (acc ++ ((r.filter fun b=>decide (b.sort=1)).map fun b=>.int b.pl)) cs→O.c2 n lg SL (r.map fun b=>.int b.pl) acc cs
  | [],acc,_,h=>by rw [show acc=acc ++ List.map (fun b:Lb=>MV.int b.pl) [] from (List.append_nil _).symm]; exact h
  | b :: r,acc,m,h=>by
    obtain ⟨row,er,x0,x1,x2,x3,x4,eb⟩:=hl b (m b List.mem_cons_self)
    have lt:=xi er
    have ih:=fun acc=>Op hR hl r acc fun c q=>m c (List.mem_cons_of_mem _ q)
    rw [List.filter_cons] at h
    refine to5.mpr (aR er (d9 (MS (by lia)) ?_))
    rcases eb with ⟨rfl,es,_⟩ | ⟨rfl,es,_⟩
    · rw [es] at h
      exact a7f.mpr ⟨⟨⟩,ih acc h⟩
    · rw [es] at h
      exact a64.mpr ⟨⟨⟩,ih _ (by rw [br,List.append_assoc]; exact h)⟩
noncomputable def Ht (S:fF) (x:Int):V6:=⟨0+S.lg.w+S.rg.w,x+S.lg.s+S.rg.s,0,0,0,0+S.lg.k+S.rg.k⟩
noncomputable def TH.m (H:TH) (cs:List (Int × Int)) (hs:List Int) (sn:List (Int × MV)) (ls:List (Int × Int)):TH:={ H with cs:=cs,hs:=hs,sn:=sn,ls:=ls }
theorem TH.v_m {H:TH}{cs:List (Int × Int)}{hs:List Int}{sn sn':List (Int × MV)}{ls ls':List (Int × Int)}:(H.m cs hs sn ls).v sn' ls'=H.m cs hs sn' ls':=rfl
noncomputable def Ku (T:Tl):List Lb:=sM T.S.hyph 0 false T.ds
noncomputable def WG (T:Tl):List Int:=((Ku T).filter fun b=>decide (b.sort=1)).map fun b=>(b.pl:Int)
theorem jR (T:Tl):bC T=Ku T ++ [⟨T.ds.length,-10000,1⟩]:=(nQ _ _ _ _).trans (by rw [Nat.zero_add]; rfl)
theorem Cr (T:Tl):∀ b∈Ku T,∃ row,nth T.R b.pl=some row∧D6 T.S.hyph b row:=OL (R:=T.R) T.ds 0 false rfl
theorem O3 (T:Tl):T.R.length=T.ds.length:=nl _ _ _
theorem Kt {H:TH}{cs:List (Int × Int)}(hT:tc H.T) (c1:∀ b∈Ku H.T,ah (b.pl:Int) cs=some b.pen) (c2:ah (H.T.R.length:Int) cs=some (-10000)):jy (H.m cs (WG H.T) [] []):=by
  refine ⟨hT,fun b m=>?_,fun k=>Iff.trans ⟨fun m=>?_,fun m=>?_⟩ rQ.symm,List.nodup_nil,nofun⟩
  · have m:b∈bC H.T:=m
    rw [jR] at m
    refine (List.mem_append.mp m).elim (c1 b) fun m=>?_
    rw [List.mem_singleton.mp m,← c2,O3]
    rfl
  · obtain ⟨b,m',rfl⟩:=List.mem_map.mp (show k∈WG H.T from m)
    obtain ⟨m1,m2⟩:=List.mem_filter.mp m'
    obtain ⟨row,er,_⟩:=Cr _ b m1
    exact ⟨b,by show b∈bC H.T; rw [jR]; exact List.mem_append_left _ m1,rfl,of_decide_eq_true m2,O3 H.T ▸ xi er⟩
  · obtain ⟨b,m,rfl,e1,e2⟩:=m
    have m:b∈bC H.T:=m
    rw [jR] at m
    refine (List.mem_append.mp m).elim (fun m=>List.mem_map.mpr ⟨b,List.mem_filter.mpr ⟨m,decide_eq_true e1⟩,rfl⟩) fun m=>?_
    rw [List.mem_singleton.mp m] at e2
    exact absurd e2 (Nat.lt_irrefl _)
theorem a04 {H:TH}{tol x:Int}{Q:aE}{cs:List (Int × Int)}(eg:H.T.g=Ht H.T.S x) (et:H.T.tol=eU tol 10000):(H.m cs (WG H.T) [] []).st false=OX.h3 ⟨H,tol,x,Q⟩ (a7 cs) ((bC H.T).map fun b=>.int b.pl) (((Ku H.T).filter fun b=>decide (b.sort=1)).map fun b=>.int b.pl):=by
  have e:TH.tE (H.m cs (WG H.T) [] [])=OX.tE ⟨H,tol,x,Q⟩ ((bC H.T).map fun b=>.int b.pl) ++ [(jo,.fl (((Ku H.T).filter fun b=>decide (b.sort=1)).map fun b=>.int b.pl)),(mC,.int H.T.R.length),(sf,.ref 8),(ia,.ref 9)]:=by
    show [(fg,MV.fl H.T.R),(dQ,.fl (vL H.T.g)),(eI,.fl [.int H.T.z0,.int H.T.z1]),(bo,.int H.T.tol),(av,cH H.T.S),(eJ,.fl ((bC H.T).map fun b=>.int b.pl)),(gv,.ref 6),(jo,.fl ((WG H.T).map .int)),(mC,.int H.T.ds.length),(sf,.ref 8),(ia,.ref 9)]=_
    rw [eg,et,← O3,WG,List.map_map]
    rfl
  show St.mk (H.a :: H.b :: H.c :: H.d :: H.e :: .cell (some (.fl H.T.R)) :: .idict (a7 cs) :: .sdict (TH.tE (H.m cs (WG H.T) [] [])) :: .idict [] :: .idict [] :: []) H.u=_
  rw [e]
  rfl
theorem Yb {N:Nat}{H:TH}{tol x:Int}{Q:aE}(hT:tc H.T) (hN:(bC H.T).length≤N) (hN':N≤50) (eg:H.T.g=Ht H.T.S x) (et:H.T.tol=eU tol 10000)
    (h:∀ cs hs sn,jy (H.m cs hs sn (jb H.T (bC H.T) (-1) 0 2 0 []))→fS (jb H.T (bC H.T) (-1) 0 2 0 [])→Q (.ref 7) ((H.m cs hs sn (jb H.T (bC H.T) (-1) 0 2 0 [])).st false)):bs (N+4) (.fn 637) [.fl H.T.R,cH H.T.S,.fl [.int H.T.z0,.int H.T.z1],.int tol,.int x] ⟨[H.a,H.b,H.c,H.d,H.e],H.u⟩ Q:=by
  have rl:H.T.R.length≤99:=by rw [O3]; exact hT.hl
  have so:=jU H.T
  rw [jR] at so
  have so:=(List.pairwise_append.mp so).1
  have hr:=Cr H.T
  have em:(bC H.T).map (fun b=>MV.int b.pl)=(Ku H.T).map (fun b=>MV.int b.pl) ++ [.int H.T.R.length]:=by rw [jR,O3,List.map_append]; rfl
  have ll:(Ku H.T).length≤50∧((bC H.T).map (fun b=>MV.int b.pl)).length≤50:=by
    rw [List.length_map]
    rw [jR,List.length_append] at hN ⊢
    lia
  have lm:∀ {l:List Lb},l.length≤50→(l.map fun b=>MV.int b.pl).length≤99999:=fun h=>by rw [List.length_map]; lia
  have lE:∀ (l:List MV) (k:Nat),(cp k l).length=l.length:=fun l=>by
    induction l with
    | nil=>exact fun _=>rfl
    | cons a r ih=>exact fun k=>congrArg (·+1) (ih _)
  have R1:H.T.R.length≤100000:=Nat.le_trans rl (by decide)
  have L1:(none:Option Int)≠some 0∧((bC H.T).map (fun b=>MV.int b.pl)).length≤100000:=⟨nofun,Nat.le_trans ll.2 (by decide)⟩
  refine to0 (O:=⟨H,tol,x,Q⟩) |>.mpr ⟨⟨⟩,⟨⟩,cf (by rw [lE]; exact R1) (lG H.T.ds 0 false [] (a5W.mpr (cf R1 (cf (Nat.succ_le_succ (lm ll.1)) ?_))))⟩
  rw [List.nil_append]
  show OX.ss 3 (N+3) ⟨H,tol,x,Q⟩ ((Ku H.T).map (fun b=>MV.int b.pl) ++ [.int H.T.R.length]) [] _
  rw [← em]
  refine to2.mpr (cf R1 (cf L1 ?_))
  rw [em,o6,← em]
  refine yg (O:=⟨H,tol,x,Q⟩) hT.hhy (Nat.le_trans rl (by decide)) hr so (fun cs c1 c2=>to4.mpr (cf L1 ?_)) (Ku H.T) [] [((H.T.R.length:Int),-10000)] rfl (fun b m=>absurd m List.not_mem_nil) (if_pos rfl) (by show 1+_≤_; lia)
  rw [em,o6,← em]
  refine cf (Nat.le_succ_of_le (lm ll.1)) (Op (O:=⟨H,tol,x,Q⟩) (Nat.le_trans rl (by decide)) hr (Ku H.T) [] (fun _ m=>m) (to6.mpr (cf R1 ?_)))
  rw [List.nil_append,← a04 eg et]
  exact a2M N _ (bC H.T) [] (-1) 0 2 0 (fun _ s=>Q (.ref 7) s) hN (Kt hT c1 c2) rfl (fun b m=>absurd m List.not_mem_nil) (fun b m=>by lia) (Int.le_refl _) (Int.le_refl _) (by lia) ⟨List.nodup_nil,fun k m=>absurd m List.not_mem_nil⟩
    fun sn s=>h cs _ sn ⟨hT,(Kt hT c1 c2).cs,(Kt hT c1 c2).hs,s⟩ (nt _ _ _ _ _ _ _ ⟨List.nodup_nil,fun k m=>absurd m List.not_mem_nil⟩ (Int.le_refl _) (by lia))
end
end
section
set_option maxRecDepth 10000
noncomputable def gq (l:List (Int × Int)):List Int:=(l.map (·.1)).mergeSort (fun a b=>decide (a≤b))
noncomputable def oh (l:List (Int × Int)):List (Int × Int):=(gq l).map fun k=>((ah k l).getD 0,k)
noncomputable def cL (l:List (Int × Int)):Int:=((sv (oh l)).map (·.2)).getD 0
noncomputable def fL (l:List (Int × Int)) (far:Int):List Int:=(gq l).filter fun k=>decide ((cL l≤k∧k≤cL l+far)∨(cL l+far≤k∧k≤cL l))
noncomputable def d7 (l:List (Int × Int)) (far:Int):Int:=(if far > 0 then uC (fL l far) else pL (fL l far)).getD 0
noncomputable def jD:Bool→List MO
  | false=>[.idict []]
  | true=>[.cell (some (.ref 7)),.idict []]
noncomputable def TH.ld (K:TH) (j:Bool):List MO:=K.a :: K.b :: K.c :: K.d :: K.e :: .cell (some (.fl K.T.R)) :: .idict (a7 K.cs) :: .sdict K.tE :: .idict K.sn :: .idict (a7 K.ls) :: jD j
noncomputable def TH.sd (K:TH) (j:Bool):St:=⟨K.ld j,K.u⟩
section
structure WQ where
  K:TH
  j:Bool
  Q:aE
noncomputable def waC:Bool→List (Str × Nat)
  | false=>[(gF,13),(TQ,12),(ia,11)]
  | true=>[(gF,14),(TQ,13),(ia,12)]
noncomputable abbrev waS (j:Nat):Stmt:=aa c8.body j
noncomputable abbrev waF (j:Bool):cA:=⟨c8.scope,waC j⟩
noncomputable def WQ.h (X:WQ) (o:Option MV):St:=⟨X.K.ld X.j ++ [.cell (some (.ref 9)),.cell (some (.int X.K.T.S.loos)),.cell o],X.K.u⟩
noncomputable def WQ.P (X:WQ):aq:=eh (X.K.ld X.j) X.Q
def xe (ys:List MV) (K:MV→Prop):Prop:=bW (ys.length≤1000) (kH (ci ys) (fun l=>ad (pL l) fun m=>K (.int m)) (ad (dH ys) fun l=>ad (sv l) fun m=>K (.tup [.int m.1,.int m.2])))
def a0y (ys:List MV) (K:MV→Prop):Prop:=ad (ci ys) fun l=>ad (uC l) fun m=>K (.int m)
def WQ.b1 (n:Nat) (X:WQ) (s:St) (v:MV):Prop:=ad (iP s v (.int 1)) fun b=>bw (aT (.int 1)) (jI Wt (cO n) (waF X.j) (gh (waS 2)) b [(cJ,.ref 7)] s fun loc s=>sR n (waF X.j) (c8.body.drop 3) loc s X.P)
@[irreducible] noncomputable def WQ.c1 (n:Nat) (X:WQ) (I Y acc:List MV):Prop:=Pz n (waC X.j) (RK (RK (xb (waS 2))).1).1 (.seq I) Y acc (X.h none) fun ys s=>xe ys (X.b1 n s)
def WQ.fin (n:Nat) (X:WQ) (b:Int) (ys:List MV) (m:MV):Prop:=sR n (waF X.j) (c8.body.drop 5) [(cJ,.ref 7),(KW,.fl ys),(N8,m)] (X.h (some (.int b))) X.P
def WQ.b2 (n:Nat) (X:WQ) (ys:List MV) (s:St):Prop:=sR n (waF X.j) (c8.body.drop 4) [(cJ,.ref 7),(KW,.fl ys)] s X.P
@[irreducible] noncomputable def WQ.c2 (n:Nat) (X:WQ) (b:Int) (I Y acc:List MV):Prop:=Pz n (waC X.j) (xb (waS 3)) (.seq I) Y acc (X.h (some (.int b))) (X.b2 n)
def WQ.v1 (n:Nat) (X:WQ) (I Y acc:List MV) (k:Int) (v:MV):Prop:=bw (ce (.tup [v,.int k])) (True∧X.c1 n I Y (aL acc (.tup [v,.int k])))
variable {n:Nat}{X:WQ}{I Y acc ys:List MV}{k b x m:Int}
noncomputable def JT (ls:List (Int × MV)):List MV:=((ls.map (·.1)).mergeSort (fun a b=>decide (a≤b))).map .int
theorem wq0:bs (n+1) (.fn 684) [.ref 7] (X.K.sd X.j) X.Q=aI (decide (X.K.T.S.loos=0)) (dq (X.K.ld X.j) (X.h none) fun st=>X.Q (.tup [.none,.bool true]) st) (bW ((a7 X.K.ls).length<64) ((fun I=>bW ((bU (.seq I)).length≤100000) (X.c1 n I I [])) (JT (a7 X.K.ls)))):=by
  obtain ⟨K,j,Q⟩:=X
  cases j <;> kernel_rfl
theorem wq1:X.c1 n I (.int k :: Y) acc=ad (ah k (a7 X.K.ls)) fun v=>bw (aT (.int k)) (X.v1 n I Y acc k v):=by
  obtain ⟨K,j,Q⟩:=X
  cases j <;> kernel_rfl
theorem wq2:X.v1 n I Y acc k (.int x)=(True∧X.c1 n I Y (aL acc (.tup [.int x,.int k]))):=by kernel_rfl
theorem wq3:X.c1 n I [] acc=xe acc (X.b1 n (X.h none)):=by kernel_rfl
theorem wq4:X.b1 n (X.h none) (.tup [.int x,.int b])=bW ((a7 X.K.ls).length<64) ((fun I=>bW ((bU (.seq I)).length≤100000) (X.c2 n b I I [])) (JT (a7 X.K.ls))):=by
  obtain ⟨K,j,Q⟩:=X
  cases j <;> kernel_rfl
theorem wq5:X.c2 n b I (.int k :: Y) acc=(fun T F=>(fun E=>aI (decide (b≤k)) (aI (decide (k≤b+X.K.T.S.loos)) T E) E) (aI (decide (b+X.K.T.S.loos≤k)) (aI (decide (k≤b)) T F) F)) (True∧X.c2 n b I Y (aL acc (.int k))) (True∧X.c2 n b I Y acc):=by
  obtain ⟨K,j,Q⟩:=X
  cases j <;> kernel_rfl
theorem wq6:X.c2 n b I [] ys=aI (decide (X.K.T.S.loos > 0)) (a0y ys (X.fin n b ys)) (xe ys (X.fin n b ys)):=by
  obtain ⟨K,j,Q⟩:=X
  cases j <;> kernel_rfl
theorem wq7:X.fin n b ys (.int m)=dq (X.K.ld X.j) (X.h (some (.int b))) fun st=>X.Q (.tup [.int m,.bool (decide (m=b+X.K.T.S.loos))]) st:=by
  obtain ⟨K,j,Q⟩:=X
  cases j <;> kernel_rfl
theorem oy (f:Int→Int):∀ l:List Int,dH (l.map fun k=>MV.tup [.int (f k),.int k])=some (l.map fun k=>(f k,k))
  | []=>rfl
  | k :: r=>congrArg (Option.map ((f k,k) :: ·)) (oy f r)
theorem GL {α:Type}(f:α→α→α) (hf:∀ a b,f a b=a∨f a b=b):∀ (r:List α) (x:α),r.foldl f x∈x :: r
  | [],x=>List.mem_cons_self
  | y :: r,x=>by
    rw [List.foldl_cons]
    refine (List.mem_cons.mp (GL f hf r (f x y))).elim (fun q=>?_) fun q=>List.mem_cons_of_mem _ (List.mem_cons_of_mem _ q)
    rw [q]
    exact (hf x y).elim (fun e=>by rw [e]; exact List.mem_cons_self) fun e=>by rw [e]; exact List.mem_cons_of_mem _ List.mem_cons_self
theorem xC (l:List (Int × Int)):JT (a7 l)=(gq l).map .int:=by rw [JT,a7,List.map_map]; rfl
theorem Km {l:List (Int × Int)}{k:Int}(h:k∈gq l):k∈l.map (·.1):=(List.mergeSort_perm _ _).mem_iff.mp h
theorem lL (l:List (Int × Int)):(gq l).length=l.length:=(List.mergeSort_perm _ _).length_eq.trans (List.length_map _)
theorem CR {l:List (Int × Int)}(h:l≠[]):∃ m,sv (oh l)=some m∧m.2=cL l∧cL l∈gq l:=by
  have e:∀ q:List (Int × Int),q≠[]→∃ m,sv q=some m∧m∈q:=fun q h=>match q,h with
    | x :: r,_=>⟨_,rfl,GL _ (fun a b=>aC (C:=fun z=>z=a∨z=b) (fun _=>.inl rfl) fun _=>.inr rfl) r x⟩
  obtain ⟨m,e1,e2⟩:=e (oh l) fun z=>h (List.eq_nil_of_length_eq_zero (by rw [← lL,← List.length_map (f:=fun k=>((ah k l).getD 0,k))]; exact congrArg List.length z))
  have eb:cL l=m.2:=by rw [cL,e1]; rfl
  obtain ⟨k,hk,q⟩:=List.mem_map.mp e2
  exact ⟨m,e1,eb.symm,by rw [eb,← q]; exact hk⟩
theorem QQ {l:List (Int × Int)}{far:Int}(h:l≠[]):(far > 0→uC (fL l far)=some (d7 l far))∧(¬ far > 0→pL (fL l far)=some (d7 l far)):=by
  obtain ⟨_,_,_,hb⟩:=CR h
  have hm:cL l∈fL l far:=List.mem_filter.mpr ⟨hb,decide_eq_true (by lia)⟩
  unfold d7
  constructor
  · intro q
    rw [if_pos q]
    match fL l far,hm with
    | x :: r,_=>rfl
  · intro q
    rw [if_neg q]
    match fL l far,hm with
    | x :: r,_=>rfl
theorem VQ (l:∀ k∈X.K.ls.map (·.1),k<100000):∀ (r d:List Int),(∀ k∈r,k∈X.K.ls.map (·.1))→X.c1 n I [] ((d ++ r).map fun k=>.tup [.int ((ah k X.K.ls).getD 0),.int k])→X.c1 n I (r.map .int) (d.map fun k=>.tup [.int ((ah k X.K.ls).getD 0),.int k])
  | [],d,_,h=>by rw [List.append_nil] at h; exact h
  | k :: r,d,m,h=>by
    have mk:=m k List.mem_cons_self
    obtain ⟨x,e⟩:=ji mk
    refine wq1.mpr (aR ((cD (f:=MV.int)).trans (congrArg (Option.map _) e)) (d9 (Ie (l k mk)) (wq2.mpr ⟨⟨⟩,?_⟩)))
    rw [show aL (d.map fun k=>MV.tup [.int ((ah k X.K.ls).getD 0),.int k]) (.tup [.int x,.int k])=(d ++ [k]).map fun k=>MV.tup [.int ((ah k X.K.ls).getD 0),.int k] by rw [br,List.map_append]; show _=_ ++ [MV.tup [.int ((ah k X.K.ls).getD 0),.int k]]; rw [e]; rfl]
    exact VQ l r (d ++ [k]) (fun c q=>m c (List.mem_cons_of_mem _ q)) (by rw [List.append_assoc]; exact h)
theorem Ke:∀ (r d:List Int),X.c2 n b I [] ((d ++ r.filter fun k=>decide ((b≤k∧k≤b+X.K.T.S.loos)∨(b+X.K.T.S.loos≤k∧k≤b))).map .int)→X.c2 n b I (r.map .int) (d.map .int)
  | [],d,h=>by rw [List.filter_nil,List.append_nil] at h; exact h
  | k :: r,d,h=>by
    rw [List.filter_cons] at h
    have T:((b≤k∧k≤b+X.K.T.S.loos)∨(b+X.K.T.S.loos≤k∧k≤b))→True∧X.c2 n b I (r.map .int) (aL (d.map .int) (.int k)):=fun q=>⟨⟨⟩,by
      rw [if_pos (decide_eq_true q)] at h
      rw [show aL (d.map MV.int) (.int k)=(d ++ [k]).map .int by rw [br,List.map_append]; rfl]
      exact Ke r (d ++ [k]) (by rw [List.append_assoc]; exact h)⟩
    have F:¬ ((b≤k∧k≤b+X.K.T.S.loos)∨(b+X.K.T.S.loos≤k∧k≤b))→True∧X.c2 n b I (r.map .int) (d.map .int):=fun q=>⟨⟨⟩,by
      rw [if_neg (fun z=>q (of_decide_eq_true z))] at h
      exact Ke r d h⟩
    have E:¬ (b≤k∧k≤b+X.K.T.S.loos)→aI (decide (b+X.K.T.S.loos≤k)) (aI (decide (k≤b)) (True∧X.c2 n b I (r.map .int) (aL (d.map .int) (.int k))) (True∧X.c2 n b I (r.map .int) (d.map .int))) (True∧X.c2 n b I (r.map .int) (d.map .int)):=fun q =>
      bX (fun q1=>bX (fun q2=>T (.inr ⟨q1,q2⟩)) fun z=>F fun y=>y.elim q fun y=>z y.2) fun z=>F fun y=>y.elim q fun y=>z y.1
    exact wq5.mpr (bX (fun q1=>bX (fun q2=>T (.inl ⟨q1,q2⟩)) fun z=>E fun y=>z y.2) fun z=>E fun y=>z y.1)
theorem uI {K:TH}{j:Bool}{Q:aE}(hls:fS K.ls) (hn:K.T.S.loos≠0→K.ls≠[]) (h:Q (if K.T.S.loos=0 then .tup [.none,.bool true] else .tup [.int (d7 K.ls K.T.S.loos),.bool (decide (d7 K.ls K.T.S.loos=cL K.ls+K.T.S.loos))]) (K.sd j)):bs (n+1) (.fn 684) [.ref 7] (K.sd j) Q:=by
  have ll:=hls.len
  have l64:(a7 K.ls).length<64:=ke (by lia)
  have lk:∀ l:List Int,l.length≤50→(l.map MV.int).length≤1000:=fun l h=>by rw [List.length_map]; lia
  have ki:((gq K.ls).map MV.int).length≤100000:=by rw [List.length_map,lL]; lia
  refine wq0 (X:=⟨K,j,Q⟩) |>.mpr (bX (fun q=>by rw [if_pos q] at h; exact dJ h) fun q=>cf l64 ?_)
  rw [if_neg q] at h
  have hn:=hn q
  obtain ⟨m,e1,e2,e3⟩:=CR hn
  rw [xC]
  refine cf ki (VQ (fun k mk=>by have:=hls.2 k mk; lia) (gq K.ls) [] (fun k=>Km) (wq3.mpr (cf (by rw [List.length_map,List.nil_append,lL]; exact (by lia:K.ls.length≤1000)) ?_)))
  rw [List.nil_append,oy fun k=>(ah k K.ls).getD 0]
  have no:∀ {l:List Int},cL K.ls∈l→ci (l.map fun k=>MV.tup [.int ((ah k K.ls).getD 0),.int k])=none:=fun {l} h=>match l,h with
    | k :: r,_=>rfl
  rw [show ci ((gq (WQ.K ⟨K,j,Q⟩).ls).map fun k=>MV.tup [.int ((ah k K.ls).getD 0),.int k])=none from no e3]
  refine aR (o:=sv (oh K.ls)) e1 (wq4.mpr (cf l64 ?_))
  rw [xC,e2]
  refine cf ki (Ke (gq K.ls) [] (wq6.mpr ?_))
  rw [List.nil_append]
  have hml:(fL K.ls K.T.S.loos).length≤50:=Nat.le_trans (List.length_filter_le _ _) (by rw [lL]; exact ll)
  have me:=QQ (far:=K.T.S.loos) hn
  have fin:WQ.fin n ⟨K,j,Q⟩ (cL K.ls) ((fL K.ls K.T.S.loos).map .int) (.int (d7 K.ls K.T.S.loos)):=wq7.mpr (dJ h)
  show aI (decide (K.T.S.loos > 0)) (a0y ((fL K.ls K.T.S.loos).map .int) _) (xe ((fL K.ls K.T.S.loos).map .int) _)
  refine bX (fun q=>aR (fG _) (aR (me.1 q) fin)) fun q=>cf (lk _ hml) ?_
  rw [fG]
  exact aR (me.2 q) fin
end
end
section
set_option maxRecDepth 10000
section
structure PX where
  K:TH
  W:List MV
  Q:aE
noncomputable abbrev yaB:List Stmt:=cw (aa aG.body 1)
noncomputable abbrev WD:List Stmt:=cw (aa aG.body 4)
noncomputable def PX.P (X:PX):aq:=eh (X.K.l true) X.Q
noncomputable def PX.loc (X:PX) (at_ fit acc:Int):aF:=[(cJ,.ref 7),(ii,.fl X.W),(mO,.int at_),(jF,.int fit),(bz,.int acc)]
noncomputable def yN:List Str:=[cJ,ii,mO,jF,bz]
noncomputable def yM:List Str:=[cJ,ii,mO,jF,bz,ff,cy]
noncomputable def PX.loc2 (X:PX) (at_ fit acc:Int) (k p:Nat):aF:=X.loc at_ fit acc ++ [(ff,.int k),(cy,.int p)]
noncomputable def Oj:Str:=⟨⟨[110,111,32,119,97,121]⟩⟩
def PX.no (X:PX):Prop:=dq (X.K.l true) (X.K.st true) fun st=>X.Q (.str Oj) st
@[irreducible] noncomputable def PX.F1 (n:Nat) (X:PX) (Y:List MV) (at_:Int):Prop:=fe n aG (aa aG.body 1) none yN (.enum X.W) Y (X.loc at_ 2 0) (X.K.st true) (aB n aG (aG.body.drop 2) X.P)
noncomputable def PX.T1 (n:Nat) (X:PX) (Y:List MV):aq:=gW n aG (aa aG.body 1) none yN (.enum X.W) Y (aB n aG (aG.body.drop 2) X.P)
noncomputable def Ud (K:TH):List MV:=(bC K.T).map fun b=>.int b.pl
@[irreducible] noncomputable def PX.G1 (n:Nat) (X:PX) (Y R:List MV) (at_:Int) (k p:Nat):Prop:=fe n aG (aa yaB 1) none yM (.seq (Ud X.K)) R (X.loc2 at_ 2 0 k p) (X.K.st true) (aB n aG (yaB.drop 2) (X.T1 n Y))
def PX.s1 (n:Nat) (X:PX) (Y R:List MV) (at_:Int) (k p:Nat) (x:MV):Prop:=ad (eY (X.K.st true) .LtE x (.int (-10000))) fun d=>aI d X.no (True∧X.G1 n Y R at_ k p)
@[irreducible] noncomputable def PX.F2 (n:Nat) (X:PX) (K:TH) (Y:List MV) (at_ fit acc:Int):Prop:=fe n aG (aa aG.body 4) none yN (.enum X.W) Y (X.loc at_ fit acc) (K.st true) (aB n aG (aG.body.drop 5) X.P)
noncomputable def PX.T2 (n:Nat) (X:PX) (Y:List MV):aq:=gW n aG (aa aG.body 4) none yN (.enum X.W) Y (aB n aG (aG.body.drop 5) X.P)
@[irreducible] noncomputable def PX.G2 (n:Nat) (X:PX) (K:TH) (Y R:List MV) (at_ fit acc:Int) (k p:Nat):Prop:=fe n aG (aa WD 0) none yM (.seq (Ud X.K)) R (X.loc2 at_ fit acc k p) (K.st true) (aB n aG (WD.drop 1) (X.T2 n Y))
noncomputable def PX.U2 (n:Nat) (X:PX) (Y R:List MV):aq:=gW n aG (aa WD 0) none yM (.seq (Ud X.K)) R (aB n aG (WD.drop 1) (X.T2 n Y))
def PX.s2 (n:Nat) (X:PX) (Y R:List MV) (at_ fit acc:Int) (k p:Nat) (c:MV) (v:MV) (s:St):Prop:=ad (iP s v (.int 0)) fun w=>bw (aT (.int 0)) (ad (eY s .Gt w (.int 10000)) fun d=>aI d (X.U2 n Y R (.ret .none) (X.loc2 at_ fit acc k p) s) (X.U2 n Y R .next (X.loc2 at_ fit acc k p ++ [(IF,c)]) s))
def PX.t2 (n:Nat) (X:PX) (Y:List MV) (at_ fit acc:Int) (k p:Nat) (v:MV) (s:St):Prop:=jI Wt (cO n) ⟨aG.scope,[]⟩ (gh (aa WD 1)) v (X.loc2 at_ fit acc k p) s fun loc s=>de n aG (WD.drop 2) loc s (X.T2 n Y)
def PX.u2 (n:Nat) (X:PX) (Y:List MV) (at_ fit acc:Int) (k p:Nat) (w o:Int) (v:MV) (s:St):Prop:=H0 .Add (.int acc) v s fun v s=>de n aG (WD.drop 4) ([(cJ,.ref 7),(ii,.fl X.W),(mO,.int at_),(jF,.int fit),(bz,v),(ff,.int k),(cy,.int p),(jn,.int w),(Kb,.int o)]) s (X.T2 n Y)
def PX.none (X:PX) (K:TH):Prop:=dq (X.K.l true) (K.st true) fun st=>X.Q .none st
variable {n:Nat}{X:PX}{K:TH}{Y R:List MV}{at_ fit acc x w o d:Int}{k p c:Nat}
noncomputable def XJ (L:List MV) (p:Int):Option Bool:=((ci L).map fun l=>decide (p∈l)).map (!·)
theorem wt0:bs (n+1) (.fn 679) [.ref 7,.fl X.W] (X.K.st true) X.Q=X.F1 n (cp 0 X.W) (-1):=by kernel_rfl
theorem wt1:X.F1 n (.tup [.int k,.int p] :: Y) at_=ad (XJ (Ud X.K) p) fun c=>aI c X.no (aI (decide ((p:Int)≤at_)) X.no (X.G1 n Y (Ud X.K) at_ k p)):=by kernel_rfl
theorem wt2:X.G1 n Y (.int c :: R) at_ k p=(fun N=>aI (decide (at_<c)) (aI (decide ((c:Int)<p)) (ad (ah (c:Int) (a7 X.K.cs)) fun x=>bw (aT (.int c)) (X.s1 n Y R at_ k p x)) N) N) (True∧X.G1 n Y R at_ k p):=by kernel_rfl
theorem wt3:X.s1 n Y R at_ k p (.int x)=aI (decide (x≤-10000)) X.no (True∧X.G1 n Y R at_ k p):=by kernel_rfl
theorem wt4:X.G1 n Y [] at_ k p=(True∧X.F1 n Y p):=by kernel_rfl
theorem wt5:X.F1 n [] at_=aI (!decide (at_=X.K.T.ds.length)) X.no (X.F2 n X.K (cp 0 X.W) (-1) 2 0):=by kernel_rfl
theorem wt6 {sn:List (Int × MV)}{ls:List (Int × Int)}:X.F2 n (X.K.v sn ls) (.tup [.int k,.int p] :: Y) at_ fit acc=X.G2 n (X.K.v sn ls) Y (Ud X.K) at_ fit acc k p:=by kernel_rfl
theorem wt7:X.G2 n K Y (.int c :: R) at_ fit acc k p=(fun N=>aI (decide (at_<c)) (aI (decide ((c:Int)<p)) (bs n (.fn 658) [.ref 7,.int at_,.int c,.int k] (K.st true) (X.s2 n Y R at_ fit acc k p (.int c))) N) N) (True∧X.G2 n K Y R at_ fit acc k p):=by kernel_rfl
theorem wt8 {v:MV}:X.s2 n Y R at_ fit acc k p v (.tup [.int w,.int o]) (K.st true)=aI (decide (w > 10000)) (X.none K) (True∧X.G2 n K Y R at_ fit acc k p):=by kernel_rfl
theorem wt9:X.G2 n K Y [] at_ fit acc k p=bs n (.fn 658) [.ref 7,.int at_,.int p,.int k] (K.st true) (X.t2 n Y at_ fit acc k p):=by kernel_rfl
theorem a5J:X.t2 n Y at_ fit acc k p (.tup [.int w,.int o]) (K.st true)=aI (decide (w > K.T.tol)) (X.none K) (bs n (.fn 665) [.ref 7,.int at_,.int p,.int w,.int (o - fit).natAbs] (K.st true) (X.u2 n Y at_ fit acc k p w o)):=by kernel_rfl
theorem a6P:X.u2 n Y at_ fit acc k p w o (.int d) (K.st true)=(True∧X.F2 n K Y p o (acc+d)):=by kernel_rfl
theorem a48:X.F2 n K [] at_ fit acc=dq (X.K.l true) (K.st true) fun st=>X.Q (.int acc) st:=by kernel_rfl
end
end
section
set_option maxRecDepth 10000
noncomputable def Hj (T:Tl):Int→List Lb→Prop
  | at_,[]=>at_=T.ds.length
  | at_,b :: r=>b∈bC T∧at_<b.pl∧Hj T b.pl r
noncomputable def FW (T:Tl) (at_ p line:Int):Bool:=(bC T).any fun c=>decide (at_<c.pl∧(c.pl:Int)<p∧(ez T at_ c line).1 > 10000)
noncomputable def mZ (T:Tl):List Lb→Int→Int→Int→Int→Option Int
  | [],_,_,_,acc=>some acc
  | b :: r,at_,fit,line,acc =>
    if FW T at_ b.pl line=true then none
    else if (ez T at_ b line).1 > T.tol then none
    else mZ T r b.pl (ez T at_ b line).2 (line+1) (acc+kR T at_ b (ez T at_ b line).1 ((ez T at_ b line).2 - fit).natAbs)
noncomputable def Wx:Option Int→MV
  | none=>.none
  | some c=>.int c
theorem Xi {T:Tl}{b:Lb}{r:List Lb}{at_ fit line acc:Int}:mZ T (b :: r) at_ fit line acc=if FW T at_ b.pl line=true then none else if (ez T at_ b line).1 > T.tol then none else mZ T r b.pl (ez T at_ b line).2 (line+1) (acc+kR T at_ b (ez T at_ b line).1 ((ez T at_ b line).2 - fit).natAbs):=rfl
theorem rN {T:Tl}{b:Lb}(h:b∈bC T):b.pl≤T.ds.length:=(ck T b h).elim (fun q=>Nat.le_of_eq q.1) fun q=>Nat.le_of_lt q.1
theorem SV {T:Tl}(hT:tc T) {b:Lb}(h:b∈bC T) (q:b.pl<T.ds.length):¬ b.pen≤-10000:=by
  have:=hT.hhy
  rcases ck T b h with u | ⟨_,u | u⟩
  · lia
  · lia
  · obtain ⟨_,e,_⟩:=u
    rw [if_neg (by lia)] at e
    lia
section
variable {n:Nat}{X:PX}{Y:List MV}{at_ fit acc:Int}{k:Nat}
noncomputable abbrev rf (r:List Lb):List MV:=r.map fun b=>.int b.pl
theorem Ma {b:Lb}(ok:jy X.K) (hb:b∈bC X.K.T) (h:X.F1 n Y b.pl):∀ R:List Lb,(∀ c∈R,c∈bC X.K.T)→X.G1 n Y (rf R) at_ k b.pl
  | [],_=>wt4.mpr ⟨⟨⟩,h⟩
  | c :: R,m=>by
    have N:True∧X.G1 n Y (rf R) at_ k b.pl:=⟨⟨⟩,Ma ok hb h R fun c q=>m c (List.mem_cons_of_mem _ q)⟩
    have hc:=m c List.mem_cons_self
    have hl:=ok.T.hl
    have:=rN hb
    exact wt2.mpr (bX (fun _=>bX (fun q=>aR ((cD (f:=MV.int)).trans (congrArg _ (ok.cs c hc))) (d9 (MS (by lia)) (wt3.mpr (bX (fun z=>absurd z (SV ok.T hc (by lia))) fun _=>N)))) fun _=>N) fun _=>N)
theorem O9 (ok:jy X.K) (h:X.F2 n X.K (cp 0 X.W) (-1) 2 0):∀ (r:List Lb) (k:Nat) (at_:Int),Hj X.K.T at_ r→X.F1 n (cp k (rf r)) at_
  | [],k,at_,p=>wt5.mpr (xv (fun z=>absurd p z) fun _=>h)
  | b :: r,k,at_,p=>by
    obtain ⟨hb,h1,p⟩:=p
    have e:XJ (Ud X.K) b.pl=some false:=by
      rw [XJ,Ud,show (bC X.K.T).map (fun b=>MV.int b.pl)=((bC X.K.T).map fun b=>(b.pl:Int)).map .int from List.map_map.symm,fG]
      show some (!decide ((b.pl:Int)∈(bC X.K.T).map fun b=>(b.pl:Int)))=_
      rw [decide_eq_true (List.mem_map.mpr ⟨b,hb,rfl⟩)]
      rfl
    exact wt1.mpr (aR e (iF (bX (fun z=>by lia) fun _=>Ma ok hb (O9 ok h r (k+1) b.pl p) (bC X.K.T) fun _ m=>m)))
theorem Kr {b:Lb}(ok:jy X.K) (hb:b∈bC X.K.T) (h0:-1≤at_):∀ (R:List Lb) (sn:List (Int × MV)),(∀ c∈R,c∈bC X.K.T)→gJ X.K.T sn →
    (∀ sn,gJ X.K.T sn→if (R.any fun c=>decide (at_<c.pl∧(c.pl:Int)<b.pl∧(ez X.K.T at_ c k).1 > 10000))=true then X.none (X.K.v sn X.K.ls) else X.G2 (n+2) (X.K.v sn X.K.ls) Y [] at_ fit acc k b.pl)→X.G2 (n+2) (X.K.v sn X.K.ls) Y (rf R) at_ fit acc k b.pl
  | [],sn,_,s,h=>by
    have:=h sn s
    rwa [List.any_nil,if_neg Bool.false_ne_true] at this
  | c :: R,sn,m,s,h=>by
    have N:decide (at_<c.pl∧(c.pl:Int)<b.pl∧(ez X.K.T at_ c k).1 > 10000)=false→∀ {sn},gJ X.K.T sn→True∧X.G2 (n+2) (X.K.v sn X.K.ls) Y (rf R) at_ fit acc k b.pl:=fun e {sn} s=>⟨⟨⟩,Kr ok hb h0 R sn (fun c q=>m c (List.mem_cons_of_mem _ q)) s fun sn s=>by
      have:=h sn s
      rwa [List.any_cons,e,Bool.false_or] at this⟩
    refine wt7.mpr (bX (fun q1=>bX (fun q2=>rB (K:=X.K.v sn X.K.ls) ok.T s h0 q1 (rN (m c List.mem_cons_self)) (Int.natCast_nonneg _) fun sn s=>wt8.mpr (bX (fun q3=>?_) fun q3=>N (decide_eq_false fun z=>q3 z.2.2) s)) fun q2=>N (decide_eq_false fun z=>q2 z.2.1) s) fun q1=>N (decide_eq_false fun z=>q1 z.1) s)
    have:=h sn s
    rwa [List.any_cons,decide_eq_true ⟨q1,q2,q3⟩,Bool.true_or,if_pos rfl] at this
theorem MD (ok:jy X.K) (ht:X.K.T.tol≤10000):∀ (r:List Lb) (k:Nat) (at_ fit acc:Int) (sn:List (Int × MV)),Hj X.K.T at_ r→-1≤at_→gJ X.K.T sn→(∀ sn,gJ X.K.T sn→X.Q (Wx (mZ X.K.T r at_ fit k acc)) ((X.K.v sn X.K.ls).st true))→X.F2 (n+2) (X.K.v sn X.K.ls) (cp k (rf r)) at_ fit acc
  | [],k,at_,fit,acc,sn,_,_,s,h=>a48.mpr (ip (K:=X.K) (h sn s))
  | b :: r,k,at_,fit,acc,sn,p,h0,s,h=>by
    obtain ⟨hb,h1,p⟩:=p
    refine wt6.mpr (Kr ok hb h0 (bC X.K.T) sn (fun _ m=>m) s fun sn s=>?_)
    rw [Xi] at h
    show if FW X.K.T at_ b.pl k=true then _ else _
    by_cases hl:FW X.K.T at_ b.pl k=true
    · rw [if_pos hl] at h ⊢
      exact ip (K:=X.K) (h sn s)
    · rw [if_neg hl] at h ⊢
      have fb:=(pE (wF X.K.T k) (ej X.K.T.ds X.K.T.g at_ b.pl)).1.1
      refine wt9.mpr (rB (K:=X.K.v sn X.K.ls) ok.T s h0 h1 (rN hb) (Int.natCast_nonneg _) fun sn s=>a5J.mpr (bX (fun q=>?_) fun q=>Pb (K:=X.K.v sn X.K.ls) (ok.v s) hb fb (Int.le_trans (Int.not_lt.mp q) ht) (a6P.mpr ⟨⟨⟩,?_⟩)))
      · rw [if_pos (show (ez X.K.T at_ b k).1 > X.K.T.tol from q)] at h
        exact ip (K:=X.K) (h sn s)
      · rw [if_neg (show ¬ (ez X.K.T at_ b k).1 > X.K.T.tol from q)] at h
        exact MD ok ht r (k+1) b.pl _ _ sn p (Int.le_trans (by decide) (Int.natCast_nonneg _)) s h
theorem a1R {K:TH}{Q:aE}{r:List Lb}(ok:jy K) (ht:K.T.tol≤10000) (p:Hj K.T (-1) r) (h:∀ sn,gJ K.T sn→Q (Wx (mZ K.T r (-1) 2 0 0)) ((K.v sn K.ls).st true)):bs (n+3) (.fn 679) [.ref 7,.fl (rf r)] (K.st true) Q :=
  wt0 (X:=⟨K,rf r,Q⟩) |>.mpr (O9 (X:=⟨K,rf r,Q⟩) ok (MD (X:=⟨K,rf r,Q⟩) ok ht r 0 (-1) 2 0 K.sn p (Int.le_refl _) ok.sn h) r 0 (-1) p)
end
end
section
set_option maxRecDepth 10000
noncomputable def fq (T:Tl) (least:List (Int × Int)) (last:Bool):Bool:=last || (!least.isEmpty && (decide (T.S.loos=0) || decide (d7 least T.S.loos=cL least+T.S.loos)))
noncomputable def vK (l:List (Int × Int)):List Int:=(gq l).map fun k=>(ah k l).getD 0
section
variable {n:Nat}{K:TH}{Q:aE}{b last:Bool}{x:MV}
def iaK (K:TH) (Q:aE) (v:MV) (s:St):Prop:=ad (iP s v (.int 1)) fun b=>bw (aT (.int 1)) (eh (K.l false) Q (.ret b) [] s)
theorem ia0:bs (n+1) (.fn 691) [.ref 7,.bool last] (K.st false) Q=aI last (dq (K.l false) (K.st false) fun st=>Q (.bool true) st) (ad (eY (K.sd false) .NotEq (.ref 9) (.ref 10)) fun c=>aI c (bs n (.fn 684) [.ref 7] (K.sd false) (iaK K Q)) (dq (K.l false) (K.sd false) fun st=>Q (.bool c) st)):=by kernel_rfl
theorem ia1:iaK K Q (.tup [x,.bool b]) (K.sd false)=dq (K.l false) (K.sd false) fun st=>Q (.bool b) st:=by kernel_rfl
theorem ia2:eY (K.sd false) .NotEq (.ref 9) (.ref 10)=some (!K.ls.isEmpty):=by
  obtain ⟨_,_,_,_,_,_,_,_,_,ls,_⟩:=K
  cases ls <;> kernel_rfl
theorem xd (hls:fS K.ls) (h:Q (.bool (fq K.T K.ls last)) (K.st false)):bs (n+2) (.fn 691) [.ref 7,.bool last] (K.st false) Q:=by
  have dr:∀ {Z:St→Prop},Z (K.st false)→dq (K.l false) (K.sd false) Z:=fun h=>dJ (l:=K.l false) (r:=[.idict []]) h
  refine ia0.mpr ?_
  unfold fq at h
  cases last with
  | true=>exact iT (ip (K:=K) h)
  | false =>
    refine iF (aR ia2 ?_)
    rw [Bool.false_or] at h
    cases e:K.ls.isEmpty with
    | true=>rw [e] at h; exact iF (dr h)
    | false =>
      rw [e] at h
      refine iT (uI hls (fun _ z=>by rw [z] at e; cases e) ?_)
      by_cases q:K.T.S.loos=0
      · rw [if_pos q]
        rw [decide_eq_true q] at h
        exact ia1.mpr (dr h)
      · rw [if_neg q]
        rw [decide_eq_false q,Bool.false_or] at h
        exact ia1.mpr (dr h)
structure RX where
  K:TH
  W:List MV
  Q:aE
noncomputable abbrev prC:List (Str × Nat):=[(cJ,10)]
noncomputable abbrev prF:cA:=⟨bK.scope,prC⟩
noncomputable abbrev prS (j:Nat):Stmt:=aa bK.body j
def RX.c (n:Nat) (X:RX) (v:MV) (s:St):Prop:=sR n prF (bK.body.drop 1) [(kT,.fl X.W),(pc,v)] s (eh (X.K.l false) X.Q)
def RX.r (X:RX) (K:TH) (b:Bool):Prop:=dq (X.K.l false) (K.sd true) fun st=>X.Q (.bool b) st
def RX.z (X:RX) (K:TH) (v:MV):Prop:=ad (eY (K.sd true) .NotEq v (.str Oj)) (X.r K)
def RX.m (n:Nat) (X:RX) (v m:MV) (s:St):Prop:=ad (iP s m (.int 0)) fun m=>bw (aT (.int 0)) (sR n prF (bK.body.drop 3) [(kT,.fl X.W),(pc,v),(N8,m)] s (eh (X.K.l false) X.Q))
def RX.e (X:RX) (c:Int) (s:St) (m:MV):Prop:=ad (eY s .Eq (.int c) m) fun b=>eh (X.K.l false) X.Q (.ret (.bool b)) [] s
@[irreducible] noncomputable def RX.cv (n:Nat) (X:RX) (c:Int) (K:TH) (I Y acc:List MV):Prop:=Pz n prC (RK (RK (RK (xb (prS 4))).2).2).1 (.seq I) Y acc (K.sd true) fun ys s=>xe ys (X.e c s)
variable {X:RX}{v:MV}{c k m:Int}{I Y acc:List MV}{W:List MV}
theorem pq0:bs (n+1) (.fn 696) [.ref 7,.fl X.W] (X.K.st false) X.Q=bs n (.fn 679) [.ref 7,.fl X.W] (X.K.st true) (X.c n):=by kernel_rfl
theorem pq1:X.c n v (K.st true)=ad (eY (K.sd true) .Eq (.ref 9) (.ref 11)) fun c=>aI c (X.z K v) (bs n (.fn 684) [.ref 7] (K.sd true) (X.m n v)):=by kernel_rfl
theorem pq2:X.m n (.int c) (.tup [.none,x]) (K.sd true)=bW ((a7 K.ls).length<64) ((fun I=>bW ((bU (.seq I)).length≤100000) (X.cv n c K I I [])) (JT (a7 K.ls))):=by kernel_rfl
theorem pq3:X.cv n c K I (.int k :: Y) acc=ad (ah k (a7 K.ls)) fun v=>bw (aT (.int k)) (bw (ce v) (True∧X.cv n c K I Y (aL acc v))):=by kernel_rfl
theorem pq4:X.cv n c K I [] acc=xe acc (X.e c (K.sd true)):=by kernel_rfl
theorem pq5:X.e c (K.sd true) (.int m)=X.r K (decide (c=m)):=by kernel_rfl
theorem pq6:X.m n (.int c) (.tup [.int m,x]) (K.sd true)=bW (X.W.length≤100000) (aI (!decide ((X.W.length:Int)=m)) (X.r K false) (ad (ah m (a7 K.ls)) fun x=>bw (aT (.int m)) (X.e c (K.sd true) x))):=by kernel_rfl
theorem pq7:eY (K.sd true) .Eq (.ref 9) (.ref 11)=some K.ls.isEmpty:=by
  obtain ⟨_,_,_,_,_,_,_,_,_,ls,_⟩:=K
  cases ls <;> kernel_rfl
theorem pq8 {o:Option Int}:X.z K (Wx o)=X.r K true:=by cases o <;> kernel_rfl
theorem pb {r:List MO}:∀ {l l':List MO},iS l l'→iS l (l' ++ r)
  | [],_,_=>⟨⟩
  | o :: l,o' :: l',h=>⟨h.1,pb (l:=l) h.2⟩
theorem a7h {sn:List (Int × MV)}(h:X.Q (.bool b) ((X.K.v sn X.K.ls).st false)):X.r (X.K.v sn X.K.ls) b:=Gz (l':=(X.K.v sn X.K.ls).l false) (r:=[.cell (some (.ref 7)),.idict []]) (pb (TU (K:=X.K))) rfl h
theorem U0 (l:∀ k∈K.ls.map (·.1),k<100000):∀ (r d:List Int),(∀ k∈r,k∈K.ls.map (·.1))→X.cv n c K I [] ((d ++ r.map fun k=>(ah k K.ls).getD 0).map .int)→X.cv n c K I (r.map .int) (d.map .int)
  | [],d,_,h=>by rw [List.map_nil,List.append_nil] at h; exact h
  | k :: r,d,m,h=>by
    have mk:=m k List.mem_cons_self
    obtain ⟨x,e⟩:=ji mk
    refine pq3.mpr (aR ((cD (f:=MV.int)).trans (congrArg (Option.map _) e)) (d9 (Ie (l k mk)) (d9 rfl ⟨⟨⟩,?_⟩)))
    rw [show aL (d.map MV.int) (.int x)=(d ++ [x]).map .int by rw [br,List.map_append]; rfl]
    refine U0 l r (d ++ [x]) (fun c q=>m c (List.mem_cons_of_mem _ q)) ?_
    rw [List.map_cons,e] at h
    rw [List.append_assoc]
    exact h
theorem SC {r:List Lb}(ok:jy K) (hls:fS K.ls) (ht:K.T.tol≤10000) (p:Hj K.T (-1) r) (hl:r.length≤1000)
    (hw:K.ls≠[]→∃ c,mZ K.T r (-1) 2 0 0=some c∧if K.T.S.loos=0 then pL (vK K.ls)=some c else (r.length:Int)=d7 K.ls K.T.S.loos∧ah (d7 K.ls K.T.S.loos) K.ls=some c)
    (h:∀ sn,Q (.bool true) ((K.v sn K.ls).st false)):bs (n+4) (.fn 696) [.ref 7,.fl (rf r)] (K.st false) Q:=by
  refine pq0 (X:=⟨K,rf r,Q⟩) |>.mpr (a1R ok ht p fun sn s=>pq1.mpr (aR pq7 ?_))
  have fin:RX.r ⟨K,rf r,Q⟩ (K.v sn K.ls) true:=a7h (X:=⟨K,rf r,Q⟩) (h sn)
  show aI K.ls.isEmpty _ _
  cases e:K.ls.isEmpty with
  | true=>exact iT (pq8.mpr fin)
  | false =>
    have ne:K.ls≠[]:=fun z=>by rw [z] at e; cases e
    obtain ⟨c,e1,e2⟩:=hw ne
    rw [e1]
    have ll:=hls.len
    refine iF (uI (K:=K.v sn K.ls) hls (fun _=>ne) ?_)
    show RX.m _ _ _ (if K.T.S.loos=0 then _ else .tup [.int (d7 K.ls K.T.S.loos),_]) _
    by_cases q:K.T.S.loos=0
    · rw [if_pos q] at e2 ⊢
      refine pq2.mpr (cf (ke (show K.ls.length<64 by lia)) ?_)
      rw [xC]
      refine cf (by show ((gq K.ls).map MV.int).length≤_; rw [List.length_map,lL]; lia) (U0 (K:=K.v sn K.ls) (fun k mk=>by have:=hls.2 k mk; lia) (gq K.ls) [] (fun k=>Km) (pq4.mpr ?_))
      show xe ((vK K.ls).map .int) _
      refine cf (by rw [List.length_map,vK,List.length_map,lL]; lia) ?_
      rw [fG]
      exact aR e2 (pq5.mpr (by rw [decide_eq_true rfl]; exact fin))
    · rw [if_neg q] at e2 ⊢
      have wl:(rf r).length=r.length:=List.length_map _
      refine pq6.mpr (cf (by show (rf r).length≤_; rw [wl]; lia) (xv (fun z=>absurd (by show ((rf r).length:Int)=_; rw [wl]; exact e2.1) z) fun _=>aR ((cD (f:=MV.int)).trans (congrArg (Option.map _) e2.2)) (d9 (Ie ?_) (pq5.mpr (by rw [decide_eq_true rfl]; exact fin)))))
      rw [← e2.1]
      lia
end
end
section
set_option maxRecDepth 10000
noncomputable def Hk (a b:V6):V6:=⟨a.a0+b.a0,a.a1+b.a1,a.a2+b.a2,a.a3+b.a3,a.a4+b.a4,a.a5+b.a5⟩
theorem v6 {a b c d e f a' b' c' d' e' f':Int}(h0:a=a') (h1:b=b') (h2:c=c') (h3:d=d') (h4:e=e') (h5:f=f'):V6.mk a b c d e f=V6.mk a' b' c' d' e' f':=by rw [h0,h1,h2,h3,h4,h5]
theorem az {x y:Int}:x+y=x+(0+y):=by rw [Int.zero_add]
theorem a0 {x:Int}:x=x+0:=(Int.add_zero x).symm
theorem a00 {x:Int}:x=x+(0+0):=(Int.add_zero x).symm
theorem PE:∀ (v:V6) (g:Gl),rq v g=Hk v (rq z6 g)
  | _,⟨_,_,.ofNat 0,_⟩=>v6 az az a0 a0 a0 az
  | _,⟨_,_,.ofNat (_+1),_⟩=>v6 az a0 az a0 a0 az
  | _,⟨_,_,.negSucc _,_⟩=>v6 az a0 az a0 a0 az
theorem KD (v:V6):∀ d:Nd,f9 v d=Hk v (f9 z6 d)
  | .box w=>v6 az a0 a0 a0 a0 a0
  | .skip g=>PE v g
  | .pen=>v6 a0 a0 a0 a0 a0 a0
  | .disc=>v6 a0 a0 a0 a0 a0 a0
theorem kn:∀ (l:List Nd) (v:V6),kx v l=Hk v (kx z6 l)
  | [],v=>v6 a0 a0 a0 a0 a0 a0
  | d :: r,v=>by
    show kx (f9 v d) r=Hk v (kx (f9 z6 d) r)
    rw [kn r (f9 v d),kn r (f9 z6 d),KD v d]
    exact v6 (Int.add_assoc ..) (Int.add_assoc ..) (Int.add_assoc ..) (Int.add_assoc ..) (Int.add_assoc ..) (Int.add_assoc ..)
theorem uS:∀ (a b:List Nd) (v:V6),kx v (a ++ b)=kx (kx v a) b
  | [],b,v=>rfl
  | d :: r,b,v=>uS r b _
theorem pd:∀ (ds:List Nd) (v:V6) (k:Nat),k≤ds.length→(v :: uQ v ds).getD k z6=kx v (ds.take k)
  | _,v,0,_=>rfl
  | [],v,k+1,h=>absurd h (Nat.not_succ_le_zero _)
  | d :: r,v,k+1,h=>pd r (f9 v d) k (Nat.le_of_succ_le_succ h)
theorem qH:∀ (l:List Nd) (n:Nat),bG l≤n→bG (l.take n)=bG l
  | [],n,_=>by rw [List.take_nil]
  | d :: r,0,h=>(Nat.le_zero.mp h).symm
  | d :: r,n+1,h=>by
    have h:(match d.drops with
      | true=>bG r+1
      | false=>0)≤n+1:=h
    show (match d.drops with
      | true=>bG (r.take n)+1
      | false=>0)=match d.drops with
      | true=>bG r+1
      | false=>0
    cases e:d.drops with
    | true=>rw [e] at h; exact congrArg (·+1) (qH r n (Nat.le_of_succ_le_succ h))
    | false=>rfl
theorem Id (ds:List Nd) (k p:Nat) (h:bM ds k≤p):jX ds k p=bM ds k:=by
  have g:∀ j,j+bG (ds.drop j)≤p→j+bG ((ds.take p).drop j)=j+bG (ds.drop j):=fun j h=>by rw [List.drop_take,qH _ _ (Nat.le_sub_of_add_le' h)]
  refine (if_neg (Int.not_lt.mpr (Int.natCast_nonneg k))).trans ?_
  unfold bM at *
  show (match ds[k]? with
    | some .disc=>k+1+bG ((ds.take p).drop (k+1))
    | _=>k+bG ((ds.take p).drop k))=_
  cases e:ds[k]? with
  | none=>rw [e] at h; exact g k h
  | some d =>
    rw [e] at h
    cases d with
    | disc=>exact g (k+1) h
    | box w=>exact g k h
    | skip w=>exact g k h
    | pen=>exact g k h
theorem t1 {b d g:Int}:b+d - b+g=g+d:=by rw [Int.add_comm b,Int.add_sub_cancel,Int.add_comm]
theorem t2 {b d g:Int}:b+d+3 - b+g=g+d+3:=by rw [Int.add_assoc b,t1,Int.add_assoc]
theorem Qy {B D g:V6}:∀ o:Option Nd,jM B (mD (Hk B D) o) g=mD (Hk g D) o
  | none=>v6 t1 t1 t1 t1 t1 t1
  | some .disc=>v6 t2 t1 t1 t1 t1 t1
  | some (.box _)=>v6 t1 t1 t1 t1 t1 t1
  | some (.skip _)=>v6 t1 t1 t1 t1 t1 t1
  | some .pen=>v6 t1 t1 t1 t1 t1 t1
theorem a5D {hy:Int}{ds:List Nd}{b:Lb}(hb:lR hy ds b):(a9 ds b).e=mD ((dK ds).getD b.pl z6) ds[b.pl]?:=by
  rcases hb with ⟨q1,_⟩ | ⟨q1,⟨q2,_,g,q4⟩ | ⟨q2,_,q4,_⟩⟩
  · rw [List.getElem?_eq_none (Nat.le_of_eq q1.symm),a9,if_neg fun z=>Nat.ne_of_lt z.1 q1]; rfl
  · rw [q4,a9,if_neg fun z=>by rw [q2] at z; cases z.2]; rfl
  · rw [q4,a9,if_pos ⟨q1,q2⟩]; rfl
theorem WC (ds:List Nd) (g:V6) (hy:Int) (s p:Nat) (b:Lb) (hb:lR hy ds b) (hs:s≤b.pl) (B:V6) (hB:B=(dK ds).getD s z6) (at_:Int) (ha:jX ds at_ b.pl=s):jM B (a9 ds b).e g=ej ds g at_ b.pl:=by
  have hbl:b.pl≤ds.length:=hb.elim (fun q=>Nat.le_of_eq q.1) fun q=>Nat.le_of_lt q.1
  rw [a5D hb,ej,ha,hB,dK,pd ds z6 s (Nat.le_trans hs hbl),pd ds z6 b.pl hbl,show ds.take b.pl=ds.take s ++ (ds.take b.pl).drop s by
    rw [← Nat.min_eq_left hs,← List.take_take,Nat.min_eq_left hs]
    exact (List.take_append_drop s _).symm,uS,kn _ (kx z6 (ds.take s)),kn _ g,Qy]
  have e:(ds.take s ++ (ds.take b.pl).drop s).drop s=(ds.take b.pl).drop s:=List.drop_left' (List.length_take_of_le (Nat.le_trans hs hbl))
  rw [e]
end
section
set_option maxRecDepth 10000
theorem ta:∀ (l:List Nd) (i:Nat),i<bG l→∃ d,l[i]?=some d∧d.drops=true
  | [],i,h=>absurd h (Nat.not_lt_zero _)
  | d :: r,i,h=>by
    have h:i<(match d.drops with
      | true=>bG r+1
      | false=>0):=h
    cases e:d.drops with
    | false=>rw [e] at h; exact absurd h (Nat.not_lt_zero _)
    | true =>
      rw [e] at h
      match i,h with
      | 0,_=>exact ⟨d,rfl,e⟩
      | i+1,h=>exact ta r i (Nat.lt_of_succ_lt_succ h)
theorem pn {hy:Int}{all:List Nd}{b:Lb}(hs:b.sort=0):∀ (ds:List Nd) (k:Nat) (bh:Bool),all.drop k=ds→b∈aK hy k bh ds→(b.pl=k∧bh=true)∨∃ j d,b.pl=j+1∧all[j]?=some d∧d.drops=false
  | [],k,bh,e,hb=>by rw [List.mem_singleton.mp hb] at hs; cases hs
  | d :: r,k,bh,e,hb=>by
    have e':=uH e
    have go:∀ bh',b∈aK hy (k+1) bh' r→bh'=(!d.drops)→(b.pl=k∧bh=true)∨∃ j d,b.pl=j+1∧all[j]?=some d∧d.drops=false:=fun bh' h e4=>.inr ((pn hs r (k+1) bh' e'.2 h).elim (fun h=>⟨k,d,h.1,e'.1,by rw [h.2] at e4; cases q:d.drops; rfl; rw [q] at e4; cases e4⟩) id)
    cases d with
    | box w=>exact go _ hb rfl
    | pen=>exact go _ hb rfl
    | skip g=>cases bh with
      | false=>exact go _ hb rfl
      | true=>exact (List.mem_cons.mp hb).elim (fun e=>.inl ⟨by rw [e],rfl⟩) fun hb=>go _ hb rfl
    | disc =>
      by_cases q:hy<10000
      · rw [ky,if_pos q] at hb
        exact (List.mem_cons.mp hb).elim (fun e=>by rw [e] at hs; cases hs) fun hb=>go _ hb rfl
      · rw [ky,if_neg q] at hb
        exact go _ hb rfl
theorem Lj:∀ {ds:List Nd}{k:Nat},jQ ds→ds[k]?=some .disc→∃ w,ds[k+1]?=some (.box w)
  | [],k,_,h=>by cases h
  | d :: r,0,a,h=>by
    obtain rfl:d=.disc:=Option.some.inj h
    obtain ⟨⟨w,t,rfl⟩,_⟩:=a
    exact ⟨w,rfl⟩
  | d :: r,k+1,a,h=>Lj (ds:=r) (k:=k) (match d,a with
    | .disc,a=>a.2
    | .box _,a=>a
    | .skip _,a=>a
    | .pen,a=>a) h
theorem Ms {hy:Int}{ds:List Nd}(ha:jQ ds) {k:Nat}{b:Lb}(hb:b∈aK hy 0 false ds) (hk:k<b.pl):bM ds k≤b.pl:=by
  have hf:=iy (hy:=hy) (all:=ds) ds 0 false (Nat.zero_add _) rfl b hb
  have go:∀ q,q≤b.pl→(∀ j d,b.pl=j+1→ds[b.pl]?=some d→d.drops=true→j<q→False)→q+bG (ds.drop q)≤b.pl:=fun q hq hj=>Nat.not_lt.mp fun h=>by
    have dr:∀ i,q≤i→i≤b.pl→∃ d,ds[i]?=some d∧d.drops=true:=fun i h1 h2=>by
      obtain ⟨d,e1,e2⟩:=ta (ds.drop q) (i - q) (Nat.sub_lt_left_of_lt_add h1 (Nat.lt_of_le_of_lt h2 h))
      rw [List.getElem?_drop,Nat.add_sub_of_le h1] at e1
      exact ⟨d,e1,e2⟩
    obtain ⟨d,e1,e2⟩:=dr b.pl hq (Nat.le_refl _)
    rcases hf with ⟨q1,_⟩ | ⟨_,⟨q2,_⟩ | ⟨_,_,q4,_⟩⟩
    · rw [List.getElem?_eq_none (Nat.le_of_eq q1.symm)] at e1; cases e1
    · rcases pn (all:=ds) q2 ds 0 false rfl hb with ⟨_,z⟩ | ⟨j,d',h1,h3,h4⟩
      · cases z
      · by_cases hjq:j<q
        · exact hj j d h1 e1 e2 hjq
        · obtain ⟨d2,e3,e4⟩:=dr j (Nat.not_lt.mp hjq) (h1 ▸ Nat.le_succ _)
          rw [h3] at e3
          cases e3
          rw [h4] at e4
          cases e4
    · rw [q4] at e1; cases e1; cases e2
  have g:=go k (Nat.le_of_lt hk) fun j d h1 _ _ z=>absurd (Nat.lt_of_lt_of_eq hk h1) (Nat.not_lt.mpr z)
  unfold bM
  cases e:ds[k]? with
  | none=>exact g
  | some d=>cases d with
    | disc =>
      exact go (k+1) hk fun j d h1 h3 h4 z=>by
        obtain ⟨w,hw⟩:=Lj ha e
        rw [h1,Nat.le_antisymm (Nat.le_of_lt_succ z) (Nat.le_of_lt_succ (Nat.lt_of_lt_of_eq hk h1)),hw] at h3
        cases h3
        cases h4
    | box w=>exact g
    | skip w=>exact g
    | pen=>exact g
theorem eV {hy:Int}:∀ (ds:List Nd) (k:Nat) (b:Bool),(aK hy k b ds).length≤VI ds+1
  | [],k,b=>Nat.le_refl _
  | .box _ :: r,k,b=>eV r (k+1) true
  | .pen :: r,k,b=>Nat.le_succ_of_le (eV r (k+1) false)
  | .skip _ :: r,k,true=>Nat.succ_le_succ (eV r (k+1) false)
  | .skip _ :: r,k,false=>Nat.le_succ_of_le (eV r (k+1) false)
  | .disc :: r,k,b=>aC (C:=fun l:List Lb=>l.length≤VI r+2) (fun _=>Nat.succ_le_succ (eV r (k+1) true)) fun _=>Nat.le_succ_of_le (eV r (k+1) true)
def Bd (B x:Int):Prop:=0≤x∧x≤B
theorem Bd.add {B C x y:Int}(h:Bd B x) (k:Bd C y):Bd (B+C) (x+y):=⟨Int.add_nonneg h.1 k.1,Int.add_le_add h.2 k.2⟩
theorem Bd.le {B C x:Int}(h:Bd B x) (k:B≤C):Bd C x:=⟨h.1,Int.le_trans h.2 k⟩
def H8 (B:Int) (v:V6):Prop:=Bd B v.a0∧Bd B v.a1∧Bd B v.a2∧Bd B v.a3∧Bd B v.a4∧Bd B v.a5
theorem RB {B:Int}{v:V6}(h:H8 B v):∀ d,NdB d→H8 (B+100) (f9 v d):=by
  obtain ⟨h0,h1,h2,h3,h4,h5⟩:=h
  have u:∀ {x:Int},Bd B x→Bd (B+100) x:=fun h=>h.le (Int.le_add_of_nonneg_right (by decide))
  intro d hd
  match d,hd with
  | .box w,hd=>exact ⟨h0.add hd,u h1,u h2,u h3,u h4,u h5⟩
  | .pen,_=>exact ⟨u h0,u h1,u h2,u h3,u h4,u h5⟩
  | .disc,_=>exact ⟨u h0,u h1,u h2,u h3,u h4,u h5⟩
  | .skip ⟨w,s,o,k⟩,⟨c1,c2,c3,c4⟩ =>
    rcases c3 with e | e
    · obtain rfl:o=0:=e
      exact ⟨h0.add c1,h1.add c2,u h2,u h3,u h4,h5.add c4⟩
    · obtain rfl:o=1:=e
      exact ⟨h0.add c1,u h1,h2.add c2,u h3,u h4,h5.add c4⟩
theorem Fx:∀ (l:List Nd) (n:Nat) (v:V6),l.length≤n→(∀ d∈l,NdB d)→∀ B,H8 B v→H8 (B+100 * n) (kx v l)
  | [],n,v,_,_,B,h=>by
    have k:B≤B+100 * (n:Int):=Int.le_add_of_nonneg_right (Int.mul_nonneg (by decide) (Int.natCast_nonneg n))
    exact ⟨h.1.le k,h.2.1.le k,h.2.2.1.le k,h.2.2.2.1.le k,h.2.2.2.2.1.le k,h.2.2.2.2.2.le k⟩
  | _ :: _,0,_,hl,_,_,_=>absurd hl (Nat.not_succ_le_zero _)
  | d :: r,n+1,v,hl,hd,B,h=>by
    rw [show B+100 * ((n+1:Nat):Int)=B+100+100 * (n:Int) by omega]
    exact Fx r n _ (Nat.le_of_succ_le_succ hl) (fun d m=>hd d (List.mem_cons_of_mem _ m)) _ (RB h d (hd d List.mem_cons_self))
theorem qX {S:fF}(h:H6 S):qp S∧(0≤S.linep∧S.linep≤100000)∧-10000<S.hyph∧(0≤S.emer∧S.emer≤60)∧(0≤S.adj∧S.adj≤5000)∧(S.loos=0∨S.loos=1∨S.loos=-1)∧S.lg.o=0∧S.rg.o=0∧S.hyph≤10000∧-100≤S.hyph:=by
  obtain ⟨h1,h2,h3,h4,h5,h6,h7,h8,h9,h10,h11⟩:=h
  have o1:S.lg.o=0:=(List.mem_cons.mp h10).elim (fun e=>by rw [e]) fun m=>by rw [List.mem_singleton.mp m]
  have o2:S.rg.o=0:=(List.mem_cons.mp h11).elim (fun e=>by rw [e]) fun m=>by rw [List.mem_singleton.mp m]
  have e5:=(by decide:∀ a∈([50,-40,10000,200]:List Int),(-1000000≤a∧a≤1000000)∧-10000<a∧a≤10000∧-100≤a) _ h5
  have e6:=(by decide:∀ a∈([0,5000]:List Int),(-1000000≤a∧a≤1000000)∧0≤a∧a≤5000) _ h6
  have e3:=(by decide:∀ a∈([0,20,60]:List Int),(-1000000≤a∧a≤1000000)∧0≤a∧a≤60) _ h3
  have e4:=(by decide:∀ a∈([10,0,1]:List Int),(-1000000≤a∧a≤1000000)∧0≤a∧a≤100000) _ h4
  have e9:=(by decide:∀ a∈([0,0,0,1,-1]:List Int),(-1000000≤a∧a≤1000000)∧(a=0∨a=1∨a=-1)) _ h9
  exact ⟨⟨⟨(by decide:∀ a∈([0,-1,100,10000,30]:List Int),-1000000≤a∧a≤1000000) _ h1,(by decide:∀ a∈([200,50,10000,12000,9999]:List Int),-1000000≤a∧a≤1000000) _ h2,e4.1,e5.1⟩,
    ⟨e6.1,(by decide:∀ a∈([0,3000]:List Int),-1000000≤a∧a≤1000000) _ h7,(by decide:∀ a∈([0,700]:List Int),-1000000≤a∧a≤1000000) _ h8,e9.1,e3.1⟩,o1,o2⟩,e4.2,e5.2.1,e3.2,e6.2,e9.2,o1,o2,e5.2.2.1,e5.2.2.2⟩
theorem Ho {S:fF}(h:H6 S) {x:Int}(hx:0≤x∧x≤60):H8 200 (Ht S x):=by
  have z:∀ {x:Int},Bd 60 x→Bd 200 x:=fun h=>h.le (by decide)
  have e1:Bd 60 S.lg.w∧Bd 60 S.lg.s∧Bd 60 S.lg.k:=(List.mem_cons.mp h.lg).elim (fun e=>by rw [e]; unfold Bd; decide) fun m=>by rw [List.mem_singleton.mp m]; unfold Bd; decide
  have e2:Bd 60 S.rg.w∧Bd 60 S.rg.s∧Bd 60 S.rg.k:=(List.mem_cons.mp h.rg).elim (fun e=>by rw [e]; unfold Bd; decide) fun m=>by rw [List.mem_singleton.mp m]; unfold Bd; decide
  have o:Bd 60 (0:Int):=by unfold Bd; decide
  exact ⟨((o.add e1.1).add e2.1).le (by decide),((Bd.add (B:=60) hx e1.2.1).add e2.2.1).le (by decide),z o,z o,z o,((o.add e1.2.2).add e2.2.2).le (by decide)⟩
noncomputable def jG (ds:List Nd) (S:fF) (x z0 z1 tol:Int):Tl:=⟨ds,S,Ht S x,z0,z1,eU tol 10000⟩
theorem Wj {v:V6}(h:H8 10100 v):∀ o:Option Nd,Ga (mD v o):=by
  obtain ⟨h0,h1,h2,h3,h4,h5⟩:=h
  have k:Ga v:=⟨⟨h0.le (by decide),h1.le (C:=100000) (by decide)⟩,h2.1,h3.1,h4.1,h5.le (C:=100000) (by decide)⟩
  exact fun o=>match o with
    | none=>k
    | some .disc=>⟨⟨(h0.add (show Bd 3 3 by unfold Bd; decide)).le (C:=100000) (by decide),k.1.2⟩,k.2⟩
    | some (.box _)=>k
    | some (.skip _)=>k
    | some .pen=>k
theorem To {N B:Nat}{ds:List Nd}{S:fF}{x z0 z1 tol:Int}(hg:gm N B ds) (hN:N≤99) (hS:H6 S) (hx:0≤x∧x≤60) (h0:-100000≤z0∧z0≤100000) (h1:-100000≤z1∧z1≤100000):tc (jG ds S x z0 z1 tol):=by
  obtain ⟨s1,s2,s3,_⟩:=qX hS
  exact ⟨Nat.le_trans hg.len hN,fun d hd=>match d,hg.all d hd with
    | .skip g,h=>h.2.2.1
    | .box w,_=>trivial
    | .pen,_=>trivial
    | .disc,_=>trivial,fun at_ p q1 q2 q3=>Wj (Fx _ 99 (Ht S x) (by rw [List.length_drop]; exact Nat.le_trans (Nat.sub_le ..) (Nat.le_trans (List.length_take_le' ..) (Nat.le_trans hg.len hN))) (fun d hd=>hg.all d (List.mem_of_mem_take (List.mem_of_mem_drop hd))) 200 (Ho hS hx)) _,⟨h0,h1⟩,s2,s3⟩
end
section
set_option maxRecDepth 10000
def gG (T:Tl) (at_:Int) (b:Lb) (line:Int):Prop:=b∈bC T∧at_<b.pl∧(∀ c∈bC T,at_<c.pl→c.pl<b.pl→(ez T at_ c line).1≤10000)∧(ez T at_ b line).1≤T.tol
noncomputable abbrev dP (T:Tl) (at_ line fit dem:Int) (b:Lb):Int:=Wa T b at_ line fit dem
inductive jT (T:Tl):Int→Int→Int→Int→Int→Int→Prop
  | done (line fit dem:Int):jT T T.ds.length line fit dem line dem
  | step {at_ line fit dem L D:Int} {b:Lb}:gG T at_ b line→jT T b.pl (line+1) (ez T at_ b line).2 (dP T at_ line fit dem b) L D→jT T at_ line fit dem L D
inductive wd (T:Tl):Int→Int→Int→Int→List Lb→Prop
  | top:wd T (-1) 0 2 0 []
  | on {at_ line fit dem:Int} {bs:List Lb} {b:Lb}:wd T at_ line fit dem bs→gG T at_ b line→wd T b.pl (line+1) (ez T at_ b line).2 (dP T at_ line fit dem b) (b :: bs)
section
variable {T:Tl}{at_ line fit dem L D:Int}{b:Lb}{l l' R:List (Int × Int)}{r rest pre:List Lb}
theorem jJ (h:b∈bC T):b.pl≤T.ds.length:=rN h
theorem RF (hy:-10000<T.S.hyph) (h:b∈bC T):b.pen≤-10000↔b.pl=T.ds.length:=by
  rcases ck T b h with ⟨q1,q2,_⟩ | ⟨q1,⟨_,q2,_⟩ | ⟨_,q2,_⟩⟩
  · exact iff_of_true (by rw [q2]; exact Int.le_refl _) q1
  · exact iff_of_false (by rw [q2]; decide) (Nat.ne_of_lt q1)
  · rw [if_neg (Int.not_lt.mpr (Int.le_of_lt hy))] at q2
    exact iff_of_false (by rw [q2]; exact Int.not_le.mpr hy) (Nat.ne_of_lt q1)
theorem fi (h:bC T=pre ++ b :: r):b∈bC T∧(∀ c∈pre,c.pl<b.pl)∧(∀ c∈r,b.pl<c.pl)∧(∀ c∈bC T,c.pl<b.pl→c∈pre)∧(∀ c∈bC T,b.pl<c.pl→c∈r):=by
  have hst:=jU T
  rw [h] at hst ⊢
  obtain ⟨_,s2,s3⟩:=List.pairwise_append.mp hst
  have s4:=(List.pairwise_cons.mp s2).1
  have s3:=fun c hc=>s3 c hc b List.mem_cons_self
  exact ⟨List.mem_append_right _ List.mem_cons_self,s3,s4,fun c hc k=>(List.mem_append.mp hc).elim id fun q=>(List.mem_cons.mp q).elim (fun e=>by rw [e] at k; exact absurd k (Nat.lt_irrefl _)) fun q=>absurd (s4 c q) (Nat.lt_asymm k),
    fun c hc k=>(List.mem_append.mp hc).elim (fun q=>absurd (s3 c q) (Nat.lt_asymm k)) fun q=>(List.mem_cons.mp q).elim (fun e=>by rw [e] at k; exact absurd k (Nat.lt_irrefl _)) id⟩
theorem jT.cases' (h:jT T at_ line fit dem L D):(at_=T.ds.length∧L=line∧D=dem)∨∃ b,gG T at_ b line∧jT T b.pl (line+1) (ez T at_ b line).2 (dP T at_ line fit dem b) L D:=by
  induction h with
  | done=>exact .inl ⟨rfl,rfl,rfl⟩
  | step h1 h2 _=>exact .inr ⟨_,h1,h2⟩
theorem jT.end_ (h:jT T T.ds.length line fit dem L D):L=line∧D=dem:=h.cases'.elim (·.2) fun ⟨_,o,_⟩=>absurd (Int.ofNat_lt.mp o.2.1) (Nat.not_lt.mpr (jJ o.1))
def mX (l R:List (Int × Int)):Prop:=∀ k v,ah k l=some v→∃ v',v'≤v∧ah k R=some v'
theorem mX.refl (l:List (Int × Int)):mX l l:=fun k v h=>⟨v,Int.le_refl _,h⟩
theorem mX.trans {a b c:List (Int × Int)}(h:mX a b) (g:mX b c):mX a c:=fun k v e=>(h k v e).elim fun v' h=>(g k v' h.2).imp fun v'' g=>⟨Int.le_trans g.1 h.1,g.2⟩
def uG (T:Tl) (rest:List Lb) (at_ line fit dem L D:Int):Prop:=∃ b∈rest,gG T at_ b line∧jT T b.pl (line+1) (ez T at_ b line).2 (dP T at_ line fit dem b) L D
structure mU (T:Tl) (rest:List Lb) (at_ line fit dem:Int) (l R:List (Int × Int)):Prop where
  M:mX l R
  C:∀ L D,uG T rest at_ line fit dem L D→∃ v,v≤D∧ah L R=some v
  S:∀ k v,ah k R=some v→ah k l=some v∨uG T rest at_ line fit dem k v
theorem a2s (k v:Int) (l:List (Int × Int)):mX l (mQ k v l)∧(∃ v',v'≤v∧ah k (mQ k v l)=some v')∧∀ k' v',ah k' (mQ k v l)=some v'→ah k' l=some v'∨(k'=k∧v'=v):=by
  have s:(∀ x,ah k l=some x→v≤x)→mX l (cn k v l)∧(∃ v',v'≤v∧ah k (cn k v l)=some v')∧∀ k' v',ah k' (cn k v l)=some v'→ah k' l=some v'∨(k'=k∧v'=v):=fun h=>by
    refine ⟨fun k' v' e=>?_,⟨v,Int.le_refl _,bN.trans (if_pos rfl)⟩,fun k' v' e=>?_⟩
    · by_cases q:k'=k
      · rw [q] at e ⊢; exact ⟨v,h v' e,bN.trans (if_pos rfl)⟩
      · exact ⟨v',Int.le_refl _,bN.trans ((if_neg q).trans e)⟩
    · rw [bN] at e
      by_cases q:k'=k
      · rw [if_pos q] at e; exact .inr ⟨q,(Option.some.inj e).symm⟩
      · rw [if_neg q] at e; exact .inl e
  unfold mQ
  cases e:ah k l with
  | none=>exact s fun x z=>by rw [e] at z; cases z
  | some x =>
    show mX l (if decide (v<x)=true then _ else _)∧_
    by_cases q:v<x
    · rw [if_pos (decide_eq_true q)]
      exact s fun y z=>by rw [e] at z; cases z; exact Int.le_of_lt q
    · rw [if_neg fun z=>q (of_decide_eq_true z)]
      exact ⟨mX.refl _,⟨x,Int.not_lt.mp q,e⟩,fun _ _ h=>.inl h⟩
theorem mU.no (h:∀ L D,¬ uG T rest at_ line fit dem L D):mU T rest at_ line fit dem l l:=⟨mX.refl _,fun L D c=>absurd c (h L D),fun _ _ h=>.inl h⟩
theorem mU.cons (p:mU T [b] at_ line fit dem l l') (q:mU T r at_ line fit dem l' R):mU T (b :: r) at_ line fit dem l R :=
  ⟨p.M.trans q.M,fun L D ⟨c,hc,o⟩=>(List.mem_cons.mp hc).elim (fun e=>(p.C L D ⟨c,List.mem_singleton.mpr e,o⟩).elim fun v k=>(q.M L v k.2).imp fun v' z=>⟨Int.le_trans z.1 k.1,z.2⟩) fun hc=>q.C L D ⟨c,hc,o⟩,
    fun k v h=>(q.S k v h).elim (fun h=>(p.S k v h).imp_right fun ⟨c,hc,z⟩=>⟨c,List.mem_cons.mpr (.inl (List.mem_singleton.mp hc)),z⟩) fun ⟨c,hc,z⟩=>.inr ⟨c,List.mem_cons_of_mem _ hc,z⟩⟩
theorem hJ:uG T [b] at_ line fit dem L D↔gG T at_ b line∧jT T b.pl (line+1) (ez T at_ b line).2 (dP T at_ line fit dem b) L D:=⟨fun ⟨c,hc,o⟩=>by rw [List.mem_singleton.mp hc] at o; exact o,fun o=>⟨b,List.mem_singleton.mpr rfl,o⟩⟩
theorem L9 (hy:-10000<T.S.hyph):∀ (rest pre:List Lb) (at_ line fit dem:Int) (l:List (Int × Int)),bC T=pre ++ rest→(∀ c∈pre,at_<c.pl→(ez T at_ c line).1≤10000)→(∀ c∈rest,at_<c.pl)→T.tol≤10000→mU T rest at_ line fit dem l (jb T rest at_ line fit dem l)
  | [],pre,at_,line,fit,dem,l,h1,h2,h3,_=>.no fun L D ⟨b,hb,_⟩=>absurd hb List.not_mem_nil
  | b :: r,pre,at_,line,fit,dem,l,h1,h2,h3,ht=>by
    obtain ⟨hb,s1,s2,s3,s4⟩:=fi h1
    have hab:=h3 b List.mem_cons_self
    have ap:bC T=(pre ++ [b]) ++ r:=by rw [h1,List.append_assoc]; rfl
    refine aC (C:=mU T (b :: r) at_ line fit dem l) (fun q1=>.no fun L D ⟨c,hc,o,_⟩=>?_) fun q1=>?_
    · exact (List.mem_cons.mp hc).elim (fun e=>by rw [e] at o; exact absurd (Int.le_trans o.2.2.2 ht) (Int.not_le.mpr q1)) fun hc=>absurd (o.2.2.1 b hb hab (s2 c hc)) (Int.not_le.mpr q1)
    have hp:∀ c∈pre ++ [b],at_<c.pl→(ez T at_ c line).1≤10000:=fun c hc k=>(List.mem_append.mp hc).elim (fun m=>h2 c m k) fun m=>by rw [List.mem_singleton.mp m]; exact Int.not_lt.mp q1
    have part:mU T [b] at_ line fit dem l (if (ez T at_ b line).1≤T.tol then (if b.pl<T.ds.length then jb T r b.pl (line+1) (ez T at_ b line).2 (dP T at_ line fit dem b) l else mQ (line+1) (dP T at_ line fit dem b) l) else l):=by
      refine aC (C:=mU T [b] at_ line fit dem l) (fun q2=>?_) fun q2=>.no fun L D c=>q2 (hJ.mp c).1.2.2.2
      have ok:gG T at_ b line:=⟨hb,hab,fun c hc k1 k2=>h2 c (s3 c hc k2) k1,q2⟩
      refine aC (C:=mU T [b] at_ line fit dem l) (fun q3=>?_) fun q3=>?_
      · have ih:=L9 hy r (pre ++ [b]) b.pl (line+1) (ez T at_ b line).2 (dP T at_ line fit dem b) l ap (fun c hc k=>absurd (Int.ofNat_lt.mp k) (Nat.not_lt.mpr ((List.mem_append.mp hc).elim (fun m=>Nat.le_of_lt (s1 c m)) fun m=>by rw [List.mem_singleton.mp m]; exact Nat.le_refl _))) (fun c hc=>Int.ofNat_lt.mpr (s2 c hc)) ht
        exact ⟨ih.M,fun L D c=>(hJ.mp c).2.cases'.elim (fun k=>absurd q3 (Nat.not_lt.mpr (Nat.le_of_eq (Int.ofNat.inj k.1).symm))) fun ⟨b',o,k⟩=>ih.C L D ⟨b',s4 b' o.1 (Int.ofNat_lt.mp o.2.1),o,k⟩,
          fun k v h=>(ih.S k v h).imp_right fun ⟨b',_,o,k⟩=>hJ.mpr ⟨ok,.step o k⟩⟩
      · have hbe:(b.pl:Int)=T.ds.length:=congrArg _ (Nat.le_antisymm (jJ hb) (Nat.not_lt.mp q3))
        obtain ⟨u1,u2,u3⟩:=a2s (line+1) (dP T at_ line fit dem b) l
        refine ⟨u1,fun L D c=>?_,fun k v h=>(u3 k v h).imp_right fun e=>hJ.mpr ⟨ok,?_⟩⟩
        · have c:=(hJ.mp c).2
          rw [hbe] at c
          rw [c.end_.1,c.end_.2]
          exact u2
        · rw [e.1,e.2,hbe]
          exact .done _ _ _
    generalize (if (ez T at_ b line).1≤T.tol then (if b.pl<T.ds.length then jb T r b.pl (line+1) (ez T at_ b line).2 (dP T at_ line fit dem b) l else mQ (line+1) (dP T at_ line fit dem b) l) else l)=l' at part
    refine aC (C:=mU T (b :: r) at_ line fit dem l) (fun q4=>?_) fun q4=>part.cons (L9 hy r (pre ++ [b]) at_ line fit dem l' ap hp (fun c m=>h3 c (List.mem_cons_of_mem _ m)) ht)
    have hr:r=[]:=List.eq_nil_iff_forall_not_mem.mpr fun c m=>absurd (s2 c m) (Nat.not_lt.mpr (by rw [(RF hy hb).mp q4]; exact jJ (by rw [h1]; exact List.mem_append_right _ (List.mem_cons_of_mem _ m))))
    rw [hr]
    exact part
theorem nX (hy:-10000<T.S.hyph) (htol:T.tol≤10000):(∀ L D,jT T (-1) 0 2 0 L D→∃ v,v≤D∧ah L (jb T (bC T) (-1) 0 2 0 [])=some v)∧∀ k v,ah k (jb T (bC T) (-1) 0 2 0 [])=some v→jT T (-1) 0 2 0 k v:=by
  have m1:∀ n:Nat,(-1:Int)<n:=fun n=>Int.lt_of_lt_of_le (by decide) (Int.natCast_nonneg n)
  have h:=L9 hy (bC T) [] (-1) 0 2 0 [] rfl (fun c hc=>absurd hc List.not_mem_nil) (fun c _=>m1 _) htol
  exact ⟨fun L D hc=>hc.cases'.elim (fun k=>absurd (m1 T.ds.length) (by rw [← k.1]; exact Int.lt_irrefl _)) fun ⟨b,o,hc⟩=>h.C L D ⟨b,o.1,o,hc⟩,fun k v hk=>(h.S k v hk).elim (fun q=>nn q) fun ⟨b,_,o,hc⟩=>.step o hc⟩
end
end
section
set_option maxRecDepth 10000
set_option maxHeartbeats 4000000
noncomputable def Fw (t:TP) (sp:Sp) (w:Wy):Int × Int:=fj (eu t.sh (w.line+1)) (jM w.sp.b sp.e t.g)
noncomputable def mw (t:TP) (l:Int):Int:=eU l (dG t.S t.sh+1)
noncomputable def Dm (t:TP) (sp:Sp) (e:Bool) (w:Wy):Int:=Sn t sp e w (Fw t sp w).1 (Fw t sp w).2 false
theorem iH {g f:Int}(h0:0≤f) (h1:f≤3):(4 * g+f).fdiv 4=g∧(4 * g+f).fmod 4=f:=by
  have h1:f<4:=Int.lt_add_one_of_le h1
  rw [Int.fdiv_eq_ediv_of_nonneg _ (by decide),Int.fmod_eq_emod_of_nonneg _ (by decide),Int.add_comm,Int.add_mul_ediv_left f g (by decide),Int.add_mul_emod_self_left,Int.ediv_eq_zero_of_lt h0 h1,Int.zero_add]
  exact ⟨rfl,Int.emod_eq_of_lt h0 h1⟩
theorem X3 {a b:Int}:eU a b≤a:=aC (C:=(·≤a)) (fun h=>Int.le_of_lt h) fun _=>Int.le_refl _
theorem Lr {a b:Int}:eU a b≤b:=aC (C:=(·≤b)) (fun _=>Int.le_refl _) fun h=>Int.not_lt.mp h
theorem QW {a b:Int}:eU a b=a∨(b<a∧eU a b=b):=aC (C:=fun x=>x=a∨(b<a∧x=b)) (fun h=>.inr ⟨h,rfl⟩) fun _=>.inl rfl
theorem kZ {α:Type}{k k':Int}{v x:α}{l:List (Int × α)}(h:ah k' (cn k v l)=some x):(k'=k∧v=x)∨(k'≠k∧ah k' l=some x):=by
  rw [bN] at h
  exact aC (C:=fun o=>o=some x→(k'=k∧v=x)∨(k'≠k∧ah k' l=some x)) (fun q e=>.inl ⟨q,Option.some.inj e⟩) (fun q e=>.inr ⟨q,e⟩) h
theorem oB {α:Type}{k:Int}{v:α}{l:List (Int × α)}:ah k (cn k v l)=some v:=bN.trans (if_pos rfl)
theorem nG {α:Type}{k k':Int}{v:α}{l:List (Int × α)}{o:Option α}(q:k'≠k) (h:ah k' l=o):ah k' (cn k v l)=o:=bN.trans ((if_neg q).trans h)
theorem sK {b:Bst}{k d:Int}:(JJ b k d=true→∀ x y z,ah k b=some (x,y,z)→d≤x)∧(JJ b k d≠true→∃ x y z,ah k b=some (x,y,z)∧x≤d):=by
  unfold JJ
  cases ah k b with
  | none=>exact ⟨fun _ _ _ _ h=>nn h,fun h=>absurd rfl h⟩
  | some x=>exact ⟨fun h a b c e=>by rw [Option.some.inj e] at h; exact of_decide_eq_true h,fun h=>⟨x.1,x.2.1,x.2.2,rfl,Int.le_of_lt (Int.not_le.mp fun q=>h (decide_eq_true q))⟩⟩
structure kW (t:TP) (sp:Sp) (R:Int→Wy→Prop) (u:LS):Prop where
  pv:∀ k d w l,ah k u.best=some (d,w,l)→R d w∧l=w.line+1∧k=4 * mw t l+(Fw t sp w).2
  l1:∀ k d w l,ah k u.best=some (d,w,l)→∃ m,ah (k.fdiv 4) u.least=some m∧m≤d
  l2:∀ g m,ah g u.least=some m→∃ k w l,ah k u.best=some (m,w,l)∧k.fdiv 4=g
theorem kW.mono {t:TP}{sp:Sp}{R R':Int→Wy→Prop}{u:LS}(h:kW t sp R u) (hR:∀ d w,R d w→R' d w):kW t sp R' u:=⟨fun k d w l e=>let ⟨a,b,c⟩:=h.pv k d w l e; ⟨hR d w a,b,c⟩,h.l1,h.l2⟩
theorem kW.nil (t:TP) (sp:Sp) (R:Int→Wy→Prop):kW t sp R ⟨[],[],[]⟩:=⟨fun _ _ _ _ e=>(by cases e),fun _ _ _ _ e=>(by cases e),fun _ _ e=>(by cases e)⟩
theorem kW.keep {t:TP}{sp:Sp}{R:Int→Wy→Prop}{u:LS}(K:List Wy) (h:kW t sp R u):kW t sp R { u with kept:=K }:=⟨h.pv,h.l1,h.l2⟩
theorem oQ (t:TP) (sp:Sp) (l f d:Int) (w:Wy) (u:LS):(∃ d' w' l',ah (4 * mw t l+f) (jO t l f d w u).best=some (d',w',l')∧d'≤d)∧(∀ k,(∃ d' w' l',ah k u.best=some (d',w',l'))→∃ d' w' l',ah k (jO t l f d w u).best=some (d',w',l')∧∀ x y z,ah k u.best=some (x,y,z)→d'≤x)∧(∀ k v,ah k (jO t l f d w u).best=some v→ah k u.best=some v∨(k=4 * mw t l+f∧v=(d,w,l)))∧(jO t l f d w u).kept=u.kept:=by
  have st:∀ k d' w' l',ah k u.best=some (d',w',l')→∀ x y z,ah k u.best=some (x,y,z)→d'≤x:=fun k d' w' l' h x y z e=>by rw [h] at e; cases e; exact Int.le_refl _
  rw [kD]
  refine aC (C:=fun u':LS=>(∃ d' w' l',ah (4 * mw t l+f) u'.best=some (d',w',l')∧d'≤d)∧(∀ k,(∃ d' w' l',ah k u.best=some (d',w',l'))→∃ d' w' l',ah k u'.best=some (d',w',l')∧∀ x y z,ah k u.best=some (x,y,z)→d'≤x)∧(∀ k v,ah k u'.best=some v→ah k u.best=some v∨(k=4 * mw t l+f∧v=(d,w,l)))∧u'.kept=u.kept) (fun hb=>?_) fun hb=>⟨sK.2 hb,fun k ⟨d',w',l',h⟩=>⟨d',w',l',h,st _ _ _ _ h⟩,fun _ _ h=>.inl h,rfl⟩
  refine ⟨⟨d,w,l,oB,Int.le_refl _⟩,fun k ⟨d',w',l',h⟩=>?_,fun k v h=>(kZ h).elim (fun q=>.inr ⟨q.1,q.2.symm⟩) fun q=>.inl q.2,rfl⟩
  by_cases q:k=4 * mw t l+f
  · rw [q]; exact ⟨d,w,l,oB,sK.1 hb⟩
  · exact ⟨d',w',l',nG q h,st _ _ _ _ h⟩
theorem kW.put {t:TP}{sp:Sp}{R:Int→Wy→Prop}{u:LS}{w:Wy}{d:Int}(h:kW t sp R u) (hw:R d w) (h0:0≤(Fw t sp w).2) (h1:(Fw t sp w).2≤3):kW t sp R (jO t (w.line+1) (Fw t sp w).2 d w u):=by
  rw [kD]
  refine aC (C:=kW t sp R) (fun hb=>?_) fun _=>h
  have hb:=sK.1 hb
  have kd:=(iH (g:=mw t (w.line+1)) h0 h1).1
  refine ⟨fun k d' w' l' e=>(kZ e).elim (fun ⟨q,e'⟩=>by cases e'; exact ⟨hw,rfl,q⟩) fun q=>h.pv k d' w' l' q.2,fun k d' w' l' e=>(kZ e).elim (fun ⟨q,e'⟩=>?_) fun ⟨_,e'⟩=>?_,fun g m e=>(kZ e).elim (fun ⟨q,e'⟩=>?_) fun ⟨q,e'⟩=>?_⟩
  · cases e'
    rw [q]
    exact ⟨_,bN.trans (if_pos kd),X3⟩
  · obtain ⟨m0,a,b⟩:=h.l1 k d' w' l' e'
    by_cases q:k.fdiv 4=mw t (w.line+1)
    · refine ⟨_,bN.trans (if_pos q),Int.le_trans Lr ?_⟩
      rw [q] at a
      exact (congrArg (·.getD d) a).symm ▸ b
    · exact ⟨m0,nG q a,b⟩
  · rw [q,← e']
    show ∃ k w' l,ah k (cn (4 * mw t (w.line+1)+(Fw t sp w).2) (d,w,w.line+1) u.best)=some (eU d ((ah (mw t (w.line+1)) u.least).getD d),w',l)∧k.fdiv 4=mw t (w.line+1)
    rcases QW (a:=d) (b:=(ah (mw t (w.line+1)) u.least).getD d) with e2 | ⟨lt,e2⟩
    · rw [e2]; exact ⟨_,w,w.line+1,oB,kd⟩
    · rw [e2]
      cases e3:ah (mw t (w.line+1)) u.least with
      | none=>rw [e3] at lt; exact absurd lt (Int.lt_irrefl _)
      | some m0 =>
        rw [e3] at lt
        exact (h.l2 _ m0 e3).elim fun k=>fun ⟨y,z,k1,k2⟩=>⟨k,y,z,nG (fun q=>absurd (hb _ _ _ (q ▸ k1)) (Int.not_le.mpr lt)) k1,k2⟩
  · exact (h.l2 g m e').elim fun k=>fun ⟨y,z,k1,k2⟩=>⟨k,y,z,nG (fun q4=>q (k2.symm.trans ((congrArg (Int.fdiv · 4) q4).trans kd))) k1,k2⟩
end
section
set_option maxRecDepth 10000
set_option maxHeartbeats 4000000
theorem eZ (t:TP) (sp:Sp) (w:Wy):0≤(Fw t sp w).2∧(Fw t sp w).2≤3:=(pE (eu t.sh (w.line+1)) (jM w.sp.b sp.e t.g)).2
abbrev eW (t:TP) (sp:Sp) (w:Wy):Prop:=(Fw t sp w).1 > 10000∨sp.pen=-10000
noncomputable def iI (t:TP) (sp:Sp) (w:Wy) (u:LS):LS:=if eW t sp w then u else { u with kept:=u.kept ++ [w] }
noncomputable def jz (t:TP) (sp:Sp) (e:Bool) (w:Wy) (u:LS):LS :=
  if (Fw t sp w).1 > t.most then iI t sp w u else jO t (w.line+1) (Fw t sp w).2 (Dm t sp e w) w (iI t sp w u)
noncomputable def dW (t:TP) (sp:Sp) (e:Bool) (ws:List Wy) (u:LS):LS:=ws.foldl (fun u w=>jz t sp e w u) u
noncomputable def WZ (t:TP) (len i:Nat) (u:LS):Bool:=t.last && (u.kept.isEmpty && (u.best.isEmpty && decide ((i:Int)=(len:Int) - 1)))
theorem pq {t:TP}{sp:Sp}{e:Bool}{len i:Nat}{w:Wy}{u:LS}(h:eW t sp w):iK t sp e len i w u=fY t sp e (w.line+1) (Fw t sp w).1 (Fw t sp w).2 (WZ t len i u) w u:=if_pos h
theorem yZ {t:TP}{sp:Sp}{e:Bool}{len i:Nat}{w:Wy}{u:LS}(h:¬ eW t sp w):iK t sp e len i w u=fY t sp e (w.line+1) (Fw t sp w).1 (Fw t sp w).2 false w { u with kept:=u.kept ++ [w] }:=if_neg h
section
variable {t:TP}{sp:Sp}{e:Bool}{len i:Nat}{w w':Wy}{u:LS}{R:Int→Wy→Prop}{P:List Wy}
theorem PB:fY t sp e (w.line+1) (Fw t sp w).1 (Fw t sp w).2 false w u=if (Fw t sp w).1 > t.most then u else jO t (w.line+1) (Fw t sp w).2 (Dm t sp e w) w u :=
  aC (C:=fun x=>fY t sp e (w.line+1) (Fw t sp w).1 (Fw t sp w).2 false w u=x) (fun h=>if_pos ⟨h,rfl⟩) fun h=>if_neg fun q=>h q.1
theorem qs (o:eW t sp w):iI t sp w u=u:=if_pos o
theorem o8 (o:¬ eW t sp w):iI t sp w u={ u with kept:=u.kept ++ [w] }:=if_neg o
theorem rx (h:WZ t len i u=false∨¬ eW t sp w):iK t sp e len i w u=jz t sp e w u:=by
  unfold jz
  by_cases o:eW t sp w
  · rw [pq o,h.elim id fun h=>absurd o h,PB,qs o]
  · rw [yZ o,PB,o8 o]
theorem Q3 (h:WZ t len i u=true) (o:eW t sp w):iK t sp e len i w u=jO t (w.line+1) (Fw t sp w).2 w.dem w u:=by
  rw [pq o,h]
  exact if_neg fun q=>Bool.noConfusion q.2
theorem tt:∀ (ws ws':List Wy) (i:Nat) (u:LS),dk t sp e len i (ws ++ ws') u=dk t sp e len (i+ws.length) ws' (dk t sp e len i ws u)
  | [],ws',i,u=>rfl
  | w :: r,ws',i,u=>(tt r ws' (i+1) _).trans (congrArg (dk t sp e len · ws' _) (Nat.add_right_comm i 1 r.length))
theorem a3f (h:i+1<len):WZ t len i u=false:=by
  have:decide ((i:Int)=(len:Int) - 1)=false:=decide_eq_false fun q=>absurd (Int.ofNat.inj (show ((i+1:Nat):Int)=len from (congrArg (·+1) q).trans (Int.sub_add_cancel ..))) (Nat.ne_of_lt h)
  unfold WZ
  rw [this,Bool.and_false,Bool.and_false,Bool.and_false]
theorem Cb:∀ (ws:List Wy) (i:Nat) (u:LS),i+ws.length<len→dk t sp e len i ws u=dW t sp e ws u
  | [],i,u,_=>rfl
  | w :: r,i,u,h=>by
    have h:i+1+r.length<len:=by rw [Nat.add_right_comm]; exact h
    show dk t sp e len (i+1) r (iK t sp e len i w u)=dW t sp e r (jz t sp e w u)
    rw [rx (.inl (a3f (Nat.lt_of_le_of_lt (Nat.le_add_right ..) h))),Cb r (i+1) _ h]
theorem wj (ws:List Wy) (w:Wy) (u:LS):dW t sp e (ws ++ [w]) u=jz t sp e w (dW t sp e ws u):=List.foldl_append
theorem nq {α:Type}{l:List α}{x:α}:l ++ [x]≠[]:=List.append_ne_nil_of_right_ne_nil _ (List.cons_ne_nil _ _)
theorem SQ (h:u.kept≠[]∨u.best≠[]):(iI t sp w u).kept≠[]∨(iI t sp w u).best≠[] :=
  aC (C:=fun u:LS=>u.kept≠[]∨u.best≠[]) (fun _=>h) fun _=>.inl nq
theorem YB {α:Type}(k:Int) (v:α):∀ l:List (Int × α),cn k v l≠[]
  | []=>List.cons_ne_nil _ _
  | _ :: _=>aC (C:=(·≠[])) (fun _=>List.cons_ne_nil _ _) fun _=>List.cons_ne_nil _ _
theorem JC {l f d:Int}:(jO t l f d w u).best≠[]:=by
  rw [kD]
  exact aC (C:=fun u:LS=>u.best≠[]) (fun _=>YB _ _ _) fun h e=>(sK.2 h).elim fun x ⟨y,z,q,_⟩=>by rw [e] at q; exact nn q
theorem tJ (h:(iI t sp w u).kept≠[]∨(iI t sp w u).best≠[]):(jz t sp e w u).kept≠[]∨(jz t sp e w u).best≠[] :=
  aC (C:=fun u:LS=>u.kept≠[]∨u.best≠[]) (fun _=>h) fun _=>.inr JC
theorem LA (h:¬ eW t sp w):(jz t sp e w u).kept≠[]∨(jz t sp e w u).best≠[]:=tJ (.inl (by rw [o8 h]; exact nq))
end
noncomputable def u0:LS:=⟨[],[],[]⟩
theorem pI (t:TP) (sp:Sp) (e:Bool) (ws:List Wy) (hne:ws≠[]):(dk t sp e ws.length 0 ws u0=dW t sp e ws u0∧(t.last=true→(dW t sp e ws u0).kept≠[]∨(dW t sp e ws u0).best≠[])) ∨
    (t.last=true∧∃ ws0 wl,ws=ws0 ++ [wl]∧(dW t sp e ws0 u0).kept=[]∧(dW t sp e ws0 u0).best=[]∧eW t sp wl∧dk t sp e ws.length 0 ws u0=jO t (wl.line+1) (Fw t sp wl).2 wl.dem wl (dW t sp e ws0 u0)):=by
  obtain ⟨ws0,wl,rfl⟩:∃ a b,ws=a ++ [b]:=⟨_,_,(List.dropLast_concat_getLast hne).symm⟩
  have hl:(ws0 ++ [wl]).length=ws0.length+1:=List.length_append
  have e0:dk t sp e (ws0 ++ [wl]).length 0 (ws0 ++ [wl]) u0=iK t sp e (ws0.length+1) ws0.length wl (dW t sp e ws0 u0):=by
    rw [tt,hl,Cb ws0 0 u0 (by rw [Nat.zero_add]; exact Nat.lt_succ_self _),Nat.zero_add]; rfl
  rw [e0,wj]
  generalize hu:dW t sp e ws0 u0=u
  by_cases o:eW t sp wl
  · cases hr:WZ t (ws0.length+1) ws0.length u with
    | true =>
      subst hu
      have hr':=Bool.and_eq_true_iff.mp hr
      have h2:=Bool.and_eq_true_iff.mp hr'.2
      exact .inr ⟨hr'.1,ws0,wl,rfl,List.isEmpty_iff.mp h2.1,List.isEmpty_iff.mp (Bool.and_eq_true_iff.mp h2.2).1,o,Q3 hr o⟩
    | false =>
      refine .inl ⟨rx (.inl hr),fun hlst=>tJ (SQ (Classical.byContradiction fun q=>?_))⟩
      have h1:=Classical.not_not.mp fun z=>q (.inl z)
      have h2:=Classical.not_not.mp fun z=>q (.inr z)
      have dl:decide (((ws0.length:Nat):Int)=((ws0.length+1:Nat):Int) - 1)=true:=decide_eq_true (Int.add_sub_cancel _ 1).symm
      unfold WZ at hr
      rw [hlst,h1,h2,dl] at hr
      cases hr
  · exact .inl ⟨rx (.inr o),fun _=>LA o⟩
structure PI (t:TP) (sp:Sp) (e:Bool) (P:List Wy) (u:LS):Prop where
  kp:∀ w,w∈u.kept↔w∈P∧¬ eW t sp w
  inv:kW t sp (fun d w=>w∈P∧(Fw t sp w).1≤t.most∧d=Dm t sp e w) u
  cv:∀ w∈P,(Fw t sp w).1≤t.most→∃ d' w' l',ah (4 * mw t (w.line+1)+(Fw t sp w).2) u.best=some (d',w',l')∧d'≤Dm t sp e w
theorem PI.nil (t:TP) (sp:Sp) (e:Bool):PI t sp e [] u0:=⟨fun w=>⟨fun h=>(by cases h),fun h=>(by cases h.1)⟩,kW.nil _ _ _,fun w h=>(by cases h)⟩
section
variable {t:TP}{sp:Sp}{e:Bool}{w w':Wy}{u:LS}{R:Int→Wy→Prop}{P:List Wy}
theorem Hu (h:kW t sp R u):kW t sp R (iI t sp w u):=aC (C:=kW t sp R) (fun _=>h) fun _=>h.keep _
theorem pi:(iI t sp w u).best=u.best:=aC (C:=fun v:LS=>v.best=u.best) (fun _=>rfl) fun _=>rfl
theorem cm {α:Type}{l:List α}{x y:α}:x∈l ++ [y]↔x∈l∨x=y:=List.mem_append.trans (or_congr Iff.rfl List.mem_singleton)
theorem PI.kept (h:PI t sp e P u):w'∈(iI t sp w u).kept↔w'∈P ++ [w]∧¬ eW t sp w':=by
  rw [cm]
  by_cases o:eW t sp w
  · rw [qs o,h.kp]
    exact ⟨fun q=>⟨.inl q.1,q.2⟩,fun q=>⟨q.1.elim id fun z=>absurd o (z ▸ q.2),q.2⟩⟩
  · rw [o8 o]
    refine cm.trans ⟨fun q=>q.elim (fun q=>((h.kp _).mp q).imp_left .inl) fun q=>⟨.inr q,q ▸ o⟩,fun q=>q.1.imp_left fun z=>(h.kp _).mpr ⟨z,q.2⟩⟩
theorem PI.turn (w:Wy) (h:PI t sp e P u):PI t sp e (P ++ [w]) (jz t sp e w u):=by
  have hi:=(Hu (w:=w) h.inv).mono (R':=fun d w'=>w'∈P ++ [w]∧(Fw t sp w').1≤t.most∧d=Dm t sp e w') fun d w' q=>⟨List.mem_append_left _ q.1,q.2⟩
  refine aC (C:=PI t sp e (P ++ [w])) (fun q=>⟨fun _=>h.kept,hi,fun w' hw' hb=>?_⟩) fun q=>?_
  · rw [pi]
    exact (cm.mp hw').elim (fun r=>h.cv w' r hb) fun r=>absurd hb (Int.not_le.mpr (r ▸ q))
  · obtain ⟨p1,p2,_,p4⟩:=oQ t sp (w.line+1) (Fw t sp w).2 (Dm t sp e w) w (iI t sp w u)
    refine ⟨fun w'=>by rw [p4]; exact h.kept,hi.put ⟨cm.mpr (.inr rfl),Int.not_lt.mp q,rfl⟩ (eZ t sp w).1 (eZ t sp w).2,fun w' hw' hb=>(cm.mp hw').elim (fun r=>?_) fun r=>r ▸ p1⟩
    rw [pi] at p2
    exact (h.cv w' r hb).elim fun d' ⟨w2,l',e1,e2⟩=>(p2 _ ⟨d',w2,l',e1⟩).elim fun d3 ⟨w3,l3,e3,e4⟩=>⟨d3,w3,l3,e3,Int.le_trans (e4 _ _ _ e1) e2⟩
end
theorem PI.loop {t:TP}{sp:Sp}{e:Bool}:∀ (ws P:List Wy) (u:LS),PI t sp e P u→PI t sp e (P ++ ws) (dW t sp e ws u)
  | [],P,u,h=>by rw [List.append_nil]; exact h
  | w :: r,P,u,h=>by
    have:=PI.loop r (P ++ [w]) _ (h.turn w)
    rw [List.append_assoc] at this
    exact this
theorem PI.all (t:TP) (sp:Sp) (e:Bool) (ws:List Wy):PI t sp e ws (dW t sp e ws u0):=PI.loop ws [] u0 (PI.nil t sp e)
def ty (t:TP) (sp:Sp) (u:LS) (w':Wy) (k:Int):Prop:=∃ d w l,ah k u.best=some (d,w,l)∧d≤(ah (k.fdiv 4) u.least).getD 0+(t.S.adj.natAbs:Int)∧w'=.on sp l (k.fmod 4) d w
theorem u8 {t:TP}{sp:Sp}{u:LS}{w':Wy}:∀ (ks:List Int) (acc:List Wy),w'∈db t sp u ks acc↔w'∈acc∨∃ k∈ks,ty t sp u w' k
  | [],acc=>⟨.inl,fun h=>h.elim id fun ⟨k,q,_⟩=>absurd q List.not_mem_nil⟩
  | k :: r,acc=>by
    have go:∀ acc',(w'∈acc'↔w'∈acc∨ty t sp u w' k)→(w'∈db t sp u r acc'↔w'∈acc∨∃ k'∈k :: r,ty t sp u w' k'):=fun acc' h=>by
      rw [u8 r acc',h,or_assoc]
      exact or_congr Iff.rfl ⟨fun h=>h.elim (fun h=>⟨k,List.mem_cons_self,h⟩) fun ⟨k',m,h⟩=>⟨k',List.mem_cons_of_mem _ m,h⟩,fun ⟨k',m,h⟩=>(List.mem_cons.mp m).elim (fun e=>.inl (e ▸ h)) fun m=>.inr ⟨k',m,h⟩⟩
    show w'∈(match ah k u.best with | some (d,w,l)=>db t sp u r (if d≤((ah (k.fdiv 4) u.least).getD 0)+(t.S.adj.natAbs:Int) then acc ++ [Wy.on sp l (k.fmod 4) d w] else acc) | none=>db t sp u r acc)↔_
    cases hk:ah k u.best with
    | none=>exact go acc ⟨.inl,fun h=>h.elim id fun ⟨d,w,l,q,_⟩=>by rw [hk] at q; exact nn q⟩
    | some x =>
      have un:ty t sp u w' k↔x.1≤(ah (k.fdiv 4) u.least).getD 0+(t.S.adj.natAbs:Int)∧w'=.on sp x.2.2 (k.fmod 4) x.1 x.2.1:=⟨fun ⟨d,w,l,q,z⟩=>by rw [hk] at q; cases q; exact z,fun z=>⟨_,_,_,hk,z⟩⟩
      exact go _ (aC (C:=fun a=>w'∈a↔w'∈acc∨ty t sp u w' k) (fun q=>cm.trans (or_congr Iff.rfl ⟨fun e=>un.mpr ⟨q,e⟩,fun s=>(un.mp s).2⟩)) fun q=>⟨.inl,fun h=>h.elim id fun s=>absurd (un.mp s).1 q⟩)
theorem pH {α:Type}{k:Int}{v:α}:∀ {l:List (Int × α)},ah k l=some v→k∈l.map (·.1)
  | (a,b) :: r,h=>by
    have h:(if a=k then some b else ah k r)=some v:=h
    revert h
    exact aC (C:=fun o:Option α=>o=some v→k∈a :: r.map (·.1)) (fun (e:a=k) _=>by rw [← e]; exact List.mem_cons_self) fun _ h=>List.mem_cons_of_mem _ (pH h)
noncomputable def cK (t:TP) (sp:Sp) (e:Bool) (ws:List Wy):LS:=dk t sp e ws.length 0 ws u0
theorem fR {t:TP}{sp:Sp}{e:Bool}{ws:List Wy}{w':Wy}:w'∈bI t sp e ws↔w'∈(cK t sp e ws).kept∨∃ k d w l,ah k (cK t sp e ws).best=some (d,w,l)∧d≤(ah (k.fdiv 4) (cK t sp e ws).least).getD 0+(t.S.adj.natAbs:Int)∧w'=.on sp l (k.fmod 4) d w :=
  (u8 _ _).trans (or_congr Iff.rfl ⟨fun h=>h.imp fun _ h=>h.2,fun h=>h.imp fun k h=>⟨h.elim fun d h=>h.elim fun w h=>h.elim fun l h=>List.mem_mergeSort.mpr (pH h.1),h⟩⟩)
theorem Tb {a l k:Int}(h:4 * a≤k) (g:k≤4 * l+3):a≤l:=by omega
theorem gu {t:TP}{sp:Sp}{u:LS}(hg:∀ k d w l,ah k u.best=some (d,w,l)→4 * l≤k∧k≤4 * l+3):∀ (ks:List Int) (acc:List Wy),ks.Pairwise (·≤·)→acc.Pairwise (fun a b=>a.line≤b.line)→(∀ w∈acc,∀ k∈ks,4 * w.line≤k)→(db t sp u ks acc).Pairwise (fun a b=>a.line≤b.line)
  | [],acc,_,h,_=>h
  | k :: r,acc,hk,h,ha=>by
    obtain ⟨k1,k2⟩:=List.pairwise_cons.mp hk
    have ha':∀ w∈acc,∀ k∈r,4 * w.line≤k:=fun w hw k' hk'=>ha w hw k' (List.mem_cons_of_mem _ hk')
    show (match ah k u.best with | some (d,w,l)=>db t sp u r (if d≤((ah (k.fdiv 4) u.least).getD 0)+(t.S.adj.natAbs:Int) then acc ++ [Wy.on sp l (k.fmod 4) d w] else acc) | none=>db t sp u r acc).Pairwise _
    cases hk:ah k u.best with
    | none=>exact gu hg r acc k2 h ha'
    | some x =>
      obtain ⟨g1,g2⟩:=hg k x.1 x.2.1 x.2.2 hk
      show (db t sp u r (if x.1≤(ah (k.fdiv 4) u.least).getD 0+(t.S.adj.natAbs:Int) then acc ++ [.on sp x.2.2 (k.fmod 4) x.1 x.2.1] else acc)).Pairwise _
      by_cases q:x.1≤(ah (k.fdiv 4) u.least).getD 0+(t.S.adj.natAbs:Int)
      · rw [if_pos q]
        refine gu hg r _ k2 (List.pairwise_append.mpr ⟨h,List.pairwise_singleton _ _,fun a ha' b hb=>?_⟩) fun w' hw' k' hk'=>(cm.mp hw').elim (fun q=>ha' w' q k' hk') fun q=>?_
        · rw [List.mem_singleton.mp hb]
          exact Tb (ha a ha' k List.mem_cons_self) g2
        · rw [q]; exact Int.le_trans g1 (k1 k' hk')
      · rw [if_neg q]; exact gu hg r acc k2 h ha'
theorem Qq (l:List Int):(l.mergeSort (fun a b=>decide (a≤b))).Pairwise (·≤·) :=
  (List.pairwise_mergeSort (le:=fun a b:Int=>decide (a≤b)) (fun _ _ _ h1 h2=>decide_eq_true (Int.le_trans (of_decide_eq_true h1) (of_decide_eq_true h2))) (fun a b=>(Bool.or_eq_true _ _).mpr ((Int.le_total a b).imp (fun h=>decide_eq_true h) fun h=>decide_eq_true h)) l).imp fun h=>of_decide_eq_true h
theorem mK {t:TP}{sp:Sp}{e:Bool}{ws:List Wy}{R:Int→Wy→Prop}(h:kW t sp R (cK t sp e ws)) {k d l:Int}{w:Wy}(hk:ah k (cK t sp e ws).best=some (d,w,l)):(.on sp l (k.fmod 4) d w∈bI t sp e ws)∨∃ k' d' w' l',ah k' (cK t sp e ws).best=some (d',w',l')∧k'.fdiv 4=k.fdiv 4∧d'+t.S.adj.natAbs<d∧.on sp l' (k'.fmod 4) d' w'∈bI t sp e ws:=by
  obtain ⟨m,m1,m2⟩:=h.l1 k d w l hk
  obtain ⟨k',w',l',h1,h2⟩:=h.l2 _ m m1
  by_cases q:d≤m+(t.S.adj.natAbs:Int)
  · exact .inl (fR.mpr (.inr ⟨k,d,w,l,hk,by rw [m1]; exact q,rfl⟩))
  · exact .inr ⟨k',m,w',l',h1,h2,by omega,fR.mpr (.inr ⟨k',m,w',l',h1,by rw [h2,m1]; show m≤m+_; omega,rfl⟩)⟩
theorem Rw {t:TP}{sp:Sp}{e:Bool}{ws:List Wy}{R:Int→Wy→Prop}(h:kW t sp R (cK t sp e ws)) (hb:(cK t sp e ws).best≠[]):bI t sp e ws≠[]:=by
  cases hbe:(cK t sp e ws).best with
  | nil=>exact absurd hbe hb
  | cons x r =>
    obtain ⟨k,d,w,l⟩:=x
    have hk:ah k (cK t sp e ws).best=some (d,w,l):=by rw [hbe]; exact if_pos rfl
    rcases mK h hk with q | ⟨_,_,_,_,_,_,_,q⟩ <;> exact fun e=>by rw [e] at q; cases q
end
section
set_option maxRecDepth 10000
set_option maxHeartbeats 4000000
section
variable {T:Tl}{at_ line fit dem L D l l':Int}{b:Lb}
theorem kF (h:1≤l) (h':1≤l'):ez T at_ b l=ez T at_ b l':=by
  have e:∀ {l},1≤l→wF T l=T.z1:=fun h=>if_neg fun e=>absurd (e ▸ h) (by decide)
  unfold ez
  rw [e h,e h']
theorem FV (h:1≤l) (h':1≤l') (o:gG T at_ b l):gG T at_ b l' :=
  ⟨o.1,o.2.1,fun c h1 h2 h3=>by rw [← kF h h']; exact o.2.2.1 c h1 h2 h3,by rw [← kF h h']; exact o.2.2.2⟩
theorem up1 (h:1≤l):1≤l+1:=Int.le_trans h (Int.le_add_of_nonneg_right (by decide))
theorem asc {a b:Int}:a+(b - a)=b:=(Int.add_comm ..).trans (Int.sub_add_cancel ..)
theorem a2z (a:Int) (h:jT T at_ line fit dem L D):1≤line→1≤line+a→∀ c,jT T at_ (line+a) fit (dem+c) (L+a) (D+c):=by
  induction h with
  | done line fit dem=>exact fun _ _ _=>.done _ _ _
  | step o c ih =>
    rename_i at_ line fit dem L D b
    intro h1 h2 c'
    have h3:=ih (up1 h1) (by rw [Int.add_right_comm]; exact up1 h2) c'
    refine .step (FV h1 h2 o) ?_
    rw [← kF h1 h2,Int.add_right_comm]
    have e2:dP T at_ (line+a) fit (dem+c') b=dP T at_ line fit dem b+c':=by
      show dem+c'+kR T at_ b (ez T at_ b (line+a)).1 ((ez T at_ b (line+a)).2 - fit).natAbs=_
      rw [← kF h1 h2]
      exact Int.add_right_comm ..
    rw [e2]
    exact h3
theorem HD (S:fF) (h:0≤S.adj) (tw en:Bool) (a a':Int):g8 S tw en a≤g8 S tw en a'+S.adj:=by
  unfold g8
  generalize (if tw=true then 0+(if en=true then S.fin else S.dbl) else 0)=f
  have lo:f≤if a' > 1 then f+S.adj else f:=aC (C:=(f≤·)) (fun _=>Int.le_add_of_nonneg_right h) fun _=>Int.le_refl _
  exact aC (C:=(·≤(if a' > 1 then f+S.adj else f)+S.adj)) (fun _=>Int.add_le_add_right lo _) fun _=>Int.le_trans lo (Int.le_add_of_nonneg_right h)
theorem V8 {D d d' X X' a:Int}(h:X'≤X+a):D+(d'+X' - (d+X))≤D+(d' - d)+a:=by omega
theorem a54 (hadj:0≤T.S.adj) (h:jT T at_ line fit dem L D) (h1:1≤line) (a fit' dem':Int) (h2:1≤line+a):∃ D',jT T at_ (line+a) fit' dem' (L+a) D'∧D'≤D+(dem' - dem)+T.S.adj∧(fit=fit'→D'≤D+(dem' - dem)):=by
  rcases h.cases' with ⟨e1,e2,e3⟩ | ⟨b,o,c⟩
  · subst e1 e2 e3
    rw [asc]
    exact ⟨dem',.done _ _ _,Int.le_add_of_nonneg_right hadj,fun _=>Int.le_refl _⟩
  · have e:=kF (T:=T) (at_:=at_) (b:=b) h1 h2
    have h3:=a2z a c (up1 h1) (by rw [Int.add_right_comm]; exact up1 h2) (dP T at_ (line+a) fit' dem' b - dP T at_ line fit dem b)
    rw [asc,Int.add_right_comm,e] at h3
    refine ⟨_,.step (FV h1 h2 o) h3,?_,fun q=>?_⟩
    · refine V8 ?_
      rw [e]
      exact Int.le_trans (Int.add_le_add_left (HD T.S hadj _ _ _ _) _) (Int.le_of_eq (Int.add_assoc ..).symm)
    · refine Int.le_trans (V8 (a:=0) ?_) (Int.le_of_eq (Int.add_zero _))
      rw [e,q,Int.add_zero]
      exact Int.le_refl _
end
inductive iM (T:Tl):Wy→List Lb→Prop
  | top:iM T cI []
  | on {w:Wy} {bs:List Lb} {b:Lb} {l f d:Int}:iM T w bs→b∈bC T→w.sp.pl<b.pl→l=w.line+1→iM T (.on (a9 T.ds b) l f d w) (b :: bs)
theorem eP (ds:List Nd) (b:Lb):(a9 ds b).pl=b.pl:=by unfold a9; split <;> rfl
theorem xk (ds:List Nd) (b:Lb):(a9 ds b).pen=b.pen:=by unfold a9; split <;> rfl
theorem yF (ds:List Nd) (b:Lb):(a9 ds b).sort=b.sort:=by unfold a9; split <;> rfl
theorem Nv (ds:List Nd) (b:Lb):(a9 ds b).start=bM ds b.pl:=by unfold a9; split <;> rfl
theorem a4f (ds:List Nd) (b:Lb):(a9 ds b).b=(dK ds).getD (bM ds b.pl) z6:=by
  unfold a9
  split
  · show { (dK ds).getD (bM ds b.pl) z6 with a0:=((dK ds).getD (bM ds b.pl) z6).a0+0 }=_
    rw [Int.add_zero]
  · rfl
theorem iM.top_or {T:Tl}{w:Wy}{bs:List Lb}(h:iM T w bs):(w=cI∧bs=[])∨∃ b bs',bs=b :: bs'∧b∈bC T∧w.sp=a9 T.ds b:=by
  cases h with
  | top=>exact .inl ⟨rfl,rfl⟩
  | on h1 h2 h3 h4=>exact .inr ⟨_,_,rfl,h2,rfl⟩
theorem iM.line {T:Tl}{w:Wy}{bs:List Lb}(h:iM T w bs):w.line=bs.length:=by
  induction h with
  | top=>rfl
  | on h1 h2 h3 h4 ih=>exact h4.trans (congrArg (·+1) ih)
theorem iM.pls {T:Tl}{w:Wy}{bs:List Lb}(h:iM T w bs):w.pls=bs.map fun b=>(b.pl:Int):=by
  induction h with
  | top=>rfl
  | on h1 h2 h3 h4 ih =>
    show _ :: _=_ :: _
    rw [ih,eP]
theorem iM.prw {T:Tl}{w:Wy}{bs:List Lb}(h:iM T w bs):∀ cs,Hj T w.sp.pl cs→Hj T (-1) (bs.reverse ++ cs):=by
  induction h with
  | top=>exact fun cs h=>h
  | on h1 h2 h3 h4 ih =>
    intro cs hc
    have hc:Hj T (a9 T.ds _).pl cs:=hc
    rw [eP] at hc
    rw [List.reverse_cons,List.append_assoc]
    exact ih _ ⟨h2,h3,hc⟩
theorem iM.at_ge {T:Tl}{w:Wy}{bs:List Lb}(h:iM T w bs):-1≤w.sp.pl:=by
  rcases h.top_or with ⟨rfl,_⟩ | ⟨b,_,_,_,e⟩
  · exact Int.le_refl _
  · rw [e,eP]; exact Int.le_trans (by decide) (Int.natCast_nonneg _)
theorem wd.way {T:Tl}{at_ line fit dem:Int}{bs:List Lb}(h:wd T at_ line fit dem bs):∀ cs,mZ T (bs.reverse ++ cs) (-1) 2 0 0=mZ T cs at_ fit line dem:=by
  induction h with
  | top=>exact fun cs=>rfl
  | on h o ih =>
    rename_i at_ line fit dem bs b
    intro cs
    rw [List.reverse_cons,List.append_assoc,ih]
    show mZ T (b :: cs) at_ fit line dem=_
    refine (if_neg fun q=>?_).trans (if_neg (Int.not_lt.mpr o.2.2.2))
    exact (List.any_eq_true.mp q).elim fun c ⟨hc,hd⟩=>have hd:=of_decide_eq_true hd; absurd (o.2.2.1 c hc hd.1 (Int.ofNat_lt.mp hd.2.1)) (Int.not_le.mpr hd.2.2)
theorem wd.cmp {T:Tl}{at_ line fit dem:Int}{bs:List Lb}(h:wd T at_ line fit dem bs):∀ L D,jT T at_ line fit dem L D→jT T (-1) 0 2 0 L D:=by
  induction h with
  | top=>exact fun _ _ h=>h
  | on h o ih=>exact fun L D c=>ih L D (.step o c)
structure kc (T:Tl) (t:TP):Prop where
  S:t.S=T.S
  g:t.g=T.g
  most:t.most=T.tol
  sh:∀ line,0≤line→eu t.sh (line+1)=wF T line
  ap:T.S.loos≠0→dG t.S t.sh=4294967294
  adj:0≤T.S.adj
  hy:-10000<T.S.hyph
  hy2:T.S.hyph≤1000000
  tol:T.tol≤10000
  aD:jQ T.ds
  len:(bC T).length≤14
  ok:tc T
theorem iM.start {T:Tl}{w:Wy}{bs:List Lb}(h:iM T w bs) (ha:jQ T.ds) {b:Lb}(hb:b∈bC T) (hlt:w.sp.pl<b.pl):w.sp.start≤b.pl∧jX T.ds w.sp.pl b.pl=w.sp.start∧w.sp.b=(dK T.ds).getD w.sp.start z6:=by
  rcases h.top_or with ⟨rfl,_⟩ | ⟨c,_,_,hc,e⟩
  · exact ⟨Nat.zero_le _,if_pos (by decide),rfl⟩
  · rw [e,eP] at hlt
    have h1:=Ms ha hb (Int.ofNat_lt.mp hlt)
    rw [e,eP,Nv,a4f]
    exact ⟨h1,Id _ _ _ h1,rfl⟩
theorem iM.line0 {T:Tl}{w:Wy}{bs:List Lb}(h:iM T w bs):0≤w.line:=by rw [h.line]; exact Int.natCast_nonneg _
theorem iM.tot {T:Tl}{t:TP}(X:kc T t) {w:Wy}{bs:List Lb}(h:iM T w bs) {b:Lb}(hb:b∈bC T) (hlt:w.sp.pl<b.pl):jM w.sp.b (a9 T.ds b).e t.g=ej T.ds T.g w.sp.pl b.pl:=by
  obtain ⟨h1,h2,h3⟩:=h.start X.aD hb hlt
  rw [X.g]
  exact WC T.ds T.g T.S.hyph w.sp.start b.pl b (ck T b hb) h1 _ h3 _ h2
theorem iM.fw {T:Tl}{t:TP}(X:kc T t) {w:Wy}{bs:List Lb}(h:iM T w bs) {b:Lb}(hb:b∈bC T) (hlt:w.sp.pl<b.pl):Fw t (a9 T.ds b) w=ez T w.sp.pl b w.line:=by
  unfold Fw ez
  rw [h.tot X hb hlt,X.sh _ h.line0]
theorem iM.hy {T:Tl}{w:Wy}{bs:List Lb}(h:iM T w bs) (hlt:w.sp.pl<T.ds.length):M3 T w.sp.pl=decide (w.sp.sort=1):=by
  rcases h.top_or with ⟨rfl,_⟩ | ⟨c,_,_,hc,e⟩
  · show M3 T (-1)=false
    exact Bool.eq_false_iff.mpr fun q=>(rQ.mp q).elim fun b ⟨_,h1,_⟩=>nomatch h1
  · rw [e,eP] at hlt
    rw [e,eP,yF]
    exact Bool.eq_iff_iff.mpr ((ph hc).trans ⟨fun q=>decide_eq_true q.1,fun q=>⟨of_decide_eq_true q,Int.ofNat_lt.mp hlt⟩⟩)
theorem iM.dm {T:Tl}{t:TP}(X:kc T t) {w:Wy}{bs:List Lb}(h:iM T w bs) {b:Lb}(hb:b∈bC T) (hlt:w.sp.pl<b.pl):Dm t (a9 T.ds b) (decide ((a9 T.ds b).pl=(T.ds.length:Int))) w=dP T w.sp.pl w.line w.fit w.dem b:=by
  show w.dem+(rP t.S.linep (Fw t (a9 T.ds b) w).1 (a9 T.ds b).pen+g8 t.S (twF (a9 T.ds b) w) (decide ((a9 T.ds b).pl=(T.ds.length:Int))) ((Fw t (a9 T.ds b) w).2 - w.fit).natAbs)=w.dem+kR T w.sp.pl b (ez T w.sp.pl b w.line).1 ((ez T w.sp.pl b w.line).2 - w.fit).natAbs
  have e1:twF (a9 T.ds b) w=(M3 T w.sp.pl && decide (b.sort=1)):=by
    unfold twF
    rw [h.hy (Int.lt_of_lt_of_le hlt (Int.ofNat_le.mpr (jJ hb))),yF]
    exact aC (C:=(·=(decide (w.sp.sort=1) && decide (b.sort=1)))) (fun q=>by rw [decide_eq_true q,Bool.and_true]) fun q=>by rw [decide_eq_false q,Bool.and_false]
  unfold kR
  rw [h.fw X hb hlt,X.S,xk,eP,e1,decide_eq_decide.mpr Int.ofNat_inj]
theorem iM.wok {T:Tl}{t:TP}(X:kc T t) {w:Wy}{bs:List Lb}(h:iM T w bs) {b:Lb}(hb:b∈bC T) (hlt:w.sp.pl<b.pl) (hl:w.line≤14):wt t (a9 T.ds b) w:=by
  have hli:=h.line
  obtain ⟨h1,h2,h3⟩:=h.start X.aD hb hlt
  obtain ⟨⟨⟨a0,b0⟩,a1,b1⟩,_,_,_,a5,b5⟩:=X.ok.sum w.sp.pl b.pl h.at_ge hlt (jJ hb)
  have hw:-100000≤wF T w.line∧wF T w.line≤100000:=by
    exact aC (C:=fun z:Int=>-100000≤z∧z≤100000) (fun _=>X.ok.z.1) fun _=>X.ok.z.2
  refine ⟨h.line0,hl,by rw [eP]; exact Int.ofNat_le.mpr h1,?_⟩
  rw [h.tot X hb hlt,X.sh _ h.line0]
  generalize ej T.ds T.g w.sp.pl b.pl=v at *
  generalize wF T w.line=z at *
  clear h2 h3 h1 hl hlt hli
  refine ⟨?_,?_,?_,?_⟩ <;> omega
end
section
set_option maxRecDepth 10000
set_option maxHeartbeats 4000000
theorem n9 {T:Tl}{pre:List Lb}{b:Lb}(h:bC T=pre ++ [b]):b.pl=T.ds.length:=by
  have e:bC T=sM T.S.hyph 0 false T.ds ++ [⟨0+T.ds.length,-10000,1⟩]:=nQ T.S.hyph T.ds 0 false
  rw [h] at e
  rw [(List.cons.inj (List.append_inj' e rfl).2).1]
  exact Nat.zero_add _
def rL (T:Tl) (pre rest:List Lb) (w:Wy):Prop:=(∃ bs,iM T w bs)∧w.line≤pre.length∧∀ c∈rest,w.sp.pl<c.pl
section
variable {T:Tl}{t:TP}{pre r:List Lb}{b:Lb}{ws:List Wy}{w:Wy}{e:Bool}
theorem rL.lt (h:rL T pre (b :: r) w):w.sp.pl<b.pl:=h.2.2 b List.mem_cons_self
theorem rL.fw (X:kc T t) (hb:b∈bC T) (h:rL T pre (b :: r) w):Fw t (a9 T.ds b) w=ez T w.sp.pl b w.line:=h.1.elim fun _ s=>s.fw X hb h.lt
theorem rL.dm (X:kc T t) (hb:b∈bC T) (he:e=decide ((a9 T.ds b).pl=(T.ds.length:Int))) (h:rL T pre (b :: r) w):Dm t (a9 T.ds b) e w=dP T w.sp.pl w.line w.fit w.dem b:=by
  rw [he]; exact h.1.elim fun _ s=>s.dm X hb h.lt
theorem rL.li (X:kc T t) (hl:bC T=pre ++ b :: r) (h:rL T pre (b :: r) w):0≤w.line∧w.line≤14 :=
  ⟨h.1.elim fun _ s=>s.line0,Int.le_trans h.2.1 (Int.ofNat_le.mpr (Nat.le_trans (by rw [hl,List.length_append]; exact Nat.le_add_right ..) X.len))⟩
theorem uB:((pre ++ [b]).length:Int)=pre.length+1:=congrArg Int.ofNat List.length_append
theorem kW.any {sp:Sp}{rs:Bool}{v:LS}(hw:w∈ws) (h:kW t sp (fun _ w=>w∈ws) v) (hk:∀ w∈v.kept,w∈ws∧¬ eW t sp w):kW t sp (fun _ w=>w∈ws) (fY t sp e (w.line+1) (Fw t sp w).1 (Fw t sp w).2 rs w v)∧∀ w'∈(fY t sp e (w.line+1) (Fw t sp w).1 (Fw t sp w).2 rs w v).kept,w'∈ws∧¬ eW t sp w' :=
  aC (C:=fun u:LS=>kW t sp (fun _ w=>w∈ws) u∧∀ w'∈u.kept,w'∈ws∧¬ eW t sp w') (fun _=>⟨h,hk⟩) fun _=>⟨h.put hw (eZ t sp w).1 (eZ t sp w).2,fun w' hw'=>hk w' (by rw [← (oQ t sp (w.line+1) (Fw t sp w).2 _ w v).2.2.2]; exact hw')⟩
theorem HA {sp:Sp}{len i:Nat}{u:LS}(hw:w∈ws) (h:kW t sp (fun _ w=>w∈ws) u) (hk:∀ w∈u.kept,w∈ws∧¬ eW t sp w):kW t sp (fun _ w=>w∈ws) (iK t sp e len i w u)∧∀ w'∈(iK t sp e len i w u).kept,w'∈ws∧¬ eW t sp w':=by
  by_cases o:eW t sp w
  · rw [pq o]; exact h.any hw hk
  · rw [yZ o]; exact (h.keep _).any hw fun w' hw'=>(cm.mp hw').elim (hk w') fun q=>q ▸ ⟨hw,o⟩
theorem qI {sp:Sp}{len:Nat}:∀ (r:List Wy) (i:Nat) (u:LS),(∀ w∈r,w∈ws)→kW t sp (fun _ w=>w∈ws) u→(∀ w∈u.kept,w∈ws∧¬ eW t sp w)→kW t sp (fun _ w=>w∈ws) (dk t sp e len i r u)∧∀ w'∈(dk t sp e len i r u).kept,w'∈ws∧¬ eW t sp w'
  | [],i,u,_,h,hk=>⟨h,hk⟩
  | w :: r,i,u,hr,h,hk =>
    have q:=HA (e:=e) (len:=len) (i:=i) (hr w List.mem_cons_self) h hk
    qI r (i+1) _ (fun w' hw'=>hr w' (List.mem_cons_of_mem _ hw')) q.1 q.2
theorem i8 (t:TP) (sp:Sp) (e:Bool) (ws:List Wy):kW t sp (fun _ w=>w∈ws) (cK t sp e ws)∧∀ w'∈(cK t sp e ws).kept,w'∈ws∧¬ eW t sp w':=qI ws 0 u0 (fun _ h=>h) (kW.nil _ _ _) fun w h=>by cases h
theorem qG {sp:Sp}{w':Wy}(h:w'∈bI t sp e ws):(w'∈ws∧¬ eW t sp w')∨∃ w f d,w∈ws∧w'=.on sp (w.line+1) f d w :=
  (fR.mp h).imp ((i8 t sp e ws).2 w') fun h=>h.elim fun k h=>h.elim fun d h=>h.elim fun w h=>h.elim fun l h =>
    have p:=(i8 t sp e ws).1.pv k d w l h.1
    ⟨w,k.fmod 4,d,p.1,h.2.2.trans (congrArg (Wy.on sp · (k.fmod 4) d w) p.2.1)⟩
theorem j3 (hl:bC T=pre ++ b :: r) (h:∀ w∈ws,rL T pre (b :: r) w):∀ w∈bI t (a9 T.ds b) e ws,rL T (pre ++ [b]) r w:=fun w hw=>by
  obtain ⟨l1,_,l3,_⟩:=fi hl
  rcases qG hw with ⟨q,_⟩ | ⟨w0,f,d,q,rfl⟩
  · exact ⟨(h w q).1,by rw [uB]; exact Int.le_trans (h w q).2.1 (Int.le_add_of_nonneg_right (by decide)),fun c hc=>(h w q).2.2 c (List.mem_cons_of_mem _ hc)⟩
  · exact ⟨(h w0 q).1.elim fun bs s=>⟨_,.on s l1 (h w0 q).lt rfl⟩,by rw [uB]; exact Int.add_le_add_right (h w0 q).2.1 1,fun c hc=>by
      show (a9 T.ds b).pl<_
      rw [eP]; exact Int.ofNat_lt.mpr (l3 c hc)⟩
def SH (T:Tl) (rest:List Lb) (w:Wy) (L D:Int):Prop:=(w.sp.pl=T.ds.length∧L=w.line∧D=w.dem)∨uG T rest w.sp.pl w.line w.fit w.dem L D
structure ux (T:Tl) (pre rest:List Lb) (ws:List Wy):Prop where
  ft:∀ w∈ws,(∃ bs,iM T w bs∧wd T w.sp.pl w.line w.fit w.dem bs)∧∀ c∈pre,w.sp.pl<c.pl→(ez T w.sp.pl c w.line).1≤10000
  cov:∀ L D,jT T (-1) 0 2 0 L D→∃ w∈ws,∃ L' D',SH T rest w L' D'∧D'≤D∧(T.S.loos≠0→L'=L)
def Zd (T:Tl):Prop:=∀ L D,¬ jT T (-1) 0 2 0 L D
theorem Pl {sp:Sp}{k l l':Int}{w':Wy}(h:k=4 * mw t l+(Fw t sp w).2) (h':k=4 * mw t l'+(Fw t sp w').2):mw t l=mw t l'∧(Fw t sp w).2=(Fw t sp w').2 :=
  have a:=iH (g:=mw t l) (eZ t sp w).1 (eZ t sp w).2
  have b:=iH (g:=mw t l') (eZ t sp w').1 (eZ t sp w').2
  have e:=h.symm.trans h'
  ⟨a.1.symm.trans ((congrArg (Int.fdiv · 4) e).trans b.1),a.2.symm.trans ((congrArg (Int.fmod · 4) e).trans b.2)⟩
theorem a0o (hl:bC T=pre ++ b :: r) (hw:w.sp.pl=b.pl) {L D:Int}(h:jT T w.sp.pl w.line w.fit w.dem L D):SH T r w L D :=
  h.cases'.imp id fun ⟨c,o,hc⟩=>⟨c,(fi hl).2.2.2.2 c o.1 (Int.ofNat_lt.mp (hw ▸ o.2.1)),o,hc⟩
theorem oj (X:kc T t) (h:T.S.loos≠0) {l:Int}(hl:l≤100):mw t l=l:=by
  unfold mw eU
  rw [X.ap h]
  exact if_neg (Int.not_lt.mpr (Int.le_trans hl (by decide)))
theorem nH (X:kc T t) (hb:b∈bC T):(a9 T.ds b).pen=-10000↔b.pl=T.ds.length:=by
  rw [xk]
  rcases ck T b hb with ⟨q1,q2,_⟩ | ⟨q1,⟨_,q2,_⟩ | ⟨_,q2,_⟩⟩
  · exact iff_of_true q2 q1
  · exact iff_of_false (by rw [q2]; decide) (Nat.ne_of_lt q1)
  · rw [if_neg (Int.not_lt.mpr (Int.le_of_lt X.hy))] at q2
    exact iff_of_false (by rw [q2]; exact fun e=>absurd X.hy (by rw [e]; decide)) (Nat.ne_of_lt q1)
theorem Rl (X:kc T t) (hl:bC T=pre ++ b :: r) (hs:∀ w∈ws,rL T pre (b :: r) w) (h:ux T pre (b :: r) ws) (he:e=decide ((a9 T.ds b).pl=(T.ds.length:Int))) (P:PI t (a9 T.ds b) e ws (cK t (a9 T.ds b) e ws)) {w':Wy}(hw':w'∈bI t (a9 T.ds b) e ws) :
    (∃ bs,iM T w' bs∧wd T w'.sp.pl w'.line w'.fit w'.dem bs)∧∀ c∈pre ++ [b],w'.sp.pl<c.pl→(ez T w'.sp.pl c w'.line).1≤10000:=by
  obtain ⟨l1,l2,_,l4,_⟩:=fi hl
  rcases fR.mp hw' with q | ⟨k,d,w,l,q1,_,rfl⟩
  · obtain ⟨k1,k2⟩:=(P.kp w').mp q
    exact ⟨(h.ft w' k1).1,fun c hc hlt=>(cm.mp hc).elim (fun q=>(h.ft w' k1).2 c q hlt) fun q=>by rw [q,← (hs w' k1).fw X l1]; exact Int.not_lt.mp fun q'=>k2 (.inl q')⟩
  · obtain ⟨⟨p1,p2,p3⟩,p4,p5⟩:=P.inv.pv k d w l q1
    obtain ⟨⟨bs,f1,f3⟩,f2⟩:=h.ft w p1
    have fw:=(hs w p1).fw X l1
    refine ⟨⟨b :: bs,.on f1 l1 (hs w p1).lt p4,?_⟩,fun c hc hlt'=>?_⟩
    · show wd T (a9 T.ds b).pl l (k.fmod 4) d _
      rw [eP,p5,(iH (eZ t (a9 T.ds b) w).1 (eZ t (a9 T.ds b) w).2).2,fw,p3,(hs w p1).dm X l1 he,p4]
      exact .on f3 ⟨l1,(hs w p1).lt,fun c hc h1 h2=>f2 c (l4 c hc h2) h1,by rw [← fw,← X.most]; exact p2⟩
    · have hlt':(a9 T.ds b).pl<_:=hlt'
      rw [eP] at hlt'
      have hlt':=Int.ofNat_lt.mp hlt'
      exact absurd hlt' (Nat.not_lt.mpr ((cm.mp hc).elim (fun q=>Nat.le_of_lt (l2 c q)) fun q=>by rw [q]; exact Nat.le_refl _))
theorem a4D {D2 D d s:Int}(h:D2≤D+(d - s)) (g:d≤s):D2≤D:=Int.le_trans h (Int.le_trans (Int.add_le_add_left (Int.sub_nonpos_of_le g) _) (Int.le_of_eq (Int.add_zero _)))
theorem a2m {D2 D d s a:Int}(h:D2≤D+(d - s)+a) (g:d+a≤s):D2≤D:=by omega
theorem Ct (X:kc T t) (hl:bC T=pre ++ b :: r) {fit s L D:Int}(c1:jT T b.pl (w.line+1) fit s L D) (h0:0≤w.line) {l2 f2 d2:Int}{w2:Wy}(n1:0≤w2.line) (n2:l2=w2.line+1) (n4:(fit=f2∧d2≤s)∨d2+T.S.adj≤s) (n5:T.S.loos≠0→l2=w.line+1):∃ L' D',SH T r (.on (a9 T.ds b) l2 f2 d2 w2) L' D'∧D'≤D∧(T.S.loos≠0→L'=L):=by
  have s1:∀ {l:Int},0≤l→1≤l+1:=fun h=>Int.add_le_add_right h 1
  obtain ⟨D2,x1,x2,x3⟩:=a54 X.adj c1 (s1 h0) (l2 - (w.line+1)) f2 d2 (by rw [asc,n2]; exact s1 n1)
  rw [asc,← eP T.ds b] at x1
  exact ⟨_,D2,a0o hl (w:=.on (a9 T.ds b) l2 f2 d2 w2) (eP _ _) x1,n4.elim (fun q=>a4D (x3 q.1) q.2) fun q=>a2m x2 q,fun hz=>by rw [n5 hz,Int.sub_self,Int.add_zero]⟩
theorem NW (X:kc T t) {l l':Int}(hl:0≤l∧l≤14) (hl':0≤l'∧l'≤14) (h:mw t (l+1)=mw t (l'+1)) (hz:T.S.loos≠0):l'+1=l+1:=by
  have b:∀ {l:Int},l≤14→l+1≤100:=fun h=>Int.le_trans (Int.add_le_add_right h 1) (by decide)
  rw [oj X hz (b hl.2),oj X hz (b hl'.2)] at h
  exact h.symm
theorem Im (X:kc T t) (hl:bC T=pre ++ b :: r) (hs:∀ w∈ws,rL T pre (b :: r) w) (he:e=decide ((a9 T.ds b).pl=(T.ds.length:Int))) (P:PI t (a9 T.ds b) e ws (cK t (a9 T.ds b) e ws)) (hw:w∈ws) (o:gG T w.sp.pl b w.line) {L D:Int}(c1:jT T b.pl (w.line+1) (ez T w.sp.pl b w.line).2 (dP T w.sp.pl w.line w.fit w.dem b) L D) :
    ∃ w'∈bI t (a9 T.ds b) e ws,∃ L' D',SH T r w' L' D'∧D'≤D∧(T.S.loos≠0→L'=L):=by
  have fw:=(hs w hw).fw X o.1
  have lw:=(hs w hw).li X hl
  obtain ⟨d',w',l',b1,b2⟩:=P.cv w hw (by rw [fw,X.most]; exact o.2.2.2)
  rw [(hs w hw).dm X o.1 he] at b2
  obtain ⟨⟨p1,_,_⟩,p4,p5⟩:=P.inv.pv _ d' w' l' b1
  have lw':=(hs w' p1).li X hl
  have kd:=iH (g:=mw t (w.line+1)) (eZ t (a9 T.ds b) w).1 (eZ t (a9 T.ds b) w).2
  rcases mK P.inv b1 with q | ⟨k2,d2,w2,l2,q1,q2,q3,q4⟩
  · rw [kd.2] at q
    refine ⟨_,q,Ct X hl c1 lw.1 lw'.1 p4 (.inl ⟨congrArg Prod.snd fw.symm,b2⟩) ?_⟩
    rw [p4] at p5 ⊢
    exact NW X lw lw' (Pl rfl p5).1
  · obtain ⟨⟨r1,_,_⟩,r4,r5⟩:=P.inv.pv _ d2 w2 l2 q1
    have ZJ:=(hs w2 r1).li X hl
    rw [kd.1,r5,(iH (g:=mw t l2) (eZ t (a9 T.ds b) w2).1 (eZ t (a9 T.ds b) w2).2).1] at q2
    rw [X.S,Int.natAbs_of_nonneg X.adj] at q3
    refine ⟨_,q4,Ct X hl c1 lw.1 ZJ.1 r4 (.inr (Int.le_trans (Int.le_of_lt q3) b2)) ?_⟩
    rw [r4] at q2 ⊢
    exact NW X lw ZJ q2.symm
theorem Ig (X:kc T t) (hl:bC T=pre ++ b :: r) (hs:∀ w∈ws,rL T pre (b :: r) w) (h:ux T pre (b :: r) ws)
    (he:e=decide ((a9 T.ds b).pl=(T.ds.length:Int))) (hp:cK t (a9 T.ds b) e ws=dW t (a9 T.ds b) e ws u0):ux T (pre ++ [b]) r (bI t (a9 T.ds b) e ws):=by
  have P:=PI.all t (a9 T.ds b) e ws
  rw [← hp] at P
  refine ⟨fun w' hw'=>Rl X hl hs h he P hw',fun L D hc=>?_⟩
  obtain ⟨l1,_,l3,_⟩:=fi hl
  obtain ⟨w,hw,L',D',c1,c2,c3⟩:=h.cov L D hc
  have hlt:=(hs w hw).lt
  rcases c1 with ⟨q,_⟩ | ⟨c,hcm,o,c1⟩
  · rw [q] at hlt; exact absurd (Int.ofNat_lt.mp hlt) (Nat.not_lt.mpr (jJ l1))
  rcases List.mem_cons.mp hcm with rfl | hcr
  · exact (Im X hl hs he P hw o c1).imp fun w' z=>⟨z.1,z.2.imp fun L2=>Exists.imp fun D2 z=>⟨z.1,Int.le_trans z.2.1 c2,fun hz=>(z.2.2 hz).trans (c3 hz)⟩⟩
  · have hk:w∈(cK t (a9 T.ds b) e ws).kept:=(P.kp w).mpr ⟨hw,fun q=>q.elim (fun q=>by
      rw [(hs w hw).fw X l1] at q
      exact absurd (o.2.2.1 b l1 hlt (l3 c hcr)) (Int.not_le.mpr q)) fun q=>absurd (l3 c hcr) (Nat.not_lt.mpr (by rw [(nH X l1).mp q]; exact jJ o.1))⟩
    exact ⟨w,fR.mpr (.inl hk),L',D',.inr ⟨c,hcr,o,c1⟩,c2,c3⟩
end
theorem oH {T:Tl}{t:TP}(X:kc T t) {b:Lb}(hb:b∈bC T) (hbe:b.pl=T.ds.length) {e:Bool}{ws:List Wy}:∀ w∈bI t (a9 T.ds b) e ws,w.sp.pl=T.ds.length:=fun w hw=>by
  rcases qG hw with ⟨_,q⟩ | ⟨w0,f,d,q,rfl⟩
  · exact absurd (.inr ((nH X hb).mpr hbe)) q
  · exact (eP ..).trans (congrArg _ hbe)
end
section
set_option maxRecDepth 10000
set_option maxHeartbeats 4000000
theorem sE {t:TP}{sp:Sp}{e:Bool}{ws:List Wy}(hl:t.last=true) (hne:ws≠[]):bI t sp e ws≠[]:=by
  have go:(cK t sp e ws).kept≠[]∨(cK t sp e ws).best≠[]:=by
    unfold cK
    rcases pI t sp e ws hne with ⟨h1,h2⟩ | ⟨_,ws0,wl,_,_,_,_,h⟩
    · rw [h1]; exact h2 hl
    · rw [h]; exact .inr JC
  exact go.elim (fun q=>(List.exists_mem_of_ne_nil _ q).elim fun w m=>List.ne_nil_of_mem (fR.mpr (.inl m))) (Rw (i8 t sp e ws).1)
theorem sW {T:Tl}{t:TP}(X:kc T t) (hz:T.S.loos≠0) {sp:Sp}{e:Bool}{ws:List Wy}(hk:(cK t sp e ws).kept=[]) (hli:∀ w∈ws,w.line≤14):(bI t sp e ws).Pairwise fun a b=>a.line≤b.line:=by
  show (db t sp (cK t sp e ws) (((cK t sp e ws).best.map (·.1)).mergeSort (fun a b=>decide (a≤b))) (cK t sp e ws).kept).Pairwise _
  rw [hk]
  refine gu (fun k d w l h=>?_) _ [] (Qq _) List.Pairwise.nil fun w h=>absurd h List.not_mem_nil
  obtain ⟨p1,p2,p3⟩:=(i8 t sp e ws).1.pv k d w l h
  have fb:=eZ t sp w
  rw [oj X hz (by rw [p2]; exact Int.le_trans (Int.add_le_add_right (hli w p1) 1) (by decide))] at p3
  rw [p3]
  exact ⟨Int.le_add_of_nonneg_right fb.1,Int.add_le_add_left fb.2 _⟩
def sg (T:Tl) (ws:List Wy):Prop:=∃ w1,ws≠[]∧(∀ w∈ws,w=w1)∧∃ bs dem,iM T w1 bs∧w1.sp.pl=T.ds.length∧wd T T.ds.length w1.line w1.fit dem bs∧∀ L D,jT T (-1) 0 2 0 L D→dem≤D∧(T.S.loos≠0→L=w1.line)
theorem tb {T:Tl}{t:TP}(X:kc T t) {pre r:List Lb}{b:Lb}(hl:bC T=pre ++ b :: r) {ws0:List Wy}{wl:Wy}(hs:∀ w∈ws0 ++ [wl],rL T pre (b :: r) w) (h:ux T pre (b :: r) (ws0 ++ [wl]))
    {e:Bool} (he:e=decide ((a9 T.ds b).pl=(T.ds.length:Int))) (hlast:t.last=true) (hk:(dW t (a9 T.ds b) e ws0 u0).kept=[]) (hb:(dW t (a9 T.ds b) e ws0 u0).best=[]) (ho:eW t (a9 T.ds b) wl)
    (hu:cK t (a9 T.ds b) e (ws0 ++ [wl])=jO t (wl.line+1) (Fw t (a9 T.ds b) wl).2 wl.dem wl (dW t (a9 T.ds b) e ws0 u0)):Zd T∨(b.pl=T.ds.length∧sg T (bI t (a9 T.ds b) e (ws0 ++ [wl]))):=by
  obtain ⟨l1,_,l3,l4,_⟩:=fi hl
  have P:=PI.all t (a9 T.ds b) e ws0
  have hwl:wl∈ws0 ++ [wl]:=cm.mpr (.inr rfl)
  have hbad:∀ w∈ws0,T.tol<(ez T w.sp.pl b w.line).1:=fun w hw=>by
    rw [← (hs w (List.mem_append_left _ hw)).fw X l1,← X.most]
    exact Int.not_le.mp fun o=>(P.cv w hw o).elim fun d' ⟨w',l',q,_⟩=>by rw [hb] at q; exact nn q
  have hat:∀ w∈ws0 ++ [wl],w.sp.pl≠T.ds.length:=fun w hw q=>absurd (Int.ofNat_lt.mp (q ▸ (hs w hw).lt)) (Nat.not_lt.mpr (jJ l1))
  by_cases hbe:b.pl=T.ds.length
  · have hr:r=[]:=List.eq_nil_iff_forall_not_mem.mpr fun c m=>absurd (l3 c m) (Nat.not_lt.mpr (by rw [hbe]; exact jJ (by rw [hl]; exact List.mem_append_right _ (List.mem_cons_of_mem _ m))))
    subst hr
    have hbi:(b.pl:Int)=T.ds.length:=congrArg _ hbe
    have one:∀ L D,jT T (-1) 0 2 0 L D→gG T wl.sp.pl b wl.line∧dP T wl.sp.pl wl.line wl.fit wl.dem b≤D∧(T.S.loos≠0→L=wl.line+1):=fun L D hc=>by
      obtain ⟨w,hw,L',D',c1,c2,c3⟩:=h.cov L D hc
      rcases c1 with ⟨q,_⟩ | ⟨c,hcm,o,c1⟩
      · exact absurd q (hat w hw)
      rw [List.mem_singleton.mp hcm] at o c1
      rcases cm.mp hw with q | rfl
      · exact absurd o.2.2.2 (Int.not_le.mpr (hbad w q))
      · rw [hbi] at c1
        exact ⟨o,by rw [← c1.end_.2]; exact c2,fun hz=>(c3 hz).symm.trans c1.end_.1⟩
    by_cases hok:(ez T wl.sp.pl b wl.line).1≤T.tol
    · refine .inr ⟨hbe,.on (a9 T.ds b) (wl.line+1) (ez T wl.sp.pl b wl.line).2 wl.dem wl,sE hlast nq,fun w hw=>?_,(h.ft wl hwl).1.elim fun bs f=>⟨b :: bs,dP T wl.sp.pl wl.line wl.fit wl.dem b,.on f.1 l1 (hs wl hwl).lt rfl,(eP _ _).trans hbi,?_,fun L D hc=>(one L D hc).2⟩⟩
      · obtain ⟨p1,p2,p3,p4⟩:=oQ t (a9 T.ds b) (wl.line+1) (Fw t (a9 T.ds b) wl).2 wl.dem wl (dW t (a9 T.ds b) e ws0 u0)
        rcases fR.mp hw with q | ⟨k,d,w,l,q1,q2,rfl⟩
        · rw [hu,p4,hk] at q; exact absurd q List.not_mem_nil
        · rw [hu] at q1
          rcases p3 k _ q1 with q | ⟨q,q'⟩
          · rw [hb] at q; exact nn q
          · cases q'
            rw [q,(iH (g:=mw t (wl.line+1)) (eZ t (a9 T.ds b) wl).1 (eZ t (a9 T.ds b) wl).2).2,(hs wl hwl).fw X l1]
      · rw [← hbi]
        exact wd.on f.2 ⟨l1,(hs wl hwl).lt,fun c hc h1 h2=>(h.ft wl hwl).2 c (l4 c hc h2) h1,hok⟩
    · exact .inl fun L D hc=>hok (one L D hc).1.2.2.2
  · refine .inl fun L D hc=>?_
    obtain ⟨w,hw,L',D',c1,_⟩:=h.cov L D hc
    have hout:eW t (a9 T.ds b) w:=(cm.mp hw).elim (fun q=>Classical.byContradiction fun o=>List.not_mem_nil (hk ▸ (P.kp w).mpr ⟨q,o⟩)) fun q=>q ▸ ho
    have hbig:(ez T w.sp.pl b w.line).1 > 10000:=hout.elim (fun q=>by rw [← (hs w hw).fw X l1]; exact q) fun q=>absurd ((nH X l1).mp q) hbe
    rcases c1 with ⟨q,_⟩ | ⟨c,hcm,o,c1⟩
    · exact hat w hw q
    · exact absurd ((List.mem_cons.mp hcm).elim (fun e=>Int.le_trans (e ▸ o.2.2.2) X.tol) fun hcr=>o.2.2.1 b l1 (hs w hw).lt (l3 c hcr)) (Int.not_le.mpr hbig)
def Fin (T:Tl) (ws:List Wy):Prop:=ws≠[]∧(∀ w∈ws,w.sp.pl=T.ds.length∧∃ bs,iM T w bs∧wd T T.ds.length w.line w.fit w.dem bs)∧(∀ L D,jT T (-1) 0 2 0 L D→∃ w∈ws,w.dem≤D∧(T.S.loos≠0→w.line=L))∧(T.S.loos≠0→ws.Pairwise fun a b=>a.line≤b.line)
def Res (T:Tl) (t:TP) (ws:List Wy):Prop:=Fin T ws∨(t.last=true∧sg T ws)∨(t.last=true∧Zd T∧ws≠[]∧∀ w∈ws,w.sp.pl=T.ds.length∧∃ bs,iM T w bs)
theorem Ye {T:Tl}{t:TP}(X:kc T t) {b:Lb}(hb:b∈bC T):-1000000≤(a9 T.ds b).pen∧(a9 T.ds b).pen≤1000000:=by
  rw [xk]
  rcases ck T b hb with ⟨_,q2,_⟩ | ⟨_,⟨_,q2,_⟩ | ⟨_,q2,_⟩⟩
  · rw [q2]; decide
  · rw [q2]; decide
  · rw [q2,if_neg (Int.not_lt.mpr (Int.le_of_lt X.hy))]; exact ⟨Int.le_trans (by decide) (Int.le_of_lt X.hy),X.hy2⟩
theorem lh {T:Tl}{pre r:List Lb}{b:Lb}(hl:bC T=pre ++ b :: r):bC T=pre ++ [b] ++ r:=by rw [hl,List.append_assoc]; rfl
theorem Jr {T:Tl}{t:TP}(X:kc T t):∀ (rest pre:List Lb) (ws:List Wy),bC T=pre ++ rest→(∀ w∈ws,rL T pre rest w)→oO t T.ds.length (rest.map (a9 T.ds)) ws
  | [],_,_,_,_=>trivial
  | b :: r,pre,ws,hl,hs=>⟨fun w hw=>(hs w hw).1.elim fun _ s=>s.wok X (fi hl).1 (hs w hw).lt ((hs w hw).li X hl).2,Ye X (fi hl).1,Jr X r (pre ++ [b]) _ (lh hl) (j3 hl hs)⟩
theorem ND {t:TP}{n:Nat}{sp:Sp}{r:List Sp}{ws:List Wy}(h:bI t sp (decide (sp.pl=(n:Int))) ws=[]):iO t n (sp :: r) ws=none:=by
  show (match bI t sp (decide (sp.pl=(n:Int))) ws with
    | []=>none
    | ws'=>iO t n r ws')=_
  rw [h]
theorem tn {t:TP}{n:Nat}{sp:Sp}{r:List Sp}{ws:List Wy}(h:bI t sp (decide (sp.pl=(n:Int))) ws≠[]):iO t n (sp :: r) ws=iO t n r (bI t sp (decide (sp.pl=(n:Int))) ws):=by
  show (match bI t sp (decide (sp.pl=(n:Int))) ws with
    | []=>none
    | ws'=>iO t n r ws')=_
  generalize bI t sp (decide (sp.pl=(n:Int))) ws=v at h ⊢
  cases v with
  | nil=>exact absurd rfl h
  | cons=>rfl
theorem uX {T:Tl}{t:TP}(X:kc T t) (hlast:t.last=true) (hno:Zd T):∀ (rest pre:List Lb) (ws:List Wy),rest≠[]→bC T=pre ++ rest→ws≠[]→(∀ w∈ws,rL T pre rest w)→∃ ws',iO t T.ds.length (rest.map (a9 T.ds)) ws=some ws'∧Res T t ws'
  | [],_,_,h,_,_,_=>absurd rfl h
  | b :: r,pre,ws,_,hl,hne,hs=>by
    have hn:=sE (sp:=a9 T.ds b) (e:=decide ((a9 T.ds b).pl=(T.ds.length:Int))) hlast hne
    have hs':=j3 (t:=t) (e:=decide ((a9 T.ds b).pl=(T.ds.length:Int))) hl hs
    rw [List.map_cons,tn hn]
    cases r with
    | nil=>exact ⟨_,rfl,.inr (.inr ⟨hlast,hno,hn,fun w hw=>⟨oH X (fi hl).1 (n9 hl) w hw,(hs' w hw).1⟩⟩)⟩
    | cons c r=>exact uX X hlast hno (c :: r) (pre ++ [b]) _ (List.cons_ne_nil _ _) (lh hl) hn hs'
def a2Z (T:Tl) (t:TP) (o:Option (List Wy)):Prop:=(o=none∧t.last=false∧Zd T)∨∃ ws',o=some ws'∧Res T t ws'
theorem Ry {T:Tl}{t:TP}(X:kc T t) {pre:List Lb}{ws:List Wy}{b:Lb}{e:Bool}(hl:bC T=pre ++ [b]) (hs:∀ w∈ws,rL T pre [b] w) (hn:bI t (a9 T.ds b) e ws≠[]) (lv:ux T (pre ++ [b]) [] (bI t (a9 T.ds b) e ws)):Fin T (bI t (a9 T.ds b) e ws):=by
  have l1:=(fi hl).1
  have hbe:=n9 hl
  have hend:=oH X l1 hbe (e:=e) (ws:=ws)
  refine ⟨hn,fun w hw'=>⟨hend w hw',(lv.ft w hw').1.imp fun bs f=>⟨f.1,(hend w hw') ▸ f.2⟩⟩,fun L D hc=>?_,fun hz=>sW X hz (List.eq_nil_iff_forall_not_mem.mpr fun x m=>((i8 t (a9 T.ds b) e ws).2 x m).2 (.inr ((nH X l1).mpr hbe))) fun w hw'=>((hs w hw').li X hl).2⟩
  obtain ⟨w,hw',L',D',c1,c2,c3⟩:=lv.cov L D hc
  rcases c1 with ⟨_,e1,e2⟩ | ⟨_,q,_⟩
  · exact ⟨w,hw',e2 ▸ c2,fun hz=>e1.symm.trans (c3 hz)⟩
  · exact absurd q List.not_mem_nil
theorem uO {T:Tl}{t:TP}(X:kc T t):∀ (rest pre:List Lb) (ws:List Wy),rest≠[]→bC T=pre ++ rest→ws≠[]→(∀ w∈ws,rL T pre rest w)→ux T pre rest ws→a2Z T t (iO t T.ds.length (rest.map (a9 T.ds)) ws)
  | [],_,_,h,_,_,_,_=>absurd rfl h
  | b :: r,pre,ws,_,hl,hne,hs,hv=>by
    have hs':=j3 (t:=t) (e:=decide ((a9 T.ds b).pl=(T.ds.length:Int))) hl hs
    have wn:=sE (t:=t) (sp:=a9 T.ds b) (e:=decide ((a9 T.ds b).pl=(T.ds.length:Int))) (ws:=ws)
    have st:ux T (pre ++ [b]) r (bI t (a9 T.ds b) (decide ((a9 T.ds b).pl=(T.ds.length:Int))) ws)∨(t.last=true∧(Zd T∨(b.pl=T.ds.length∧sg T (bI t (a9 T.ds b) (decide ((a9 T.ds b).pl=(T.ds.length:Int))) ws)))):=by
      rcases pI t (a9 T.ds b) (decide ((a9 T.ds b).pl=(T.ds.length:Int))) ws hne with ⟨h1,h2⟩ | ⟨hlast,ws0,wl,h1,h2,h3,h4,h5⟩
      · exact .inl (Ig X hl hs hv rfl h1)
      · subst h1
        exact .inr ⟨hlast,tb X hl hs hv rfl hlast h2 h3 h4 h5⟩
    rw [List.map_cons]
    by_cases hn:bI t (a9 T.ds b) (decide ((a9 T.ds b).pl=(T.ds.length:Int))) ws=[]
    · rw [ND hn]
      have hlf:=Bool.eq_false_iff.mpr fun q=>wn q hne hn
      refine .inl ⟨rfl,hlf,st.elim (fun lv L D hc=>(lv.cov L D hc).elim fun w z=>?_) fun z=>absurd (hlf.symm.trans z.1) Bool.false_ne_true⟩
      rw [hn] at z
      exact absurd z.1 List.not_mem_nil
    · rw [tn hn]
      cases r with
      | nil =>
        refine .inr ⟨_,rfl,?_⟩
        rcases st with lv | ⟨hlast,q | ⟨_,q⟩⟩
        · exact .inl (Ry X hl hs hn lv)
        · exact .inr (.inr ⟨hlast,q,hn,fun w hw'=>⟨oH X (fi hl).1 (n9 hl) w hw',(hs' w hw').1⟩⟩)
        · exact .inr (.inl ⟨hlast,q⟩)
      | cons c r =>
        rcases st with lv | ⟨hlast,q | ⟨q,_⟩⟩
        · exact uO X (c :: r) (pre ++ [b]) _ (List.cons_ne_nil _ _) (lh hl) hn hs' lv
        · exact .inr (uX X hlast q (c :: r) (pre ++ [b]) _ (List.cons_ne_nil _ _) (lh hl) hn hs')
        · exact absurd ((fi hl).2.2.1 c List.mem_cons_self) (Nat.not_lt.mpr (by rw [q]; exact jJ (by rw [hl]; exact List.mem_append_right _ (List.mem_cons_of_mem _ List.mem_cons_self))))
theorem OG {T:Tl}:ux T [] (bC T) [cI]∧∀ w∈[cI],rL T [] (bC T) w:=by
  have m1:∀ n:Nat,(-1:Int)<n:=fun n=>Int.lt_of_lt_of_le (by decide) (Int.natCast_nonneg n)
  exact ⟨⟨fun w hw=>by rw [List.mem_singleton.mp hw]; exact ⟨⟨[],.top,.top⟩,fun c hc=>absurd hc List.not_mem_nil⟩,fun L D hc=>⟨cI,List.mem_singleton.mpr rfl,L,D,hc.cases'.imp id fun ⟨b,o,hc⟩=>⟨b,o.1,o,hc⟩,Int.le_refl _,fun _=>rfl⟩⟩,
    fun w hw=>by rw [List.mem_singleton.mp hw]; exact ⟨⟨[],.top⟩,Int.le_refl _,fun c _=>m1 _⟩⟩
theorem QS {T:Tl}{t:TP}(X:kc T t):oO t T.ds.length ((bC T).map (a9 T.ds)) [cI]∧a2Z T t (iO t T.ds.length ((bC T).map (a9 T.ds)) [cI]):=⟨Jr X (bC T) [] _ rfl OG.2,uO X (bC T) [] _ (by rw [jR]; exact nq) rfl (List.cons_ne_nil _ _) OG.2 OG.1⟩
end
section
set_option maxRecDepth 10000
theorem iA {α:Type}{f:α→α→α}{le:α→Prop}{m:α}(hf:∀ a b,f a b=a∨f a b=b) (h1:∀ a,le a→f m a=m) (h2:∀ a,le a→f a m=m):∀ (r:List α) (x:α),(∀ y∈x :: r,le y)→m∈x :: r→r.foldl f x=m
  | [],x,_,h=>(List.mem_singleton.mp h).symm
  | y :: r,x,h,hm =>
    have hx:=h x List.mem_cons_self
    have hy:=h y (List.mem_cons_of_mem _ List.mem_cons_self)
    iA hf h1 h2 r (f x y) (fun z hz=>(List.mem_cons.mp hz).elim (fun e=>by rw [e]; exact (hf x y).elim (fun e=>by rw [e]; exact hx) fun e=>by rw [e]; exact hy) fun q=>h z (List.mem_cons_of_mem _ (List.mem_cons_of_mem _ q)))
      (List.mem_cons.mpr ((List.mem_cons.mp hm).elim (fun e=>.inl (by rw [← e,h1 y hy])) fun hm=>(List.mem_cons.mp hm).elim (fun e=>.inl (by rw [← e,h2 x hx])) .inr))
theorem GY {L:List Int}{m:Int}(hm:m∈L) (hle:∀ x∈L,m≤x):pL L=some m:=match L,hm,hle with
  | x :: r,hm,hle=>congrArg some (iA (f:=fun a b:Int=>if b<a then b else a) (le:=fun y=>m≤y) (fun a b=>aC (C:=fun z=>z=a∨z=b) (fun _=>.inr rfl) fun _=>.inl rfl) (fun a h=>if_neg (Int.not_lt.mpr h)) (fun a h=>aC (C:=fun z=>z=m) (fun _=>rfl) fun q=>Int.le_antisymm (Int.not_lt.mp q) h) r x hle hm)
theorem Qx {L:List Int}{m:Int}(hm:m∈L) (hle:∀ x∈L,x≤m):uC L=some m:=match L,hm,hle with
  | x :: r,hm,hle=>congrArg some (iA (f:=fun a b:Int=>if b > a then b else a) (le:=fun y=>y≤m) (fun a b=>aC (C:=fun z=>z=a∨z=b) (fun _=>.inr rfl) fun _=>.inl rfl) (fun a h=>if_neg (Int.not_lt.mpr h)) (fun a h=>aC (C:=fun z=>z=m) (fun _=>rfl) fun q=>Int.le_antisymm h (Int.not_lt.mp q)) r x hle hm)
theorem rD {a b:Int × Int}:KM a b=true↔a.1<b.1∨(a.1=b.1∧a.2≤b.2):=by
  unfold KM
  rw [Bool.or_eq_true,decide_eq_true_iff,Bool.and_eq_true,beq_iff_eq,decide_eq_true_iff]
theorem MU {a b:Int × Int}(h:KM a b=true) (k:KM b a=true):a=b :=
  have k:=rD.mp k
  (rD.mp h).elim (fun h=>absurd (k.elim Int.le_of_lt fun q=>Int.le_of_eq q.1) (Int.not_le.mpr h)) fun h=>Prod.ext h.1 (Int.le_antisymm h.2 (k.elim (fun q=>absurd (Int.le_of_eq h.1) (Int.not_le.mpr q)) (·.2)))
theorem Qh {L:List (Int × Int)}{m:Int × Int}(hm:m∈L) (hle:∀ x∈L,KM m x=true):sv L=some m:=match L,hm,hle with
  | x :: r,hm,hle=>congrArg some (iA (f:=fun a b:Int × Int=>if KM a b then a else b) (le:=fun y=>KM m y=true) (fun a b=>aC (C:=fun z=>z=a∨z=b) (fun _=>.inl rfl) fun _=>.inr rfl) (fun a h=>if_pos h) (fun a h=>aC (C:=fun z=>z=m) (fun q=>MU q h) fun _=>rfl) r x hle hm)
theorem iW {l:List (Int × Int)}{k:Int}:k∈gq l↔∃ v,ah k l=some v:=((List.mergeSort_perm _ _).mem_iff).trans ⟨ji,fun ⟨v,h⟩=>pH h⟩
theorem Hx {l:List (Int × Int)}{L D:Int}(h1:ah L l=some D) (h2:∀ k v,ah k l=some v→D≤v):pL (vK l)=some D :=
  GY (List.mem_map.mpr ⟨L,iW.mpr ⟨D,h1⟩,by rw [h1]; rfl⟩) fun x hx=>by
    obtain ⟨k,hk,rfl⟩:=List.mem_map.mp hx
    obtain ⟨v,hv⟩:=iW.mp hk
    rw [hv]
    exact h2 k v hv
theorem vu {l:List (Int × Int)}{L D:Int}(h1:ah L l=some D) (h2:∀ k v,ah k l=some v→D<v∨(D=v∧L≤k)):cL l=L:=by
  rw [cL,show sv (oh l)=some (D,L) from Qh (List.mem_map.mpr ⟨L,iW.mpr ⟨D,h1⟩,by rw [h1]; rfl⟩) fun x hx=>by
    obtain ⟨k,hk,rfl⟩:=List.mem_map.mp hx
    obtain ⟨v,hv⟩:=iW.mp hk
    rw [hv]
    exact rD.mpr (h2 k v hv)]
  rfl
theorem jc {l:List (Int × Int)}{far k:Int}:k∈fL l far↔(∃ v,ah k l=some v)∧((cL l≤k∧k≤cL l+far)∨(cL l+far≤k∧k≤cL l)):=by
  rw [fL,List.mem_filter,iW,decide_eq_true_eq]
theorem bt {a x:Int}:(a≤x∧x≤a+1)↔x=a∨x=a+1:=⟨fun h=>(Int.lt_or_eq_of_le h.2).imp_left fun q=>Int.le_antisymm (Int.le_of_lt_add_one q) h.1,fun h=>h.elim (fun e=>by rw [e]; exact ⟨Int.le_refl _,Int.le_of_lt (Int.lt_succ _)⟩) fun e=>by rw [e]; exact ⟨Int.le_of_lt (Int.lt_succ _),Int.le_refl _⟩⟩
theorem rng {L lo x:Int}(hlo:lo=1∨lo=-1):((L≤x∧x≤L+lo)∨(L+lo≤x∧x≤L))↔x=L∨x=L+lo:=by
  rcases hlo with rfl | rfl
  · exact (or_iff_left fun h=>absurd (Int.le_trans h.1 h.2) (Int.not_le.mpr (Int.lt_succ _))).trans bt
  · have e:L+-1+1=L:=Int.sub_add_cancel L 1
    have b:=bt (a:=L+-1) (x:=x)
    have c:=Int.lt_succ (L+-1)
    rw [e] at b c
    exact (or_iff_right fun h=>absurd (Int.le_trans h.1 h.2) (Int.not_le.mpr c)).trans (b.trans or_comm)
theorem a5O {L lo:Int}:(lo > 0→L≤L+lo)∧(¬ lo > 0→L+lo≤L):=by lia
section
variable {l:List (Int × Int)}{L lo v M:Int}
theorem Gv (hm:M∈fL l lo) (hx:∀ x∈fL l lo,(lo > 0→x≤M)∧(¬ lo > 0→M≤x)):d7 l lo=M:=by
  unfold d7
  by_cases q:lo > 0
  · rw [if_pos q,Qx hm fun x h=>(hx x h).1 q]; rfl
  · rw [if_neg q,GY hm fun x h=>(hx x h).2 q]; rfl
theorem ZG (hlo:lo=1∨lo=-1) (hb:cL l=L) (h:ah (L+lo) l=some v):d7 l lo=L+lo:=by
  subst hb
  exact Gv (jc.mpr ⟨⟨v,h⟩,(rng hlo).mpr (.inr rfl)⟩) fun x hx=>((rng hlo).mp (jc.mp hx).2).elim (fun e=>by rw [e]; exact a5O) fun e=>by rw [e]; exact ⟨fun _=>Int.le_refl _,fun _=>Int.le_refl _⟩
theorem VK (hlo:lo=1∨lo=-1) (hb:cL l=L) (h0:ah L l=some v) (h:ah (L+lo) l=none):d7 l lo=L:=by
  subst hb
  exact Gv (jc.mpr ⟨⟨v,h0⟩,(rng hlo).mpr (.inl rfl)⟩) fun x hx=>((rng hlo).mp (jc.mp hx).2).elim (fun e=>by rw [e]; exact ⟨fun _=>Int.le_refl _,fun _=>Int.le_refl _⟩) fun e=>by
    obtain ⟨v,hv⟩:=(jc.mp hx).1
    rw [e,h] at hv; cases hv
end
theorem jq:∀ (ws:List Wy) (b:Wy),da b ws∈b :: ws
  | [],b=>List.mem_cons_self
  | w :: r,b=>(List.mem_cons.mp (jq r (if w.dem<b.dem then w else b))).elim (fun q=>by
    show da (if w.dem<b.dem then w else b) r∈_
    rw [q]
    exact aC (C:=fun z=>z∈b :: w :: r) (fun _=>List.mem_cons_of_mem _ List.mem_cons_self) fun _=>List.mem_cons_self) fun q=>List.mem_cons_of_mem _ (List.mem_cons_of_mem _ q)
def qk (a b:Wy):Prop:=a.dem<b.dem∨(a.dem=b.dem∧a.line≤b.line)
theorem qk.tr {a b c:Wy}(h:qk a b) (k:qk b c):qk a c:=h.elim (fun h=>.inl (k.elim (Int.lt_trans h) fun q=>by rw [← q.1]; exact h)) fun h=>k.elim (fun k=>.inl (by rw [h.1]; exact k)) fun k=>.inr ⟨h.1.trans k.1,Int.le_trans h.2 k.2⟩
theorem uu:∀ (ws:List Wy) (b:Wy),∀ w∈b :: ws,(da b ws).dem≤w.dem
  | [],b,w,hw=>by rw [List.mem_singleton.mp hw]; exact Int.le_refl _
  | x :: r,b,w,hw=>by
    have ih:=uu r (if x.dem<b.dem then x else b)
    have h0:=ih _ List.mem_cons_self
    have hi:(if x.dem<b.dem then x else b).dem≤b.dem∧(if x.dem<b.dem then x else b).dem≤x.dem:=aC (C:=fun z:Wy=>z.dem≤b.dem∧z.dem≤x.dem) (fun q=>⟨Int.le_of_lt q,Int.le_refl _⟩) fun q=>⟨Int.le_refl _,Int.not_lt.mp q⟩
    exact (List.mem_cons.mp hw).elim (fun e=>by rw [e]; exact Int.le_trans h0 hi.1) fun hw=>(List.mem_cons.mp hw).elim (fun e=>by rw [e]; exact Int.le_trans h0 hi.2) fun q=>ih w (List.mem_cons_of_mem _ q)
theorem qL:∀ (ws:List Wy) (b:Wy),(b :: ws).Pairwise (fun a b=>a.line≤b.line)→∀ w∈b :: ws,qk (da b ws) w
  | [],b,_,w,hw=>by rw [List.mem_singleton.mp hw]; exact .inr ⟨rfl,Int.le_refl _⟩
  | x :: r,b,hp,w,hw=>by
    obtain ⟨p1,p2⟩:=List.pairwise_cons.mp hp
    have hy:((if x.dem<b.dem then x else b) :: r).Pairwise (fun a b=>a.line≤b.line)∧qk (if x.dem<b.dem then x else b) b∧qk (if x.dem<b.dem then x else b) x :=
      aC (C:=fun z:Wy=>(z :: r).Pairwise (fun a b=>a.line≤b.line)∧qk z b∧qk z x) (fun q=>⟨p2,.inl q,.inr ⟨rfl,Int.le_refl _⟩⟩) fun q=>⟨List.pairwise_cons.mpr ⟨fun y hy=>p1 y (List.mem_cons_of_mem _ hy),(List.pairwise_cons.mp p2).2⟩,.inr ⟨rfl,Int.le_refl _⟩,(Int.lt_or_eq_of_le (Int.not_lt.mp q)).imp_right fun e=>⟨e,p1 x List.mem_cons_self⟩⟩
    have ih:=qL r _ hy.1
    have h0:=ih _ List.mem_cons_self
    exact (List.mem_cons.mp hw).elim (fun e=>by rw [e]; exact h0.tr hy.2.1) fun hw=>(List.mem_cons.mp hw).elim (fun e=>by rw [e]; exact h0.tr hy.2.2) fun q=>ih w (List.mem_cons_of_mem _ q)
structure AN (b:Wy) (lo:Int) (ws:List Wy) (p:Wy × Int):Prop where
  at_:p.2=lo
  ln:p.1.line - b.line=lo
  mem:p.1∈ws
  le:∀ w∈ws,w.line - b.line=lo→p.1.dem≤w.dem
theorem LR {b:Wy}{lo:Int}:∀ (ws:List Wy) (f:Wy),f.line - b.line=lo→AN b lo (f :: ws) (fu b lo ws f lo)
  | [],f,h=>⟨rfl,h,List.mem_cons_self,fun w m _=>by rw [List.mem_singleton.mp m]; exact Int.le_refl _⟩
  | w :: r,f,h=>aC (C:=AN b lo (f :: w :: r)) (fun c=>by
      have c:w.line - b.line=lo∧w.dem<f.dem:=c.resolve_left fun c=>c.elim (fun c=>absurd c.1 (Int.not_le.mpr c.2)) fun c=>absurd c.2 (Int.not_le.mpr c.1)
      rw [c.1]
      have n:=LR r w c.1
      exact ⟨n.at_,n.ln,List.mem_cons_of_mem _ n.mem,fun x m e=>(List.mem_cons.mp m).elim (fun q=>by rw [q]; exact Int.le_trans (n.le w List.mem_cons_self c.1) (Int.le_of_lt c.2)) fun m=>n.le x m e⟩) fun c=>by
      have n:=LR r f h
      exact ⟨n.at_,n.ln,(List.mem_cons.mp n.mem).elim (fun q=>by rw [q]; exact List.mem_cons_self) fun m=>List.mem_cons_of_mem _ (List.mem_cons_of_mem _ m),fun x m e=>(List.mem_cons.mp m).elim (fun q=>by rw [q]; exact n.le f List.mem_cons_self h) fun m=>(List.mem_cons.mp m).elim (fun q=>by
        rw [q] at e ⊢
        exact Int.le_trans (n.le f List.mem_cons_self h) (Int.not_lt.mp fun z=>c (.inr ⟨e,z⟩))) fun m=>n.le x (List.mem_cons_of_mem _ m) e⟩
theorem LK {lo d x y:Int}(hlo:lo=1∨lo=-1) (h:y≤x):(((lo≤d∧d<0)∨(0<d∧d≤lo))∨(d=0∧x<y))↔d=lo:=by
  have n:¬ (d=0∧x<y):=fun q=>absurd q.2 (Int.not_lt.mpr h)
  refine (or_iff_left n).trans ?_
  rcases hlo with rfl | rfl
  · exact ⟨fun h=>h.elim (fun h=>absurd (Int.lt_of_le_of_lt h.1 h.2) (by decide)) fun h=>Int.le_antisymm h.2 h.1,fun e=>by rw [e]; exact .inr ⟨by decide,by decide⟩⟩
  · exact ⟨fun h=>h.elim (fun h=>Int.le_antisymm (Int.le_sub_one_of_lt h.2) h.1) fun h=>absurd (Int.lt_of_lt_of_le h.1 h.2) (by decide),fun e=>by rw [e]; exact .inl ⟨by decide,by decide⟩⟩
theorem UZ {b:Wy}{lo:Int}(hlo:lo=1∨lo=-1):∀ (ws:List Wy),(∀ w∈ws,b.dem≤w.dem)→(fu b lo ws b 0=(b,0)∧∀ w∈ws,w.line - b.line≠lo)∨AN b lo ws (fu b lo ws b 0)
  | [],_=>.inl ⟨rfl,fun w m=>absurd m List.not_mem_nil⟩
  | w :: r,hb=>aC (C:=fun p=>(p=(b,0)∧∀ x∈w :: r,x.line - b.line≠lo)∨AN b lo (w :: r) p) (fun c=>by
      have c:=(LK hlo (hb w List.mem_cons_self)).mp c
      rw [c]
      exact .inr (LR r w c)) fun c=>by
      have c:w.line - b.line≠lo:=fun e=>c ((LK hlo (hb w List.mem_cons_self)).mpr e)
      exact (UZ hlo r fun x m=>hb x (List.mem_cons_of_mem _ m)).imp (fun n=>⟨n.1,fun x m=>(List.mem_cons.mp m).elim (fun q=>by rw [q]; exact c) (n.2 x)⟩) fun n=>⟨n.at_,n.ln,List.mem_cons_of_mem _ n.mem,fun x m e=>(List.mem_cons.mp m).elim (fun q=>absurd (q ▸ e) c) fun m=>n.le x m e⟩
end
section
set_option maxRecDepth 10000
set_option maxHeartbeats 4000000
noncomputable def iV (T:Tl):List (Int × Int):=jb T (bC T) (-1) 0 2 0 []
def n6 (T:Tl) (bs:List Lb):Prop:=iV T≠[]→∃ c,mZ T bs (-1) 2 0 0=some c∧if T.S.loos=0 then pL (vK (iV T))=some c else (bs.length:Int)=d7 (iV T) T.S.loos∧ah (d7 (iV T) T.S.loos) (iV T)=some c
theorem IW {T:Tl}{t:TP}(X:kc T t) (h:Zd T):iV T=[]:=by
  obtain ⟨_,h2⟩:=nX X.hy X.tol
  cases e:iV T with
  | nil=>rfl
  | cons x r =>
    obtain ⟨k,v⟩:=x
    exact absurd (h2 k v (by show ah k (iV T)=_; rw [e]; exact if_pos rfl)) (h k v)
theorem wd.full {T:Tl}{line fit dem:Int}{bs:List Lb}(h:wd T T.ds.length line fit dem bs):jT T (-1) 0 2 0 line dem∧mZ T bs.reverse (-1) 2 0 0=some dem:=by
  refine ⟨h.cmp _ _ (.done _ _ _),?_⟩
  have:=h.way []
  rw [List.append_nil] at this
  rw [this]; rfl
theorem iM.le_at {T:Tl}{w:Wy}{bs:List Lb}(h:iM T w bs):w.line≤w.sp.pl+1:=by
  induction h with
  | top=>exact Int.le_refl _
  | on h1 h2 h3 h4 ih =>
    show _≤(a9 T.ds _).pl+1
    rw [eP]
    exact Int.le_trans (Int.le_of_eq h4) (Int.add_le_add_right (Int.le_trans ih h3) 1)
def J3 (T:Tl) (t:TP) (p:Wy × Int):Prop:=∃ bs,iM T p.1 bs∧p.1.sp.pl=T.ds.length∧if (p.2≠T.S.loos∧t.last=false) then fq T (iV T) t.last=false else fq T (iV T) t.last=true∧n6 T bs.reverse
section
variable {T:Tl}{t:TP}{ws:List Wy}{w b:Wy}{bs:List Lb}{l:List (Int × Int)}{last:Bool}{d L:Int}
theorem Ln:fq T l true=true:=rfl
theorem VA (h:l≠[]) (k:T.S.loos=0∨d7 l T.S.loos=cL l+T.S.loos):fq T l last=true:=by
  rw [fq,show (!l.isEmpty)=true by cases l; exact absurd rfl h; rfl,Bool.true_and]
  exact k.elim (fun k=>by rw [decide_eq_true k,Bool.true_or,Bool.or_true]) fun k=>by rw [decide_eq_true k,Bool.or_true,Bool.or_true]
theorem a1v (h:T.S.loos≠0) (k:d7 l T.S.loos≠cL l+T.S.loos):fq T l false=false:=by
  rw [fq,decide_eq_false h,decide_eq_false k,Bool.or_false,Bool.and_false]; rfl
theorem nz (f:iM T w bs) (hw:mZ T bs.reverse (-1) 2 0 0=some d) (h0:T.S.loos=0→ah w.line (iV T)=some d∧∀ k v,ah k (iV T)=some v→d≤v) (h1:T.S.loos≠0→d7 (iV T) T.S.loos=w.line∧ah w.line (iV T)=some d):n6 T bs.reverse:=fun _=>⟨d,hw,by
  by_cases q:T.S.loos=0
  · rw [if_pos q]; exact Hx (h0 q).1 (h0 q).2
  · rw [if_neg q,(h1 q).1,List.length_reverse]; exact ⟨f.line.symm,(h1 q).2⟩⟩
structure mH (T:Tl):Prop where
  c:∀ L D,jT T (-1) 0 2 0 L D→∃ v,v≤D∧ah L (iV T)=some v
  s:∀ k v,ah k (iV T)=some v→jT T (-1) 0 2 0 k v
theorem kc.tab (X:kc T t):mH T:=⟨(nX X.hy X.tol).1,(nX X.hy X.tol).2⟩
theorem mH.at (o:mH T) (h:jT T (-1) 0 2 0 L d) (k:∀ v,ah L (iV T)=some v→d≤v):ah L (iV T)=some d:=by
  obtain ⟨v,v1,v2⟩:=o.c L d h
  rw [v2,Int.le_antisymm v1 (k v v2)]
theorem mH.ne (o:mH T) (h:jT T (-1) 0 2 0 L d):iV T≠[]:=fun e=>by
  obtain ⟨v,_,q⟩:=o.c L d h
  rw [e] at q
  cases q
theorem t7 (o:mH T) (h:Fin T ws) (q0:T.S.loos≠0) (hw:w∈ws) (hm:∀ x∈ws,x.line=w.line→w.dem≤x.dem):ah w.line (iV T)=some w.dem:=by
  obtain ⟨_,bs,_,f⟩:=h.2.1 w hw
  refine o.at f.full.1 fun v hv=>?_
  obtain ⟨x,hx,x1,x2⟩:=h.2.2.1 _ _ (o.s _ _ hv)
  exact Int.le_trans (hm x hx (x2 q0)) x1
theorem N1 (o:mH T) (hz:T.S.loos=0∨T.S.loos=1∨T.S.loos=-1) (h:Fin T ws):J3 T t (cC T.S.loos ws):=by
  have h':=h
  obtain ⟨h1,h2,h3,h4⟩:=h'
  match ws,h1,h,h2,h3,h4 with
  | w0 :: r0,_,h,h2,h3,h4 =>
  have bm:da w0 (w0 :: r0)∈w0 :: r0:=(List.mem_cons.mp (jq (w0 :: r0) w0)).elim (fun q=>by rw [q]; exact List.mem_cons_self) id
  have bl:∀ w∈w0 :: r0,(da w0 (w0 :: r0)).dem≤w.dem:=fun w hw=>uu (w0 :: r0) w0 w (List.mem_cons_of_mem _ hw)
  have hx:T.S.loos≠0→∀ w∈w0 :: r0,qk (da w0 (w0 :: r0)) w:=fun q w hw=>qL (w0 :: r0) w0 (List.pairwise_cons.mpr ⟨fun y hy=>(List.mem_cons.mp hy).elim (fun e=>by rw [e]; exact Int.le_refl _) ((List.pairwise_cons.mp (h4 q)).1 y),h4 q⟩) w (List.mem_cons_of_mem _ hw)
  show J3 T t (if T.S.loos≠0 then fu (da w0 (w0 :: r0)) T.S.loos (w0 :: r0) (da w0 (w0 :: r0)) 0 else (da w0 (w0 :: r0),0))
  generalize da w0 (w0 :: r0)=b at *
  obtain ⟨hend,bs,f1,f2⟩:=h2 b bm
  have ne:=o.ne f2.full.1
  by_cases q0:T.S.loos=0
  · rw [if_neg (not_not_intro q0)]
    have hmin:∀ k v,ah k (iV T)=some v→b.dem≤v:=fun k v hk=>by
      obtain ⟨w,hw,h5,_⟩:=h3 k v (o.s k v hk)
      exact Int.le_trans (bl w hw) h5
    refine ⟨bs,f1,hend,?_⟩
    rw [if_neg fun z=>z.1 q0.symm]
    exact ⟨VA ne (.inl q0),nz f1 f2.full.2 (fun _=>⟨o.at f2.full.1 (hmin _),hmin⟩) fun z=>absurd q0 z⟩
  · rw [if_pos q0]
    have hlo:=hz.resolve_left q0
    have lb:=t7 o h q0 bm fun x hx _=>bl x hx
    have hb:cL (iV T)=b.line:=vu lb fun k v hk=>by
      obtain ⟨w,hw,h5,h6⟩:=h3 k v (o.s k v hk)
      rw [← h6 q0]
      exact (hx q0 w hw).elim (fun e=>.inl (Int.lt_of_lt_of_le e h5)) fun e=>(Int.lt_or_eq_of_le (Int.le_trans (bl w hw) h5)).imp_right fun z=>⟨z,e.2⟩
    rcases UZ hlo (w0 :: r0) bl with ⟨e,n⟩ | n
    · rw [e]
      have hm:=VK hlo hb lb (by
        cases q:ah (b.line+T.S.loos) (iV T) with
        | none=>rfl
        | some v =>
          obtain ⟨w,hw,_,h6⟩:=h3 _ _ (o.s _ _ q)
          exact absurd (by rw [h6 q0,Int.add_comm,Int.add_sub_cancel]) (n w hw))
      refine ⟨bs,f1,hend,?_⟩
      cases hl:t.last with
      | false =>
        rw [if_pos ⟨fun z=>q0 z.symm,rfl⟩]
        exact a1v q0 (by rw [hm,hb]; exact fun z=>q0 (Int.add_left_cancel (z.symm.trans (Int.add_zero _).symm)))
      | true =>
        rw [if_neg fun z=>Bool.noConfusion z.2]
        exact ⟨Ln,nz f1 f2.full.2 (fun z=>absurd z q0) fun _=>⟨hm,lb⟩⟩
    · have el:(fu b T.S.loos (w0 :: r0) b 0).1.line=b.line+T.S.loos:=(Int.sub_eq_iff_eq_add'.mp n.ln).trans rfl
      have lg:=t7 o h q0 n.mem fun x hx e=>n.le x hx (by rw [e]; exact n.ln)
      obtain ⟨hend,bs,f1,f2⟩:=h2 _ n.mem
      have hm:=ZG hlo hb (el ▸ lg)
      refine ⟨bs,f1,hend,?_⟩
      rw [n.at_,if_neg fun z=>z.1 rfl]
      exact ⟨VA ne (.inr (by rw [hm,hb])),nz f1 f2.full.2 (fun z=>absurd z q0) fun _=>⟨hm.trans el.symm,lg⟩⟩
theorem qQ {lo:Int}:∀ {ws:List Wy},(∀ x∈ws,x=w)→fu w lo ws w 0=(w,0)
  | [],_=>rfl
  | x :: r,h=>by
    rw [h x List.mem_cons_self]
    refine (if_neg ?_).trans (qQ fun y m=>h y (List.mem_cons_of_mem _ m))
    rw [Int.sub_self]
    exact fun c=>c.elim (fun c=>c.elim (fun c=>Int.lt_irrefl _ c.2) fun c=>Int.lt_irrefl _ c.1) fun c=>Int.lt_irrefl _ c.2
theorem PA {lo:Int}(hne:ws≠[]) (hall:∀ x∈ws,x=w):cC lo ws=(w,0):=by
  match ws,hne,hall with
  | x :: r,_,hall =>
  have hb:da x (x :: r)=w:=(List.mem_cons.mp (jq (x :: r) x)).elim (fun q=>q.trans (hall x List.mem_cons_self)) (hall _)
  show (if lo≠0 then fu (da x (x :: r)) lo (x :: r) (da x (x :: r)) 0 else (da x (x :: r),0))=_
  rw [hb,qQ hall]
  exact aC (C:=fun p=>p=(w,0)) (fun _=>rfl) fun _=>rfl
theorem s0 (o:mH T) (hz:T.S.loos=0∨T.S.loos=1∨T.S.loos=-1) (hl:t.last=true) (h:sg T ws):J3 T t (cC T.S.loos ws):=by
  obtain ⟨w1,h1,h2,bs,dem,f1,hend,f2,h3⟩:=h
  rw [PA h1 h2]
  refine ⟨bs,f1,hend,?_⟩
  rw [hl,if_neg fun z=>Bool.noConfusion z.2]
  have hmin:∀ k v,ah k (iV T)=some v→dem≤v:=fun k v hk=>(h3 k v (o.s k v hk)).1
  have lk:=o.at f2.full.1 (hmin w1.line)
  refine ⟨Ln,nz f1 f2.full.2 (fun _=>⟨lk,hmin⟩) fun q0=>⟨?_,lk⟩⟩
  have hk:∀ k v,ah k (iV T)=some v→k=w1.line:=fun k v hk=>(h3 k v (o.s k v hk)).2 q0
  refine VK (hz.resolve_left q0) (vu lk fun k v h=>(Int.lt_or_eq_of_le (hmin k v h)).imp_right fun e=>⟨e,Int.le_of_eq (hk k v h).symm⟩) lk ?_
  cases q:ah (w1.line+T.S.loos) (iV T) with
  | none=>rfl
  | some v=>exact absurd (Int.add_left_cancel ((hk _ _ q).trans (Int.add_zero _).symm)) q0
theorem nU {lo:Int}{Z:List Wy}:∀ (ws:List Wy) (f:Wy) (a:Int),f∈Z→(∀ w∈ws,w∈Z)→(fu b lo ws f a).1∈Z
  | [],f,a,hf,_=>hf
  | y :: s,f,a,hf,h=>aC (C:=fun p:Wy × Int=>p.1∈Z) (fun _=>nU s _ _ (h y List.mem_cons_self) fun w m=>h w (List.mem_cons_of_mem _ m)) fun _=>nU s _ _ hf fun w m=>h w (List.mem_cons_of_mem _ m)
theorem Ny {lo:Int}(h:ws≠[]):(cC lo ws).1∈ws:=by
  match ws,h with
  | x :: r,_ =>
  have hb:da x (x :: r)∈x :: r:=(List.mem_cons.mp (jq (x :: r) x)).elim (fun q=>by rw [q]; exact List.mem_cons_self) id
  exact aC (C:=fun p:Wy × Int=>p.1∈x :: r) (fun _=>nU _ _ _ hb fun _ h=>h) fun _=>hb
theorem Pd (X:kc T t) (hz:T.S.loos=0∨T.S.loos=1∨T.S.loos=-1) (h:Res T t ws):J3 T t (cC T.S.loos ws):=by
  rcases h with h | ⟨hl,h⟩ | ⟨hl,hno,hne,h⟩
  · exact N1 X.tab hz h
  · exact s0 X.tab hz hl h
  · obtain ⟨hend,bs,f1⟩:=h _ (Ny hne)
    refine ⟨bs,f1,hend,?_⟩
    rw [hl,if_neg fun z=>Bool.noConfusion z.2]
    exact ⟨Ln,fun q=>absurd (IW X hno) q⟩
end
theorem Qk {T:Tl}{t:TP}(X:kc T t) (hz:T.S.loos=0∨T.S.loos=1∨T.S.loos=-1) :
    oO t T.ds.length ((bC T).map (a9 T.ds)) [cI]∧(∀ ws,iO t T.ds.length ((bC T).map (a9 T.ds)) [cI]=some ws→(cC t.S.loos ws).1.pls.length≤1000) ∧
    match np t T.ds.length ((bC T).map (a9 T.ds)) with
    | none=>t.last=false∧fq T (iV T) t.last=false
    | some ps=>fq T (iV T) t.last=true∧∃ bs,bs.length≤1000∧Hj T (-1) bs∧ps=bs.map (fun b=>(b.pl:Int))∧n6 T bs:=by
  obtain ⟨h1,h2⟩:=QS X
  have pk:∀ ws,iO t T.ds.length ((bC T).map (a9 T.ds)) [cI]=some ws→J3 T t (cC t.S.loos ws):=fun ws e=>by
    rw [X.S]
    exact h2.elim (fun z=>nn (z.1.symm.trans e)) fun ⟨ws',e',r⟩=>by rw [Option.some.inj (e.symm.trans e')]; exact Pd X hz r
  have pl:∀ {w:Wy} {bs:List Lb},iM T w bs→w.sp.pl=T.ds.length→bs.length≤1000:=fun f1 f2=>by
    have a:=f1.le_at
    rw [f1.line,f2] at a
    exact Nat.le_trans (Int.ofNat_le.mp a) (Nat.le_trans (Nat.add_le_add_right X.ok.hl 1) (by decide))
  refine ⟨h1,fun ws e=>?_,?_⟩
  · obtain ⟨bs,f1,f2,_⟩:=pk ws e
    rw [f1.pls,List.length_map]; exact pl f1 f2
  · unfold np
    rcases h2 with ⟨e,h3,h4⟩ | ⟨ws,e,_⟩
    · rw [e]
      exact ⟨h3,by rw [h3,IW X h4]; rfl⟩
    · obtain ⟨bs,f1,f2,f3⟩:=pk ws e
      rw [← X.S] at f3
      rw [e]
      show match (if (cC t.S.loos ws).2≠t.S.loos∧t.last=false then none else some (cC t.S.loos ws).1.pls.reverse) with
        | none=>t.last=false∧fq T (iV T) t.last=false
        | some ps=>fq T (iV T) t.last=true∧∃ bs,bs.length≤1000∧Hj T (-1) bs∧ps=bs.map (fun b=>(b.pl:Int))∧n6 T bs
      by_cases q:(cC t.S.loos ws).2≠t.S.loos∧t.last=false
      · rw [if_pos q] at f3 ⊢
        exact ⟨q.2,f3⟩
      · rw [if_neg q] at f3 ⊢
        exact ⟨f3.1,bs.reverse,by rw [List.length_reverse]; exact pl f1 f2,by rw [← List.append_nil bs.reverse]; exact f1.prw [] f2,by rw [f1.pls,List.map_reverse],f3.2⟩
structure jh (sh:Sh) (z0 z1:Int):Prop where
  w:45≤sh.w∧sh.w≤94
  ind:sh.ind=0∨sh.ind=9
  af:(sh.af=1∧z0=sh.w∧z1=sh.w - sh.ind)∨(sh.af=-1∧z0=sh.w - sh.ind∧z1=sh.w)
theorem jh.i0 {sh:Sh}{z0 z1:Int}(h:jh sh z0 z1):0≤sh.ind∧sh.ind≤9:=h.ind.elim (fun e=>by rw [e]; decide) fun e=>by rw [e]; decide
theorem jh.line {sh:Sh}{z0 z1:Int}(h:jh sh z0 z1) (line:Int) (hl:0≤line):eu sh (line+1)=if line=0 then z0 else z1:=by
  have key:∀ c c':Bool,(if sh.ind=0∨¬ (c=c') then sh.w else sh.w - sh.ind.natAbs)=if c=c' then sh.w - sh.ind else sh.w:=fun c c'=>by
    by_cases q:c=c'
    · rw [if_pos q,Int.natAbs_of_nonneg h.i0.1]
      by_cases i:sh.ind=0
      · rw [if_pos (.inl i),i]; exact (Int.sub_zero _).symm
      · exact if_neg fun z=>z.elim i fun n=>n q
    · rw [if_neg q,if_pos (.inr q)]
  unfold eu
  rw [key]
  by_cases q:line=0
  · rw [if_pos q,q]
    rcases h.af with ⟨a,b,_⟩ | ⟨a,b,_⟩
    · rw [a,b]; exact if_neg (by decide)
    · rw [a,b]; exact if_pos (by decide)
  · rw [if_neg q]
    have d:decide (line+1≤1)=false:=decide_eq_false (Int.not_le.mpr (Int.add_lt_add_right (Int.lt_iff_le_and_ne.mpr ⟨hl,Ne.symm q⟩) 1))
    rcases h.af with ⟨a,_,c⟩ | ⟨a,_,c⟩
    · rw [a,c]; exact if_pos d
    · rw [a,c]; exact if_neg fun e=>Bool.false_ne_true (d.symm.trans e)
theorem qE (v:V6):∀ {g:Gl},g.o=0→rq v g=⟨v.a0+g.w,v.a1+g.s,v.a2,v.a3,v.a4,v.a5+g.k⟩
  | ⟨_,_,_,_⟩,rfl=>rfl
theorem Hn {S:fF}{x:Int}(h:S.lg.o=0) (h':S.rg.o=0):kQ S x=Ht S x:=by
  unfold kQ
  rw [qE _ h,qE _ h']
  exact congrArg (fun y=>V6.mk (0+S.lg.w+S.rg.w) y 0 0 0 (0+S.lg.k+S.rg.k)) (by
    show 0+S.lg.s+S.rg.s+x=x+S.lg.s+S.rg.s
    rw [Int.zero_add,Int.add_comm,Int.add_assoc])
theorem jh.z {sh:Sh}{z0 z1:Int}(h:jh sh z0 z1):(-100000≤z0∧z0≤100000)∧-100000≤z1∧z1≤100000:=by
  have a:-100000≤sh.w∧sh.w≤100000:=⟨Int.le_trans (by decide) h.w.1,Int.le_trans h.w.2 (by decide)⟩
  have b:-100000≤sh.w - sh.ind∧sh.w - sh.ind≤100000:=⟨Int.le_trans (by decide) (Int.sub_le_sub h.w.1 h.i0.2),Int.le_trans (Int.sub_le_sub h.w.2 h.i0.1) (by decide)⟩
  rcases h.af with ⟨_,e,e'⟩ | ⟨_,e,e'⟩
  · rw [e,e']; exact ⟨a,b⟩
  · rw [e,e']; exact ⟨b,a⟩
theorem Qp {ds:List Nd}{S:fF}{sh:Sh}{x z0 z1 tol:Int}(last:Bool) (hg:gm 20 10 ds) (hS:H6 S) (hh:jh sh z0 z1) (hx:0≤x∧x≤60):Il S sh ds tol x last∧match xt S sh ds tol x last with
    | none=>last=false∧fq (jG ds S x z0 z1 tol) (iV (jG ds S x z0 z1 tol)) last=false
    | some ps=>fq (jG ds S x z0 z1 tol) (iV (jG ds S x z0 z1 tol)) last=true∧∃ bs,bs.length≤1000∧Hj (jG ds S x z0 z1 tol) (-1) bs∧ps=bs.map (fun b=>(b.pl:Int))∧n6 (jG ds S x z0 z1 tol) bs:=by
  obtain ⟨s1,s2,s3,s4,s5,s6,s7,s8,s9,s10⟩:=qX hS
  have hlb:(bC (jG ds S x z0 z1 tol)).length≤14:=Nat.le_trans (eV (hy:=S.hyph) ds 0 false) (Nat.le_trans (Nat.add_le_add_right hg.nb 1) (by decide))
  have X:kc (jG ds S x z0 z1 tol) (Vn S sh tol x last):=⟨rfl,Hn s7 s8,rfl,fun line hl=>hh.line line hl,fun q=>if_neg q,s5.1,s3,Int.le_trans s9 (by decide),Lr,hg.adj,hlb,To hg (by decide) hS hx hh.z.1 hh.z.2⟩
  obtain ⟨h1,h2,h3⟩:=Qk X s6
  exact ⟨⟨hlb,h1,h2⟩,h3⟩
end
section
set_option maxRecDepth 10000
section
variable {n m:Nat}{st s:St}{Q:aE}{Q':aq}{L N V R C D F A:List MV}{v w:MV}{u:Nat}
theorem Ro {sh:Sh}(h1:M6 sh.w) (h2:M6 sh.ind) (h3:M6 (sh.w - sh.ind.natAbs)) (h4:M6 sh.af) (h:Q (mJ sh) st):bs (n+1) (.cls 392) [.int sh.w,.int sh.ind,.int sh.af] st Q :=
  (show bs (n+1) (.cls 392) [.int sh.w,.int sh.ind,.int sh.af] st Q=((fD [.int sh.w]).1∧(fD [.int sh.ind]).1∧(fD [.int (sh.w - sh.ind.natAbs)]).1∧(fD [.int sh.af]).1∧(gQ [.int 0,.int 0,.int 2147483647]).1∧Q (mJ sh) st) by kernel_rfl).mpr ⟨⟨rfl,h1⟩,⟨rfl,h2⟩,⟨rfl,h3⟩,⟨rfl,h4⟩,rfl,h⟩
def saT (n:Nat) (L X:List MV) (st:St) (Q:aE):Prop:=fe n bE (aa bE.body 1) none [El,nM] (.zip L L) X [(El,.fl L),(nM,.fl L)] ⟨[],st.u⟩ (aB n bE (bE.body.drop 2) (cN Q st))
def saN (n:Nat) (L X:List MV) (v:MV) (st:St) (Q:aE):Prop:=de n bE (cw (aa (cw (aa bE.body 1)) 0)) [(El,.fl L),(nM,.fl L),(WY,v),(Xb,v)] ⟨[],st.u⟩ (aB n bE [] (gW n bE (aa bE.body 1) none [El,nM] (.zip L L) X (aB n bE (bE.body.drop 2) (cN Q st))))
noncomputable def mkN (m:Nat):Nd→Nat
  | .disc=>m+1
  | _=>m
theorem sa1 {d:Nd}{X:List MV}:saT n L (.tup [f7 m d,f7 m d] :: X) st Q=aI (!decide (mkN m d=mkN m d)) (saN n L X (f7 m d) st Q) (True∧saT n L X st Q):=by
  cases d <;> kernel_rfl
theorem Bu (h:Q (.bool true) st):∀ X:NL,saT n L (OO (cz X) (cz X)) st Q
  | []=>(show saT n L [] st Q=Q (.bool true) st by kernel_rfl).mpr h
  | (m,d) :: X=>by
    exact sa1.mpr (xv (fun q=>absurd rfl q) fun _=>⟨⟨⟩,Bu h X⟩)
theorem Ng {L:NL}(hl:L.length≤1000) (h:Q (.bool true) st):bs (n+1) (.fn 611) [.fl (cz L),.fl (cz L)] st Q:=by
  have hL:(cz L).length≤100000:=by rw [cE]; omega
  exact (show ∀ V:List MV,bs (n+1) (.fn 611) [.fl V,.fl V] st Q=bW (V.length≤100000) (bW (V.length≤100000) (aI (!decide ((V.length:Int)=V.length)) (Q (.bool false) st) (saT n V (OO V V) st Q))) from fun V=>by kernel_rfl) _ |>.mpr (cf hL (cf hL (xv (fun q=>absurd rfl q) fun _=>Bu h L)))
noncomputable abbrev X7:List (Str × Nat):=[(eT,1),(rW,0)]
noncomputable abbrev ml:cA:=⟨iJ.scope,X7⟩
noncomputable abbrev wz:List Stmt:=iJ.body.take 7
noncomputable def mM:Stmt:=aa iJ.body 7
noncomputable abbrev eQ:List Stmt:=iJ.body.drop 8
noncomputable def r8:MV:=.clos (aA mM) (ay mM) (am mM) X7
structure LW where
  L:List MV
  S:fF
  sh:Sh
  z0:Int
  z1:Int
  R:List MV
  N:List MV
  C:List MV
  D:List MV
  x:Int
  y:Int
  u:Nat
noncomputable def LW.loc (K:LW):aF:=[(bS,.fl K.L),(dC,.ref 2),(av,cH K.S),(fB,.int K.sh.af),(eE,.int K.sh.w),(gZ,.int K.sh.ind),(eI,.fl [.int K.z0,.int K.z1]),(fg,.fl K.R),(ny,.fl K.N),(iE,.fl K.C)]
noncomputable def LW.l0 (K:LW):List MO:=[.cell (some (.ref 3)),.cell (some (.fl K.D)),.list [.int K.x,.int K.y],.list []]
@[irreducible] noncomputable def Vh (j n:Nat) (L:List MV) (r:aF) (Q':aq) (s:St):Prop:=sR n ml (wz.drop j) ((bS,.fl L) :: r) s Q'
def lw1 (n:Nat) (L:List MV) (Q':aq) (v:MV) (s:St):Prop:=Vh 1 n L [(dC,v)] Q' s
def ZJ (n:Nat) (L:List MV) (Q':aq) (v:MV) (s:St):Prop:=Vh 2 n L [(dC,.ref 2),(av,v)] Q' s
def lw4 (n:Nat) (L:List MV) (Q':aq) (v w d:MV) (s:St):Prop:=ad (iP s (.fl [.int 1,.int 1,.int (-1)]) d) fun a=>bw (aT d) (Vh 3 n L [(dC,.ref 2),(av,v),(fB,a),(eE,w)] Q' s)
def lw3 (n:Nat) (L:List MV) (Q':aq) (v d:MV) (s:St):Prop:=mP .Add (.int 45) d s fun w s=>bs n (.fn 604) [.ref 2,.int 3] s (lw4 n L Q' v w)
def lw5 (n:Nat) (L:List MV) (Q':aq) (v a w d:MV) (s:St):Prop:=ad (iP s (.fl [.int 0,.int 9]) d) fun i=>bw (aT d) (Vh 4 n L [(dC,.ref 2),(av,v),(fB,a),(eE,w),(gZ,i)] Q' s)
def lw6 (n:Nat) (L:List MV) (Q':aq) (v:MV) (sh:Sh) (z:MV) (x:MV) (s:St):Prop:=jI Wt (cO n) ml (gh (aa wz 5)) x [(bS,.fl L),(dC,.ref 2),(av,v),(fB,.int sh.af),(eE,.int sh.w),(gZ,.int sh.ind),(eI,z)] s fun loc s=>sR n ml (wz.drop 6) loc s Q'
variable {a w i d x y:Int}{b:MV}{sh:Sh}{K:LW}
theorem la0:sR n ml wz [(bS,.fl L)] st Q'=bs n (.fn 597) [.fl L] st (lw1 n L Q'):=by kernel_rfl
theorem la1:lw1 n L Q' (.ref 2) s=bs n (.fn 625) [.ref 2] s (ZJ n L Q'):=by kernel_rfl
theorem la2:ZJ n L Q' v s=bs n (.fn 604) [.ref 2,.int 50] s (lw3 n L Q' v):=by kernel_rfl
theorem la3:lw3 n L Q' v (.int d) s=bs n (.fn 604) [.ref 2,.int 3] s (lw4 n L Q' v (.int (45+d))):=by kernel_rfl
theorem la4 {a w:MV}:Vh 3 n L [(dC,.ref 2),(av,v),(fB,a),(eE,w)] Q' s=bs n (.fn 604) [.ref 2,.int 2] s (lw5 n L Q' v a w):=by kernel_rfl
theorem la5:Vh 4 n L [(dC,.ref 2),(av,v),(fB,.int sh.af),(eE,.int sh.w),(gZ,.int sh.ind)] Q' s=(fun Z=>aI (decide (sh.af > 0)) (Z (.fl [.int sh.w,.int (sh.w - sh.ind)])) (Z (.fl [.int (sh.w - sh.ind),.int sh.w]))) fun z=>bs n (.fn 632) [.ref 2,v] s (lw6 n L Q' v sh z):=by kernel_rfl
theorem la6:lw6 n K.L Q' (cH K.S) K.sh (.fl [.int K.z0,.int K.z1]) (.tup [.fl K.R,.fl K.N,.fl K.C,.fl K.D]) ⟨c2 K.x K.y,K.u⟩=Q' .next K.loc ⟨K.l0,K.u⟩:=by kernel_rfl
noncomputable def LW.lc (K:LW):aF:=K.loc ++ [(cT,r8)]
noncomputable def LW.l (K:LW) (kl X:List MV):List MO:=[.cell (some (.ref 3)),.cell (some (.fl K.D)),.list [.int K.x,.int K.y],.list kl,.list X]
noncomputable def LW.h (K:LW) (kl X:List MV):St:=⟨K.l kl X,K.u⟩
noncomputable def mR (R N:List MV) (tol x:Int) (last:Bool) (mc:Int):MV:=.tup [.fl R,.fl N,.int tol,.int x,.bool last,.int mc]
noncomputable def LW.lp (K:LW):aF:=K.lc ++ [(oK,.ref 4)]
noncomputable abbrev sfW (j n:Nat) (loc:aF) (st:St) (Q':aq):Prop:=II Wt (cO n) ml (aa eQ j) loc st Q'
theorem kC {fr:cA}{a:Stmt}{r:List Stmt}{loc:aF}:sR n fr (a :: r) loc st Q'=II Wt (cO n) fr a loc st (gy n fr r Q'):=by kernel_rfl
theorem iG {fr:cA}{r:List Stmt}{loc:aF}:gy n fr r Q' .next loc st=sR n fr r loc st Q':=rfl
theorem HR {fr:cA}{r:List Stmt}{loc:aF}:gy n fr r Q' (.ret v) loc st=Q' (.ret v) loc st:=rfl
theorem RS:eQ=[aa eQ 0,aa eQ 1,aa eQ 2,aa eQ 3,aa eQ 4,aa eQ 5]:=by kernel_rfl
theorem lb0:sfW 0 n K.lc ⟨K.l0,K.u⟩ Q'=aI (decide (K.S.pretol≥0)) (Q' .next K.lp (K.h [] [mR K.R K.N K.S.pretol 0 false 0])) (Q' .next K.lp (K.h [] [])):=by kernel_rfl
theorem lb1 {X:List MV}:sfW 1 n K.lp (K.h [] X) Q'=bW (X.length<100000) (Q' .next K.lp (K.h [] (aL X (mR K.C K.D K.S.tol 0 (decide (K.S.emer≤0)) 1)))):=by kernel_rfl
theorem lb2 {X:List MV}:sfW 2 n K.lp (K.h [] X) Q'=bW (X.length<100000) (Q' .next K.lp (K.h [] (aL X (mR K.C K.D K.S.tol K.S.emer true 1)))):=by kernel_rfl
def LW.b2 (n:Nat) (K:LW) (Q':aq) (v:MV) (s:St):Prop:=jI Wt (cO n) ml (gh (aa eQ 3)) v K.lp s fun loc s=>Q' .next loc s
def LW.b1 (n:Nat) (K:LW) (Q':aq) (v:MV) (s:St):Prop:=bs n (.fn 590) [.fl K.N,cH K.S,v,r8] s (K.b2 n Q')
theorem lb3 {X:List MV}:sfW 3 n K.lp (K.h [] X) Q'=bW (K.N.length≤100000) (bs n (.cls 392) [.int K.sh.w,.int K.sh.ind,.int K.sh.af] (K.h [] X) (K.b1 n Q')):=by kernel_rfl
noncomputable def ZM (n:Nat) (fr:cA) (s:Stmt) (d:Option (List MO)) (ns:List Str) (I:d8) (X:List MV) (Q:aq):aq:=fun fl loc st=>match fl with
  | .next=>qg d I ns loc st fun loc st=>HX n fr s d ns I X loc st Q
  | .cont=>qg d I ns loc st fun loc st=>HX n fr s d ns I X loc st Q
  | .brk=>ju (cutL ns loc) fun loc=>Q .next loc st
  | .ret v=>Q (.ret v) loc st
noncomputable abbrev foS:Stmt:=aa eQ 4
noncomputable abbrev foB:List Stmt:=cw foS
noncomputable def foN:List Str:=[bS,dC,av,fB,eE,gZ,eI,fg,ny,iE,cT,oK,bz,kT]
structure LF where
  K:LW
  kl:List MV
  X:List MV
  F:List MV
  A:List MV
  Q':aq
noncomputable def LF.loc (G:LF):aF:=G.K.lc ++ [(oK,.ref 4),(bz,.fl G.F),(kT,.fl G.A)]
@[irreducible] noncomputable def LF.f (n:Nat) (G:LF) (Y:List MV):Prop:=HX n ml foS (some (G.K.l G.kl G.X)) foN (.lst 4 G.X) Y G.loc (G.K.h G.kl G.X) G.Q'
noncomputable def LF.T (n:Nat) (G:LF) (Y:List MV):aq:=ZM n ml foS (some (G.K.l G.kl G.X)) foN (.lst 4 G.X) Y G.Q'
noncomputable def LF.lo (G:LF) (R N:List MV) (tol x:Int) (last:Bool) (mc:Int):aF:=G.loc ++ [(pe,.fl R),(mI,.fl N),(bo,.int tol),(kL,.int x),(fJ,.bool last),(kX,.int mc)]
theorem lb4 {F A:List MV}:K.b2 n Q' (.tup [.fl F,.fl A]) s=Q' .next (LF.loc ⟨K,[],[],F,A,Q'⟩) s:=by kernel_rfl
theorem lb5 {G:LF}:sfW 4 n G.loc (G.K.h G.kl G.X) G.Q'=G.f n G.X:=by kernel_rfl
structure LT where
  G:LF
  Y:List MV
  R:List MV
  N:List MV
  tol:Int
  x:Int
  last:Bool
  mc:Int
noncomputable def LT.lo (W:LT) (v:MV):aF:=W.G.loc ++ [(pe,.fl W.R),(mI,.fl W.N),(bo,.int W.tol),(kL,.int W.x),(fJ,.bool W.last),(kX,.int W.mc),(cJ,v)]
def LT.d2 (n:Nat) (W:LT) (v b:MV) (s:St):Prop:=dF b fun c=>aI c (sR n ml (cw (aa foB 1)) (W.lo v) s (gy n ml [] (W.G.T n W.Y))) (gy n ml [] (W.G.T n W.Y) .next (W.lo v) s)
def LT.d1 (n:Nat) (W:LT) (v:MV) (s:St):Prop:=bs n (.fn 691) [v,.bool W.last] s (W.d2 n v)
def LT.ret (W:LT) (v:MV) (s:St):Prop:=W.G.Q' (.ret v) (W.lo (.ref 7)) s
def LT.d3 (n:Nat) (W:LT) (v:MV) (s:St):Prop:=dF v fun c=>aI c (bs n (.fn 696) [.ref 7,.fl W.G.A] s W.ret) (W.ret v s)
def LT.d4 (n:Nat) (W:LT) (v:MV) (s:St):Prop:=dF v fun b=>aI (!b) (W.ret (.bool false) s) (bs n (.fn 611) [.fl W.G.F,.fl W.N] s (W.d3 n))
noncomputable def LF.th (G:LF) (T:Tl) (cs:List (Int × Int)) (hs:List Int) (sn:List (Int × MV)) (ls:List (Int × Int)):TH:=⟨T,.cell (some (.ref 3)),.cell (some (.fl G.K.D)),.list [.int G.K.x,.int G.K.y],.list G.kl,.list G.X,cs,hs,sn,ls,G.K.u⟩
variable {W:LT}{T:Tl}{cs:List (Int × Int)}{hs:List Int}{sn:List (Int × MV)}{ls:List (Int × Int)}
theorem lf1:W.G.f n (mR W.R W.N W.tol W.x W.last W.mc :: W.Y)=bs n (.fn 637) [.fl W.R,cH W.G.K.S,.fl [.int W.G.K.z0,.int W.G.K.z1],.int W.tol,.int W.x] (W.G.K.h W.G.kl W.G.X) (W.d1 n):=by kernel_rfl
theorem lf2:W.d2 n (.ref 7) (.bool false) ((W.G.th T cs hs sn ls).st false)=((MO.cell (some (.ref 3))=MO.cell (some (.ref 3))∧MO.cell (some (.fl W.G.K.D))=MO.cell (some (.fl W.G.K.D))∧True∧True∧True∧True)∧some (MO.list W.G.X)=some (MO.list W.G.X)∧W.G.f n W.Y):=by kernel_rfl
theorem lf3 {K:LW}{X Y R N F A:List MV}{tol x:Int}{last:Bool}:LT.d2 n ⟨⟨K,[],X,F,A,Q'⟩,Y,R,N,tol,x,last,0⟩ (.ref 7) (.bool true) ((LF.th ⟨K,[],X,F,A,Q'⟩ T cs hs sn ls).st false)=bs n (.fn 611) [.fl F,.fl N] ((LF.th ⟨K,[],X,F,A,Q'⟩ T cs hs sn ls).st false) (LT.d3 n ⟨⟨K,[],X,F,A,Q'⟩,Y,R,N,tol,x,last,0⟩):=by kernel_rfl
theorem lf4 {K:LW}{X Y R N V F A:List MV}{tol x:Int}{last:Bool}:LT.d2 n ⟨⟨K,[.fl V],X,F,A,Q'⟩,Y,R,N,tol,x,last,1⟩ (.ref 7) (.bool true) ((LF.th ⟨K,[.fl V],X,F,A,Q'⟩ T cs hs sn ls).st false)=bs n (.fn 611) [.fl V,.fl K.N] ((LF.th ⟨K,[.fl V],X,F,A,Q'⟩ T cs hs sn ls).st false) (LT.d4 n ⟨⟨K,[.fl V],X,F,A,Q'⟩,Y,R,N,tol,x,last,1⟩):=by kernel_rfl
theorem lf5:W.d3 n (.bool true) s=bs n (.fn 696) [.ref 7,.fl W.G.A] s W.ret:=by kernel_rfl
theorem lf6:W.d4 n (.bool true) s=bs n (.fn 611) [.fl W.G.F,.fl W.N] s (W.d3 n):=by kernel_rfl
theorem a1M {K:LW}{X V kl:List MV}{Q:aE}(h1:V.length≤1000) (h2:kl.length≤1000) (h3:K.D.length≤1000) (h:Q (.fl K.D) (K.h (aL kl (.fl V)) X)):bs (n+1) r8 [.fl V] (K.h kl X) Q :=
  (show bs (n+1) r8 [.fl V] (K.h kl X) Q=bW (V.length≤100000) (bW (kl.length<100000) (bW (K.D.length≤100000) (Q (.fl K.D) (K.h (aL kl (.fl V)) X)))) by kernel_rfl).mpr (cf (by omega) (cf (by omega) (cf (by omega) h)))
end
end
section
set_option maxRecDepth 10000
section
variable {Q':aq}{L:List MV}{v w:MV}{s:St}{d:Int}{sh:Sh}
theorem l4c {m:Nat}(h0:0≤d) (h1:d<3) (h:∀ a:Int,a=1∨a=-1→Vh 3 m L [(dC,.ref 2),(av,v),(fB,.int a),(eE,w)] Q' s):lw4 m L Q' v w (.int d) s:=by
  have e:d=0∨d=1∨d=2:=by lia
  rcases e with rfl | rfl | rfl
  · exact aR (v:=.int 1) rfl (d9 (Ie (by decide)) (h 1 (.inl rfl)))
  · exact aR (v:=.int 1) rfl (d9 (Ie (by decide)) (h 1 (.inl rfl)))
  · exact aR (v:=.int (-1)) rfl (d9 (Ie (by decide)) (h (-1) (.inr rfl)))
theorem l5c {m:Nat}{a:MV}(h0:0≤d) (h1:d<2) (h:∀ i:Int,i=0∨i=9→Vh 4 m L [(dC,.ref 2),(av,v),(fB,a),(eE,w),(gZ,.int i)] Q' s):lw5 m L Q' v a w (.int d) s:=by
  have e:d=0∨d=1:=by omega
  rcases e with rfl | rfl
  · exact aR (v:=.int 0) rfl (d9 (Ie (by decide)) (h 0 (.inl rfl)))
  · exact aR (v:=.int 9) rfl (d9 (Ie (by decide)) (h 9 (.inr rfl)))
structure wX (K:LW):Prop where
  S:H6 K.S
  sh:jh K.sh K.z0 K.z1
  N:∃ f,lA K.S.hyph 20 10 f K.R K.N
  D:∃ f,lA K.S.hyph 20 10 f K.C K.D
theorem Zz {l:List Int}(hl:l.length≤1000) (h:∀ K:LW,K.L=l.map .int→wX K→Q' .next K.loc ⟨K.l0,K.u⟩):sR 18 ml wz [(bS,.fl (l.map .int))] ⟨[.cell none,.cell none],0⟩ Q':=by
  refine la0.mpr (X4 (n:=17) hl fun p o=>la1.mpr (wT (n:=16) o fun S x y hS o=>la2.mpr (ow (n:=17) (by decide) (by decide) o fun d1 x y a1 b1 o=>la3.mpr (ow (n:=17) (by decide) (by decide) o fun d2 x y a2 b2 o=>l4c a2 b2 fun af haf=>la4.mpr (ow (n:=17) (by decide) (by decide) o fun d3 x y a3 b3 o=>l5c a3 b3 fun i hi=>?_)))))
  have fin:∀ {z0 z1:Int},jh ⟨45+d1,i,af⟩ z0 z1→bs 18 (.fn 632) [.ref 2,cH S] ⟨c2 x y,0⟩ (lw6 18 (l.map .int) Q' (cH S) ⟨45+d1,i,af⟩ (.fl [.int z0,.int z1])):=fun {z0 z1} hh =>
    RC (n:=14) (by decide) o fun x y u f f' R N C D o n c=>la6 (K:=⟨l.map .int,S,⟨45+d1,i,af⟩,z0,z1,R,N,C,D,x,y,u⟩) |>.mpr (h _ rfl ⟨hS,hh,⟨f,n⟩,⟨f',c⟩⟩)
  have hw:45≤45+d1∧45+d1≤94:=by omega
  refine la5 (sh:=⟨45+d1,i,af⟩) |>.mpr (bX (fun q=>fin ⟨hw,hi,.inl ⟨?_,rfl,rfl⟩⟩) fun q=>fin ⟨hw,hi,.inr ⟨?_,rfl,rfl⟩⟩)
  · have q:af > 0:=q
    show af=1
    omega
  · have q:¬ af > 0:=q
    show af=-1
    omega
noncomputable def Er (K:LW) (ds:List Nd) (x tol:Int):Tl:=jG ds K.S x K.z0 K.z1 tol
noncomputable def qj (K:LW) (ds:List Nd) (x tol:Int) (last:Bool):Bool:=fq (Er K ds x tol) (iV (Er K ds x tol)) last
theorem a7d {W:LT}{n:Nat}{T:Tl}{cs:List (Int × Int)}{hs:List Int}{sn:List (Int × MV)}{ls:List (Int × Int)}(e1:W.G.kl=[]) (e2:W.mc=0) (h:bs n (.fn 611) [.fl W.G.F,.fl W.N] ((W.G.th T cs hs sn ls).st false) (W.d3 n)):W.d2 n (.ref 7) (.bool true) ((W.G.th T cs hs sn ls).st false):=by
  obtain ⟨⟨K,kl,X,F,A,Q'⟩,Y,R,N,tol,x,last,mc⟩:=W
  obtain rfl:kl=[]:=e1
  obtain rfl:mc=0:=e2
  exact lf3.mpr h
theorem a4s {W:LT}{n:Nat}{T:Tl}{cs:List (Int × Int)}{hs:List Int}{sn:List (Int × MV)}{ls:List (Int × Int)}{V:List MV}(e1:W.G.kl=[.fl V]) (e2:W.mc=1) (h:bs n (.fn 611) [.fl V,.fl W.G.K.N] ((W.G.th T cs hs sn ls).st false) (W.d4 n)):W.d2 n (.ref 7) (.bool true) ((W.G.th T cs hs sn ls).st false):=by
  obtain ⟨⟨K,kl,X,F,A,Q'⟩,Y,R,N,tol,x,last,mc⟩:=W
  obtain rfl:kl=[.fl V]:=e1
  obtain rfl:mc=1:=e2
  exact lf4.mpr h
theorem E2 {W:LT}{ds:List Nd}(ok:wX W.G.K) (hg:gm 20 10 ds) (hx:0≤W.x∧W.x≤60) (eR:W.R=dj W.G.K.S.hyph false ds) (no:qj W.G.K ds W.x W.tol W.last=false→W.G.f 18 W.Y)
    (yes:qj W.G.K ds W.x W.tol W.last=true→(∃ M:NL,M.length≤1000∧W.N=cz M)∧W.G.F=W.N∧(∃ bs,bs.length≤1000∧Hj (Er W.G.K ds W.x W.tol) (-1) bs∧W.G.A=rf bs∧n6 (Er W.G.K ds W.x W.tol) bs)∧((W.G.kl=[]∧W.mc=0)∨(W.G.kl=[.fl W.G.K.N]∧W.mc=1∧∃ M:NL,M.length≤1000∧W.G.K.N=cz M)))
    (hret:∀ loc s,W.G.Q' (.ret (.bool true)) loc s):W.G.f 18 (mR W.R W.N W.tol W.x W.last W.mc :: W.Y):=by
  have hT:tc (Er W.G.K ds W.x W.tol):=To hg (by decide) ok.S hx ok.sh.z.1 ok.sh.z.2
  have hlb:(bC (Er W.G.K ds W.x W.tol)).length≤14:=Nat.le_trans (eV (hy:=W.G.K.S.hyph) ds 0 false) (Nat.le_trans (Nat.succ_le_succ hg.nb) (by decide))
  have htol:(Er W.G.K ds W.x W.tol).tol≤10000:=aC (C:=fun z:Int=>z≤10000) (fun _=>Int.le_refl _) fun q=>Int.not_lt.mp q
  refine lf1.mpr ?_
  rw [eR]
  refine Yb (N:=14) (H:=W.G.th (Er W.G.K ds W.x W.tol) [] [] [] []) hT hlb (by decide) rfl rfl fun cs hs sn oT oL=>xd (n:=16) oL ?_
  show W.d2 18 (.ref 7) (.bool (qj W.G.K ds W.x W.tol W.last)) ((W.G.th (Er W.G.K ds W.x W.tol) cs hs sn (iV (Er W.G.K ds W.x W.tol))).st false)
  cases e:qj W.G.K ds W.x W.tol W.last with
  | false=>exact lf2.mpr ⟨⟨rfl,rfl,⟨⟩,⟨⟩,⟨⟩,⟨⟩⟩,rfl,no e⟩
  | true =>
    obtain ⟨⟨M,lM,eM⟩,eF,⟨bs,lb,pw,eA,gp⟩,hk⟩:=yes e
    have d3:∀ {V:NL},V.length≤1000→Sq.bs 18 (.fn 611) [.fl W.G.F,.fl W.N] ((W.G.th (Er W.G.K ds W.x W.tol) cs hs sn (iV (Er W.G.K ds W.x W.tol))).st false) (W.d3 18):=fun _=>by
      rw [eF,eM]
      refine Ng (n:=17) lM (lf5.mpr ?_)
      rw [eA]
      exact (SC (n:=14) oT oL htol pw lb gp fun sn=>hret _ _)
    rcases hk with ⟨e1,e2⟩ | ⟨e1,e2,M',lM',eN⟩
    · exact a7d e1 e2 (d3 lM)
    · refine a4s e1 e2 ?_
      have d4:=lf6.mpr (d3 lM)
      rw [eN]
      exact Ng (n:=17) lM' d4
end
end
section
set_option maxRecDepth 10000
section
def JY (K:LW) (ds:List Nd) (x tol:Int) (A:List MV):Prop:=∃ bs,bs.length≤1000∧Hj (Er K ds x tol) (-1) bs∧A=rf bs∧n6 (Er K ds x tol) bs
theorem vU {K:LW}{ds:List Nd}{x tol:Int}{last:Bool}(ok:wX K) (hg:gm 20 10 ds) (hx:0≤x∧x≤60):Il K.S K.sh ds tol x last∧(xt K.S K.sh ds tol x last=none→last=false∧qj K ds x tol last=false)∧∀ ps,xt K.S K.sh ds tol x last=some ps→qj K ds x tol last=true∧JY K ds x tol (ps.map .int):=by
  obtain ⟨o,a⟩:=Qp (tol:=tol) last hg ok.S ok.sh hx
  refine ⟨o,fun e=>by rw [e] at a; exact a,fun ps e=>?_⟩
  rw [e] at a
  obtain ⟨a1,bs,b1,b2,rfl,b3⟩:=a
  exact ⟨a1,bs,b1,b2,List.map_map,b3⟩
variable {K:LW}{Q':aq}{M V:NL}{X Y A:List MV}{x tol:Int}{last:Bool}
theorem Md (ok:wX K) (hg:gm 20 10 (cg M)) (eN:K.N=cz M) (eR:K.R=dj K.S.hyph false (cg M)) (kl:List MV) {F:List MV}(no:qj K (cg M) 0 tol false=false→LF.f 18 ⟨K,kl,X,F,A,Q'⟩ Y) (yes:qj K (cg M) 0 tol false=true→kl=[]∧F=K.N∧JY K (cg M) 0 tol A) (hret:∀ loc s,Q' (.ret (.bool true)) loc s):LF.f 18 ⟨K,kl,X,F,A,Q'⟩ (mR K.R K.N tol 0 false 0 :: Y) :=
  E2 (W:=⟨⟨K,kl,X,F,A,Q'⟩,Y,K.R,K.N,tol,0,false,0⟩) ok hg (show (0:Int)≤0∧(0:Int)≤60 by decide) eR no (fun q=>⟨⟨M,Nat.le_trans (by rw [← fM]; exact hg.len) (by decide),eN⟩,(yes q).2.1,(yes q).2.2,.inl ⟨(yes q).1,rfl⟩⟩) hret
theorem wv (ok:wX K) (hg:gm 20 10 (cg V)) (hm:gm 20 10 (cg M)) (eN:K.N=cz M) (eD:K.D=cz V) (eC:K.C=dj K.S.hyph false (cg V)) (hx:0≤x∧x≤60) (no:qj K (cg V) x tol last=false→LF.f 18 ⟨K,[.fl K.N],X,K.D,A,Q'⟩ Y) (yes:qj K (cg V) x tol last=true→JY K (cg V) x tol A) (hret:∀ loc s,Q' (.ret (.bool true)) loc s):LF.f 18 ⟨K,[.fl K.N],X,K.D,A,Q'⟩ (mR K.C K.D tol x last 1 :: Y) :=
  E2 (W:=⟨⟨K,[.fl K.N],X,K.D,A,Q'⟩,Y,K.C,K.D,tol,x,last,1⟩) ok hg hx eC no (fun q=>⟨⟨V,Nat.le_trans (by rw [← fM]; exact hg.len) (by decide),eD⟩,rfl,yes q,.inr ⟨rfl,rfl,M,Nat.le_trans (by rw [← fM]; exact hm.len) (by decide),eN⟩⟩) hret
theorem jh.m6 {sh:Sh}{z0 z1:Int}(h:jh sh z0 z1):M6 sh.w∧M6 sh.ind∧M6 (sh.w - sh.ind.natAbs)∧M6 sh.af:=by
  rw [Int.natAbs_of_nonneg h.i0.1]
  exact ⟨⟨Int.le_trans (by decide) h.w.1,Int.le_trans h.w.2 (by decide)⟩,⟨Int.le_trans (by decide) h.i0.1,Int.le_trans h.i0.2 (by decide)⟩,⟨Int.le_trans (by decide) (Int.sub_le_sub h.w.1 h.i0.2),Int.le_trans (Int.sub_le_sub h.w.2 h.i0.1) (by decide)⟩,h.af.elim (fun z=>by rw [z.1]; exact ⟨by decide,by decide⟩) fun z=>by rw [z.1]; exact ⟨by decide,by decide⟩⟩
theorem JE {ds:List Nd}{a b:Nat}(g:gm a b ds):∀ d∈ds,yI d:=fun d m=>match d,g.all d m with
  | .skip _,h=>h.2.2.1
  | .box _,_=>trivial
  | .pen,_=>trivial
  | .disc,_=>trivial
theorem a0t (ok:wX K) (hret:∀ loc s,Q' (.ret (.bool true)) loc s):sR 18 ml eQ K.lc ⟨K.l0,K.u⟩ Q':=by
  obtain ⟨_,M,⟨eN,eR⟩,_,gM⟩:=ok.N
  obtain ⟨_,V,⟨eD,eC⟩,_,gV⟩:=ok.D
  obtain ⟨s1,s2,s3,s4,s5,s6,s7,s8,s9,s10⟩:=qX ok.S
  obtain ⟨o0,n0,a0⟩:=vU (x:=0) (tol:=K.S.pretol) (last:=false) ok gM (by decide)
  obtain ⟨o1,n1,a1⟩:=vU (x:=0) (tol:=K.S.tol) (last:=decide (K.S.emer≤0)) ok gV (by decide)
  obtain ⟨o2,n2,a2⟩:=vU (x:=K.S.emer) (tol:=K.S.tol) (last:=true) ok gV s4
  have m6:=ok.sh.m6
  have lM:M.length≤20:=by rw [← fM]; exact gM.len
  have lV:V.length≤20:=by rw [← fM]; exact gV.len
  have lN:K.N.length≤20:=by rw [eN,cE]; exact lM
  have lD:K.D.length≤20:=by rw [eD,cE]; exact lV
  rw [RS,kC]
  have go:∀ pr:List MV,(pr=[mR K.R K.N K.S.pretol 0 false 0]∧K.S.pretol≥0)∨(pr=[]∧¬ K.S.pretol≥0)→gy 18 ml [aa eQ 1,aa eQ 2,aa eQ 3,aa eQ 4,aa eQ 5] Q' .next K.lp (K.h [] pr):=fun pr hp=>by
    have lp:pr.length≤1:=by
      rcases hp with ⟨rfl,_⟩ | ⟨rfl,_⟩
      · exact Nat.le_refl _
      · exact Nat.zero_le _
    rw [iG,kC]
    refine lb1.mpr (cf (Nat.lt_of_le_of_lt lp (by decide)) ?_)
    rw [iG,kC]
    refine lb2.mpr (cf (by rw [dA]; exact Nat.lt_of_le_of_lt (Nat.add_le_add_right lp 1) (by decide)) ?_)
    rw [iG,kC]
    refine lb3.mpr (cf (Nat.le_trans lN (by decide)) (Ro (n:=17) m6.1 m6.2.1 m6.2.2.1 m6.2.2.2 ?_))
    generalize hX:aL (aL pr (mR K.C K.D K.S.tol 0 (decide (K.S.emer≤0)) 1)) (mR K.C K.D K.S.tol K.S.emer true 1)=X
    have lq:∀ {kl F A:List MV},LF.f 18 ⟨K,kl,X,F,A,gy 18 ml [aa eQ 5] Q'⟩ X→K.b2 18 (gy 18 ml [aa eQ 4,aa eQ 5] Q') (.tup [.fl F,.fl A]) (K.h kl X):=fun {kl F A} h=>by
      refine lb4.mpr ?_
      rw [iG,kC]
      exact lb5 (G:=⟨K,kl,X,F,A,gy 18 ml [aa eQ 5] Q'⟩) |>.mpr h
    have hr:∀ loc s,gy 18 ml [aa eQ 5] Q' (.ret (.bool true)) loc s:=fun loc s=>by rw [HR]; exact hret loc s
    show bs 18 (.fn 590) [.fl K.N,cH K.S,mJ K.sh,r8] (K.h [] X) (K.b2 18 (gy 18 ml [aa eQ 4,aa eQ 5] Q'))
    have late:∃ A,YF (Cz K.S K.sh (cg V))=.fl A∧LF.f 18 ⟨K,[.fl K.N],X,K.D,A,gy 18 ml [aa eQ 5] Q'⟩ [mR K.C K.D K.S.tol 0 (decide (K.S.emer≤0)) 1,mR K.C K.D K.S.tol K.S.emer true 1]:=by
      unfold Cz
      cases e1:xt K.S K.sh (cg V) K.S.tol 0 (decide (K.S.emer≤0)) with
      | some p1=>exact ⟨_,rfl,wv ok gV gM eN eD eC (by decide) (fun q=>absurd ((a1 p1 e1).1.symm.trans q) Bool.noConfusion) (fun _=>(a1 p1 e1).2) hr⟩
      | none =>
        cases e2:xt K.S K.sh (cg V) K.S.tol K.S.emer true with
        | none=>cases (n2 e2).1
        | some p2=>exact ⟨_,rfl,wv ok gV gM eN eD eC (by decide) (fun _=>wv ok gV gM eN eD eC s4 (fun q=>absurd ((a2 p2 e2).1.symm.trans q) Bool.noConfusion) (fun _=>(a2 p2 e2).2) hr) (fun q=>absurd ((n1 e1).2.symm.trans q) Bool.noConfusion) hr⟩
    rw [eN]
    refine Q1 (n:=12) (L:=M) (C:=V) (st':=K.h [.fl K.N] X) (a:=aA mM) (b:=ay mM) (sc:=am mM) (cs:=X7) s1 (JE gM) (JE gV) (Nat.lt_of_le_of_lt lM (by decide)) (Nat.lt_of_le_of_lt lV (by decide)) (fun _=>o0) o1 o2 (fun Q h=>?_) (fun l hl e=>?_) fun e=>?_
    · rw [← eN]
      exact a1M (n:=16) (K:=K) (kl:=[]) (Nat.le_trans lN (by decide)) (Nat.zero_le _) (Nat.le_trans lD (by decide)) (by rw [eD]; exact h)
    · rcases hp with ⟨rfl,_⟩ | ⟨_,q⟩
      · rw [← eN]
        refine lq ?_
        rw [← hX]
        exact Md ok gM eN eR [] (fun q=>absurd ((a0 l e).1.symm.trans q) Bool.noConfusion) (fun _=>⟨rfl,rfl,(a0 l e).2⟩) hr
      · exact absurd hl q
    · obtain ⟨A,eA,la⟩:=late
      rw [eA,← eD]
      refine lq ?_
      rcases hp with ⟨rfl,q⟩ | ⟨rfl,_⟩
      · have h0:=(n0 (e q)).2
        rw [← hX] at la ⊢
        exact Md ok gM eN eR _ (fun _=>la) (fun z=>absurd (h0.symm.trans z) Bool.noConfusion) hr
      · rw [← hX] at la ⊢
        exact la
  exact lb0.mpr (bX (fun q=>go _ (.inl ⟨rfl,q⟩)) fun q=>go _ (.inr ⟨rfl,q⟩))
end
end
section
set_option maxRecDepth 100000
theorem MC {env:Env}{x y z u:Str}{a b:Addr}{sc:Scope}(hn:sc.names=[(x,.local),(y,.free),(z,.free),(u,.globalImplicit)]) (h1:env.cells.lookup y=some a) (h2:env.cells.lookup z=some b):closureFor sc env=pure [(z,b),(y,a)]:=by
  unfold closureFor
  rw [hn]
  simp [sI h1,sI h2]
theorem Tf:mM=.FunctionDef cT (aA mM) (ay mM) [] none [] (am mM) none cT ⟨615,4,617,30⟩:=by kernel_rfl
theorem Zv (P:Params):BB P 702=some (kJ):=by kernel_rfl
theorem a4S (P:Params):BB P 703=some (sH):=by kernel_rfl
theorem Fy {P:Params}{h:Heap}(e:h.get? 702=some (kJ)):CodeHd h 702 698:=⟨kJ,_,_,_,_,_,_,_,_,e,rfl,rfl,rfl,rfl,rfl,rfl,rfl,rfl,by decide⟩
theorem a1B (P:Params):nO (BB P mainGlobals) "__builtins__"=some (.ref 4):=by kernel_rfl
theorem b4 (P:Params):BB P 4=some (boot_o_4 P):=by kernel_rfl
theorem b4c (P:Params):(boot_o_4 P).cls=.type "module":=by kernel_rfl
theorem b4d (P:Params):(boot_o_4 P).dict=some builtinsNs:=by kernel_rfl
theorem b4e (P:Params):(boot_o_4 P).data=.plain:=by kernel_rfl
theorem ZO {h:Heap}{mg:Str→Option Value}{o:Obj}(e0:mg "__builtins__"=some (.ref 4)) (e:h.get? 4=some o) (e1:o.cls=.type "module") (e2:o.dict=some builtinsNs) (e3:o.data=.plain):h.BuiltinsAt mg 698:=⟨4,o,e0,by decide,by decide,by decide,e,e1,e2,e3⟩
noncomputable abbrev bL (p:Program) (w:World) (os:OsState):Bs:=⟨p,w,BB w.params,os⟩
noncomputable abbrev xL (p:Program) (w:World) (os:OsState) (A:Around) (cal:ms) (E:Value→Shared→Prop):Cx:=⟨bL p w os,A,Wt,cal,E⟩
section
variable {p:Program}{w:World}{os:OsState}{A:Around}{cal:ms}{E:Value→Shared→Prop}{G:Gh}{st:St}{s:Shared}
theorem ON {x:Addr}{o:Obj}(R:Ok (bL p w os) G st s) (e:BB w.params x=some o):s.heap.get? x=some o:=R.base e
theorem YR {G2:Gh}{x y z:Str}{i j k:Nat}{a b:Addr}(ne:bB x y=false) (h1:∃ o,G2 a=.cur i o) (h2:∃ o,G2 b=.cur j o) (h:look z [(x,i),(y,j)]=some k):∃ c o,List.lookup z [(x,a),(y,b)]=some c∧G2 c=.cur k o:=by
  rw [b8] at h
  by_cases e:z=x
  · subst e
    rw [List.lookup_cons_self] at h ⊢
    obtain rfl:=Option.some.inj h
    exact h1.imp' (fun _=>a) fun o g=>by exact ⟨o,rfl,g⟩
  · rw [List.lookup_cons,beq_false_of_ne e] at h ⊢
    by_cases e2:z=y
    · subst e2
      have h:List.lookup z [(z,j)]=some k:=h
      rw [List.lookup_cons_self] at h
      obtain rfl:=Option.some.inj h
      obtain ⟨o,g⟩:=h2
      exact ⟨b,o,List.lookup_cons_self,g⟩
    · have h:List.lookup z [(y,j)]=some k:=h
      rw [List.lookup_cons,beq_false_of_ne e2] at h
      cases h
variable {env:Env}{loc:aF}{Q:aF→St→Prop}{Ψ:Flow→Shared→Prop}
def a1P (p:Program) (w:World) (os:OsState) (G:Gh) (env:Env) (Q:aF→St→Prop) (Ψ:Flow→Shared→Prop):Prop:=∀ s' G' st' loc' ps,Ok (bL p w os) G' st' s'→aV (fun a=>a=698∨a=env.locals) G G'→bJ G' ml env loc'→G' 698=.prv (tabObj ps)→Q loc' st'→Ψ .next s'
theorem M5 {h':Heap}{c':Addr}{oc fo:Obj}{ps:Array Value}{tk:Nat}(R:Ok (bL p w os) G st s) (F:bJ G ml env loc) (hP:G 698=.prv (tabObj #[])) (hE:env.locals≠698) (hx:Heap.ExtBut 698 s.heap h') (hge:s.heap.objs.size≤c') (hlt:c'<h'.objs.size) (hoc:h'.get? c'=some oc) (htb:h'.get? 698=some (tabObj ps)) (hfr:fo.isFreed=false)
    (V:∀ G2:Gh,G2 h'.objs.size=.frz fo→G2 c'=.frz oc→aV (fun a=>a=698) G G2→aw G2 r8 (.ref h'.objs.size)) (h:iC ml cT r8 loc st Q) (k:a1P p w os G env Q Ψ):wp (xL p w os A cal E) (storeName env cT (.ref h'.objs.size)) (fun _=>Ψ .next) { s with heap:=h'.push fo,toks:=tk }:=by
  have gc:G c'=.no:=R.rep.no hge
  have gf:G h'.objs.size=.no:=R.rep.no (Nat.le_trans hge (Nat.le_of_lt hlt))
  have l8:698<c':=Nat.lt_of_lt_of_le (Heap.lt_size (R.prv hP)) hge
  have X:=R.rep.ov (L:=fun a=>a=698) (h':=h'.push fo) (l:=[(698,.prv (tabObj ps)),(c',.frz oc),(h'.objs.size,.frz fo)])
    ⟨⟨by rw [hP]; rfl,Heap.get?_push_of_some _ htb⟩,⟨by rw [gc]; rfl,Heap.get?_push_of_some _ hoc⟩,⟨by rw [gf]; rfl,Heap.get?_push_size _ hfr⟩,trivial⟩
    (fun c o q e=>Heap.get?_push_of_some _ (hx c o q.1 e)) ⟨.inl rfl,.inr gc,.inr gf,trivial⟩
  have e8:=bg G 698 (.prv (tabObj ps)) [(c',.frz oc),(h'.objs.size,.frz fo)]
  have ec:G.ov [(698,.prv (tabObj ps)),(c',.frz oc),(h'.objs.size,.frz fo)] c'=.frz oc:=(bp G _ _ (Nat.ne_of_gt l8)).trans (bg ..)
  have ef:G.ov [(698,.prv (tabObj ps)),(c',.frz oc),(h'.objs.size,.frz fo)] h'.objs.size=.frz fo:=(bp G _ _ (Nat.ne_of_gt (Nat.lt_trans l8 hlt))).trans ((bp G _ _ (Nat.ne_of_gt hlt)).trans (bg ..))
  exact g9 (X:=xL p w os A cal E) (R.heap X.1 tk) (F.ext X.2 hE) (V _ ef ec X.2) h fun s' G' st' loc' R' Y F' q=>k s' G' st' loc' ps R' (X.2.or Y) F' (Y.prv e8 fun e=>hE e.symm) q
theorem RU (R:Ok (bL p w os) G st s) (F:bJ G ml env loc) (hcode:env.code=.ref 702) (hP:G 698=.prv (tabObj #[])) (hE:env.locals≠698) (h:iC ml cT r8 loc st Q) (k:a1P p w os G env Q Ψ):wp (xL p w os A cal E) (exec mM env) Ψ s:=by
  obtain ⟨ca,oa,a1,a2⟩:=F.cells rW 0 (by kernel_rfl) (.inl (by kernel_rfl))
  obtain ⟨cb,ob,b1,b2⟩:=F.cells eT 1 (by kernel_rfl) (.inl (by kernel_rfl))
  obtain ⟨og,g3,n3⟩:=lI (WB w.params)
  have hB:s.heap.BuiltinsAt (nO (BB w.params mainGlobals)) 698:=ZO (o:=boot_o_4 w.params) (a1B w.params) (ON R (b4 w.params)) (b4c w.params) (b4d w.params) (b4e w.params)
  generalize nO (BB w.params mainGlobals)=mg at *
  rw [Tf]
  refine nestDef_K (by kernel_rfl) (by kernel_rfl) rfl ?_
  refine makeFunction_K (mg:=mg) (clos:=[(eT,cb),(rW,ca)]) (MC (x:=ch) (u:=P1) (by kernel_rfl) a1 b1) F.glob (cW.mpr ⟨og,ON R g3,n3⟩) hcode (Fy (P:=w.params) (ON R (Zv w.params))) (R.prv hP) trivial rfl (by decide) hB fun c' ctv doc h' tk hx hge hlt hrec htb=>?_
  obtain ⟨c2,oc,vs,t,e2,hoc,hd,hv⟩:=hrec
  obtain rfl:=Value.ref.inj e2
  exact M5 R F hP hE hx hge hlt hoc htb rfl (fun G2 ef ec X=>⟨_,_,oc,_,c',rfl,ef,ec,⟨rfl,rfl,rfl,rfl,rfl,rfl,rfl,rfl,rfl,vs,t,hd,hv⟩,fun x i e=>YR (by kernel_rfl) (X.cur b2) (X.cur a2) e⟩) h k
end
end
section
set_option maxRecDepth 100000
section
theorem a1s {X:Cx}{r:List Stmt}{fr:cA}{env:Env}{Ψ:Flow→Shared→Prop}{Q:aF→St→Prop}(K:g6 X):∀ (pre:List Stmt) {loc:aF}{st:St}{s:Shared}{G:Gh},Ok X.1 G st s→bJ G fr env loc→jx X.W X.cal fr pre loc st (fun fl loc st=>match fl with
      | .next=>Q loc st
      | _=>False) →
    (∀ G1 loc1 cr s1,Q loc1 cr→Ok X.1 G1 cr s1→aV (gT env.locals) G G1→bJ G1 fr env loc1→wp X (execs r env) Ψ s1)→wp X (execs (pre ++ r) env) Ψ s
  | [],loc,st,s,G,R,F,h,k=>k G loc st s h R (aV.refl _ _) F
  | x :: xs,loc,st,s,G,R,F,h,k=>wpAny_execs_cons (VT x X K R F h fun f s1 G1 cr loc1 fl R1 Y1 F1 V1 h=>uM (C:=fun f=>match f with | .next=>wp X (execs (xs ++ r) env) Ψ s1 | f=>Ψ f s1) (M:=fun fl=>match fl with | .next=>jx X.W X.cal fr xs loc1 cr (fun fl loc st=>match fl with | .next=>Q loc st | _=>False) | .brk=>False | .cont=>False | .ret v=>False) V1 h
      (fun h=>a1s K xs R1 F1 h fun G2 loc2 eG s2 q R2 Y2 F2=>k G2 loc2 eG s2 q R2 (Y1.trans Y2) F2) False.elim False.elim fun _ _ _ h=>h.elim)
variable {p:Program}{w:World}{os:OsState}{A:Around}{E:Value→Shared→Prop}{G:Gh}{s:Shared}
theorem Rj:iJ.body=wz ++ mM :: eQ:=by kernel_rfl
theorem K7 {P:Params}{o:Obj}{fd:FuncData}(h1:BB P 703=some o) (h2:o.data=.func fd):fd.code=.ref 702:=by
  rw [a4S] at h1
  cases h1
  have h2:Data.func _=.func fd:=h2
  cases h2
  rfl
theorem toB {cal:ms}{x:Addr}{o:Obj}(h:(xL p w os A cal E).B x=some o):BB w.params x=some o:=h
theorem a2y (hW:wP (bL p w os) Wt):rA (bL p w os) Wt 22 (cO 18):=(Pk hW 18).orc (rI hW) (rA.cal hW 3) (by decide) (by decide) NK J7
theorem QM (h1:A.handled=none) (h2:A.depth≤400) (h3:A.units≤100) {l:List Int}(hl:l.length≤1000) {Φ:Value→Shared→Prop}(R:Ok (bL p w os) G ⟨[],0⟩ s) (hP:G 698=.prv (tabObj #[])) {v:Value}(V:aw G (.fl (l.map .int)) v)
    (k:∀ s' G' st' ps,Ok (bL p w os) G' st' s'→aV (gT 698) G G'→G' 698=.prv (tabObj ps)→Φ (.bool true) s'):wp (xL p w os A (cO 18) E) (call (.ref 703) [v]) Φ s:=by
  have hW:=a2a p w os
  have run:∀ env E',g6 (xL p w os (A.deeper env) (cO 18) E'):=fun env E' =>
    have r:kf (A.deeper env) 22:=kf.deeper (m:=22) ⟨h1,by omega,by omega⟩ env
    r.xok hW (a2y hW _ E' r)
  have K:IL (xL p w os A (cO 18) E):=⟨a1u _,by have:recursionLimit=1000:=rfl; show A.depth<_; omega,run⟩
  obtain ⟨o,fd,hB,hfd,c⟩:=tu (Φ:=Φ) K (hW.fn 703 iJ (by kernel_rfl)) R (vs:=[v]) (args:=[.fl (l.map .int)]) ⟨V,trivial⟩
  have hc:=K7 (toB hB) hfd
  refine (c (l:=[(bS,.fl (l.map .int))]) (P':=fun cel st=>cel=X7∧st=⟨[.cell none,.cell none],0⟩) (by kernel_rfl)
    ((show ∀ L,qJ iJ.names iJ.dflts [.fl L]=some [(bS,.fl L)] from fun L=>by kernel_rfl) _)
    ((show ∀ L,dz iJ.scope.names [(bS,.fl L)] ⟨[],0⟩ [] (fun cel st=>cel=X7∧st=⟨[.cell none,.cell none],0⟩)=(X7=X7∧St.mk [.cell none,.cell none] 0=⟨[.cell none,.cell none],0⟩) from fun L=>by kernel_rfl) _ |>.mpr ⟨rfl,rfl⟩) ?_).2
  rintro env G1 cr s1 cel E' ⟨rfl,rfl⟩ R1 F1 Y1 hL hcode
  rw [hc] at hcode
  have hE:env.locals≠698:=fun e=>by rw [e,hP] at hL; cases hL
  have hP1:=Y1.prv hP id
  have F1:bJ G1 ml env [(bS,.fl (l.map .int))]:=(show ∀ L,cU iJ.scope [(bS,.fl L)]=[(bS,.fl L)] from fun L=>by kernel_rfl) (l.map .int) ▸ F1
  show wp (xL p w os (A.deeper env) (cO 18) E') (execs iJ.body env) _ s1
  rw [Rj]
  refine a1s (run env E') wz (Q:=fun loc st=>∃ K:LW,wX K∧loc=K.loc∧st=⟨K.l0,K.u⟩) R1 F1 (Zz hl fun K _ ok=>⟨K,ok,rfl,rfl⟩) fun G2 loc2 eG s2 q R2 Y2 F2=>?_
  obtain ⟨K',ok,rfl,rfl⟩:=q
  refine wpAny_execs_cons (RU (Q:=fun loc st=>loc=K'.lc∧st=⟨K'.l0,K'.u⟩) R2 F2 hcode (Y2.prv hP1 fun e=>hE e.symm) hE ((show iC ml cT r8 K'.loc ⟨K'.l0,K'.u⟩ (fun loc st=>loc=K'.lc∧st=⟨K'.l0,K'.u⟩)=(K'.lc=K'.lc∧St.mk K'.l0 K'.u=⟨K'.l0,K'.u⟩) by kernel_rfl).mpr ⟨rfl,rfl⟩) fun s3 G3 IN loc3 ps R3 Y3 F3 hP3 q=>?_)
  obtain ⟨rfl,rfl⟩:=q
  refine j0 eQ _ (run env E') R3 F3 (a0t (Q':=fun fl _ _=>fl=.ret (.bool true)) ok fun _ _=>rfl) fun f s4 G4 X2 loc4 fl R4 Y4 F4 V4 q=>?_
  subst q
  obtain ⟨mv,rfl,V4⟩:=V4
  obtain rfl:mv=.bool true:=V4
  have Z:aV (fun a=>a=698∨a=env.locals) G1 G4:=((Y2.sub fun a=>.inr).trans Y3).trans (Y4.sub fun a=>.inr)
  exact k s4 G4 X2 ps R4 (Y1.weak.tr Z fun a o z g=>z.elim id fun e=>by rw [e,hL] at g; cases g) (Y4.prv hP3 fun e=>hE e.symm)
end
end
section
set_option maxRecDepth 100000
theorem Qs {x:WData}(h:WShape.has [] x .int=true):∃ i,x=.int i:=by
  cases x with
  | int i=>exact ⟨i,rfl⟩
  | _=>exact Bool.noConfusion (Eq.trans (a:=false) (by kernel_rfl) h)
theorem XA {a b:Bool}(h:(a && b)=true):a=true∧b=true:=match a,b,h with
  | true,true,_=>⟨rfl,rfl⟩
theorem qF {P:Params}{h:Heap}:∀ {vs:List Value}{xs:List WData},WellAll P h vs xs→WShape.hasItems [] xs .int=true→∃ l:List Int,xs.length=l.length∧∀ G:Gh,al G (l.map .int) vs
  | [],xs,w,_=>by
    cases w
    exact ⟨[],rfl,fun _=>trivial⟩
  | v :: vs,[],w,_=>nomatch w
  | v :: vs,x :: r,w,h=>by
    have k:=XA (Eq.trans (show (WShape.has [] x .int && WShape.hasItems [] r .int)=WShape.hasItems [] (x :: r) .int by kernel_rfl) h)
    obtain ⟨i,rfl⟩:=Qs k.1
    cases w with
    | cons a b =>
      obtain ⟨l,e,q⟩:=qF b k.2
      cases a with
      | int i t=>exact ⟨i :: l,congrArg (·+1) e,fun G=>⟨⟨t,rfl⟩,q G⟩⟩
noncomputable def Kc (b:Bool):Bool:=(WTm.and (.not (.lit (.bool b))) (.lit (.bool true))).holds [] { args:=[] }
theorem a1L (xs:List WData):rT.row.pre.holds [] { args:=[.list xs] }=Kc (decide ((63:Int)<xs.length)):=by kernel_rfl
theorem Kg {xs:List WData}(h:rT.row.pre.holds [] { args:=[.list xs] }=true):xs.length≤63:=by
  rw [a1L] at h
  refine Int.ofNat_le.mp (Int.not_lt.mp fun q=>?_)
  rw [show decide ((63:Int)<xs.length)=true from decide_eq_true q] at h
  exact Bool.noConfusion ((show false=Kc true by kernel_rfl).trans h)
theorem qv:∀ l:List Int,aY (l.map .int)=true
  | []=>rfl
  | _ :: r=>qv r
noncomputable def G0 (s:Shared):Gh:=fun b=>match s.heap.get? b with
  | none=>.no
  | some o=>if b=698 then .prv o else .frz o
theorem Jy {s:Shared}{b:Addr}{C:Tg→Prop}(h0:s.heap.get? b=none→C .no) (h1:∀ o,s.heap.get? b=some o→b=698→C (.prv o)) (h2:∀ o,s.heap.get? b=some o→b≠698→C (.frz o)):C (G0 s b):=by
  unfold G0
  cases e:s.heap.get? b with
  | none=>exact h0 e
  | some o=>exact aC (C:=C) (h1 o e) (h2 o e)
theorem Mt {C:Prop}{P:Params}{h:Heap}{args:List Value}{as:List WData}(hpre:rT.row.toRowW.claim.pre as=true) (hwl:WellAll P h args as)
    (k:∀ (la:Addr) (xs:List WData) (l:List Int) (vs:Array Value) (n:Nat),args=[.ref la]→as=[.list xs]→l.length≤63→h.get? la=some (bR vs n)→(∀ G:Gh,al G (l.map .int) vs.toList)→C):C:=by
  obtain ⟨p1,p2⟩:=pre_splitW hpre
  obtain ⟨d,ds,rfl,p3,p4⟩:=hasAllW_cons p1
  obtain rfl:=hasAllW_nil p4
  obtain ⟨xs,rfl,p5⟩:=hasW_list p3
  cases hwl with
  | cons w1 w2 =>
  cases w2
  cases w1 with
  | list hL wl =>
  obtain ⟨l,hlen,hV⟩:=qF wl p5
  exact k _ xs l _ _ rfl rfl (hlen ▸ Kg p2) hL fun G=>by simpa using hV G
theorem M4:WalkO qT mj (fun _ _=>True) Yi rT.row.toRowW dT [] fun f vs=>PySem.call f vs:=by
  intro w s₀ s₁ mg mb Gr Y a o pm cd doc dV kV ho hd hcd hD hmg hg args vals as hpre hlay hrd hwl hlo
  have base:∀ b o,BB w.params b=some o→b≠698∧s₁.heap.get? b=some o:=fun b o e=>by
    unfold BB at e
    cases q:Nat.beq b 698 with
    | true=>rw [q] at e; cases e
    | false =>
      rw [q] at e
      exact ⟨fun e'=>(by rw [e'] at q; cases q),Y b o e⟩
  have ha:a=703:=by
    obtain ⟨og,g3,es,ep,e2,_,e3⟩:=lI (WB w.params)
    obtain ⟨o3,es',ep',e1,e2',_,e3'⟩:=Gr.T.g
    have e1:s₁.heap.get? 3=some o3:=e1
    rw [(base _ _ (show BB w.params 3=some og from g3)).2] at e1
    cases e1
    rw [e2] at e2'
    cases e2'
    have hmg:mg qa=some (.ref a):=hmg
    rw [← e3',e3,show nO (BB w.params mainGlobals) qa=some (.ref 703) by kernel_rfl] at hmg
    cases hmg; rfl
  subst ha
  refine Mt hpre hwl fun la xs l vs n ea es hl hL hV=>?_
  subst ea es
  have G0f:∀ {b:Addr} {o:Obj},b≠698→s₁.heap.get? b=some o→G0 s₁ b=.frz o:=fun {b o} hb e=>by
    unfold G0
    rw [e]
    exact if_neg hb
  have t698:s₁.heap.get? 698=some (tabObj #[]):=Y 698 _ (by kernel_rfl)
  have nc:∀ {b i o},G0 s₁ b≠.cur i o:=fun {b i o}=>Jy (C:=fun t=>t≠.cur i o) (fun _=>nofun) (fun _ _ _=>nofun) fun _ _ _=>nofun
  have nf:∀ {b i o},G0 s₁ b≠.fin i o:=fun {b i o}=>Jy (C:=fun t=>t≠.fin i o) (fun _=>nofun) (fun _ _ _=>nofun) fun _ _ _=>nofun
  have R:Ok (bL rT.row.prog w s₁.os) (G0 s₁) ⟨[],0⟩ s₁ :=
    ⟨⟨fun b o=>Jy (C:=fun t=>t.obj=some o→s₁.heap.get? b=some o) (fun _ e=>nn e) (fun _ e _ e'=>by rw [e]; exact e') (fun _ e _ e'=>by rw [e]; exact e'),fun b o e=>G0f (base b o e).1 (base b o e).2,fun i mo e=>nn e,fun _ _ _ _ _ e=>absurd e nc,fun _ _ _ e=>absurd e nc,fun _ _ _ _ _ e=>absurd e nf,fun _ _ _ e=>absurd e nf⟩,hg,rfl⟩
  have hP:G0 s₁ 698=.prv (tabObj #[]):=by
    unfold G0
    rw [t698]
    rfl
  have hla:la≠698:=fun e=>by
    rw [e,t698] at hL
    cases hL
  have V:aw (G0 s₁) (.fl (l.map .int)) (.ref la):=⟨la,_,_,rfl,G0f hla hL,qv l,hV (G0 s₁)⟩
  refine wpAny_mono (QM (p:=rT.row.prog) (w:=w) (os:=s₁.os) (A:=callerA) (E:=fun _ _=>False) (Φ:=fun r s'=>r=.bool true∧∃ G' st' ps,Ok (bL rT.row.prog w s₁.os) G' st' s'∧aV (gT 698) (G0 s₁) G'∧G' 698=.prv (tabObj ps)) rfl (by decide +kernel) (by decide) (by omega) R hP V fun s' G' st' ps R' X h=>⟨rfl,G',st',ps,R',X,h⟩) (fun r s' h=>?_) fun _ _ e=>e.elim
  obtain ⟨rfl,G',st',ps,R',X,hps⟩:=h
  have kept:∀ b o,b≠698→s₁.heap.get? b=some o→s'.heap.get? b=some o:=fun b o hb e=>R'.frz (X.frz (G0f hb e))
  refine ⟨.inl ⟨_,.bool true,[],rfl,fun _=>rfl,.bool true,?_,fun _=>⟨List.nodup_nil,fun a ha=>by cases ha⟩⟩,⟨fun b o e=>?_,fun b o e=>?_⟩,R'.os,.of_eq R'.gens⟩
  · exact (show (WShape.has [] (.bool true) rT.row.returns && rT.row.post.holds [] { args:=[.list xs],res:=some (.bool true),after:=_ })=true by kernel_rfl)
  · by_cases hb:b=698
    · subst hb
      rw [t698] at e
      cases e
      exact .inr (.inl ⟨((Fy (P:=w.params) (base _ _ (Zv w.params)).2).tab t698).isCodeTable,rfl,#[],ps,rfl,by rw [Array.empty_append]; exact R'.prv hps⟩)
    · exact .inl (kept b o hb e)
  · by_cases hb:b=698
    · subst hb; exact ⟨_,R'.prv hps⟩
    · exact ⟨o,kept b o hb e⟩
theorem holds_:PySem.Challenge.rw_sq0055_01.Holds:=ZU M4
end
end Sq
theorem PySem.Challenge.cw_sq0055_01_holds : PySem.Challenge.rw_sq0055_01.Holds :=
  Sq.holds_
