import PyProof.Rows.All
import Wide.All
import OpenK.AllK
import Wide.FinOn
import PySem.Challenge.RW_xw0122_01
open PySem PySem.W PyProof.Rows PySem.Calls
set_option Elab.async false
set_option maxRecDepth 100000
set_option linter.all false
set_option genSizeOf false
set_option genInjectivity false
namespace Mine
inductive E2 {α β:Type} (p:α→β→Prop):Prop | mk (a:α) (b:β) (h:p a b)
inductive E3 {α β γ:Type} (p:α→β→γ→Prop):Prop | mk (a:α) (b:β) (c:γ) (h:p a b c)
inductive E4 {α β γ δ:Type} (p:α→β→γ→δ→Prop):Prop | mk (a:α) (b:β) (c:γ) (d:δ) (h:p a b c d)
inductive E5 {α β γ δ ε:Type} (p:α→β→γ→δ→ε→Prop):Prop | mk (a:α) (b:β) (c:γ) (d:δ) (e:ε) (h:p a b c d e)
inductive E6 {α β γ δ ε ζ:Type} (p:α→β→γ→δ→ε→ζ→Prop):Prop | mk (a:α) (b:β) (c:γ) (d:δ) (e:ε) (f:ζ) (h:p a b c d e f)
inductive E7 {α β γ δ ε ζ η:Type} (p:α→β→γ→δ→ε→ζ→η→Prop):Prop | mk (a:α) (b:β) (c:γ) (d:δ) (e:ε) (f:ζ) (g:η) (h:p a b c d e f g)
inductive E8 {α β γ δ ε ζ η θ:Type} (p:α→β→γ→δ→ε→ζ→η→θ→Prop):Prop | mk (a:α) (b:β) (c:γ) (d:δ) (e:ε) (f:ζ) (g:η) (h:θ) (h:p a b c d e f g h)
inductive E9 {α β γ δ ε ζ η θ κ:Type} (p:α→β→γ→δ→ε→ζ→η→θ→κ→Prop):Prop | mk (a:α) (b:β) (c:γ) (d:δ) (e:ε) (f:ζ) (g:η) (h:θ) (i:κ) (j:p a b c d e f g h i):E9 p
inductive A3 (a b c:Prop):Prop | mk (x0:a) (x1:b) (x2:c)
inductive A4 (a b c d:Prop):Prop | mk (x0:a) (x1:b) (x2:c) (x3:d)
inductive A5 (a b c d e:Prop):Prop | mk (x0:a) (x1:b) (x2:c) (x3:d) (x4:e)
inductive A6 (a b c d e f:Prop):Prop | mk (x0:a) (x1:b) (x2:c) (x3:d) (x4:e) (x5:f)
inductive A7 (a b c d e f g:Prop):Prop | mk (x0:a) (x1:b) (x2:c) (x3:d) (x4:e) (x5:f) (x6:g)
inductive A8 (a b c d e f g h:Prop):Prop | mk (x0:a) (x1:b) (x2:c) (x3:d) (x4:e) (x5:f) (x6:g) (x7:h)
inductive A9 (a b c d e f g h i:Prop):Prop | mk (x0:a) (x1:b) (x2:c) (x3:d) (x4:e) (x5:f) (x6:g) (x7:h) (x8:i)
inductive A10 (a b c d e f g h i j:Prop):Prop | mk (x0:a) (x1:b) (x2:c) (x3:d) (x4:e) (x5:f) (x6:g) (x7:h) (x8:i) (x9:j)
inductive A12 (a b c d e f g h i j k l:Prop):Prop | mk (x0:a) (x1:b) (x2:c) (x3:d) (x4:e) (x5:f) (x6:g) (x7:h) (x8:i) (x9:j) (x10:k) (x11:l)
theorem nos {α:Type} {a:α} {G:Prop} (h:(none:Option α) = some a):G:=by cases h
theorem son {α:Type} {a:α} {G:Prop} (h:some a = (none:Option α)):G:=by cases h
theorem nil_map {α β:Type} {f:α→β} {l:List α} (e:[] = l.map f):l = []:=List.map_eq_nil_iff.mp e.symm
theorem cons_map {α β:Type} {f:α→β} {l:List α} {a:β} {r:List β} (e:a :: r = l.map f):∃ x t,l = x :: t∧a = f x∧r = t.map f:=by
 cases l with
 | nil=>cases e
 | cons x t=>exact ⟨x,t,rfl,(List.cons.inj e).1,(List.cons.inj e).2⟩
theorem lenS {α:Type} {P:List α→Prop} {n:Nat} (h:∀ a vs,vs.length = n→P (a :: vs)):∀ vs:List α,vs.length = n + 1→P vs
 | [],e=>Nat.noConfusion e
 | a :: vs,e=>h a vs (Nat.succ.inj e)
theorem len0 {α:Type} {P:List α→Prop} (h:P []):∀ vs:List α,vs.length = 0→P vs
 | [],_=>h
 | _ :: _,e=>Nat.noConfusion e
theorem len1 {α:Type} {P:List α→Prop} (h:∀ a,P [a]):∀ vs:List α,vs.length = 1→P vs:=lenS fun a=>len0 (h a)
theorem len2 {α:Type} {P:List α→Prop} (h:∀ a b,P [a,b]):∀ vs:List α,vs.length = 2→P vs:=lenS fun a=>len1 (h a)
theorem len3 {α:Type} {P:List α→Prop} (h:∀ a b c,P [a,b,c]):∀ vs:List α,vs.length = 3→P vs:=lenS fun a=>len2 (h a)
theorem len4 {α:Type} {P:List α→Prop} (h:∀ a b c d,P [a,b,c,d]):∀ vs:List α,vs.length = 4→P vs:=lenS fun a=>len3 (h a)
theorem len5 {α:Type} {P:List α→Prop} (h:∀ a b c d e,P [a,b,c,d,e]):∀ vs:List α,vs.length = 5→P vs:=lenS fun a=>len4 (h a)
theorem len6 {α:Type} {P:List α→Prop} (h:∀ a b c d e f,P [a,b,c,d,e,f]):∀ vs:List α,vs.length = 6→P vs:=lenS fun a=>len5 (h a)
noncomputable def s0:Str:=⟨#[107]⟩
noncomputable def s1:Str:=⟨#[95,119,97,108,108]⟩
noncomputable def s2:Str:=⟨#[95,95,110,97,109,101,95,95]⟩
noncomputable def s3:Str:=⟨#[107,105,110,100,107,101,101,112,46,110,111,100,101,115]⟩
noncomputable def s4:Str:=⟨#[75,95,78,65,77,69]⟩
noncomputable def s5:Str:=⟨#[75,95,70,85,78,67]⟩
noncomputable def s6:Str:=⟨#[75,95,80,65,82,65,77]⟩
noncomputable def s7:Str:=⟨#[75,95,79,66,74,80,65,84]⟩
noncomputable def s8:Str:=⟨#[75,95,65,82,82,80,65,84]⟩
noncomputable def s9:Str:=⟨#[75,95,66,73,78,68]⟩
noncomputable def s10:Str:=⟨#[75,95,66,76,79,67,75]⟩
noncomputable def s11:Str:=⟨#[75,95,67,76,65,83,83]⟩
noncomputable def s12:Str:=⟨#[75,95,70,73,69,76,68]⟩
noncomputable def s13:Str:=⟨#[75,95,73,78,68,69,88,83,73,71]⟩
noncomputable def s14:Str:=⟨#[75,95,73,78,84,69,82,70,65,67,69]⟩
noncomputable def s15:Str:=⟨#[75,95,65,76,73,65,83]⟩
noncomputable def s16:Str:=⟨#[75,95,76,73,83,84]⟩
noncomputable def s17:Str:=⟨#[75,95,84,75,69,89]⟩
noncomputable def s18:Str:=⟨#[75,95,84,82,69,70]⟩
noncomputable def s19:Str:=⟨#[75,95,80,82,79,80,83,73,71]⟩
noncomputable def s20:Str:=⟨#[70,95,68,69,67,76]⟩
noncomputable def s21:Str:=⟨#[70,95,77,69,84,72,79,68]⟩
noncomputable def s22:Str:=⟨#[70,95,71,69,84]⟩
noncomputable def s23:Str:=⟨#[70,95,83,69,84]⟩
noncomputable def s24:Str:=⟨#[70,95,67,84,79,82]⟩
noncomputable def s25:Str:=⟨#[70,95,67,65,76,76,83,73,71]⟩
noncomputable def s26:Str:=⟨#[70,95,67,84,79,82,83,73,71]⟩
noncomputable def s27:Str:=⟨#[70,95,79,80,84]⟩
noncomputable def s28:Str:=⟨#[70,95,82,69,83,84]⟩
noncomputable def s29:Str:=⟨#[70,95,80,82,73,86,65,84,69]⟩
noncomputable def s30:Str:=⟨#[70,95,80,82,79,84,69,67,84,69,68]⟩
noncomputable def s31:Str:=⟨#[70,95,80,85,66,76,73,67]⟩
noncomputable def s32:Str:=⟨#[70,95,82,69,65,68,79,78,76,89]⟩
noncomputable def s33:Str:=⟨#[70,95,83,84,65,84,73,67]⟩
noncomputable def s34:Str:=⟨#[70,95,65,66,83,84,82,65,67,84]⟩
noncomputable def s35:Str:=⟨#[70,95,79,86,69,82,82,73,68,69]⟩
noncomputable def s36:Str:=⟨#[70,95,66,65,78,71]⟩
noncomputable def s37:Str:=⟨#[70,95,65,77,66,73,69,78,84]⟩
noncomputable def s38:Str:=⟨#[115,101,108,102]⟩
noncomputable def s39:Str:=⟨#[107,105,110,100]⟩
noncomputable def s40:Str:=⟨#[97]⟩
noncomputable def s41:Str:=⟨#[107,105,100,115]⟩
noncomputable def s42:Str:=⟨#[102,108,97,103,115]⟩
noncomputable def s43:Str:=⟨#[97,116]⟩
noncomputable def s44:Str:=⟨#[110,105,100]⟩
noncomputable def s45:Str:=⟨#[95,95,105,110,105,116,95,95]⟩
noncomputable def s46:Str:=⟨#[78,111,100,101]⟩
noncomputable def s47:Str:=⟨#[110,111,100,101]⟩
noncomputable def s48:Str:=⟨#[102,108,97,103]⟩
noncomputable def s49:Str:=⟨#[104,97,115]⟩
noncomputable def s50:Str:=⟨#[107,105,110,100,107,101,101,112,46,100,101,99,108,99,108,97,115,115]⟩
noncomputable def s51:Str:=⟨#[80,65,82,65,77,95,80,82,79,80]⟩
noncomputable def s52:Str:=⟨#[105,115,95,99,116,111,114]⟩
noncomputable def s53:Str:=⟨#[110]⟩
noncomputable def s54:Str:=⟨#[100,105,100]⟩
noncomputable def s55:Str:=⟨#[110,111,100,101,115]⟩
noncomputable def s56:Str:=⟨#[99,108,97,115,115,95,110,111,100,101]⟩
noncomputable def s57:Str:=⟨#[107,105,110,100,107,101,101,112,46,100,101,99,108,99,104,101,99,107,115]⟩
noncomputable def s58:Str:=⟨#[110,97,109,101]⟩
noncomputable def s59:Str:=⟨#[111,110,101]⟩
noncomputable def s60:Str:=⟨#[112,97,114,97,109]⟩
noncomputable def s61:Str:=⟨#[99,108,97,115,115,95,104,97,115]⟩
noncomputable def s62:Str:=⟨#[99,108,115]⟩
noncomputable def s63:Str:=⟨#[112,114,111,109,105,115,101,115]⟩
noncomputable def s64:Str:=⟨#[103,111,116]⟩
noncomputable def s65:Str:=⟨#[46,48]⟩
noncomputable def s66:Str:=⟨#[102,97,115,116]⟩
noncomputable def s67:Str:=⟨#[108,111,110,101,95,115,101,116,116,101,114,115]⟩
noncomputable def s68:Str:=⟨#[102,111,117,110,100]⟩
noncomputable def s69:Str:=⟨#[115,111,114,116,101,100]⟩
noncomputable def s70:Str:=⟨#[101,120,116,101,110,100]⟩
noncomputable def s71:Str:=⟨#[97,112,112,101,110,100]⟩
noncomputable def s72:Str:=⟨#[109,101,114,103,101,100,95,112,114,111,109,105,115,101,115]⟩
noncomputable def s73:Str:=⟨#[107,105,110,100,107,101,101,112,46,100,105,97,103,115]⟩
noncomputable def s74:Str:=⟨#[116,101,120,116]⟩
noncomputable def s75:Str:=⟨#[]⟩
noncomputable def s76:Str:=⟨#[110,117,109,98,101,114]⟩
noncomputable def s77:Str:=⟨#[75,101,101,112,69,114,114,111,114]⟩
noncomputable def s78:Str:=⟨#[69,120,99,101,112,116,105,111,110]⟩
noncomputable def s79:Str:=⟨#[72,111,115,116,70,97,117,108,116]⟩
noncomputable def s80:Str:=⟨#[97,114,103,115]⟩
noncomputable def s81:Str:=⟨#[102,105,108,101]⟩
noncomputable def s82:Str:=⟨#[114,111,119]⟩
noncomputable def s83:Str:=⟨#[68,105,97,103]⟩
noncomputable def s84:Str:=⟨#[114,111,119,115]⟩
noncomputable def s85:Str:=⟨#[112,117,116]⟩
noncomputable def s86:Str:=⟨#[110,117,109,98,101,114,115]⟩
noncomputable def s87:Str:=⟨#[68,105,97,103,115]⟩
noncomputable def s88:Str:=⟨#[107,105,110,100,107,101,101,112,46,116,121,112,101,115]⟩
noncomputable def s89:Str:=⟨#[89,95,75,69,89]⟩
noncomputable def s90:Str:=⟨#[89,95,66,79,79,76]⟩
noncomputable def s91:Str:=⟨#[89,95,85,78,73,79,78]⟩
noncomputable def s92:Str:=⟨#[89,95,79,66,74]⟩
noncomputable def s93:Str:=⟨#[70,73,82,83,84,95,82,79,87,83]⟩
noncomputable def s94:Str:=⟨#[97,110,121]⟩
noncomputable def s95:Str:=⟨#[117,110,107,110,111,119,110]⟩
noncomputable def s96:Str:=⟨#[110,101,118,101,114]⟩
noncomputable def s97:Str:=⟨#[118,111,105,100]⟩
noncomputable def s98:Str:=⟨#[117,110,100,101,102,105,110,101,100]⟩
noncomputable def s99:Str:=⟨#[110,117,108,108]⟩
noncomputable def s100:Str:=⟨#[115,116,114,105,110,103]⟩
noncomputable def s101:Str:=⟨#[111,98,106,101,99,116]⟩
noncomputable def s102:Str:=⟨#[101,114,114,111,114]⟩
noncomputable def s103:Str:=⟨#[105,110,100,101,120]⟩
noncomputable def s104:Str:=⟨#[100,101,99,108,115]⟩
noncomputable def s105:Str:=⟨#[98,111,117,110,100,115]⟩
noncomputable def s106:Str:=⟨#[100,101,102,97,117,108,116,115]⟩
noncomputable def s107:Str:=⟨#[110,97,109,101,115]⟩
noncomputable def s108:Str:=⟨#[111,114,105,103,105,110,115]⟩
noncomputable def s109:Str:=⟨#[114,101,110,97,109,101,100]⟩
noncomputable def s110:Str:=⟨#[115,104,97,112,105,110,103]⟩
noncomputable def s111:Str:=⟨#[112,117,116,116,105,110,103]⟩
noncomputable def s112:Str:=⟨#[116]⟩
noncomputable def s113:Str:=⟨#[108,101,110]⟩
noncomputable def s114:Str:=⟨#[84,121,112,101,84,97,98,108,101]⟩
noncomputable def s115:Str:=⟨#[107,105,110,100,107,101,101,112,46,104,111,115,116,115]⟩
noncomputable def s116:Str:=⟨#[77,79,83,84,95,82,79,85,78,68,83]⟩
noncomputable def s117:Str:=⟨#[77,79,83,84,95,83,72,65,80,69,83]⟩
noncomputable def s118:Str:=⟨#[116,97,98]⟩
noncomputable def s119:Str:=⟨#[100,101,101,112]⟩
noncomputable def s120:Str:=⟨#[109,111,115,116,95,114,111,117,110,100,115]⟩
noncomputable def s121:Str:=⟨#[109,111,115,116,95,100,101,101,112]⟩
noncomputable def s122:Str:=⟨#[108,105,98]⟩
noncomputable def s123:Str:=⟨#[109,97,112,112,105,110,103]⟩
noncomputable def s124:Str:=⟨#[115,104,97,112,101]⟩
noncomputable def s125:Str:=⟨#[115]⟩
noncomputable def s126:Str:=⟨#[112,105,100,115]⟩
noncomputable def s127:Str:=⟨#[99,104,101,99,107]⟩
noncomputable def s128:Str:=⟨#[101,120,116]⟩
noncomputable def s129:Str:=⟨#[101,114,97,115,101,100]⟩
noncomputable def s130:Str:=⟨#[107,105,110,100,115]⟩
noncomputable def s131:Str:=⟨#[102,111,114,99,101]⟩
noncomputable def s132:Str:=⟨#[112,117,116,95,100,101,102,101,114,114,101,100]⟩
noncomputable def s133:Str:=⟨#[112,117,116,95,99,111,110,100]⟩
noncomputable def s134:Str:=⟨#[108,97,121,95,114,111,119]⟩
noncomputable def s135:Str:=⟨#[98,111,117,110,100]⟩
noncomputable def s136:Str:=⟨#[102,105,116,115]⟩
noncomputable def s137:Str:=⟨#[108,105,101,115]⟩
noncomputable def s138:Str:=⟨#[105,110,102,101,114,115]⟩
noncomputable def s139:Str:=⟨#[116,112,108,95,102,105,116,115]⟩
noncomputable def s140:Str:=⟨#[115,104,97,112,101,95,102,105,116,115]⟩
noncomputable def s141:Str:=⟨#[112,117,116,95,105,110]⟩
noncomputable def s142:Str:=⟨#[111,119,110,95,115,105,103]⟩
noncomputable def s143:Str:=⟨#[102,111,114,103,101,116]⟩
noncomputable def s144:Str:=⟨#[108,105,115,116,95,112,114,111,112]⟩
noncomputable def s145:Str:=⟨#[108,105,115,116,95,105,110,100,101,120]⟩
noncomputable def s146:Str:=⟨#[101,108,101,109,95,109,101,116]⟩
noncomputable def s147:Str:=⟨#[101,114,114,111,114,95,99,108,97,115,115]⟩
noncomputable def s148:Str:=⟨#[84,104,105,110]⟩
noncomputable def s149:Str:=⟨#[107,105,110,100,107,101,101,112,46,98,105,110,100,101,114]⟩
noncomputable def s150:Str:=⟨#[100,105,97,103,115]⟩
noncomputable def s151:Str:=⟨#[115,121,109,98,111,108,115]⟩
noncomputable def s152:Str:=⟨#[115,99,111,112,101,115]⟩
noncomputable def s153:Str:=⟨#[111,102,95,110,111,100,101]⟩
noncomputable def s154:Str:=⟨#[117,115,101]⟩
noncomputable def s155:Str:=⟨#[100,101,99,108]⟩
noncomputable def s156:Str:=⟨#[66,111,117,110,100]⟩
noncomputable def s157:Str:=⟨#[107,105,110,100,107,101,101,112,46,100,101,99,108,115]⟩
noncomputable def s158:Str:=⟨#[111,102,95,101,120,112,114]⟩
noncomputable def s159:Str:=⟨#[111,102,95,114,101,116,117,114,110]⟩
noncomputable def s160:Str:=⟨#[111,102,95,110,97,109,101]⟩
noncomputable def s161:Str:=⟨#[71,117,101,115,115]⟩
noncomputable def s162:Str:=⟨#[103,105,118,101,110]⟩
noncomputable def s163:Str:=⟨#[110,111,32,115,104,97,112,101,114,32,105,110,115,116,97,108,108,101,100]⟩
noncomputable def s164:Str:=⟨#[115,105,103]⟩
noncomputable def s165:Str:=⟨#[109,101,109,98,101,114,115]⟩
noncomputable def s166:Str:=⟨#[119,111,114,100]⟩
noncomputable def s167:Str:=⟨#[83,104,97,112,101,114]⟩
noncomputable def s168:Str:=⟨#[114,111,111,116]⟩
noncomputable def s169:Str:=⟨#[114,117,110]⟩
noncomputable def s170:Str:=⟨#[115,101,116,116,108,101]⟩
noncomputable def s171:Str:=⟨#[114,101,110,101,119]⟩
noncomputable def s172:Str:=⟨#[68,101,99,108,97,114,101,114]⟩
noncomputable def s173:Str:=⟨#[111,98,106]⟩
noncomputable def s174:Str:=⟨#[105,100,120]⟩
noncomputable def s175:Str:=⟨#[108,97,99,107,115]⟩
noncomputable def s176:Str:=⟨#[67,104,101,99,107,115]⟩
noncomputable def s177:Str:=⟨#[104,111,115,116]⟩
noncomputable def s178:Str:=⟨#[100,105,100,115]⟩
noncomputable def s179:Str:=⟨#[115,116,100]⟩
noncomputable def s180:Str:=⟨#[103,117,101,115,115]⟩
noncomputable def s181:Str:=⟨#[116,121,112,101,115]⟩
noncomputable def s182:Str:=⟨#[114,117,108,101,115]⟩
noncomputable def s183:Str:=⟨#[115,104,97,112,101,114]⟩
noncomputable def s184:Str:=⟨#[100,101,99,108,97,114,101,114]⟩
noncomputable def s185:Str:=⟨#[99,104,101,99,107,115]⟩
noncomputable def s186:Str:=⟨#[108,97,116,101,114]⟩
noncomputable def s187:Str:=⟨#[108,97,120]⟩
noncomputable def s188:Str:=⟨#[116,111,108,100]⟩
noncomputable def s189:Str:=⟨#[98,111,117,110,100,101,100]⟩
noncomputable def s190:Str:=⟨#[100,101,102,97,117,108,116,101,100]⟩
noncomputable def s191:Str:=⟨#[109,97,107,105,110,103]⟩
noncomputable def s192:Str:=⟨#[107,110,111,119,110]⟩
noncomputable def s193:Str:=⟨#[99,105,114,99,108,101,115]⟩
noncomputable def s194:Str:=⟨#[111,114,100,101,114]⟩
noncomputable def s195:Str:=⟨#[116,114,101,101]⟩
noncomputable def s196:Str:=⟨#[97,108,105,97,115,101,115]⟩
noncomputable def s197:Str:=⟨#[111,119,110,101,114]⟩
noncomputable def s198:Str:=⟨#[104,101,108,100]⟩
noncomputable def s199:Str:=⟨#[114,101,116,117,114,110,115]⟩
noncomputable def s200:Str:=⟨#[115,116,97,103,101]⟩
noncomputable def s201:Str:=⟨#[104,105,116,115]⟩
noncomputable def s202:Str:=⟨#[114,105,110,103,115]⟩
noncomputable def s203:Str:=⟨#[114,101,110,101,119,105,110,103]⟩
noncomputable def s204:Str:=⟨#[98,121,95,110,97,109,101]⟩
noncomputable def s205:Str:=⟨#[98,121,95,100,105,100]⟩
noncomputable def s206:Str:=⟨#[116,121,112,101,95,111,102]⟩
noncomputable def s207:Str:=⟨#[115,105,103,95,111,102]⟩
noncomputable def s208:Str:=⟨#[100,101,99,108,97,114,101,95,97,108,108]⟩
noncomputable def s209:Str:=⟨#[99,104,101,99,107,95,98,111,117,110,100,115]⟩
noncomputable def s210:Str:=⟨#[78,97,109,101,114]⟩
noncomputable def s211:Str:=⟨#[108,97,119,95,120,119,48,49,50,50,95,48,49]⟩
noncomputable def s212:Str:=⟨#[95,108,97,119,95,110,97,109,101,115]⟩
noncomputable def s213:Str:=⟨#[112]⟩
noncomputable def s214:Str:=⟨#[113]⟩
noncomputable def s215:Str:=⟨#[114,32,115]⟩
noncomputable def s216:Str:=⟨#[100]⟩
noncomputable def s217:Str:=⟨#[120]⟩
noncomputable def s218:Str:=⟨#[95,108,97,119,95,112,117,108,108]⟩
noncomputable def s219:Str:=⟨#[95,108,97,119,95,110,111,100,101]⟩
noncomputable def s220:Str:=⟨#[112,97,114,97,109,115]⟩
noncomputable def s221:Str:=⟨#[98,111,100,121]⟩
noncomputable def s222:Str:=⟨#[98,108,111,99,107]⟩
noncomputable def s223:Str:=⟨#[95,108,97,119,95,102,117,110,99]⟩
noncomputable def s224:Str:=⟨#[112,113]⟩
noncomputable def s225:Str:=⟨#[104,111,119]⟩
noncomputable def s226:Str:=⟨#[116,97,114,103,101,116]⟩
noncomputable def s227:Str:=⟨#[109,97,100,101]⟩
noncomputable def s228:Str:=⟨#[45]⟩
noncomputable def s229:Str:=⟨#[95,108,97,119,95,112,97,114,97,109]⟩
noncomputable def s230:Str:=⟨#[115,105,100,101]⟩
noncomputable def s231:Str:=⟨#[115,101,116,116,101,114]⟩
noncomputable def s232:Str:=⟨#[95,108,97,119,95,108,97,121]⟩
noncomputable def s233:Str:=⟨#[115,105,100,101,115]⟩
noncomputable def s234:Str:=⟨#[115,105,103,110]⟩
noncomputable def s235:Str:=⟨#[95,108,97,119,95,104,97,108,102]⟩
noncomputable def s236:Str:=⟨#[115,111,114,116]⟩
noncomputable def s237:Str:=⟨#[119,111,114,100,115]⟩
noncomputable def s238:Str:=⟨#[111,117,116]⟩
noncomputable def s239:Str:=⟨#[116,104,101,114,101]⟩
noncomputable def s240:Str:=⟨#[95,108,97,119,95,97,99,99,101,115,115,111,114,115]⟩
noncomputable def s241:Str:=⟨#[104,101,97,100,101,100]⟩
noncomputable def s242:Str:=⟨#[99,111,110,115,116,114,117,99,116,111,114]⟩
noncomputable def s243:Str:=⟨#[95,108,97,119,95,99,116,111,114]⟩
noncomputable def s244:Str:=⟨#[122]⟩
noncomputable def s245:Str:=⟨#[115,116,97,116,105,99]⟩
noncomputable def s246:Str:=⟨#[95,108,97,119,95,100,101,101,100]⟩
noncomputable def s247:Str:=⟨#[103,111]⟩
noncomputable def s248:Str:=⟨#[114,97,110,103,101]⟩
noncomputable def s249:Str:=⟨#[97,98,111,118,101]⟩
noncomputable def s250:Str:=⟨#[66,97,115,101]⟩
noncomputable def s251:Str:=⟨#[108,105,115,116,115]⟩
noncomputable def s252:Str:=⟨#[108,111,110,101]⟩
noncomputable def s253:Str:=⟨#[116,104,105,110,103]⟩
noncomputable def s254:Str:=⟨#[111,112,101,110]⟩
noncomputable def s255:Str:=⟨#[95,108,97,119,95,99,108,97,115,115]⟩
noncomputable def s256:Str:=⟨#[95,108,97,119,95,115,97,105,100]⟩
noncomputable def s257:Str:=⟨#[98,97,115,101,100]⟩
noncomputable def s258:Str:=⟨#[74]⟩
noncomputable def s259:Str:=⟨#[115,97,105,100]⟩
noncomputable def s260:Str:=⟨#[112,97,114,116]⟩
noncomputable def s261:Str:=⟨#[95,108,97,119,95,102,97,99,101]⟩
noncomputable def s262:Str:=⟨#[99,111,117,110,116]⟩
noncomputable def s263:Str:=⟨#[115,112,111,116]⟩
noncomputable def s264:Str:=⟨#[103,114,111,117,112]⟩
noncomputable def s265:Str:=⟨#[112,105,101,99,101,115]⟩
noncomputable def s266:Str:=⟨#[102,97,99,101,115]⟩
noncomputable def s267:Str:=⟨#[108,97,112]⟩
noncomputable def s268:Str:=⟨#[95,108,97,119,95,103,114,111,117,112]⟩
noncomputable def s269:Str:=⟨#[102,97,99,101]⟩
noncomputable def s270:Str:=⟨#[95,108,97,119,95,112,114,111,109,105,115,101,100]⟩
noncomputable def s271:Str:=⟨#[95,108,97,119,95,99,108,97,115,115,95,115,111,117,110,100]⟩
noncomputable def s272:Str:=⟨#[103,114,111,117,112,115]⟩
noncomputable def s273:Str:=⟨#[95,108,97,119,95,100,117,101]⟩
noncomputable def s274:Str:=⟨#[115,99,114,105,112,116]⟩
noncomputable def s275:Str:=⟨#[109]⟩
noncomputable def s276:Str:=⟨#[65,66,67]⟩
noncomputable def s277:Str:=⟨#[100,117,101]⟩
noncomputable def s278:Str:=⟨#[108,97,119]⟩
noncomputable def s279:Str:=⟨#[98,117,105,108,116,105,110,115]⟩
noncomputable def s280:Str:=⟨#[95,95,100,111,99,95,95]⟩
noncomputable def s281:Str:=⟨#[95,95,112,97,99,107,97,103,101,95,95]⟩
noncomputable def s282:Str:=⟨#[95,95,108,111,97,100,101,114,95,95]⟩
noncomputable def s283:Str:=⟨#[95,95,115,112,101,99,95,95]⟩
noncomputable def s284:Str:=⟨#[95,95,98,117,105,108,100,95,99,108,97,115,115,95,95]⟩
noncomputable def s285:Str:=⟨#[95,95,105,109,112,111,114,116,95,95]⟩
noncomputable def s286:Str:=⟨#[97,98,115]⟩
noncomputable def s287:Str:=⟨#[97,108,108]⟩
noncomputable def s288:Str:=⟨#[97,115,99,105,105]⟩
noncomputable def s289:Str:=⟨#[98,105,110]⟩
noncomputable def s290:Str:=⟨#[98,114,101,97,107,112,111,105,110,116]⟩
noncomputable def s291:Str:=⟨#[99,97,108,108,97,98,108,101]⟩
noncomputable def s292:Str:=⟨#[99,104,114]⟩
noncomputable def s293:Str:=⟨#[99,111,109,112,105,108,101]⟩
noncomputable def s294:Str:=⟨#[100,101,108,97,116,116,114]⟩
noncomputable def s295:Str:=⟨#[100,105,114]⟩
noncomputable def s296:Str:=⟨#[100,105,118,109,111,100]⟩
noncomputable def s297:Str:=⟨#[101,118,97,108]⟩
noncomputable def s298:Str:=⟨#[101,120,101,99]⟩
noncomputable def s299:Str:=⟨#[102,111,114,109,97,116]⟩
noncomputable def s300:Str:=⟨#[103,101,116,97,116,116,114]⟩
noncomputable def s301:Str:=⟨#[103,108,111,98,97,108,115]⟩
noncomputable def s302:Str:=⟨#[104,97,115,97,116,116,114]⟩
noncomputable def s303:Str:=⟨#[104,97,115,104]⟩
noncomputable def s304:Str:=⟨#[104,101,120]⟩
noncomputable def s305:Str:=⟨#[105,100]⟩
noncomputable def s306:Str:=⟨#[105,110,112,117,116]⟩
noncomputable def s307:Str:=⟨#[105,115,105,110,115,116,97,110,99,101]⟩
noncomputable def s308:Str:=⟨#[105,115,115,117,98,99,108,97,115,115]⟩
noncomputable def s309:Str:=⟨#[105,116,101,114]⟩
noncomputable def s310:Str:=⟨#[97,105,116,101,114]⟩
noncomputable def s311:Str:=⟨#[108,111,99,97,108,115]⟩
noncomputable def s312:Str:=⟨#[109,97,120]⟩
noncomputable def s313:Str:=⟨#[109,105,110]⟩
noncomputable def s314:Str:=⟨#[110,101,120,116]⟩
noncomputable def s315:Str:=⟨#[97,110,101,120,116]⟩
noncomputable def s316:Str:=⟨#[111,99,116]⟩
noncomputable def s317:Str:=⟨#[111,114,100]⟩
noncomputable def s318:Str:=⟨#[112,111,119]⟩
noncomputable def s319:Str:=⟨#[112,114,105,110,116]⟩
noncomputable def s320:Str:=⟨#[114,101,112,114]⟩
noncomputable def s321:Str:=⟨#[114,111,117,110,100]⟩
noncomputable def s322:Str:=⟨#[115,101,116,97,116,116,114]⟩
noncomputable def s323:Str:=⟨#[115,117,109]⟩
noncomputable def s324:Str:=⟨#[118,97,114,115]⟩
noncomputable def s325:Str:=⟨#[78,111,110,101]⟩
noncomputable def s326:Str:=⟨#[69,108,108,105,112,115,105,115]⟩
noncomputable def s327:Str:=⟨#[78,111,116,73,109,112,108,101,109,101,110,116,101,100]⟩
noncomputable def s328:Str:=⟨#[70,97,108,115,101]⟩
noncomputable def s329:Str:=⟨#[84,114,117,101]⟩
noncomputable def s330:Str:=⟨#[98,111,111,108]⟩
noncomputable def s331:Str:=⟨#[109,101,109,111,114,121,118,105,101,119]⟩
noncomputable def s332:Str:=⟨#[98,121,116,101,97,114,114,97,121]⟩
noncomputable def s333:Str:=⟨#[98,121,116,101,115]⟩
noncomputable def s334:Str:=⟨#[99,108,97,115,115,109,101,116,104,111,100]⟩
noncomputable def s335:Str:=⟨#[99,111,109,112,108,101,120]⟩
noncomputable def s336:Str:=⟨#[100,105,99,116]⟩
noncomputable def s337:Str:=⟨#[101,110,117,109,101,114,97,116,101]⟩
noncomputable def s338:Str:=⟨#[102,105,108,116,101,114]⟩
noncomputable def s339:Str:=⟨#[102,108,111,97,116]⟩
noncomputable def s340:Str:=⟨#[102,114,111,122,101,110,115,101,116]⟩
noncomputable def s341:Str:=⟨#[112,114,111,112,101,114,116,121]⟩
noncomputable def s342:Str:=⟨#[105,110,116]⟩
noncomputable def s343:Str:=⟨#[108,105,115,116]⟩
noncomputable def s344:Str:=⟨#[109,97,112]⟩
noncomputable def s345:Str:=⟨#[114,101,118,101,114,115,101,100]⟩
noncomputable def s346:Str:=⟨#[115,101,116]⟩
noncomputable def s347:Str:=⟨#[115,108,105,99,101]⟩
noncomputable def s348:Str:=⟨#[115,116,97,116,105,99,109,101,116,104,111,100]⟩
noncomputable def s349:Str:=⟨#[115,116,114]⟩
noncomputable def s350:Str:=⟨#[115,117,112,101,114]⟩
noncomputable def s351:Str:=⟨#[116,117,112,108,101]⟩
noncomputable def s352:Str:=⟨#[116,121,112,101]⟩
noncomputable def s353:Str:=⟨#[122,105,112]⟩
noncomputable def s354:Str:=⟨#[95,95,100,101,98,117,103,95,95]⟩
noncomputable def s355:Str:=⟨#[66,97,115,101,69,120,99,101,112,116,105,111,110]⟩
noncomputable def s356:Str:=⟨#[66,97,115,101,69,120,99,101,112,116,105,111,110,71,114,111,117,112]⟩
noncomputable def s357:Str:=⟨#[71,101,110,101,114,97,116,111,114,69,120,105,116]⟩
noncomputable def s358:Str:=⟨#[75,101,121,98,111,97,114,100,73,110,116,101,114,114,117,112,116]⟩
noncomputable def s359:Str:=⟨#[83,121,115,116,101,109,69,120,105,116]⟩
noncomputable def s360:Str:=⟨#[65,114,105,116,104,109,101,116,105,99,69,114,114,111,114]⟩
noncomputable def s361:Str:=⟨#[65,115,115,101,114,116,105,111,110,69,114,114,111,114]⟩
noncomputable def s362:Str:=⟨#[65,116,116,114,105,98,117,116,101,69,114,114,111,114]⟩
noncomputable def s363:Str:=⟨#[66,117,102,102,101,114,69,114,114,111,114]⟩
noncomputable def s364:Str:=⟨#[69,79,70,69,114,114,111,114]⟩
noncomputable def s365:Str:=⟨#[73,109,112,111,114,116,69,114,114,111,114]⟩
noncomputable def s366:Str:=⟨#[76,111,111,107,117,112,69,114,114,111,114]⟩
noncomputable def s367:Str:=⟨#[77,101,109,111,114,121,69,114,114,111,114]⟩
noncomputable def s368:Str:=⟨#[78,97,109,101,69,114,114,111,114]⟩
noncomputable def s369:Str:=⟨#[79,83,69,114,114,111,114]⟩
noncomputable def s370:Str:=⟨#[82,101,102,101,114,101,110,99,101,69,114,114,111,114]⟩
noncomputable def s371:Str:=⟨#[82,117,110,116,105,109,101,69,114,114,111,114]⟩
noncomputable def s372:Str:=⟨#[83,116,111,112,65,115,121,110,99,73,116,101,114,97,116,105,111,110]⟩
noncomputable def s373:Str:=⟨#[83,116,111,112,73,116,101,114,97,116,105,111,110]⟩
noncomputable def s374:Str:=⟨#[83,121,110,116,97,120,69,114,114,111,114]⟩
noncomputable def s375:Str:=⟨#[83,121,115,116,101,109,69,114,114,111,114]⟩
noncomputable def s376:Str:=⟨#[84,121,112,101,69,114,114,111,114]⟩
noncomputable def s377:Str:=⟨#[86,97,108,117,101,69,114,114,111,114]⟩
noncomputable def s378:Str:=⟨#[87,97,114,110,105,110,103]⟩
noncomputable def s379:Str:=⟨#[70,108,111,97,116,105,110,103,80,111,105,110,116,69,114,114,111,114]⟩
noncomputable def s380:Str:=⟨#[79,118,101,114,102,108,111,119,69,114,114,111,114]⟩
noncomputable def s381:Str:=⟨#[90,101,114,111,68,105,118,105,115,105,111,110,69,114,114,111,114]⟩
noncomputable def s382:Str:=⟨#[66,121,116,101,115,87,97,114,110,105,110,103]⟩
noncomputable def s383:Str:=⟨#[68,101,112,114,101,99,97,116,105,111,110,87,97,114,110,105,110,103]⟩
noncomputable def s384:Str:=⟨#[69,110,99,111,100,105,110,103,87,97,114,110,105,110,103]⟩
noncomputable def s385:Str:=⟨#[70,117,116,117,114,101,87,97,114,110,105,110,103]⟩
noncomputable def s386:Str:=⟨#[73,109,112,111,114,116,87,97,114,110,105,110,103]⟩
noncomputable def s387:Str:=⟨#[80,101,110,100,105,110,103,68,101,112,114,101,99,97,116,105,111,110,87,97,114,110,105,110,103]⟩
noncomputable def s388:Str:=⟨#[82,101,115,111,117,114,99,101,87,97,114,110,105,110,103]⟩
noncomputable def s389:Str:=⟨#[82,117,110,116,105,109,101,87,97,114,110,105,110,103]⟩
noncomputable def s390:Str:=⟨#[83,121,110,116,97,120,87,97,114,110,105,110,103]⟩
noncomputable def s391:Str:=⟨#[85,110,105,99,111,100,101,87,97,114,110,105,110,103]⟩
noncomputable def s392:Str:=⟨#[85,115,101,114,87,97,114,110,105,110,103]⟩
noncomputable def s393:Str:=⟨#[66,108,111,99,107,105,110,103,73,79,69,114,114,111,114]⟩
noncomputable def s394:Str:=⟨#[67,104,105,108,100,80,114,111,99,101,115,115,69,114,114,111,114]⟩
noncomputable def s395:Str:=⟨#[67,111,110,110,101,99,116,105,111,110,69,114,114,111,114]⟩
noncomputable def s396:Str:=⟨#[70,105,108,101,69,120,105,115,116,115,69,114,114,111,114]⟩
noncomputable def s397:Str:=⟨#[70,105,108,101,78,111,116,70,111,117,110,100,69,114,114,111,114]⟩
noncomputable def s398:Str:=⟨#[73,110,116,101,114,114,117,112,116,101,100,69,114,114,111,114]⟩
noncomputable def s399:Str:=⟨#[73,115,65,68,105,114,101,99,116,111,114,121,69,114,114,111,114]⟩
noncomputable def s400:Str:=⟨#[78,111,116,65,68,105,114,101,99,116,111,114,121,69,114,114,111,114]⟩
noncomputable def s401:Str:=⟨#[80,101,114,109,105,115,115,105,111,110,69,114,114,111,114]⟩
noncomputable def s402:Str:=⟨#[80,114,111,99,101,115,115,76,111,111,107,117,112,69,114,114,111,114]⟩
noncomputable def s403:Str:=⟨#[84,105,109,101,111,117,116,69,114,114,111,114]⟩
noncomputable def s404:Str:=⟨#[73,110,100,101,110,116,97,116,105,111,110,69,114,114,111,114]⟩
noncomputable def s405:Str:=⟨#[95,73,110,99,111,109,112,108,101,116,101,73,110,112,117,116,69,114,114,111,114]⟩
noncomputable def s406:Str:=⟨#[73,110,100,101,120,69,114,114,111,114]⟩
noncomputable def s407:Str:=⟨#[75,101,121,69,114,114,111,114]⟩
noncomputable def s408:Str:=⟨#[77,111,100,117,108,101,78,111,116,70,111,117,110,100,69,114,114,111,114]⟩
noncomputable def s409:Str:=⟨#[78,111,116,73,109,112,108,101,109,101,110,116,101,100,69,114,114,111,114]⟩
noncomputable def s410:Str:=⟨#[80,121,116,104,111,110,70,105,110,97,108,105,122,97,116,105,111,110,69,114,114,111,114]⟩
noncomputable def s411:Str:=⟨#[82,101,99,117,114,115,105,111,110,69,114,114,111,114]⟩
noncomputable def s412:Str:=⟨#[85,110,98,111,117,110,100,76,111,99,97,108,69,114,114,111,114]⟩
noncomputable def s413:Str:=⟨#[85,110,105,99,111,100,101,69,114,114,111,114]⟩
noncomputable def s414:Str:=⟨#[66,114,111,107,101,110,80,105,112,101,69,114,114,111,114]⟩
noncomputable def s415:Str:=⟨#[67,111,110,110,101,99,116,105,111,110,65,98,111,114,116,101,100,69,114,114,111,114]⟩
noncomputable def s416:Str:=⟨#[67,111,110,110,101,99,116,105,111,110,82,101,102,117,115,101,100,69,114,114,111,114]⟩
noncomputable def s417:Str:=⟨#[67,111,110,110,101,99,116,105,111,110,82,101,115,101,116,69,114,114,111,114]⟩
noncomputable def s418:Str:=⟨#[84,97,98,69,114,114,111,114]⟩
noncomputable def s419:Str:=⟨#[85,110,105,99,111,100,101,68,101,99,111,100,101,69,114,114,111,114]⟩
noncomputable def s420:Str:=⟨#[85,110,105,99,111,100,101,69,110,99,111,100,101,69,114,114,111,114]⟩
noncomputable def s421:Str:=⟨#[85,110,105,99,111,100,101,84,114,97,110,115,108,97,116,101,69,114,114,111,114]⟩
noncomputable def s422:Str:=⟨#[69,120,99,101,112,116,105,111,110,71,114,111,117,112]⟩
noncomputable def s423:Str:=⟨#[69,110,118,105,114,111,110,109,101,110,116,69,114,114,111,114]⟩
noncomputable def s424:Str:=⟨#[73,79,69,114,114,111,114]⟩
noncomputable def s425:Str:=⟨#[113,117,105,116]⟩
noncomputable def s426:Str:=⟨#[101,120,105,116]⟩
noncomputable def s427:Str:=⟨#[99,111,112,121,114,105,103,104,116]⟩
noncomputable def s428:Str:=⟨#[99,114,101,100,105,116,115]⟩
noncomputable def s429:Str:=⟨#[108,105,99,101,110,115,101]⟩
noncomputable def s430:Str:=⟨#[104,101,108,112]⟩
noncomputable def s431:Str:=⟨#[95,95,109,97,105,110,95,95]⟩
noncomputable def s432:Str:=⟨#[95,95,97,110,110,111,116,97,116,105,111,110,115,95,95]⟩
noncomputable def s433:Str:=⟨#[95,95,98,117,105,108,116,105,110,115,95,95]⟩
noncomputable def s434:Str:=⟨#[95,95,102,105,108,101,95,95]⟩
noncomputable def s435:Str:=⟨#[47,99,108,97,105,109,47,99,117,116,46,112,121]⟩
noncomputable def s436:Str:=⟨#[95,95,99,97,99,104,101,100,95,95]⟩
noncomputable def s437:Str:=⟨#[60,109,111,100,117,108,101,62]⟩
noncomputable def s438:Str:=⟨#[95,95,109,111,100,117,108,101,95,95]⟩
noncomputable def s439:Str:=⟨#[95,95,113,117,97,108,110,97,109,101,95,95]⟩
noncomputable def s440:Str:=⟨#[95,95,102,105,114,115,116,108,105,110,101,110,111,95,95]⟩
noncomputable def s441:Str:=⟨#[95,95,115,116,97,116,105,99,95,97,116,116,114,105,98,117,116,101,115,95,95]⟩
noncomputable def s442:Str:=⟨#[78,111,100,101,46,95,95,105,110,105,116,95,95]⟩
noncomputable def s443:Str:=⟨#[95,95,100,105,99,116,95,95]⟩
noncomputable def s444:Str:=⟨#[95,95,119,101,97,107,114,101,102,95,95]⟩
noncomputable def s445:Str:=⟨#[116,121,112,101,46,95,95,115,117,98,99,108,97,115,115,101,115,95,95,46,69,120,99,101,112,116,105,111,110,46,48]⟩
noncomputable def s446:Str:=⟨#[116,121,112,101,46,95,95,115,117,98,99,108,97,115,115,101,115,95,95,46,69,120,99,101,112,116,105,111,110,46,110]⟩
noncomputable def s447:Str:=⟨#[75,101,101,112,69,114,114,111,114,46,95,95,105,110,105,116,95,95]⟩
noncomputable def s448:Str:=⟨#[72,111,115,116,70,97,117,108,116,46,95,95,105,110,105,116,95,95]⟩
noncomputable def s449:Str:=⟨#[68,105,97,103,46,95,95,105,110,105,116,95,95]⟩
noncomputable def s450:Str:=⟨#[68,105,97,103,46,114,111,119]⟩
noncomputable def s451:Str:=⟨#[68,105,97,103,115,46,95,95,105,110,105,116,95,95]⟩
noncomputable def s452:Str:=⟨#[68,105,97,103,115,46,112,117,116]⟩
noncomputable def s453:Str:=⟨#[68,105,97,103,115,46,110,117,109,98,101,114,115]⟩
noncomputable def s454:Str:=⟨#[84,121,112,101,84,97,98,108,101,46,95,95,105,110,105,116,95,95]⟩
noncomputable def s455:Str:=⟨#[84,121,112,101,84,97,98,108,101,46,114,111,119]⟩
noncomputable def s456:Str:=⟨#[84,121,112,101,84,97,98,108,101,46,112,117,116]⟩
noncomputable def s457:Str:=⟨#[84,104,105,110,46,95,95,105,110,105,116,95,95]⟩
noncomputable def s458:Str:=⟨#[84,104,105,110,46,102,111,114,99,101]⟩
noncomputable def s459:Str:=⟨#[84,104,105,110,46,112,117,116,95,100,101,102,101,114,114,101,100]⟩
noncomputable def s460:Str:=⟨#[84,104,105,110,46,112,117,116,95,99,111,110,100]⟩
noncomputable def s461:Str:=⟨#[84,104,105,110,46,108,97,121,95,114,111,119]⟩
noncomputable def s462:Str:=⟨#[84,104,105,110,46,98,111,117,110,100]⟩
noncomputable def s463:Str:=⟨#[84,104,105,110,46,115,104,97,112,101]⟩
noncomputable def s464:Str:=⟨#[84,104,105,110,46,102,105,116,115]⟩
noncomputable def s465:Str:=⟨#[84,104,105,110,46,108,105,101,115]⟩
noncomputable def s466:Str:=⟨#[84,104,105,110,46,105,110,102,101,114,115]⟩
noncomputable def s467:Str:=⟨#[84,104,105,110,46,116,112,108,95,102,105,116,115]⟩
noncomputable def s468:Str:=⟨#[84,104,105,110,46,115,104,97,112,101,95,102,105,116,115]⟩
noncomputable def s469:Str:=⟨#[84,104,105,110,46,112,117,116,95,105,110]⟩
noncomputable def s470:Str:=⟨#[84,104,105,110,46,111,119,110,95,115,105,103]⟩
noncomputable def s471:Str:=⟨#[84,104,105,110,46,102,111,114,103,101,116]⟩
noncomputable def s472:Str:=⟨#[84,104,105,110,46,108,105,115,116,95,112,114,111,112]⟩
noncomputable def s473:Str:=⟨#[84,104,105,110,46,108,105,115,116,95,105,110,100,101,120]⟩
noncomputable def s474:Str:=⟨#[84,104,105,110,46,101,108,101,109,95,109,101,116]⟩
noncomputable def s475:Str:=⟨#[84,104,105,110,46,101,114,114,111,114,95,99,108,97,115,115]⟩
noncomputable def s476:Str:=⟨#[66,111,117,110,100,46,95,95,105,110,105,116,95,95]⟩
noncomputable def s477:Str:=⟨#[71,117,101,115,115,46,111,102,95,101,120,112,114]⟩
noncomputable def s478:Str:=⟨#[71,117,101,115,115,46,111,102,95,114,101,116,117,114,110]⟩
noncomputable def s479:Str:=⟨#[71,117,101,115,115,46,111,102,95,110,97,109,101]⟩
noncomputable def s480:Str:=⟨#[83,104,97,112,101,114,46,95,95,105,110,105,116,95,95]⟩
noncomputable def s481:Str:=⟨#[83,104,97,112,101,114,46,115,105,103]⟩
noncomputable def s482:Str:=⟨#[83,104,97,112,101,114,46,109,101,109,98,101,114,115]⟩
noncomputable def s483:Str:=⟨#[83,104,97,112,101,114,46,119,111,114,100]⟩
noncomputable def s484:Str:=⟨#[68,101,99,108,97,114,101,114,46,114,117,110]⟩
noncomputable def s485:Str:=⟨#[68,101,99,108,97,114,101,114,46,115,101,116,116,108,101]⟩
noncomputable def s486:Str:=⟨#[68,101,99,108,97,114,101,114,46,114,101,110,101,119]⟩
noncomputable def s487:Str:=⟨#[67,104,101,99,107,115,46,114,117,110]⟩
noncomputable def s488:Str:=⟨#[67,104,101,99,107,115,46,108,97,99,107,115]⟩
noncomputable def s489:Str:=⟨#[78,97,109,101,114,46,95,95,105,110,105,116,95,95]⟩
noncomputable def s490:Str:=⟨#[78,97,109,101,114,46,116,121,112,101,95,111,102]⟩
noncomputable def s491:Str:=⟨#[78,97,109,101,114,46,115,105,103,95,111,102]⟩
noncomputable def s492:Str:=⟨#[78,97,109,101,114,46,109,101,109,98,101,114,115]⟩
noncomputable def s493:Str:=⟨#[78,97,109,101,114,46,100,101,99,108,97,114,101,95,97,108,108]⟩
noncomputable def s494:Str:=⟨#[78,97,109,101,114,46,99,104,101,99,107,95,98,111,117,110,100,115]⟩
noncomputable def nth:Nat→List Stmt→Stmt
 | 0,a :: _=>a
 | n + 1,_ :: l=>nth n l
 | _,[]=>.Pass ⟨0,0,0,0⟩
noncomputable def argsOf:Stmt→Arguments
 | .FunctionDef _ a _ _ _ _ _ _ _ _=>a
 | _=>⟨[],[],none,[],[],none,[]⟩
noncomputable def bodyOf:Stmt→List Stmt
 | .FunctionDef _ _ b _ _ _ _ _ _ _=>b
 | .ClassDef _ _ _ b _ _ _ _ _ _ _=>b
 | _=>[]
noncomputable def scopeOf:Stmt→Scope
 | .FunctionDef _ _ _ _ _ _ c _ _ _=>c
 | .ClassDef _ _ _ _ _ _ c _ _ _ _=>c
 | _=>⟨.module,[],false,false,[]⟩
noncomputable def body:List Stmt:=PySem.Challenge.pw_xw0122_01.main.body
noncomputable def msc:Scope:=PySem.Challenge.pw_xw0122_01.main.scope
noncomputable def t0:Stmt:=nth 0 body
noncomputable def t1:Stmt:=nth 1 body
noncomputable def t2:Stmt:=nth 2 body
noncomputable def t3:Stmt:=nth 3 body
noncomputable def t4:Stmt:=nth 4 body
noncomputable def t5:Stmt:=nth 5 body
noncomputable def t6:Stmt:=nth 6 body
noncomputable def t7:Stmt:=nth 7 body
noncomputable def t8:Stmt:=nth 8 body
noncomputable def t9:Stmt:=nth 9 body
noncomputable def t10:Stmt:=nth 10 body
noncomputable def t11:Stmt:=nth 11 body
noncomputable def t12:Stmt:=nth 12 body
noncomputable def t13:Stmt:=nth 13 body
noncomputable def t14:Stmt:=nth 14 body
noncomputable def t15:Stmt:=nth 15 body
noncomputable def t16:Stmt:=nth 16 body
noncomputable def t17:Stmt:=nth 17 body
noncomputable def t18:Stmt:=nth 18 body
noncomputable def t19:Stmt:=nth 19 body
noncomputable def t20:Stmt:=nth 20 body
noncomputable def t21:Stmt:=nth 21 body
noncomputable def t22:Stmt:=nth 22 body
noncomputable def t23:Stmt:=nth 23 body
noncomputable def t24:Stmt:=nth 24 body
noncomputable def t25:Stmt:=nth 25 body
noncomputable def t26:Stmt:=nth 26 body
noncomputable def t27:Stmt:=nth 27 body
noncomputable def t28:Stmt:=nth 28 body
noncomputable def t29:Stmt:=nth 29 body
noncomputable def t30:Stmt:=nth 30 body
noncomputable def t31:Stmt:=nth 31 body
noncomputable def t32:Stmt:=nth 32 body
noncomputable def t33:Stmt:=nth 33 body
noncomputable def t34:Stmt:=nth 34 body
noncomputable def t35:Stmt:=nth 35 body
noncomputable def t36:Stmt:=nth 36 body
noncomputable def t37:Stmt:=nth 37 body
noncomputable def t38:Stmt:=nth 38 body
noncomputable def t39:Stmt:=nth 39 body
noncomputable def t40:Stmt:=nth 40 body
noncomputable def t41:Stmt:=nth 41 body
noncomputable def t42:Stmt:=nth 42 body
noncomputable def t43:Stmt:=nth 43 body
noncomputable def t44:Stmt:=nth 44 body
noncomputable def t45:Stmt:=nth 45 body
noncomputable def t46:Stmt:=nth 46 body
noncomputable def t47:Stmt:=nth 47 body
noncomputable def t48:Stmt:=nth 48 body
noncomputable def t49:Stmt:=nth 49 body
noncomputable def t50:Stmt:=nth 50 body
noncomputable def t51:Stmt:=nth 51 body
noncomputable def t52:Stmt:=nth 52 body
noncomputable def t53:Stmt:=nth 53 body
noncomputable def t54:Stmt:=nth 54 body
noncomputable def t55:Stmt:=nth 55 body
noncomputable def t56:Stmt:=nth 56 body
noncomputable def t57:Stmt:=nth 57 body
noncomputable def t58:Stmt:=nth 58 body
noncomputable def t59:Stmt:=nth 59 body
noncomputable def t60:Stmt:=nth 60 body
noncomputable def t61:Stmt:=nth 61 body
noncomputable def t62:Stmt:=nth 62 body
noncomputable def t63:Stmt:=nth 63 body
noncomputable def t64:Stmt:=nth 64 body
noncomputable def t65:Stmt:=nth 65 body
noncomputable def t66:Stmt:=nth 66 body
noncomputable def t67:Stmt:=nth 67 body
noncomputable def t68:Stmt:=nth 68 body
noncomputable def t69:Stmt:=nth 69 body
noncomputable def t70:Stmt:=nth 70 body
noncomputable def t71:Stmt:=nth 71 body
noncomputable def t72:Stmt:=nth 72 body
noncomputable def t73:Stmt:=nth 73 body
noncomputable def t74:Stmt:=nth 74 body
noncomputable def t75:Stmt:=nth 75 body
noncomputable def t76:Stmt:=nth 76 body
noncomputable def t77:Stmt:=nth 77 body
noncomputable def t78:Stmt:=nth 78 body
noncomputable def t79:Stmt:=nth 79 body
noncomputable def t80:Stmt:=nth 80 body
noncomputable def t81:Stmt:=nth 81 body
noncomputable def t82:Stmt:=nth 82 body
noncomputable def t83:Stmt:=nth 83 body
noncomputable def t84:Stmt:=nth 84 body
noncomputable def t85:Stmt:=nth 85 body
noncomputable def t86:Stmt:=nth 86 body
noncomputable def t87:Stmt:=nth 87 body
noncomputable def t88:Stmt:=nth 88 body
noncomputable def t89:Stmt:=nth 89 body
noncomputable def t36_0:Stmt:=nth 0 (bodyOf t36)
noncomputable def t48_0:Stmt:=nth 0 (bodyOf t48)
noncomputable def t49_0:Stmt:=nth 0 (bodyOf t49)
noncomputable def t50_0:Stmt:=nth 0 (bodyOf t50)
noncomputable def t50_1:Stmt:=nth 1 (bodyOf t50)
noncomputable def t51_0:Stmt:=nth 0 (bodyOf t51)
noncomputable def t51_1:Stmt:=nth 1 (bodyOf t51)
noncomputable def t51_2:Stmt:=nth 2 (bodyOf t51)
noncomputable def t58_0:Stmt:=nth 0 (bodyOf t58)
noncomputable def t58_1:Stmt:=nth 1 (bodyOf t58)
noncomputable def t58_2:Stmt:=nth 2 (bodyOf t58)
noncomputable def t62_0:Stmt:=nth 0 (bodyOf t62)
noncomputable def t62_1:Stmt:=nth 1 (bodyOf t62)
noncomputable def t62_2:Stmt:=nth 2 (bodyOf t62)
noncomputable def t62_3:Stmt:=nth 3 (bodyOf t62)
noncomputable def t62_4:Stmt:=nth 4 (bodyOf t62)
noncomputable def t62_5:Stmt:=nth 5 (bodyOf t62)
noncomputable def t62_6:Stmt:=nth 6 (bodyOf t62)
noncomputable def t62_7:Stmt:=nth 7 (bodyOf t62)
noncomputable def t62_8:Stmt:=nth 8 (bodyOf t62)
noncomputable def t62_9:Stmt:=nth 9 (bodyOf t62)
noncomputable def t62_10:Stmt:=nth 10 (bodyOf t62)
noncomputable def t62_11:Stmt:=nth 11 (bodyOf t62)
noncomputable def t62_12:Stmt:=nth 12 (bodyOf t62)
noncomputable def t62_13:Stmt:=nth 13 (bodyOf t62)
noncomputable def t62_14:Stmt:=nth 14 (bodyOf t62)
noncomputable def t62_15:Stmt:=nth 15 (bodyOf t62)
noncomputable def t62_16:Stmt:=nth 16 (bodyOf t62)
noncomputable def t62_17:Stmt:=nth 17 (bodyOf t62)
noncomputable def t62_18:Stmt:=nth 18 (bodyOf t62)
noncomputable def t64_0:Stmt:=nth 0 (bodyOf t64)
noncomputable def t66_0:Stmt:=nth 0 (bodyOf t66)
noncomputable def t66_1:Stmt:=nth 1 (bodyOf t66)
noncomputable def t66_2:Stmt:=nth 2 (bodyOf t66)
noncomputable def t67_0:Stmt:=nth 0 (bodyOf t67)
noncomputable def t67_1:Stmt:=nth 1 (bodyOf t67)
noncomputable def t67_2:Stmt:=nth 2 (bodyOf t67)
noncomputable def t67_3:Stmt:=nth 3 (bodyOf t67)
noncomputable def t68_0:Stmt:=nth 0 (bodyOf t68)
noncomputable def t68_1:Stmt:=nth 1 (bodyOf t68)
noncomputable def t68_2:Stmt:=nth 2 (bodyOf t68)
noncomputable def t69_0:Stmt:=nth 0 (bodyOf t69)
noncomputable def t69_1:Stmt:=nth 1 (bodyOf t69)
noncomputable def t70_0:Stmt:=nth 0 (bodyOf t70)
noncomputable def t70_1:Stmt:=nth 1 (bodyOf t70)
noncomputable def t70_2:Stmt:=nth 2 (bodyOf t70)
noncomputable def t70_3:Stmt:=nth 3 (bodyOf t70)
noncomputable def t70_4:Stmt:=nth 4 (bodyOf t70)
noncomputable def t70_5:Stmt:=nth 5 (bodyOf t70)
noncomputable def a0:Arguments:=argsOf t0
noncomputable def b0:List Stmt:=bodyOf t0
noncomputable def c0:Scope:=scopeOf t0
noncomputable def a36_0:Arguments:=argsOf t36_0
noncomputable def b36_0:List Stmt:=bodyOf t36_0
noncomputable def c36_0:Scope:=scopeOf t36_0
noncomputable def a37:Arguments:=argsOf t37
noncomputable def b37:List Stmt:=bodyOf t37
noncomputable def c37:Scope:=scopeOf t37
noncomputable def a40:Arguments:=argsOf t40
noncomputable def b40:List Stmt:=bodyOf t40
noncomputable def c40:Scope:=scopeOf t40
noncomputable def a41:Arguments:=argsOf t41
noncomputable def b41:List Stmt:=bodyOf t41
noncomputable def c41:Scope:=scopeOf t41
noncomputable def a43:Arguments:=argsOf t43
noncomputable def b43:List Stmt:=bodyOf t43
noncomputable def c43:Scope:=scopeOf t43
noncomputable def a44:Arguments:=argsOf t44
noncomputable def b44:List Stmt:=bodyOf t44
noncomputable def c44:Scope:=scopeOf t44
noncomputable def a45:Arguments:=argsOf t45
noncomputable def b45:List Stmt:=bodyOf t45
noncomputable def c45:Scope:=scopeOf t45
noncomputable def a46:Arguments:=argsOf t46
noncomputable def b46:List Stmt:=bodyOf t46
noncomputable def c46:Scope:=scopeOf t46
noncomputable def c48_0:Scope:=scopeOf t48_0
noncomputable def a49_0:Arguments:=argsOf t49_0
noncomputable def b49_0:List Stmt:=bodyOf t49_0
noncomputable def c50_1:Scope:=scopeOf t50_1
noncomputable def a51_0:Arguments:=argsOf t51_0
noncomputable def b51_0:List Stmt:=bodyOf t51_0
noncomputable def c51_0:Scope:=scopeOf t51_0
noncomputable def c51_2:Scope:=scopeOf t51_2
noncomputable def a58_0:Arguments:=argsOf t58_0
noncomputable def b58_0:List Stmt:=bodyOf t58_0
noncomputable def c58_0:Scope:=scopeOf t58_0
noncomputable def c58_1:Scope:=scopeOf t58_1
noncomputable def a58_2:Arguments:=argsOf t58_2
noncomputable def b58_2:List Stmt:=bodyOf t58_2
noncomputable def c58_2:Scope:=scopeOf t58_2
noncomputable def a62_0:Arguments:=argsOf t62_0
noncomputable def b62_0:List Stmt:=bodyOf t62_0
noncomputable def c62_0:Scope:=scopeOf t62_0
noncomputable def c62_1:Scope:=scopeOf t62_1
noncomputable def c62_3:Scope:=scopeOf t62_3
noncomputable def a62_4:Arguments:=argsOf t62_4
noncomputable def b62_4:List Stmt:=bodyOf t62_4
noncomputable def a62_5:Arguments:=argsOf t62_5
noncomputable def b62_5:List Stmt:=bodyOf t62_5
noncomputable def c62_7:Scope:=scopeOf t62_7
noncomputable def a62_8:Arguments:=argsOf t62_8
noncomputable def b62_8:List Stmt:=bodyOf t62_8
noncomputable def a62_10:Arguments:=argsOf t62_10
noncomputable def b62_10:List Stmt:=bodyOf t62_10
noncomputable def a62_11:Arguments:=argsOf t62_11
noncomputable def b62_11:List Stmt:=bodyOf t62_11
noncomputable def a62_14:Arguments:=argsOf t62_14
noncomputable def b62_14:List Stmt:=bodyOf t62_14
noncomputable def a62_16:Arguments:=argsOf t62_16
noncomputable def b62_16:List Stmt:=bodyOf t62_16
noncomputable def a62_18:Arguments:=argsOf t62_18
noncomputable def b62_18:List Stmt:=bodyOf t62_18
noncomputable def a64_0:Arguments:=argsOf t64_0
noncomputable def b64_0:List Stmt:=bodyOf t64_0
noncomputable def c64_0:Scope:=scopeOf t64_0
noncomputable def c66_0:Scope:=scopeOf t66_0
noncomputable def a66_1:Arguments:=argsOf t66_1
noncomputable def b66_1:List Stmt:=bodyOf t66_1
noncomputable def a66_2:Arguments:=argsOf t66_2
noncomputable def b66_2:List Stmt:=bodyOf t66_2
noncomputable def a67_0:Arguments:=argsOf t67_0
noncomputable def b67_0:List Stmt:=bodyOf t67_0
noncomputable def c67_1:Scope:=scopeOf t67_1
noncomputable def a68_1:Arguments:=argsOf t68_1
noncomputable def b68_1:List Stmt:=bodyOf t68_1
noncomputable def a70_0:Arguments:=argsOf t70_0
noncomputable def b70_0:List Stmt:=bodyOf t70_0
noncomputable def c70_0:Scope:=scopeOf t70_0
noncomputable def a70_1:Arguments:=argsOf t70_1
noncomputable def b70_1:List Stmt:=bodyOf t70_1
noncomputable def a70_2:Arguments:=argsOf t70_2
noncomputable def b70_2:List Stmt:=bodyOf t70_2
noncomputable def a70_5:Arguments:=argsOf t70_5
noncomputable def b70_5:List Stmt:=bodyOf t70_5
noncomputable def a73:Arguments:=argsOf t73
noncomputable def b73:List Stmt:=bodyOf t73
noncomputable def c73:Scope:=scopeOf t73
noncomputable def a74:Arguments:=argsOf t74
noncomputable def b74:List Stmt:=bodyOf t74
noncomputable def c74:Scope:=scopeOf t74
noncomputable def a75:Arguments:=argsOf t75
noncomputable def b75:List Stmt:=bodyOf t75
noncomputable def c75:Scope:=scopeOf t75
noncomputable def a76:Arguments:=argsOf t76
noncomputable def b76:List Stmt:=bodyOf t76
noncomputable def c76:Scope:=scopeOf t76
noncomputable def a77:Arguments:=argsOf t77
noncomputable def b77:List Stmt:=bodyOf t77
noncomputable def c77:Scope:=scopeOf t77
noncomputable def a78:Arguments:=argsOf t78
noncomputable def b78:List Stmt:=bodyOf t78
noncomputable def c78:Scope:=scopeOf t78
noncomputable def a79:Arguments:=argsOf t79
noncomputable def b79:List Stmt:=bodyOf t79
noncomputable def c79:Scope:=scopeOf t79
noncomputable def a80:Arguments:=argsOf t80
noncomputable def b80:List Stmt:=bodyOf t80
noncomputable def c80:Scope:=scopeOf t80
noncomputable def a81:Arguments:=argsOf t81
noncomputable def b81:List Stmt:=bodyOf t81
noncomputable def c81:Scope:=scopeOf t81
noncomputable def a82:Arguments:=argsOf t82
noncomputable def b82:List Stmt:=bodyOf t82
noncomputable def c82:Scope:=scopeOf t82
noncomputable def a83:Arguments:=argsOf t83
noncomputable def b83:List Stmt:=bodyOf t83
noncomputable def c83:Scope:=scopeOf t83
noncomputable def a84:Arguments:=argsOf t84
noncomputable def b84:List Stmt:=bodyOf t84
noncomputable def c84:Scope:=scopeOf t84
noncomputable def a85:Arguments:=argsOf t85
noncomputable def b85:List Stmt:=bodyOf t85
noncomputable def c85:Scope:=scopeOf t85
noncomputable def a86:Arguments:=argsOf t86
noncomputable def b86:List Stmt:=bodyOf t86
noncomputable def c86:Scope:=scopeOf t86
noncomputable def a87:Arguments:=argsOf t87
noncomputable def b87:List Stmt:=bodyOf t87
noncomputable def c87:Scope:=scopeOf t87
noncomputable def a88:Arguments:=argsOf t88
noncomputable def b88:List Stmt:=bodyOf t88
noncomputable def c88:Scope:=scopeOf t88
noncomputable def a89:Arguments:=argsOf t89
noncomputable def b89:List Stmt:=bodyOf t89
noncomputable def c89:Scope:=scopeOf t89
noncomputable def env0:Env:={ scope:=msc,locals:=mainNs,globals:=mainNs,cells:=[],code:=(.ref 13),frame:=some 14 }
noncomputable def cE:Code:=.body body env0
noncomputable def B0:List Frame:=[topFrame ⟨0,0,0,0⟩]
noncomputable def kh (P:Params) (x:Str):Int:=PyData.keyHash P x
noncomputable def ke (P:Params) (x:Str) (t:Tok) (v:Value):DictEntry:=⟨kh P x,.str x t,v⟩
noncomputable def fa (n q:Str) (t:Stmt):Obj:=⟨.none,none,.func ⟨n,q,argsOf t,.stmts (bodyOf t),scopeOf t,0,[],.none,.none,.none,.none,none,.none,.none,0⟩,#[]⟩
noncomputable def fb (n q:Str) (t:Stmt) (d m:Value) (c:Nat):Obj:=⟨.type "function",none,.func ⟨n,q,argsOf t,.stmts (bodyOf t),scopeOf t,3,[],d,.none,.none,m,none,.ref c,.none,0⟩,#[]⟩
noncomputable def ob (c:String) (l:List Value):Obj:=⟨.type c,none,.fields l.toArray,#[]⟩
noncomputable def cd (n q:Str) (t:Tok) (i j f:Int) (a:Nat) (b:Bool) (c:Nat) (x y z u:Value) (k:Nat):Obj:=ob "code" [.str n t,.str q (t + 1),.str s435 (t + 2),.int i 0,.int j 0,.int 0 0,.int 0 0,.int f 0,.ref a,.bool b,.int 181 0,.ref c,x,y,z,u,.int k 0,.int i 0,.str s435 (k + 1)]
noncomputable def tu (l:List Value):Obj:=⟨.type "tuple",none,.seq l.toArray 0,#[]⟩
noncomputable def fl (l:List Value):Obj:=⟨.none,none,.fields l.toArray,#[]⟩
noncomputable def lt:List (Int × Int × Nat)→List Value
 | []=>[]
 | (a,b,c) :: l=>.int a 0 :: .int b 0 :: .ref c :: lt l
noncomputable def dl (l:List DictEntry) (n:Nat):Obj:=⟨.type "dict",none,.dict l.toArray n,#[]⟩
noncomputable def fr (l:List (Option Value)):Obj:=⟨.type "frame",none,.plain,l.toArray⟩
noncomputable def cl (s:Str) (a b:Nat) (l:List (Option Value)):Obj:=⟨.type "type",none,.cls ⟨s,[.type "object"],[.ref a,.type "object"],b,s,true,[],[],false,none,false⟩,l.toArray⟩
noncomputable def ev:List Obj→List Obj
 | []=>[]
 | [a]=>[a]
 | a :: _ :: l=>a :: ev l
noncomputable def od:List Obj→List Obj
 | []=>[]
 | [_]=>[]
 | _ :: b :: l=>b :: od l
noncomputable def ofL:Nat→List Obj→BT
 | 0,_=>.nil
 | _ + 1,[]=>.nil
 | n + 1,a :: l=>.node a (ofL n (ev l)) (ofL n (od l))
noncomputable def o0 (P:Params):Obj:=dl [ke P s2 1 (.str s279 160),ke P s280 2 (.builtin "builtins.__doc__:str#opaque"),ke P s281 3 (.builtin "builtins.__package__:str#opaque"),ke P s282 4 (.builtin "builtins.__loader__:shared#opaque"),ke P s283 5 (.builtin "builtins.__spec__#opaque"),ke P s284 6 (.builtin "__build_class__"),ke P s285 7 (.builtin "__import__"),ke P s286 8 (.builtin "abs"),ke P s287 9 (.builtin "all"),ke P s94 10 (.builtin "any"),ke P s288 11 (.builtin "ascii"),ke P s289 12 (.builtin "bin"),ke P s290 13 (.builtin "breakpoint"),ke P s291 14 (.builtin "callable"),ke P s292 15 (.builtin "chr"),ke P s293 16 (.builtin "compile"),ke P s294 17 (.builtin "delattr"),ke P s295 18 (.builtin "dir"),ke P s296 19 (.builtin "divmod"),ke P s297 20 (.builtin "eval"),ke P s298 21 (.builtin "exec"),ke P s299 22 (.builtin "format"),ke P s300 23 (.builtin "getattr"),ke P s301 24 (.builtin "globals"),ke P s302 25 (.builtin "hasattr"),ke P s303 26 (.builtin "hash"),ke P s304 27 (.builtin "hex"),ke P s305 28 (.builtin "id"),ke P s306 29 (.builtin "input"),ke P s307 30 (.builtin "isinstance"),ke P s308 31 (.builtin "issubclass"),ke P s309 32 (.builtin "iter"),ke P s310 33 (.builtin "aiter"),ke P s113 34 (.builtin "len"),ke P s311 35 (.builtin "locals"),ke P s312 36 (.builtin "max"),ke P s313 37 (.builtin "min"),ke P s314 38 (.builtin "next"),ke P s315 39 (.builtin "anext"),ke P s316 40 (.builtin "oct"),ke P s317 41 (.builtin "ord"),ke P s318 42 (.builtin "pow"),ke P s319 43 (.builtin "print"),ke P s320 44 (.builtin "repr"),ke P s321 45 (.builtin "round"),ke P s322 46 (.builtin "setattr"),ke P s69 47 (.builtin "sorted"),ke P s323 48 (.builtin "sum"),ke P s324 49 (.builtin "vars"),ke P s325 50 .none,ke P s326 51 .ellipsis,ke P s327 52 .notImplemented,ke P s328 53 (.bool false),ke P s329 54 (.bool true),ke P s330 55 (.type "bool"),ke P s331 56 (.type "memoryview"),ke P s332 57 (.type "bytearray"),ke P s333 58 (.type "bytes"),ke P s334 59 (.type "classmethod"),ke P s335 60 (.type "complex"),ke P s336 61 (.type "dict"),ke P s337 62 (.type "enumerate"),ke P s338 63 (.type "filter"),ke P s339 64 (.type "float"),ke P s340 65 (.type "frozenset"),ke P s341 66 (.type "property"),ke P s342 67 (.type "int"),ke P s343 68 (.type "list"),ke P s344 69 (.type "map"),ke P s101 70 (.type "object"),ke P s248 71 (.type "range"),ke P s345 72 (.type "reversed"),ke P s346 73 (.type "set"),ke P s347 74 (.type "slice"),ke P s348 75 (.type "staticmethod"),ke P s349 76 (.type "str"),ke P s350 77 (.type "super"),ke P s351 78 (.type "tuple"),ke P s352 79 (.type "type"),ke P s353 80 (.type "zip"),ke P s354 81 (.bool true),ke P s355 82 (.type "BaseException"),ke P s356 83 (.type "BaseExceptionGroup"),ke P s78 84 (.type "Exception"),ke P s357 85 (.type "GeneratorExit"),ke P s358 86 (.type "KeyboardInterrupt"),ke P s359 87 (.type "SystemExit"),ke P s360 88 (.type "ArithmeticError"),ke P s361 89 (.type "AssertionError"),ke P s362 90 (.type "AttributeError"),ke P s363 91 (.type "BufferError"),ke P s364 92 (.type "EOFError"),ke P s365 93 (.type "ImportError"),ke P s366 94 (.type "LookupError"),ke P s367 95 (.type "MemoryError"),ke P s368 96 (.type "NameError"),ke P s369 97 (.type "OSError"),ke P s370 98 (.type "ReferenceError"),ke P s371 99 (.type "RuntimeError"),ke P s372 100 (.type "StopAsyncIteration"),ke P s373 101 (.type "StopIteration"),ke P s374 102 (.type "SyntaxError"),ke P s375 103 (.type "SystemError"),ke P s376 104 (.type "TypeError"),ke P s377 105 (.type "ValueError"),ke P s378 106 (.type "Warning"),ke P s379 107 (.type "FloatingPointError"),ke P s380 108 (.type "OverflowError"),ke P s381 109 (.type "ZeroDivisionError"),ke P s382 110 (.type "BytesWarning"),ke P s383 111 (.type "DeprecationWarning"),ke P s384 112 (.type "EncodingWarning"),ke P s385 113 (.type "FutureWarning"),ke P s386 114 (.type "ImportWarning"),ke P s387 115 (.type "PendingDeprecationWarning"),ke P s388 116 (.type "ResourceWarning"),ke P s389 117 (.type "RuntimeWarning"),ke P s390 118 (.type "SyntaxWarning"),ke P s391 119 (.type "UnicodeWarning"),ke P s392 120 (.type "UserWarning"),ke P s393 121 (.type "BlockingIOError"),ke P s394 122 (.type "ChildProcessError"),ke P s395 123 (.type "ConnectionError"),ke P s396 124 (.type "FileExistsError"),ke P s397 125 (.type "FileNotFoundError"),ke P s398 126 (.type "InterruptedError"),ke P s399 127 (.type "IsADirectoryError"),ke P s400 128 (.type "NotADirectoryError"),ke P s401 129 (.type "PermissionError"),ke P s402 130 (.type "ProcessLookupError"),ke P s403 131 (.type "TimeoutError"),ke P s404 132 (.type "IndentationError"),ke P s405 133 (.type "_IncompleteInputError"),ke P s406 134 (.type "IndexError"),ke P s407 135 (.type "KeyError"),ke P s408 136 (.type "ModuleNotFoundError"),ke P s409 137 (.type "NotImplementedError"),ke P s410 138 (.type "PythonFinalizationError"),ke P s411 139 (.type "RecursionError"),ke P s412 140 (.type "UnboundLocalError"),ke P s413 141 (.type "UnicodeError"),ke P s414 142 (.type "BrokenPipeError"),ke P s415 143 (.type "ConnectionAbortedError"),ke P s416 144 (.type "ConnectionRefusedError"),ke P s417 145 (.type "ConnectionResetError"),ke P s418 146 (.type "TabError"),ke P s419 147 (.type "UnicodeDecodeError"),ke P s420 148 (.type "UnicodeEncodeError"),ke P s421 149 (.type "UnicodeTranslateError"),ke P s422 150 (.type "ExceptionGroup"),ke P s423 151 (.type "OSError"),ke P s424 152 (.type "OSError"),ke P s254 153 (.builtin "open"),ke P s425 154 (.builtin "builtins.quit#opaque"),ke P s426 155 (.builtin "builtins.exit#opaque"),ke P s427 156 (.builtin "builtins.copyright#opaque"),ke P s428 157 (.builtin "builtins.credits#opaque"),ke P s429 158 (.builtin "builtins.license#opaque"),ke P s430 159 (.builtin "builtins.help#opaque")] 159
noncomputable def o1 (P:Params):Obj:=dl [ke P s279 162 (.ref 4),ke P s431 163 (.ref 5)] 2
noncomputable def o2 (P:Params):Obj:=⟨.none,none,(.dict #[] 0),#[]⟩
noncomputable def po3 (P:Params):List DictEntry:=[ke P s2 165 (.str s431 164),ke P s280 166 .none,ke P s281 167 .none,ke P s282 168 (.builtin "__main__.__loader__#opaque"),ke P s283 169 .none,ke P s432 170 (.ref 6),ke P s433 171 (.ref 4),ke P s434 173 (.str s435 172),ke P s436 174 .none]
noncomputable def o3 (P:Params):Obj:=dl (po3 P) 9
noncomputable def o4 (P:Params):Obj:=⟨(.type "module"),(some 0),.plain,#[]⟩
noncomputable def o5 (P:Params):Obj:=⟨(.type "module"),(some 3),.plain,#[]⟩
noncomputable def o6 (P:Params):Obj:=dl [] 0
noncomputable def o7 (P:Params):Obj:=tu []
noncomputable def o8 (P:Params):Obj:=fl []
noncomputable def o9 (P:Params):Obj:=ob "code" [(.str s437 176),(.str s437 177),(.str s435 178),(.int 1 0),(.int 0 0),(.int 0 0),(.int 0 0),(.int 0 0),(.ref 7),(.bool false),(.int 175 0),(.ref 8),.none,.none,.none,.none,(.int 179 0),(.int 1 0),(.str s435 180)]
noncomputable def o10 (P:Params):Obj:=fr [(some (.ref 9)),(some (.ref 3)),(some (.ref 3)),none,(some (.str s431 164)),none,(some (.ref 0))]
noncomputable def o11 (P:Params):Obj:=tu []
noncomputable def o12 (P:Params):Obj:=fl []
noncomputable def o13 (P:Params):Obj:=cd s437 s437 182 1 0 0 11 false 12 .none .none .none .none 185
noncomputable def o14 (P:Params):Obj:=fr [(some (.ref 13)),(some (.ref 3)),(some (.ref 3)),none,(some (.str s431 164)),none,(some (.ref 0))]
noncomputable def ol0 (P:Params):List Obj:=[o0 P,o1 P,o2 P,o3 P,o4 P,o5 P,o6 P,o7 P,o8 P,o9 P,o10 P,o11 P,o12 P,o13 P,o14 P]
noncomputable def tr0 (P:Params):BT:=ofL 12 (ol0 P)
noncomputable def po3v1 (P:Params):List DictEntry:=[ke P s2 165 (.str s3 194),ke P s280 166 .none,ke P s281 167 .none,ke P s282 168 (.builtin "__main__.__loader__#opaque"),ke P s283 169 .none,ke P s432 170 (.ref 6),ke P s433 171 (.ref 4),ke P s434 173 (.str s435 172),ke P s436 174 .none,ke P s1 193 (.ref 21),ke P s4 197 (.int 8 196),ke P s5 199 (.int 27 198),ke P s6 201 (.int 28 200),ke P s7 203 (.int 34 202),ke P s8 205 (.int 35 204),ke P s9 207 (.int 36 206),ke P s10 209 (.int 59 208),ke P s11 211 (.int 61 210),ke P s12 213 (.int 62 212),ke P s13 215 (.int 63 214),ke P s14 217 (.int 64 216),ke P s15 219 (.int 65 218),ke P s16 221 (.int 71 220),ke P s17 223 (.int 80 222),ke P s18 225 (.int 81 224),ke P s19 227 (.int 99 226),ke P s20 229 (.int 16 228),ke P s21 231 (.int 32 230),ke P s22 233 (.int 64 232),ke P s23 235 (.int 128 234),ke P s24 237 (.int 256 236),ke P s25 239 (.int 512 238),ke P s26 241 (.int 1024 240),ke P s27 243 (.int 4096 242),ke P s28 245 (.int 8192 244),ke P s29 247 (.int 16384 246),ke P s30 249 (.int 32768 248),ke P s31 251 (.int 65536 250),ke P s32 253 (.int 131072 252),ke P s33 255 (.int 262144 254),ke P s34 257 (.int 524288 256),ke P s35 259 (.int 1048576 258),ke P s36 261 (.int 2097152 260),ke P s37 263 (.int 4194304 262)]
noncomputable def o3v1 (P:Params):Obj:=dl (po3v1 P) 44
noncomputable def po12v1:List Value:=lt [(1,0,20)]
noncomputable def o12v1 (P:Params):Obj:=fl (po12v1)
noncomputable def o20 (P:Params):Obj:=cd s1 s1 187 1 1 3 15 true 16 .none (.ref 17) (.ref 18) (.ref 19) 191
noncomputable def o21 (P:Params):Obj:=fb s1 s1 t0 .none (.str s431 164) 20
noncomputable def q1 (P:Params):List Obj:=[tu [],fl [],tu [(.str s0 190)],tu [],fa s1 s1 t0,o20 P,o21 P]
noncomputable def ol1 (P:Params):List Obj:=[o0 P,o1 P,o2 P,o3v1 P,o4 P,o5 P,o6 P,o7 P,o8 P,o9 P,o10 P,o11 P,o12v1 P,o13 P,o14 P]++q1 P
noncomputable def tr1 (P:Params):BT:=ofL 12 (ol1 P)
noncomputable def st0:List Stmt:=[t0,t1,t2,t3,t4,t5,t6,t7,t8,t9,t10,t11,t12,t13,t14,t15,t16,t17,t18,t19,t20,t21,t22,t23,t24,t25,t26,t27,t28,t29,t30,t31,t32,t33,t34,t35]
theorem pc0 (w:World):(fun os=>segRunT treeTable PySem.Challenge.pw_xw0122_01 w 11 (some (.ref 6)) 1 345 ⟨tr0 w.params,15,⟨[],[],[],0,[],[],false,#[],[],0,false,false,false,0,[2000,10,10],false,0,true,[],[],0,false⟩,#[],⟨0,0,0,0⟩,187,os⟩ (piecesOf st0 env0 cE ⟨0,0,0,0⟩ B0)) = fun os=>some (.next,⟨tr1 w.params,22,⟨[],[],[],0,[],[],false,#[],[],0,false,false,false,0,[2000,10,10],false,0,true,[],[],0,false⟩,#[],⟨0,0,0,0⟩,264,os⟩,cE,⟨38,0,38,9⟩):=by
 rw [PySem.W.Fast.te10110043849684766642,PySem.W.Fast.te14364793385576792824]; kernel_rfl
noncomputable def po3v2 (P:Params):List DictEntry:=[ke P s2 165 (.str s57 330),ke P s280 166 .none,ke P s281 167 .none,ke P s282 168 (.builtin "__main__.__loader__#opaque"),ke P s283 169 .none,ke P s432 170 (.ref 6),ke P s433 171 (.ref 4),ke P s434 173 (.str s435 172),ke P s436 174 .none,ke P s1 193 (.ref 21),ke P s4 197 (.int 8 196),ke P s5 199 (.int 27 198),ke P s6 201 (.int 28 200),ke P s7 203 (.int 34 202),ke P s8 205 (.int 35 204),ke P s9 207 (.int 36 206),ke P s10 209 (.int 59 208),ke P s11 211 (.int 61 210),ke P s12 213 (.int 62 212),ke P s13 215 (.int 63 214),ke P s14 217 (.int 64 216),ke P s15 219 (.int 65 218),ke P s16 221 (.int 71 220),ke P s17 223 (.int 80 222),ke P s18 225 (.int 81 224),ke P s19 227 (.int 99 226),ke P s20 229 (.int 16 228),ke P s21 231 (.int 32 230),ke P s22 233 (.int 64 232),ke P s23 235 (.int 128 234),ke P s24 237 (.int 256 236),ke P s25 239 (.int 512 238),ke P s26 241 (.int 1024 240),ke P s27 243 (.int 4096 242),ke P s28 245 (.int 8192 244),ke P s29 247 (.int 16384 246),ke P s30 249 (.int 32768 248),ke P s31 251 (.int 65536 250),ke P s32 253 (.int 131072 252),ke P s33 255 (.int 262144 254),ke P s34 257 (.int 524288 256),ke P s35 259 (.int 1048576 258),ke P s36 261 (.int 2097152 260),ke P s37 263 (.int 4194304 262),ke P s46 301 (.ref 38),ke P s49 309 (.ref 49),ke P s51 313 (.int 245760 312),ke P s52 320 (.ref 56),ke P s56 329 (.ref 63),ke P s61 341 (.ref 70)]
noncomputable def o3v2 (P:Params):Obj:=dl (po3v2 P) 50
noncomputable def po12v2:List Value:=lt [(39,0,27),(48,0,48),(52,0,55),(54,0,62),(60,0,69)]
noncomputable def o12v2 (P:Params):Obj:=fl (po12v1++po12v2)
noncomputable def o24 (P:Params):Obj:=dl [ke P s438 271 (.str s3 194),ke P s439 273 (.str s46 272),ke P s440 275 (.int 39 274),ke P s45 287 (.ref 35),ke P s441 294 (.ref 36)] 5
noncomputable def o27 (P:Params):Obj:=cd s46 s46 266 39 0 0 25 false 26 .none .none .none .none 269
noncomputable def o34 (P:Params):Obj:=cd s45 s442 276 41 6 3 29 true 30 .none (.ref 31) (.ref 32) (.ref 33) 285
noncomputable def o35 (P:Params):Obj:=fb s45 s442 t36_0 .none (.str s3 194) 34
noncomputable def o37 (P:Params):Obj:=dl [ke P s438 271 (.str s3 194),ke P s440 275 (.int 39 274),ke P s45 287 (.ref 35),ke P s441 294 (.ref 36),ke P s443 296 (.ref 39),ke P s444 298 (.ref 40),ke P s280 299 .none] 4
noncomputable def o38 (P:Params):Obj:=cl s46 38 37 [none,none,(some (.str s46 264)),(some (.str s46 272)),(some (.builtin "object.__new__")),(some (.bool true))]
noncomputable def o48 (P:Params):Obj:=cd s49 s49 302 48 2 3 43 true 44 .none (.ref 45) (.ref 46) (.ref 47) 307
noncomputable def o49 (P:Params):Obj:=fb s49 s49 t37 .none (.str s3 194) 48
noncomputable def o55 (P:Params):Obj:=cd s52 s52 314 52 1 3 50 true 51 .none (.ref 52) (.ref 53) (.ref 54) 318
noncomputable def o56 (P:Params):Obj:=fb s52 s52 t40 .none (.str s50 310) 55
noncomputable def o62 (P:Params):Obj:=cd s56 s56 321 54 2 3 57 true 58 .none (.ref 59) (.ref 60) (.ref 61) 327
noncomputable def o63 (P:Params):Obj:=fb s56 s56 t41 .none (.str s50 310) 62
noncomputable def o69 (P:Params):Obj:=cd s61 s61 332 60 2 3 64 true 65 .none (.ref 66) (.ref 67) (.ref 68) 339
noncomputable def o70 (P:Params):Obj:=fb s61 s61 t43 .none (.str s57 330) 69
noncomputable def q2 (P:Params):List Obj:=[tu [],ob "builtin_function_or_method" [(.builtin "type.__prepare__"),(.type "type")],o24 P,tu [],fl [(.int 41 0),(.int 4 0),(.ref 34)],o27 P,fr [(some (.ref 27)),(some (.ref 3)),(some (.ref 24)),none,(some (.str s3 194)),none,(some (.ref 0))],tu [],fl [],tu [(.str s38 279),(.str s39 280),(.str s40 281),(.str s41 282),(.str s42 283),(.str s43 284)],tu [],fa s45 s442 t36_0,o34 P,o35 P,tu [(.str s40 288),(.str s43 289),(.str s42 290),(.str s41 291),(.str s39 292),(.str s44 293)],o37 P,o38 P,ob "getset_descriptor" [(.str s443 295),(.ref 38),(.builtin "function.__dict__"),(.builtin "function.__dict__#set")],ob "getset_descriptor" [(.str s444 297),(.ref 38),(.builtin "ExceptionGroup.__weakref__"),.none],ob "super" [(.ref 38),(.ref 38),(.ref 38)],ob "builtin_function_or_method" [(.builtin "object.__init_subclass__"),(.ref 38)],tu [],fl [],tu [(.str s47 305),(.str s48 306)],tu [],fa s49 s49 t37,o48 P,o49 P,tu [],fl [],tu [(.str s47 317)],tu [],fa s52 s52 t40,o55 P,o56 P,tu [],fl [],tu [(.str s53 324),(.str s54 325),(.str s47 326)],tu [],fa s56 s56 t41,o62 P,o63 P,tu [],fl [],tu [(.str s47 335),(.str s58 336),(.str s59 337),(.str s60 338)],tu [],fa s61 s61 t43,o69 P,o70 P]
noncomputable def ol2 (P:Params):List Obj:=[o0 P,o1 P,o2 P,o3v2 P,o4 P,o5 P,o6 P,o7 P,o8 P,o9 P,o10 P,o11 P,o12v2 P,o13 P,o14 P]++(q1 P++q2 P)
noncomputable def tr2 (P:Params):BT:=ofL 12 (ol2 P)
noncomputable def st1:List Stmt:=[t36,t37,t38,t39,t40,t41,t42,t43]
theorem pc1 (w:World):(fun os=>segRunT treeTable PySem.Challenge.pw_xw0122_01 w 11 (some (.ref 6)) 1 381 ⟨tr1 w.params,22,⟨[],[],[],0,[],[],false,#[],[],0,false,false,false,0,[2000,10,10],false,0,true,[],[],0,false⟩,#[],⟨0,0,0,0⟩,264,os⟩ (piecesOf st1 env0 cE ⟨38,0,38,9⟩ B0)) = fun os=>some (.next,⟨tr2 w.params,71,⟨[],[],[],0,[],[],false,#[],[],0,false,false,false,0,[2000,10,10],false,0,true,[],[],0,false⟩,#[],⟨0,0,0,0⟩,342,os⟩,cE,⟨60,0,68,16⟩):=by
 rw [PySem.W.Fast.te10110043849684766642,PySem.W.Fast.te14364793385576792824]; kernel_rfl
noncomputable def o2v1 (P:Params):Obj:=⟨.none,none,(.dict #[⟨(kh P s445),(.str s445 397),(.int 107 0)⟩,⟨(kh P s446),(.str s446 398),(.int 1 0)⟩] 2),#[]⟩
noncomputable def po3v3 (P:Params):List DictEntry:=[ke P s2 165 (.str s73 368),ke P s280 166 .none,ke P s281 167 .none,ke P s282 168 (.builtin "__main__.__loader__#opaque"),ke P s283 169 .none,ke P s432 170 (.ref 6),ke P s433 171 (.ref 4),ke P s434 173 (.str s435 172),ke P s436 174 .none,ke P s1 193 (.ref 21),ke P s4 197 (.int 8 196),ke P s5 199 (.int 27 198),ke P s6 201 (.int 28 200),ke P s7 203 (.int 34 202),ke P s8 205 (.int 35 204),ke P s9 207 (.int 36 206),ke P s10 209 (.int 59 208),ke P s11 211 (.int 61 210),ke P s12 213 (.int 62 212),ke P s13 215 (.int 63 214),ke P s14 217 (.int 64 216),ke P s15 219 (.int 65 218),ke P s16 221 (.int 71 220),ke P s17 223 (.int 80 222),ke P s18 225 (.int 81 224),ke P s19 227 (.int 99 226),ke P s20 229 (.int 16 228),ke P s21 231 (.int 32 230),ke P s22 233 (.int 64 232),ke P s23 235 (.int 128 234),ke P s24 237 (.int 256 236),ke P s25 239 (.int 512 238),ke P s26 241 (.int 1024 240),ke P s27 243 (.int 4096 242),ke P s28 245 (.int 8192 244),ke P s29 247 (.int 16384 246),ke P s30 249 (.int 32768 248),ke P s31 251 (.int 65536 250),ke P s32 253 (.int 131072 252),ke P s33 255 (.int 262144 254),ke P s34 257 (.int 524288 256),ke P s35 259 (.int 1048576 258),ke P s36 261 (.int 2097152 260),ke P s37 263 (.int 4194304 262),ke P s46 301 (.ref 38),ke P s49 309 (.ref 49),ke P s51 313 (.int 245760 312),ke P s52 320 (.ref 56),ke P s56 329 (.ref 63),ke P s61 341 (.ref 70),ke P s63 350 (.ref 77),ke P s67 356 (.ref 82),ke P s72 367 (.ref 89),ke P s77 400 (.ref 107)]
noncomputable def o3v3 (P:Params):Obj:=dl (po3v3 P) 54
noncomputable def po12v3:List Value:=lt [(69,0,76),(78,0,81),(84,0,88),(95,0,95)]
noncomputable def o12v3 (P:Params):Obj:=fl (po12v1++(po12v2++po12v3))
noncomputable def o76 (P:Params):Obj:=cd s63 s63 342 69 2 3 71 true 72 .none (.ref 73) (.ref 74) (.ref 75) 348
noncomputable def o77 (P:Params):Obj:=fb s63 s63 t44 .none (.str s57 330) 76
noncomputable def o81 (P:Params):Obj:=cd s67 s67 351 78 1 3 78 true 79 .none .none .none (.ref 80) 354
noncomputable def o82 (P:Params):Obj:=fb s67 s67 t45 .none (.str s57 330) 81
noncomputable def o88 (P:Params):Obj:=cd s72 s72 357 84 1 3 83 true 84 .none (.ref 85) (.ref 86) (.ref 87) 365
noncomputable def o89 (P:Params):Obj:=fb s72 s72 t46 .none (.str s57 330) 88
noncomputable def o92 (P:Params):Obj:=dl [ke P s438 377 (.str s73 368),ke P s439 379 (.str s77 378),ke P s440 381 (.int 95 380),ke P s45 390 (.ref 104),ke P s441 393 (.ref 105)] 5
noncomputable def o95 (P:Params):Obj:=cd s77 s77 372 95 0 0 93 false 94 .none .none .none .none 375
noncomputable def o103 (P:Params):Obj:=cd s45 s447 383 97 2 3 98 true 99 .none (.ref 100) (.ref 101) (.ref 102) 388
noncomputable def o104 (P:Params):Obj:=fb s45 s447 t48_0 (.ref 97) (.str s73 368) 103
noncomputable def o106 (P:Params):Obj:=dl [ke P s438 377 (.str s73 368),ke P s440 381 (.int 95 380),ke P s45 390 (.ref 104),ke P s441 393 (.ref 105),ke P s444 395 (.ref 108),ke P s280 396 .none] 3
noncomputable def o107 (P:Params):Obj:=⟨(.type "type"),none,(.cls ⟨s77,[(.type "Exception")],[(.ref 107),(.type "Exception"),(.type "BaseException"),(.type "object")],106,s77,true,[],[],false,none,false⟩),#[(some (.ref 90)),none,(some (.str s77 370)),(some (.str s77 378)),(some (.builtin "Exception.__new__")),(some (.bool true))]⟩
noncomputable def q3 (P:Params):List Obj:=[tu [],fl [],tu [(.str s47 345),(.str s62 346),(.str s59 347)],tu [],fa s63 s63 t44,o76 P,o77 P,tu [],fl [],fa s67 s67 t45,o81 P,o82 P,tu [],fl [],tu [(.str s53 360),(.str s68 361),(.str s54 362),(.str s62 363),(.str s47 364)],tu [],fa s72 s72 t46,o88 P,o89 P,tu [(.type "Exception")],ob "builtin_function_or_method" [(.builtin "type.__prepare__"),(.type "type")],o92 P,tu [],fl [(.int 97 0),(.int 4 0),(.ref 103)],o95 P,fr [(some (.ref 95)),(some (.ref 3)),(some (.ref 92)),none,(some (.str s73 368)),none,(some (.ref 0))],tu [(.str s75 382)],tu [],fl [],tu [(.str s38 386),(.str s74 387)],tu [],fa s45 s447 t48_0,o103 P,o104 P,tu [(.str s76 391),(.str s74 392)],o106 P,o107 P,ob "getset_descriptor" [(.str s444 394),(.ref 107),(.builtin "ExceptionGroup.__weakref__"),.none],ob "super" [(.ref 107),(.ref 107),(.ref 107)],ob "builtin_function_or_method" [(.builtin "object.__init_subclass__"),(.ref 107)]]
noncomputable def ol3 (P:Params):List Obj:=[o0 P,o1 P,o2v1 P,o3v3 P,o4 P,o5 P,o6 P,o7 P,o8 P,o9 P,o10 P,o11 P,o12v3 P,o13 P,o14 P]++(q1 P++(q2 P++q3 P))
noncomputable def tr3 (P:Params):BT:=ofL 12 (ol3 P)
noncomputable def st2:List Stmt:=[t44,t45,t46,t47,t48]
theorem pc2 (w:World):(fun os=>segRunT treeTable PySem.Challenge.pw_xw0122_01 w 11 (some (.ref 6)) 1 331 ⟨tr2 w.params,71,⟨[],[],[],0,[],[],false,#[],[],0,false,false,false,0,[2000,10,10],false,0,true,[],[],0,false⟩,#[],⟨0,0,0,0⟩,342,os⟩ (piecesOf st2 env0 cE ⟨60,0,68,16⟩ B0)) = fun os=>some (.next,⟨tr3 w.params,111,⟨[],[],[],0,[],[],false,#[],[],0,false,false,false,0,[2000,10,10],false,0,true,[],[],0,false⟩,#[],⟨0,0,0,0⟩,401,os⟩,cE,⟨95,0,99,24⟩):=by
 rw [PySem.W.Fast.te10110043849684766642,PySem.W.Fast.te14364793385576792824]; kernel_rfl
noncomputable def po3v4 (P:Params):List DictEntry:=[ke P s79 427 (.ref 128)]
noncomputable def o3v4 (P:Params):Obj:=dl (po3v3 P++po3v4 P) 55
noncomputable def po12v4:List Value:=lt [(100,0,116)]
noncomputable def o12v4 (P:Params):Obj:=fl (po12v1++(po12v2++(po12v3++po12v4)))
noncomputable def o107v1 (P:Params):Obj:=⟨(.type "type"),none,(.cls ⟨s77,[(.type "Exception")],[(.ref 107),(.type "Exception"),(.type "BaseException"),(.type "object")],106,s77,true,[],[(.ref 128)],false,none,false⟩),#[(some (.ref 90)),none,(some (.str s77 370)),(some (.str s77 378)),(some (.builtin "Exception.__new__")),(some (.bool true))]⟩
noncomputable def o113 (P:Params):Obj:=dl [ke P s438 408 (.str s73 368),ke P s439 410 (.str s79 409),ke P s440 412 (.int 100 411),ke P s45 421 (.ref 125),ke P s441 424 (.ref 126)] 5
noncomputable def o116 (P:Params):Obj:=cd s79 s79 403 100 0 0 114 false 115 .none .none .none .none 406
noncomputable def o124 (P:Params):Obj:=cd s45 s448 414 102 2 3 119 true 120 .none (.ref 121) (.ref 122) (.ref 123) 419
noncomputable def o125 (P:Params):Obj:=⟨(.type "function"),none,(.func ⟨s45,s448,a49_0,(.stmts b49_0),c48_0,3,[],(.ref 118),.none,.none,(.str s73 368),none,(.ref 124),.none,0⟩),#[]⟩
noncomputable def o127 (P:Params):Obj:=dl [ke P s438 408 (.str s73 368),ke P s440 412 (.int 100 411),ke P s45 421 (.ref 125),ke P s441 424 (.ref 126),ke P s280 425 .none] 2
noncomputable def o128 (P:Params):Obj:=⟨(.type "type"),none,(.cls ⟨s79,[(.ref 107)],[(.ref 128),(.ref 107),(.type "Exception"),(.type "BaseException"),(.type "object")],127,s79,true,[],[],false,none,false⟩),#[(some (.ref 111)),none,(some (.str s79 401)),(some (.str s79 409)),(some (.builtin "Exception.__new__")),(some (.bool true))]⟩
noncomputable def q4 (P:Params):List Obj:=[tu [(.ref 107)],ob "builtin_function_or_method" [(.builtin "type.__prepare__"),(.type "type")],o113 P,tu [],fl [(.int 102 0),(.int 4 0),(.ref 124)],o116 P,fr [(some (.ref 116)),(some (.ref 3)),(some (.ref 113)),none,(some (.str s73 368)),none,(some (.ref 0))],tu [(.str s75 413)],tu [],fl [],tu [(.str s38 417),(.str s74 418)],tu [],⟨.none,none,(.func ⟨s45,s448,a49_0,(.stmts b49_0),c48_0,0,[],.none,.none,.none,.none,none,.none,.none,0⟩),#[]⟩,o124 P,o125 P,tu [(.str s76 422),(.str s74 423)],o127 P,o128 P,ob "super" [(.ref 128),(.ref 128),(.ref 128)],ob "builtin_function_or_method" [(.builtin "object.__init_subclass__"),(.ref 128)]]
noncomputable def ol4 (P:Params):List Obj:=[o0 P,o1 P,o2v1 P,o3v4 P,o4 P,o5 P,o6 P,o7 P,o8 P,o9 P,o10 P,o11 P,o12v4 P,o13 P,o14 P]++(q1 P++(q2 P++((q3 P).set 36 (o107v1 P)++q4 P)))
noncomputable def tr4 (P:Params):BT:=ofL 12 (ol4 P)
noncomputable def st3:List Stmt:=[t49]
theorem pc3 (w:World):(fun os=>segRunT treeTable PySem.Challenge.pw_xw0122_01 w 11 (some (.ref 6)) 1 249 ⟨tr3 w.params,111,⟨[],[],[],0,[],[],false,#[],[],0,false,false,false,0,[2000,10,10],false,0,true,[],[],0,false⟩,#[],⟨0,0,0,0⟩,401,os⟩ (piecesOf st3 env0 cE ⟨95,0,99,24⟩ B0)) = fun os=>some (.next,⟨tr4 w.params,131,⟨[],[],[],0,[],[],false,#[],[],0,false,false,false,0,[2000,10,10],false,0,true,[],[],0,false⟩,#[],⟨0,0,0,0⟩,428,os⟩,cE,⟨100,0,104,24⟩):=by
 rw [PySem.W.Fast.te10110043849684766642,PySem.W.Fast.te14364793385576792824]; kernel_rfl
noncomputable def po3v5 (P:Params):List DictEntry:=[ke P s83 469 (.ref 154)]
noncomputable def o3v5 (P:Params):Obj:=dl (po3v3 P++(po3v4 P++po3v5 P)) 56
noncomputable def po12v5:List Value:=lt [(105,0,136)]
noncomputable def o12v5 (P:Params):Obj:=fl (po12v1++(po12v2++(po12v3++(po12v4++po12v5))))
noncomputable def o133 (P:Params):Obj:=dl [ke P s438 435 (.str s73 368),ke P s439 437 (.str s83 436),ke P s440 439 (.int 105 438),ke P s45 450 (.ref 144),ke P s82 457 (.ref 151),ke P s441 462 (.ref 152)] 6
noncomputable def o136 (P:Params):Obj:=cd s83 s83 430 105 0 0 134 false 135 .none .none .none .none 433
noncomputable def o143 (P:Params):Obj:=cd s45 s449 440 107 5 3 138 true 139 .none (.ref 140) (.ref 141) (.ref 142) 448
noncomputable def o144 (P:Params):Obj:=fb s45 s449 t50_0 .none (.str s73 368) 143
noncomputable def o150 (P:Params):Obj:=cd s82 s450 451 113 1 3 145 true 146 .none (.ref 147) (.ref 148) (.ref 149) 455
noncomputable def o151 (P:Params):Obj:=fb s82 s450 t50_1 .none (.str s73 368) 150
noncomputable def o153 (P:Params):Obj:=dl [ke P s438 435 (.str s73 368),ke P s440 439 (.int 105 438),ke P s45 450 (.ref 144),ke P s82 457 (.ref 151),ke P s441 462 (.ref 152),ke P s443 464 (.ref 155),ke P s444 466 (.ref 156),ke P s280 467 .none] 4
noncomputable def o154 (P:Params):Obj:=cl s83 154 153 [none,none,(some (.str s83 428)),(some (.str s83 436)),(some (.builtin "object.__new__")),(some (.bool true))]
noncomputable def q5 (P:Params):List Obj:=[tu [],ob "builtin_function_or_method" [(.builtin "type.__prepare__"),(.type "type")],o133 P,tu [],fl (lt [(107,4,143),(113,4,150)]),o136 P,fr [(some (.ref 136)),(some (.ref 3)),(some (.ref 133)),none,(some (.str s73 368)),none,(some (.ref 0))],tu [],fl [],tu [(.str s38 443),(.str s76 444),(.str s43 445),(.str s80 446),(.str s81 447)],tu [],fa s45 s449 t50_0,o143 P,o144 P,tu [],fl [],tu [(.str s38 454)],tu [],fa s82 s450 t50_1,o150 P,o151 P,tu [(.str s80 458),(.str s43 459),(.str s81 460),(.str s76 461)],o153 P,o154 P,ob "getset_descriptor" [(.str s443 463),(.ref 154),(.builtin "function.__dict__"),(.builtin "function.__dict__#set")],ob "getset_descriptor" [(.str s444 465),(.ref 154),(.builtin "ExceptionGroup.__weakref__"),.none],ob "super" [(.ref 154),(.ref 154),(.ref 154)],ob "builtin_function_or_method" [(.builtin "object.__init_subclass__"),(.ref 154)]]
noncomputable def ol5 (P:Params):List Obj:=[o0 P,o1 P,o2v1 P,o3v5 P,o4 P,o5 P,o6 P,o7 P,o8 P,o9 P,o10 P,o11 P,o12v5 P,o13 P,o14 P]++(q1 P++(q2 P++((q3 P).set 36 (o107v1 P)++(q4 P++q5 P))))
noncomputable def tr5 (P:Params):BT:=ofL 12 (ol5 P)
noncomputable def st4:List Stmt:=[t50]
theorem pc4 (w:World):(fun os=>segRunT treeTable PySem.Challenge.pw_xw0122_01 w 11 (some (.ref 6)) 1 260 ⟨tr4 w.params,131,⟨[],[],[],0,[],[],false,#[],[],0,false,false,false,0,[2000,10,10],false,0,true,[],[],0,false⟩,#[],⟨0,0,0,0⟩,428,os⟩ (piecesOf st4 env0 cE ⟨100,0,104,24⟩ B0)) = fun os=>some (.next,⟨tr5 w.params,159,⟨[],[],[],0,[],[],false,#[],[],0,false,false,false,0,[2000,10,10],false,0,true,[],[],0,false⟩,#[],⟨0,0,0,0⟩,470,os⟩,cE,⟨105,0,114,48⟩):=by
 rw [PySem.W.Fast.te10110043849684766642,PySem.W.Fast.te14364793385576792824]; kernel_rfl
noncomputable def po3v6 (P:Params):List DictEntry:=[ke P s2 165 (.str s88 518),ke P s280 166 .none,ke P s281 167 .none,ke P s282 168 (.builtin "__main__.__loader__#opaque"),ke P s283 169 .none,ke P s432 170 (.ref 6),ke P s433 171 (.ref 4),ke P s434 173 (.str s435 172),ke P s436 174 .none,ke P s1 193 (.ref 21),ke P s4 197 (.int 8 196),ke P s5 199 (.int 27 198),ke P s6 201 (.int 28 200),ke P s7 203 (.int 34 202),ke P s8 205 (.int 35 204),ke P s9 207 (.int 36 206),ke P s10 209 (.int 59 208),ke P s11 211 (.int 61 210),ke P s12 213 (.int 62 212),ke P s13 215 (.int 63 214),ke P s14 217 (.int 64 216),ke P s15 219 (.int 65 218),ke P s16 221 (.int 71 220),ke P s17 223 (.int 80 222),ke P s18 225 (.int 81 224),ke P s19 227 (.int 99 226),ke P s20 229 (.int 16 228),ke P s21 231 (.int 32 230),ke P s22 233 (.int 64 232),ke P s23 235 (.int 128 234),ke P s24 237 (.int 256 236),ke P s25 239 (.int 512 238),ke P s26 241 (.int 1024 240),ke P s27 243 (.int 4096 242),ke P s28 245 (.int 8192 244),ke P s29 247 (.int 16384 246),ke P s30 249 (.int 32768 248),ke P s31 251 (.int 65536 250),ke P s32 253 (.int 131072 252),ke P s33 255 (.int 262144 254),ke P s34 257 (.int 524288 256),ke P s35 259 (.int 1048576 258),ke P s36 261 (.int 2097152 260),ke P s37 263 (.int 4194304 262),ke P s46 301 (.ref 38),ke P s49 309 (.ref 49),ke P s51 313 (.int 245760 312),ke P s52 320 (.ref 56),ke P s56 329 (.ref 63),ke P s61 341 (.ref 70),ke P s63 350 (.ref 77),ke P s67 356 (.ref 82),ke P s72 367 (.ref 89),ke P s77 400 (.ref 107),ke P s79 427 (.ref 128),ke P s83 469 (.ref 154),ke P s87 517 (.ref 190),ke P s89 521 (.int 1 520),ke P s90 523 (.int 2 522),ke P s91 525 (.int 6 524),ke P s92 527 (.int 8 526)]
noncomputable def o3v6 (P:Params):Obj:=dl (po3v6 P) 61
noncomputable def po12v6:List Value:=lt [(115,0,164)]
noncomputable def o12v6 (P:Params):Obj:=fl (po12v1++(po12v2++(po12v3++(po12v4++(po12v5++po12v6)))))
noncomputable def o161 (P:Params):Obj:=dl [ke P s438 477 (.str s73 368),ke P s439 479 (.str s87 478),ke P s440 481 (.int 115 480),ke P s45 490 (.ref 173),ke P s85 500 (.ref 180),ke P s86 507 (.ref 187),ke P s441 510 (.ref 188)] 7
noncomputable def o164 (P:Params):Obj:=cd s87 s87 472 115 0 0 162 false 163 .none .none .none .none 475
noncomputable def o166 (P:Params):Obj:=tu [(.str s75 482)]
noncomputable def o172 (P:Params):Obj:=cd s45 s451 483 117 2 3 167 true 168 .none (.ref 169) (.ref 170) (.ref 171) 488
noncomputable def o173 (P:Params):Obj:=fb s45 s451 t51_0 (.ref 166) (.str s73 368) 172
noncomputable def o179 (P:Params):Obj:=cd s85 s452 491 121 4 3 174 true 175 .none (.ref 176) (.ref 177) (.ref 178) 498
noncomputable def o180 (P:Params):Obj:=fb s85 s452 t51_1 .none (.str s73 368) 179
noncomputable def o186 (P:Params):Obj:=cd s86 s453 501 124 1 3 181 true 182 .none (.ref 183) (.ref 184) (.ref 185) 505
noncomputable def o187 (P:Params):Obj:=fb s86 s453 t51_2 .none (.str s73 368) 186
noncomputable def o189 (P:Params):Obj:=dl [ke P s438 477 (.str s73 368),ke P s440 481 (.int 115 480),ke P s45 490 (.ref 173),ke P s85 500 (.ref 180),ke P s86 507 (.ref 187),ke P s441 510 (.ref 188),ke P s443 512 (.ref 191),ke P s444 514 (.ref 192),ke P s280 515 .none] 4
noncomputable def o190 (P:Params):Obj:=cl s87 190 189 [none,none,(some (.str s87 470)),(some (.str s87 478)),(some (.builtin "object.__new__")),(some (.bool true))]
noncomputable def q6 (P:Params):List Obj:=[tu [],ob "builtin_function_or_method" [(.builtin "type.__prepare__"),(.type "type")],o161 P,tu [],fl (lt [(117,4,172),(121,4,179),(124,4,186)]),o164 P,fr [(some (.ref 164)),(some (.ref 3)),(some (.ref 161)),none,(some (.str s73 368)),none,(some (.ref 0))],o166 P,tu [],fl [],tu [(.str s38 486),(.str s81 487)],tu [],fa s45 s451 t51_0,o172 P,o173 P,tu [],fl [],tu [(.str s38 494),(.str s76 495),(.str s43 496),(.str s80 497)],tu [],fa s85 s452 t51_1,o179 P,o180 P,tu [],fl [],tu [(.str s38 504)],tu [],fa s86 s453 t51_2,o186 P,o187 P,tu [(.str s81 508),(.str s84 509)],o189 P,o190 P,ob "getset_descriptor" [(.str s443 511),(.ref 190),(.builtin "function.__dict__"),(.builtin "function.__dict__#set")],ob "getset_descriptor" [(.str s444 513),(.ref 190),(.builtin "ExceptionGroup.__weakref__"),.none],ob "super" [(.ref 190),(.ref 190),(.ref 190)],ob "builtin_function_or_method" [(.builtin "object.__init_subclass__"),(.ref 190)]]
noncomputable def ol6 (P:Params):List Obj:=[o0 P,o1 P,o2v1 P,o3v6 P,o4 P,o5 P,o6 P,o7 P,o8 P,o9 P,o10 P,o11 P,o12v6 P,o13 P,o14 P]++(q1 P++(q2 P++((q3 P).set 36 (o107v1 P)++(q4 P++(q5 P++q6 P)))))
noncomputable def tr6 (P:Params):BT:=ofL 12 (ol6 P)
noncomputable def st5:List Stmt:=[t51,t52,t53,t54,t55,t56]
theorem pc5 (w:World):(fun os=>segRunT treeTable PySem.Challenge.pw_xw0122_01 w 11 (some (.ref 6)) 1 336 ⟨tr5 w.params,159,⟨[],[],[],0,[],[],false,#[],[],0,false,false,false,0,[2000,10,10],false,0,true,[],[],0,false⟩,#[],⟨0,0,0,0⟩,470,os⟩ (piecesOf st5 env0 cE ⟨105,0,114,48⟩ B0)) = fun os=>some (.next,⟨tr6 w.params,195,⟨[],[],[],0,[],[],false,#[],[],0,false,false,false,0,[2000,10,10],false,0,true,[],[],0,false⟩,#[],⟨0,0,0,0⟩,528,os⟩,cE,⟨130,0,130,5⟩):=by
 rw [PySem.W.Fast.te10110043849684766642,PySem.W.Fast.te14364793385576792824]; kernel_rfl
noncomputable def po3v7 (P:Params):List DictEntry:=[ke P s93 549 (.ref 217)]
noncomputable def o3v7 (P:Params):Obj:=dl (po3v6 P++po3v7 P) 62
noncomputable def o195 (P:Params):Obj:=tu [(.int 1 520),(.str s94 528)]
noncomputable def o196 (P:Params):Obj:=tu [(.int 1 520),(.str s95 529)]
noncomputable def o197 (P:Params):Obj:=tu [(.int 1 520),(.str s96 530)]
noncomputable def o198 (P:Params):Obj:=tu [(.int 1 520),(.str s97 531)]
noncomputable def o199 (P:Params):Obj:=tu [(.int 1 520),(.str s98 532)]
noncomputable def o200 (P:Params):Obj:=tu [(.int 1 520),(.str s99 533)]
noncomputable def o201 (P:Params):Obj:=tu [(.int 1 520),(.str s100 534)]
noncomputable def o202 (P:Params):Obj:=tu [(.int 1 520),(.str s76 535)]
noncomputable def o203 (P:Params):Obj:=tu [(.int 2 522),(.int 0 536),(.int 0 537)]
noncomputable def o204 (P:Params):Obj:=tu [(.int 2 522),(.int 1 538),(.int 0 539)]
noncomputable def o205 (P:Params):Obj:=tu [(.int 1 520),(.str s101 540)]
noncomputable def o206 (P:Params):Obj:=tu []
noncomputable def o207 (P:Params):Obj:=tu []
noncomputable def o208 (P:Params):Obj:=tu []
noncomputable def o209 (P:Params):Obj:=tu []
noncomputable def o210 (P:Params):Obj:=tu []
noncomputable def o211 (P:Params):Obj:=tu [(.int 8 526),(.ref 206),(.ref 207),(.ref 208),(.ref 209),(.ref 210),(.int 0 541)]
noncomputable def o212 (P:Params):Obj:=tu [(.int 8 542),(.int 9 543)]
noncomputable def o213 (P:Params):Obj:=tu [(.int 6 524),(.ref 212)]
noncomputable def o214 (P:Params):Obj:=tu [(.int 1 520),(.str s102 544)]
noncomputable def o215 (P:Params):Obj:=tu [(.int 2 522),(.int 0 545),(.int 1 546)]
noncomputable def o216 (P:Params):Obj:=tu [(.int 2 522),(.int 1 547),(.int 1 548)]
noncomputable def o217 (P:Params):Obj:=tu [(.ref 195),(.ref 196),(.ref 197),(.ref 198),(.ref 199),(.ref 200),(.ref 201),(.ref 202),(.ref 203),(.ref 204),(.ref 205),(.ref 211),(.ref 213),(.ref 214),(.ref 215),(.ref 216)]
noncomputable def q7 (P:Params):List Obj:=[o195 P,o196 P,o197 P,o198 P,o199 P,o200 P,o201 P,o202 P,o203 P,o204 P,o205 P,o206 P,o207 P,o208 P,o209 P,o210 P,o211 P,o212 P,o213 P,o214 P,o215 P,o216 P,o217 P]
noncomputable def ol7 (P:Params):List Obj:=[o0 P,o1 P,o2v1 P,o3v7 P,o4 P,o5 P,o6 P,o7 P,o8 P,o9 P,o10 P,o11 P,o12v6 P,o13 P,o14 P]++(q1 P++(q2 P++((q3 P).set 36 (o107v1 P)++(q4 P++(q5 P++(q6 P++q7 P))))))
noncomputable def tr7 (P:Params):BT:=ofL 12 (ol7 P)
noncomputable def st6:List Stmt:=[t57]
theorem pc6 (w:World):(fun os=>segRunT treeTable PySem.Challenge.pw_xw0122_01 w 11 (some (.ref 6)) 1 108 ⟨tr6 w.params,195,⟨[],[],[],0,[],[],false,#[],[],0,false,false,false,0,[2000,10,10],false,0,true,[],[],0,false⟩,#[],⟨0,0,0,0⟩,528,os⟩ (piecesOf st6 env0 cE ⟨130,0,130,5⟩ B0)) = fun os=>some (.next,⟨tr7 w.params,218,⟨[],[],[],0,[],[],false,#[],[],0,false,false,false,0,[2000,10,10],false,0,true,[],[],0,false⟩,#[],⟨0,0,0,0⟩,550,os⟩,cE,⟨131,0,131,10⟩):=by
 rw [PySem.W.Fast.te10110043849684766642,PySem.W.Fast.te14364793385576792824]; kernel_rfl
noncomputable def po3v8 (P:Params):List DictEntry:=[ke P s2 165 (.str s115 605),ke P s280 166 .none,ke P s281 167 .none,ke P s282 168 (.builtin "__main__.__loader__#opaque"),ke P s283 169 .none,ke P s432 170 (.ref 6),ke P s433 171 (.ref 4),ke P s434 173 (.str s435 172),ke P s436 174 .none,ke P s1 193 (.ref 21),ke P s4 197 (.int 8 196),ke P s5 199 (.int 27 198),ke P s6 201 (.int 28 200),ke P s7 203 (.int 34 202),ke P s8 205 (.int 35 204),ke P s9 207 (.int 36 206),ke P s10 209 (.int 59 208),ke P s11 211 (.int 61 210),ke P s12 213 (.int 62 212),ke P s13 215 (.int 63 214),ke P s14 217 (.int 64 216),ke P s15 219 (.int 65 218),ke P s16 221 (.int 71 220),ke P s17 223 (.int 80 222),ke P s18 225 (.int 81 224),ke P s19 227 (.int 99 226),ke P s20 229 (.int 16 228),ke P s21 231 (.int 32 230),ke P s22 233 (.int 64 232),ke P s23 235 (.int 128 234),ke P s24 237 (.int 256 236),ke P s25 239 (.int 512 238),ke P s26 241 (.int 1024 240),ke P s27 243 (.int 4096 242),ke P s28 245 (.int 8192 244),ke P s29 247 (.int 16384 246),ke P s30 249 (.int 32768 248),ke P s31 251 (.int 65536 250),ke P s32 253 (.int 131072 252),ke P s33 255 (.int 262144 254),ke P s34 257 (.int 524288 256),ke P s35 259 (.int 1048576 258),ke P s36 261 (.int 2097152 260),ke P s37 263 (.int 4194304 262),ke P s46 301 (.ref 38),ke P s49 309 (.ref 49),ke P s51 313 (.int 245760 312),ke P s52 320 (.ref 56),ke P s56 329 (.ref 63),ke P s61 341 (.ref 70),ke P s63 350 (.ref 77),ke P s67 356 (.ref 82),ke P s72 367 (.ref 89),ke P s77 400 (.ref 107),ke P s79 427 (.ref 128),ke P s83 469 (.ref 154),ke P s87 517 (.ref 190),ke P s89 521 (.int 1 520),ke P s90 523 (.int 2 522),ke P s91 525 (.int 6 524),ke P s92 527 (.int 8 526),ke P s93 549 (.ref 217),ke P s114 604 (.ref 248),ke P s116 608 (.int 200 607),ke P s117 610 (.int 40 609)]
noncomputable def o3v8 (P:Params):Obj:=dl (po3v8 P) 65
noncomputable def po12v7:List Value:=lt [(132,0,223)]
noncomputable def o12v7 (P:Params):Obj:=fl (po12v1++(po12v2++(po12v3++(po12v4++(po12v5++(po12v6++po12v7))))))
noncomputable def o218 (P:Params):Obj:=tu []
noncomputable def o220 (P:Params):Obj:=dl [ke P s438 557 (.str s88 518),ke P s439 559 (.str s114 558),ke P s440 561 (.int 132 560),ke P s45 569 (.ref 231),ke P s82 577 (.ref 238),ke P s85 586 (.ref 245),ke P s441 597 (.ref 246)] 7
noncomputable def o221 (P:Params):Obj:=tu []
noncomputable def o223 (P:Params):Obj:=cd s114 s114 552 132 0 0 221 false 222 .none .none .none .none 555
noncomputable def o230 (P:Params):Obj:=cd s45 s454 562 134 1 3 225 true 226 .none (.ref 227) (.ref 228) (.ref 229) 567
noncomputable def o231 (P:Params):Obj:=fb s45 s454 t58_0 .none (.str s88 518) 230
noncomputable def o237 (P:Params):Obj:=cd s82 s455 570 148 2 3 232 true 233 .none (.ref 234) (.ref 235) (.ref 236) 575
noncomputable def o238 (P:Params):Obj:=fb s82 s455 t58_1 .none (.str s88 518) 237
noncomputable def o244 (P:Params):Obj:=cd s85 s456 578 151 2 3 239 true 240 .none (.ref 241) (.ref 242) (.ref 243) 584
noncomputable def o245 (P:Params):Obj:=fb s85 s456 t58_2 .none (.str s88 518) 244
noncomputable def o247 (P:Params):Obj:=dl [ke P s438 557 (.str s88 518),ke P s440 561 (.int 132 560),ke P s45 569 (.ref 231),ke P s82 577 (.ref 238),ke P s85 586 (.ref 245),ke P s441 597 (.ref 246),ke P s443 599 (.ref 249),ke P s444 601 (.ref 250),ke P s280 602 .none] 4
noncomputable def o248 (P:Params):Obj:=cl s114 248 247 [none,none,(some (.str s114 550)),(some (.str s114 558)),(some (.builtin "object.__new__")),(some (.bool true))]
noncomputable def q8 (P:Params):List Obj:=[o218 P,ob "builtin_function_or_method" [(.builtin "type.__prepare__"),(.type "type")],o220 P,o221 P,fl (lt [(134,4,230),(148,4,237),(151,4,244)]),o223 P,fr [(some (.ref 223)),(some (.ref 3)),(some (.ref 220)),none,(some (.str s88 518)),none,(some (.ref 0))],tu [],fl [],tu [(.str s38 565),(.str s82 566)],tu [],fa s45 s454 t58_0,o230 P,o231 P,tu [],fl [],tu [(.str s38 573),(.str s112 574)],tu [],fa s82 s455 t58_1,o237 P,o238 P,tu [],fl [],tu [(.str s38 581),(.str s82 582),(.str s112 583)],tu [],fa s85 s456 t58_2,o244 P,o245 P,tu [(.str s105 587),(.str s104 588),(.str s106 589),(.str s103 590),(.str s107 591),(.str s108 592),(.str s111 593),(.str s109 594),(.str s84 595),(.str s110 596)],o247 P,o248 P,ob "getset_descriptor" [(.str s443 598),(.ref 248),(.builtin "function.__dict__"),(.builtin "function.__dict__#set")],ob "getset_descriptor" [(.str s444 600),(.ref 248),(.builtin "ExceptionGroup.__weakref__"),.none],ob "super" [(.ref 248),(.ref 248),(.ref 248)],ob "builtin_function_or_method" [(.builtin "object.__init_subclass__"),(.ref 248)]]
noncomputable def ol8 (P:Params):List Obj:=[o0 P,o1 P,o2v1 P,o3v8 P,o4 P,o5 P,o6 P,o7 P,o8 P,o9 P,o10 P,o11 P,o12v7 P,o13 P,o14 P]++(q1 P++(q2 P++((q3 P).set 36 (o107v1 P)++(q4 P++(q5 P++(q6 P++(q7 P++q8 P)))))))
noncomputable def tr8 (P:Params):BT:=ofL 12 (ol8 P)
noncomputable def st7:List Stmt:=[t58,t59,t60,t61]
theorem pc7 (w:World):(fun os=>segRunT treeTable PySem.Challenge.pw_xw0122_01 w 11 (some (.ref 6)) 1 324 ⟨tr7 w.params,218,⟨[],[],[],0,[],[],false,#[],[],0,false,false,false,0,[2000,10,10],false,0,true,[],[],0,false⟩,#[],⟨0,0,0,0⟩,550,os⟩ (piecesOf st7 env0 cE ⟨131,0,131,10⟩ B0)) = fun os=>some (.next,⟨tr8 w.params,253,⟨[],[],[],0,[],[],false,#[],[],0,false,false,false,0,[2000,10,10],false,0,true,[],[],0,false⟩,#[],⟨0,0,0,0⟩,611,os⟩,cE,⟨160,0,160,11⟩):=by
 rw [PySem.W.Fast.te10110043849684766642,PySem.W.Fast.te14364793385576792824]; kernel_rfl
noncomputable def po3v9 (P:Params):List DictEntry:=[ke P s148 796 (.ref 395)]
noncomputable def o3v9 (P:Params):Obj:=dl (po3v8 P++po3v9 P) 66
noncomputable def po12v8:List Value:=lt [(161,0,258)]
noncomputable def o12v8 (P:Params):Obj:=fl (po12v1++(po12v2++(po12v3++(po12v4++(po12v5++(po12v6++(po12v7++po12v8)))))))
noncomputable def o255 (P:Params):Obj:=dl [ke P s438 618 (.str s115 605),ke P s439 620 (.str s148 619),ke P s440 622 (.int 161 621),ke P s45 630 (.ref 266),ke P s131 638 (.ref 273),ke P s132 646 (.ref 280),ke P s133 655 (.ref 287),ke P s134 664 (.ref 294),ke P s135 672 (.ref 301),ke P s124 680 (.ref 308),ke P s136 689 (.ref 315),ke P s137 698 (.ref 322),ke P s138 708 (.ref 329),ke P s139 717 (.ref 336),ke P s140 726 (.ref 343),ke P s141 735 (.ref 350),ke P s142 744 (.ref 357),ke P s143 751 (.ref 364),ke P s144 760 (.ref 371),ke P s145 768 (.ref 378),ke P s146 776 (.ref 385),ke P s147 783 (.ref 392),ke P s441 789 (.ref 393)] 23
noncomputable def o258 (P:Params):Obj:=cd s148 s148 613 161 0 0 256 false 257 .none .none .none .none 616
noncomputable def o265 (P:Params):Obj:=cd s45 s457 623 163 2 3 260 true 261 .none (.ref 262) (.ref 263) (.ref 264) 628
noncomputable def o266 (P:Params):Obj:=fb s45 s457 t62_0 .none (.str s115 605) 265
noncomputable def o272 (P:Params):Obj:=cd s131 s458 631 170 2 3 267 true 268 .none (.ref 269) (.ref 270) (.ref 271) 636
noncomputable def o273 (P:Params):Obj:=fb s131 s458 t62_1 .none (.str s115 605) 272
noncomputable def o279 (P:Params):Obj:=cd s132 s459 639 173 2 3 274 true 275 .none (.ref 276) (.ref 277) (.ref 278) 644
noncomputable def o280 (P:Params):Obj:=fb s132 s459 t62_2 .none (.str s115 605) 279
noncomputable def o286 (P:Params):Obj:=cd s133 s460 647 176 3 3 281 true 282 .none (.ref 283) (.ref 284) (.ref 285) 653
noncomputable def o287 (P:Params):Obj:=fb s133 s460 t62_3 .none (.str s115 605) 286
noncomputable def o293 (P:Params):Obj:=cd s134 s461 656 179 3 3 288 true 289 .none (.ref 290) (.ref 291) (.ref 292) 662
noncomputable def o294 (P:Params):Obj:=⟨(.type "function"),none,(.func ⟨s134,s461,a62_4,(.stmts b62_4),c62_3,3,[],.none,.none,.none,(.str s115 605),none,(.ref 293),.none,0⟩),#[]⟩
noncomputable def o300 (P:Params):Obj:=cd s135 s462 665 182 2 3 295 true 296 .none (.ref 297) (.ref 298) (.ref 299) 670
noncomputable def o301 (P:Params):Obj:=⟨(.type "function"),none,(.func ⟨s135,s462,a62_5,(.stmts b62_5),c58_1,3,[],.none,.none,.none,(.str s115 605),none,(.ref 300),.none,0⟩),#[]⟩
noncomputable def o307 (P:Params):Obj:=cd s124 s463 673 185 2 3 302 true 303 .none (.ref 304) (.ref 305) (.ref 306) 678
noncomputable def o308 (P:Params):Obj:=fb s124 s463 t62_6 .none (.str s115 605) 307
noncomputable def o314 (P:Params):Obj:=cd s136 s464 681 188 3 3 309 true 310 .none (.ref 311) (.ref 312) (.ref 313) 687
noncomputable def o315 (P:Params):Obj:=fb s136 s464 t62_7 .none (.str s115 605) 314
noncomputable def o321 (P:Params):Obj:=cd s137 s465 690 191 3 3 316 true 317 .none (.ref 318) (.ref 319) (.ref 320) 696
noncomputable def o322 (P:Params):Obj:=⟨(.type "function"),none,(.func ⟨s137,s465,a62_8,(.stmts b62_8),c62_7,3,[],.none,.none,.none,(.str s115 605),none,(.ref 321),.none,0⟩),#[]⟩
noncomputable def o328 (P:Params):Obj:=cd s138 s466 699 194 4 3 323 true 324 .none (.ref 325) (.ref 326) (.ref 327) 706
noncomputable def o329 (P:Params):Obj:=fb s138 s466 t62_9 .none (.str s115 605) 328
noncomputable def o335 (P:Params):Obj:=cd s139 s467 709 197 3 3 330 true 331 .none (.ref 332) (.ref 333) (.ref 334) 715
noncomputable def o336 (P:Params):Obj:=⟨(.type "function"),none,(.func ⟨s139,s467,a62_10,(.stmts b62_10),c62_7,3,[],.none,.none,.none,(.str s115 605),none,(.ref 335),.none,0⟩),#[]⟩
noncomputable def o342 (P:Params):Obj:=cd s140 s468 718 200 3 3 337 true 338 .none (.ref 339) (.ref 340) (.ref 341) 724
noncomputable def o343 (P:Params):Obj:=⟨(.type "function"),none,(.func ⟨s140,s468,a62_11,(.stmts b62_11),c62_7,3,[],.none,.none,.none,(.str s115 605),none,(.ref 342),.none,0⟩),#[]⟩
noncomputable def o349 (P:Params):Obj:=cd s141 s469 727 203 3 3 344 true 345 .none (.ref 346) (.ref 347) (.ref 348) 733
noncomputable def o350 (P:Params):Obj:=fb s141 s469 t62_12 .none (.str s115 605) 349
noncomputable def o356 (P:Params):Obj:=cd s142 s470 736 206 3 3 351 true 352 .none (.ref 353) (.ref 354) (.ref 355) 742
noncomputable def o357 (P:Params):Obj:=fb s142 s470 t62_13 .none (.str s115 605) 356
noncomputable def o363 (P:Params):Obj:=cd s143 s471 745 209 1 3 358 true 359 .none (.ref 360) (.ref 361) (.ref 362) 749
noncomputable def o364 (P:Params):Obj:=⟨(.type "function"),none,(.func ⟨s143,s471,a62_14,(.stmts b62_14),c51_2,3,[],.none,.none,.none,(.str s115 605),none,(.ref 363),.none,0⟩),#[]⟩
noncomputable def o370 (P:Params):Obj:=cd s144 s472 752 212 3 3 365 true 366 .none (.ref 367) (.ref 368) (.ref 369) 758
noncomputable def o371 (P:Params):Obj:=fb s144 s472 t62_15 .none (.str s115 605) 370
noncomputable def o377 (P:Params):Obj:=cd s145 s473 761 215 2 3 372 true 373 .none (.ref 374) (.ref 375) (.ref 376) 766
noncomputable def o378 (P:Params):Obj:=⟨(.type "function"),none,(.func ⟨s145,s473,a62_16,(.stmts b62_16),c62_1,3,[],.none,.none,.none,(.str s115 605),none,(.ref 377),.none,0⟩),#[]⟩
noncomputable def o384 (P:Params):Obj:=cd s146 s474 769 218 2 3 379 true 380 .none (.ref 381) (.ref 382) (.ref 383) 774
noncomputable def o385 (P:Params):Obj:=fb s146 s474 t62_17 .none (.str s115 605) 384
noncomputable def o391 (P:Params):Obj:=cd s147 s475 777 221 1 3 386 true 387 .none (.ref 388) (.ref 389) (.ref 390) 781
noncomputable def o392 (P:Params):Obj:=⟨(.type "function"),none,(.func ⟨s147,s475,a62_18,(.stmts b62_18),c51_2,3,[],.none,.none,.none,(.str s115 605),none,(.ref 391),.none,0⟩),#[]⟩
noncomputable def o394 (P:Params):Obj:=dl [ke P s438 618 (.str s115 605),ke P s440 622 (.int 161 621),ke P s45 630 (.ref 266),ke P s131 638 (.ref 273),ke P s132 646 (.ref 280),ke P s133 655 (.ref 287),ke P s134 664 (.ref 294),ke P s135 672 (.ref 301),ke P s124 680 (.ref 308),ke P s136 689 (.ref 315),ke P s137 698 (.ref 322),ke P s138 708 (.ref 329),ke P s139 717 (.ref 336),ke P s140 726 (.ref 343),ke P s141 735 (.ref 350),ke P s142 744 (.ref 357),ke P s143 751 (.ref 364),ke P s144 760 (.ref 371),ke P s145 768 (.ref 378),ke P s146 776 (.ref 385),ke P s147 783 (.ref 392),ke P s441 789 (.ref 393),ke P s443 791 (.ref 396),ke P s444 793 (.ref 397),ke P s280 794 .none] 4
noncomputable def o395 (P:Params):Obj:=cl s148 395 394 [none,none,(some (.str s148 611)),(some (.str s148 619)),(some (.builtin "object.__new__")),(some (.bool true))]
noncomputable def q9 (P:Params):List Obj:=[tu [],ob "builtin_function_or_method" [(.builtin "type.__prepare__"),(.type "type")],o255 P,tu [],fl (lt [(163,4,265),(170,4,272),(173,4,279),(176,4,286),(179,4,293),(182,4,300),(185,4,307),(188,4,314),(191,4,321),(194,4,328),(197,4,335),(200,4,342),(203,4,349),(206,4,356),(209,4,363),(212,4,370),(215,4,377),(218,4,384),(221,4,391)]),o258 P,fr [(some (.ref 258)),(some (.ref 3)),(some (.ref 255)),none,(some (.str s115 605)),none,(some (.ref 0))],tu [],fl [],tu [(.str s38 626),(.str s118 627)],tu [],fa s45 s457 t62_0,o265 P,o266 P,tu [],fl [],tu [(.str s38 634),(.str s112 635)],tu [],fa s131 s458 t62_1,o272 P,o273 P,tu [],fl [],tu [(.str s38 642),(.str s82 643)],tu [],fa s132 s459 t62_2,o279 P,o280 P,tu [],fl [],tu [(.str s38 650),(.str s82 651),(.str s123 652)],tu [],fa s133 s460 t62_3,o286 P,o287 P,tu [],fl [],tu [(.str s38 659),(.str s82 660),(.str s123 661)],tu [],⟨.none,none,(.func ⟨s134,s461,a62_4,(.stmts b62_4),c62_3,0,[],.none,.none,.none,.none,none,.none,.none,0⟩),#[]⟩,o293 P,o294 P,tu [],fl [],tu [(.str s38 668),(.str s112 669)],tu [],⟨.none,none,(.func ⟨s135,s462,a62_5,(.stmts b62_5),c58_1,0,[],.none,.none,.none,.none,none,.none,.none,0⟩),#[]⟩,o300 P,o301 P,tu [],fl [],tu [(.str s38 676),(.str s112 677)],tu [],fa s124 s463 t62_6,o307 P,o308 P,tu [],fl [],tu [(.str s38 684),(.str s125 685),(.str s112 686)],tu [],fa s136 s464 t62_7,o314 P,o315 P,tu [],fl [],tu [(.str s38 693),(.str s125 694),(.str s112 695)],tu [],⟨.none,none,(.func ⟨s137,s465,a62_8,(.stmts b62_8),c62_7,0,[],.none,.none,.none,.none,none,.none,.none,0⟩),#[]⟩,o321 P,o322 P,tu [],fl [],tu [(.str s38 702),(.str s126 703),(.str s127 704),(.str s128 705)],tu [],fa s138 s466 t62_9,o328 P,o329 P,tu [],fl [],tu [(.str s38 712),(.str s125 713),(.str s112 714)],tu [],⟨.none,none,(.func ⟨s139,s467,a62_10,(.stmts b62_10),c62_7,0,[],.none,.none,.none,.none,none,.none,.none,0⟩),#[]⟩,o335 P,o336 P,tu [],fl [],tu [(.str s38 721),(.str s125 722),(.str s112 723)],tu [],⟨.none,none,(.func ⟨s140,s468,a62_11,(.stmts b62_11),c62_7,0,[],.none,.none,.none,.none,none,.none,.none,0⟩),#[]⟩,o342 P,o343 P,tu [],fl [],tu [(.str s38 730),(.str s112 731),(.str s123 732)],tu [],fa s141 s469 t62_12,o349 P,o350 P,tu [],fl [],tu [(.str s38 739),(.str s125 740),(.str s129 741)],tu [],fa s142 s470 t62_13,o356 P,o357 P,tu [],fl [],tu [(.str s38 748)],tu [],⟨.none,none,(.func ⟨s143,s471,a62_14,(.stmts b62_14),c51_2,0,[],.none,.none,.none,.none,none,.none,.none,0⟩),#[]⟩,o363 P,o364 P,tu [],fl [],tu [(.str s38 755),(.str s112 756),(.str s58 757)],tu [],fa s144 s472 t62_15,o370 P,o371 P,tu [],fl [],tu [(.str s38 764),(.str s112 765)],tu [],⟨.none,none,(.func ⟨s145,s473,a62_16,(.stmts b62_16),c62_1,0,[],.none,.none,.none,.none,none,.none,.none,0⟩),#[]⟩,o377 P,o378 P,tu [],fl [],tu [(.str s38 772),(.str s130 773)],tu [],fa s146 s474 t62_17,o384 P,o385 P,tu [],fl [],tu [(.str s38 780)],tu [],⟨.none,none,(.func ⟨s147,s475,a62_18,(.stmts b62_18),c51_2,0,[],.none,.none,.none,.none,none,.none,.none,0⟩),#[]⟩,o391 P,o392 P,tu [(.str s119 784),(.str s122 785),(.str s121 786),(.str s120 787),(.str s118 788)],o394 P,o395 P,ob "getset_descriptor" [(.str s443 790),(.ref 395),(.builtin "function.__dict__"),(.builtin "function.__dict__#set")],ob "getset_descriptor" [(.str s444 792),(.ref 395),(.builtin "ExceptionGroup.__weakref__"),.none],ob "super" [(.ref 395),(.ref 395),(.ref 395)],ob "builtin_function_or_method" [(.builtin "object.__init_subclass__"),(.ref 395)]]
noncomputable def ol9 (P:Params):List Obj:=[o0 P,o1 P,o2v1 P,o3v9 P,o4 P,o5 P,o6 P,o7 P,o8 P,o9 P,o10 P,o11 P,o12v8 P,o13 P,o14 P]++(q1 P++(q2 P++((q3 P).set 36 (o107v1 P)++(q4 P++(q5 P++(q6 P++(q7 P++(q8 P++q9 P))))))))
noncomputable def tr9 (P:Params):BT:=ofL 12 (ol9 P)
noncomputable def st8:List Stmt:=[t62]
theorem pc8 (w:World):(fun os=>segRunT treeTable PySem.Challenge.pw_xw0122_01 w 11 (some (.ref 6)) 1 812 ⟨tr8 w.params,253,⟨[],[],[],0,[],[],false,#[],[],0,false,false,false,0,[2000,10,10],false,0,true,[],[],0,false⟩,#[],⟨0,0,0,0⟩,611,os⟩ (piecesOf st8 env0 cE ⟨160,0,160,11⟩ B0)) = fun os=>some (.next,⟨tr9 w.params,400,⟨[],[],[],0,[],[],false,#[],[],0,false,false,false,0,[2000,10,10],false,0,true,[],[],0,false⟩,#[],⟨0,0,0,0⟩,797,os⟩,cE,⟨161,0,222,17⟩):=by
 rw [PySem.W.Fast.te10110043849684766642,PySem.W.Fast.te14364793385576792824]; kernel_rfl
noncomputable def po3v10 (P:Params):List DictEntry:=[ke P s2 165 (.str s157 833),ke P s280 166 .none,ke P s281 167 .none,ke P s282 168 (.builtin "__main__.__loader__#opaque"),ke P s283 169 .none,ke P s432 170 (.ref 6),ke P s433 171 (.ref 4),ke P s434 173 (.str s435 172),ke P s436 174 .none,ke P s1 193 (.ref 21),ke P s4 197 (.int 8 196),ke P s5 199 (.int 27 198),ke P s6 201 (.int 28 200),ke P s7 203 (.int 34 202),ke P s8 205 (.int 35 204),ke P s9 207 (.int 36 206),ke P s10 209 (.int 59 208),ke P s11 211 (.int 61 210),ke P s12 213 (.int 62 212),ke P s13 215 (.int 63 214),ke P s14 217 (.int 64 216),ke P s15 219 (.int 65 218),ke P s16 221 (.int 71 220),ke P s17 223 (.int 80 222),ke P s18 225 (.int 81 224),ke P s19 227 (.int 99 226),ke P s20 229 (.int 16 228),ke P s21 231 (.int 32 230),ke P s22 233 (.int 64 232),ke P s23 235 (.int 128 234),ke P s24 237 (.int 256 236),ke P s25 239 (.int 512 238),ke P s26 241 (.int 1024 240),ke P s27 243 (.int 4096 242),ke P s28 245 (.int 8192 244),ke P s29 247 (.int 16384 246),ke P s30 249 (.int 32768 248),ke P s31 251 (.int 65536 250),ke P s32 253 (.int 131072 252),ke P s33 255 (.int 262144 254),ke P s34 257 (.int 524288 256),ke P s35 259 (.int 1048576 258),ke P s36 261 (.int 2097152 260),ke P s37 263 (.int 4194304 262),ke P s46 301 (.ref 38),ke P s49 309 (.ref 49),ke P s51 313 (.int 245760 312),ke P s52 320 (.ref 56),ke P s56 329 (.ref 63),ke P s61 341 (.ref 70),ke P s63 350 (.ref 77),ke P s67 356 (.ref 82),ke P s72 367 (.ref 89),ke P s77 400 (.ref 107),ke P s79 427 (.ref 128),ke P s83 469 (.ref 154),ke P s87 517 (.ref 190),ke P s89 521 (.int 1 520),ke P s90 523 (.int 2 522),ke P s91 525 (.int 6 524),ke P s92 527 (.int 8 526),ke P s93 549 (.ref 217),ke P s114 604 (.ref 248),ke P s116 608 (.int 200 607),ke P s117 610 (.int 40 609),ke P s148 796 (.ref 395),ke P s156 832 (.ref 416)]
noncomputable def o3v10 (P:Params):Obj:=dl (po3v10 P) 67
noncomputable def po12v9:List Value:=lt [(224,0,405)]
noncomputable def o12v9 (P:Params):Obj:=fl (po12v1++(po12v2++(po12v3++(po12v4++(po12v5++(po12v6++(po12v7++(po12v8++po12v9))))))))
noncomputable def o402 (P:Params):Obj:=dl [ke P s438 806 (.str s149 797),ke P s439 808 (.str s156 807),ke P s440 810 (.int 224 809),ke P s45 818 (.ref 413),ke P s441 825 (.ref 414)] 5
noncomputable def o405 (P:Params):Obj:=cd s156 s156 801 224 0 0 403 false 404 .none .none .none .none 804
noncomputable def o412 (P:Params):Obj:=cd s45 s476 811 226 2 3 407 true 408 .none (.ref 409) (.ref 410) (.ref 411) 816
noncomputable def o413 (P:Params):Obj:=fb s45 s476 t64_0 .none (.str s149 797) 412
noncomputable def o415 (P:Params):Obj:=dl [ke P s438 806 (.str s149 797),ke P s440 810 (.int 224 809),ke P s45 818 (.ref 413),ke P s441 825 (.ref 414),ke P s443 827 (.ref 417),ke P s444 829 (.ref 418),ke P s280 830 .none] 4
noncomputable def o416 (P:Params):Obj:=cl s156 416 415 [none,none,(some (.str s156 799)),(some (.str s156 807)),(some (.builtin "object.__new__")),(some (.bool true))]
noncomputable def q10 (P:Params):List Obj:=[tu [],ob "builtin_function_or_method" [(.builtin "type.__prepare__"),(.type "type")],o402 P,tu [],fl [(.int 226 0),(.int 4 0),(.ref 412)],o405 P,fr [(some (.ref 405)),(some (.ref 3)),(some (.ref 402)),none,(some (.str s149 797)),none,(some (.ref 0))],tu [],fl [],tu [(.str s38 814),(.str s150 815)],tu [],fa s45 s476 t64_0,o412 P,o413 P,tu [(.str s155 819),(.str s150 820),(.str s153 821),(.str s152 822),(.str s151 823),(.str s154 824)],o415 P,o416 P,ob "getset_descriptor" [(.str s443 826),(.ref 416),(.builtin "function.__dict__"),(.builtin "function.__dict__#set")],ob "getset_descriptor" [(.str s444 828),(.ref 416),(.builtin "ExceptionGroup.__weakref__"),.none],ob "super" [(.ref 416),(.ref 416),(.ref 416)],ob "builtin_function_or_method" [(.builtin "object.__init_subclass__"),(.ref 416)]]
noncomputable def ol10 (P:Params):List Obj:=[o0 P,o1 P,o2v1 P,o3v10 P,o4 P,o5 P,o6 P,o7 P,o8 P,o9 P,o10 P,o11 P,o12v9 P,o13 P,o14 P]++(q1 P++(q2 P++((q3 P).set 36 (o107v1 P)++(q4 P++(q5 P++(q6 P++(q7 P++(q8 P++(q9 P++q10 P)))))))))
noncomputable def tr10 (P:Params):BT:=ofL 12 (ol10 P)
noncomputable def st9:List Stmt:=[t63,t64,t65]
theorem pc9 (w:World):(fun os=>segRunT treeTable PySem.Challenge.pw_xw0122_01 w 11 (some (.ref 6)) 1 246 ⟨tr9 w.params,400,⟨[],[],[],0,[],[],false,#[],[],0,false,false,false,0,[2000,10,10],false,0,true,[],[],0,false⟩,#[],⟨0,0,0,0⟩,797,os⟩ (piecesOf st9 env0 cE ⟨161,0,222,17⟩ B0)) = fun os=>some (.next,⟨tr10 w.params,421,⟨[],[],[],0,[],[],false,#[],[],0,false,false,false,0,[2000,10,10],false,0,true,[],[],0,false⟩,#[],⟨0,0,0,0⟩,835,os⟩,cE,⟨233,0,233,8⟩):=by
 rw [PySem.W.Fast.te10110043849684766642,PySem.W.Fast.te14364793385576792824]; kernel_rfl
noncomputable def po3v11 (P:Params):List DictEntry:=[ke P s161 878 (.ref 451)]
noncomputable def o3v11 (P:Params):Obj:=dl (po3v10 P++po3v11 P) 68
noncomputable def po12v10:List Value:=lt [(234,0,426)]
noncomputable def o12v10 (P:Params):Obj:=fl (po12v1++(po12v2++(po12v3++(po12v4++(po12v5++(po12v6++(po12v7++(po12v8++(po12v9++po12v10)))))))))
noncomputable def o423 (P:Params):Obj:=dl [ke P s438 842 (.str s157 833),ke P s439 844 (.str s161 843),ke P s440 846 (.int 234 845),ke P s158 854 (.ref 434),ke P s159 862 (.ref 441),ke P s160 870 (.ref 448),ke P s441 871 (.ref 449)] 7
noncomputable def o426 (P:Params):Obj:=cd s161 s161 837 234 0 0 424 false 425 .none .none .none .none 840
noncomputable def o433 (P:Params):Obj:=cd s158 s477 847 236 2 3 428 true 429 .none (.ref 430) (.ref 431) (.ref 432) 852
noncomputable def o434 (P:Params):Obj:=fb s158 s477 t66_0 .none (.str s157 833) 433
noncomputable def o440 (P:Params):Obj:=cd s159 s478 855 239 2 3 435 true 436 .none (.ref 437) (.ref 438) (.ref 439) 860
noncomputable def o441 (P:Params):Obj:=⟨(.type "function"),none,(.func ⟨s159,s478,a66_1,(.stmts b66_1),c66_0,3,[],.none,.none,.none,(.str s157 833),none,(.ref 440),.none,0⟩),#[]⟩
noncomputable def o447 (P:Params):Obj:=cd s160 s479 863 242 2 3 442 true 443 .none (.ref 444) (.ref 445) (.ref 446) 868
noncomputable def o448 (P:Params):Obj:=⟨(.type "function"),none,(.func ⟨s160,s479,a66_2,(.stmts b66_2),c66_0,3,[],.none,.none,.none,(.str s157 833),none,(.ref 447),.none,0⟩),#[]⟩
noncomputable def o450 (P:Params):Obj:=dl [ke P s438 842 (.str s157 833),ke P s440 846 (.int 234 845),ke P s158 854 (.ref 434),ke P s159 862 (.ref 441),ke P s160 870 (.ref 448),ke P s441 871 (.ref 449),ke P s443 873 (.ref 452),ke P s444 875 (.ref 453),ke P s280 876 .none] 4
noncomputable def o451 (P:Params):Obj:=cl s161 451 450 [none,none,(some (.str s161 835)),(some (.str s161 843)),(some (.builtin "object.__new__")),(some (.bool true))]
noncomputable def q11 (P:Params):List Obj:=[tu [],ob "builtin_function_or_method" [(.builtin "type.__prepare__"),(.type "type")],o423 P,tu [],fl (lt [(236,4,433),(239,4,440),(242,4,447)]),o426 P,fr [(some (.ref 426)),(some (.ref 3)),(some (.ref 423)),none,(some (.str s157 833)),none,(some (.ref 0))],tu [],fl [],tu [(.str s38 850),(.str s47 851)],tu [],fa s158 s477 t66_0,o433 P,o434 P,tu [],fl [],tu [(.str s38 858),(.str s47 859)],tu [],⟨.none,none,(.func ⟨s159,s478,a66_1,(.stmts b66_1),c66_0,0,[],.none,.none,.none,.none,none,.none,.none,0⟩),#[]⟩,o440 P,o441 P,tu [],fl [],tu [(.str s38 866),(.str s47 867)],tu [],⟨.none,none,(.func ⟨s160,s479,a66_2,(.stmts b66_2),c66_0,0,[],.none,.none,.none,.none,none,.none,.none,0⟩),#[]⟩,o447 P,o448 P,tu [],o450 P,o451 P,ob "getset_descriptor" [(.str s443 872),(.ref 451),(.builtin "function.__dict__"),(.builtin "function.__dict__#set")],ob "getset_descriptor" [(.str s444 874),(.ref 451),(.builtin "ExceptionGroup.__weakref__"),.none],ob "super" [(.ref 451),(.ref 451),(.ref 451)],ob "builtin_function_or_method" [(.builtin "object.__init_subclass__"),(.ref 451)]]
noncomputable def ol11 (P:Params):List Obj:=[o0 P,o1 P,o2v1 P,o3v11 P,o4 P,o5 P,o6 P,o7 P,o8 P,o9 P,o10 P,o11 P,o12v10 P,o13 P,o14 P]++(q1 P++(q2 P++((q3 P).set 36 (o107v1 P)++(q4 P++(q5 P++(q6 P++(q7 P++(q8 P++(q9 P++(q10 P++q11 P))))))))))
noncomputable def tr11 (P:Params):BT:=ofL 12 (ol11 P)
noncomputable def st10:List Stmt:=[t66]
theorem pc10 (w:World):(fun os=>segRunT treeTable PySem.Challenge.pw_xw0122_01 w 11 (some (.ref 6)) 1 286 ⟨tr10 w.params,421,⟨[],[],[],0,[],[],false,#[],[],0,false,false,false,0,[2000,10,10],false,0,true,[],[],0,false⟩,#[],⟨0,0,0,0⟩,835,os⟩ (piecesOf st10 env0 cE ⟨233,0,233,8⟩ B0)) = fun os=>some (.next,⟨tr11 w.params,456,⟨[],[],[],0,[],[],false,#[],[],0,false,false,false,0,[2000,10,10],false,0,true,[],[],0,false⟩,#[],⟨0,0,0,0⟩,879,os⟩,cE,⟨234,0,243,17⟩):=by
 rw [PySem.W.Fast.te10110043849684766642,PySem.W.Fast.te14364793385576792824]; kernel_rfl
noncomputable def po3v12 (P:Params):List DictEntry:=[ke P s167 934 (.ref 493)]
noncomputable def o3v12 (P:Params):Obj:=dl (po3v10 P++(po3v11 P++po3v12 P)) 69
noncomputable def po12v11:List Value:=lt [(244,0,461)]
noncomputable def o12v11 (P:Params):Obj:=fl (po12v1++(po12v2++(po12v3++(po12v4++(po12v5++(po12v6++(po12v7++(po12v8++(po12v9++(po12v10++po12v11))))))))))
noncomputable def o458 (P:Params):Obj:=dl [ke P s438 886 (.str s157 833),ke P s439 888 (.str s167 887),ke P s440 890 (.int 244 889),ke P s45 897 (.ref 469),ke P s164 906 (.ref 476),ke P s165 916 (.ref 483),ke P s166 925 (.ref 490),ke P s441 927 (.ref 491)] 8
noncomputable def o461 (P:Params):Obj:=cd s167 s167 881 244 0 0 459 false 460 .none .none .none .none 884
noncomputable def o468 (P:Params):Obj:=cd s45 s480 891 246 1 3 463 true 464 .none (.ref 465) (.ref 466) (.ref 467) 895
noncomputable def o469 (P:Params):Obj:=⟨(.type "function"),none,(.func ⟨s45,s480,a67_0,(.stmts b67_0),c50_1,3,[],.none,.none,.none,(.str s157 833),none,(.ref 468),.none,0⟩),#[]⟩
noncomputable def o475 (P:Params):Obj:=cd s164 s481 898 249 3 3 470 true 471 .none (.ref 472) (.ref 473) (.ref 474) 904
noncomputable def o476 (P:Params):Obj:=fb s164 s481 t67_1 .none (.str s157 833) 475
noncomputable def o482 (P:Params):Obj:=cd s165 s482 907 252 4 3 477 true 478 .none (.ref 479) (.ref 480) (.ref 481) 914
noncomputable def o483 (P:Params):Obj:=fb s165 s482 t67_2 .none (.str s157 833) 482
noncomputable def o489 (P:Params):Obj:=cd s166 s483 917 255 3 3 484 true 485 .none (.ref 486) (.ref 487) (.ref 488) 923
noncomputable def o490 (P:Params):Obj:=fb s166 s483 t67_3 .none (.str s157 833) 489
noncomputable def o492 (P:Params):Obj:=dl [ke P s438 886 (.str s157 833),ke P s440 890 (.int 244 889),ke P s45 897 (.ref 469),ke P s164 906 (.ref 476),ke P s165 916 (.ref 483),ke P s166 925 (.ref 490),ke P s441 927 (.ref 491),ke P s443 929 (.ref 494),ke P s444 931 (.ref 495),ke P s280 932 .none] 4
noncomputable def o493 (P:Params):Obj:=cl s167 493 492 [none,none,(some (.str s167 879)),(some (.str s167 887)),(some (.builtin "object.__new__")),(some (.bool true))]
noncomputable def q12 (P:Params):List Obj:=[tu [],ob "builtin_function_or_method" [(.builtin "type.__prepare__"),(.type "type")],o458 P,tu [],fl (lt [(246,4,468),(249,4,475),(252,4,482),(255,4,489)]),o461 P,fr [(some (.ref 461)),(some (.ref 3)),(some (.ref 458)),none,(some (.str s157 833)),none,(some (.ref 0))],tu [],fl [],tu [(.str s38 894)],tu [],⟨.none,none,(.func ⟨s45,s480,a67_0,(.stmts b67_0),c50_1,0,[],.none,.none,.none,.none,none,.none,.none,0⟩),#[]⟩,o468 P,o469 P,tu [],fl [],tu [(.str s38 901),(.str s53 902),(.str s47 903)],tu [],fa s164 s481 t67_1,o475 P,o476 P,tu [],fl [],tu [(.str s38 910),(.str s53 911),(.str s55 912),(.str s54 913)],tu [],fa s165 s482 t67_2,o482 P,o483 P,tu [],fl [],tu [(.str s38 920),(.str s53 921),(.str s112 922)],tu [],fa s166 s483 t67_3,o489 P,o490 P,tu [(.str s162 926)],o492 P,o493 P,ob "getset_descriptor" [(.str s443 928),(.ref 493),(.builtin "function.__dict__"),(.builtin "function.__dict__#set")],ob "getset_descriptor" [(.str s444 930),(.ref 493),(.builtin "ExceptionGroup.__weakref__"),.none],ob "super" [(.ref 493),(.ref 493),(.ref 493)],ob "builtin_function_or_method" [(.builtin "object.__init_subclass__"),(.ref 493)]]
noncomputable def ol12 (P:Params):List Obj:=[o0 P,o1 P,o2v1 P,o3v12 P,o4 P,o5 P,o6 P,o7 P,o8 P,o9 P,o10 P,o11 P,o12v11 P,o13 P,o14 P]++(q1 P++(q2 P++((q3 P).set 36 (o107v1 P)++(q4 P++(q5 P++(q6 P++(q7 P++(q8 P++(q9 P++(q10 P++(q11 P++q12 P)))))))))))
noncomputable def tr12 (P:Params):BT:=ofL 12 (ol12 P)
noncomputable def st11:List Stmt:=[t67]
theorem pc11 (w:World):(fun os=>segRunT treeTable PySem.Challenge.pw_xw0122_01 w 11 (some (.ref 6)) 1 322 ⟨tr11 w.params,456,⟨[],[],[],0,[],[],false,#[],[],0,false,false,false,0,[2000,10,10],false,0,true,[],[],0,false⟩,#[],⟨0,0,0,0⟩,879,os⟩ (piecesOf st11 env0 cE ⟨234,0,243,17⟩ B0)) = fun os=>some (.next,⟨tr12 w.params,498,⟨[],[],[],0,[],[],false,#[],[],0,false,false,false,0,[2000,10,10],false,0,true,[],[],0,false⟩,#[],⟨0,0,0,0⟩,935,os⟩,cE,⟨244,0,256,17⟩):=by
 rw [PySem.W.Fast.te10110043849684766642,PySem.W.Fast.te14364793385576792824]; kernel_rfl
noncomputable def po3v13 (P:Params):List DictEntry:=[ke P s172 980 (.ref 528)]
noncomputable def o3v13 (P:Params):Obj:=dl (po3v10 P++(po3v11 P++(po3v12 P++po3v13 P))) 70
noncomputable def po12v12:List Value:=lt [(257,0,503)]
noncomputable def o12v12 (P:Params):Obj:=fl (po12v1++(po12v2++(po12v3++(po12v4++(po12v5++(po12v6++(po12v7++(po12v8++(po12v9++(po12v10++(po12v11++po12v12)))))))))))
noncomputable def o500 (P:Params):Obj:=dl [ke P s438 942 (.str s157 833),ke P s439 944 (.str s172 943),ke P s440 946 (.int 257 945),ke P s169 955 (.ref 511),ke P s170 964 (.ref 518),ke P s171 972 (.ref 525),ke P s441 973 (.ref 526)] 7
noncomputable def o503 (P:Params):Obj:=cd s172 s172 937 257 0 0 501 false 502 .none .none .none .none 940
noncomputable def o510 (P:Params):Obj:=cd s169 s484 947 259 3 3 505 true 506 .none (.ref 507) (.ref 508) (.ref 509) 953
noncomputable def o511 (P:Params):Obj:=fb s169 s484 t68_0 .none (.str s157 833) 510
noncomputable def o517 (P:Params):Obj:=cd s170 s485 956 262 3 3 512 true 513 .none (.ref 514) (.ref 515) (.ref 516) 962
noncomputable def o518 (P:Params):Obj:=⟨(.type "function"),none,(.func ⟨s170,s485,a68_1,(.stmts b68_1),c67_1,3,[],.none,.none,.none,(.str s157 833),none,(.ref 517),.none,0⟩),#[]⟩
noncomputable def o524 (P:Params):Obj:=cd s171 s486 965 265 2 3 519 true 520 .none (.ref 521) (.ref 522) (.ref 523) 970
noncomputable def o525 (P:Params):Obj:=fb s171 s486 t68_2 .none (.str s157 833) 524
noncomputable def o527 (P:Params):Obj:=dl [ke P s438 942 (.str s157 833),ke P s440 946 (.int 257 945),ke P s169 955 (.ref 511),ke P s170 964 (.ref 518),ke P s171 972 (.ref 525),ke P s441 973 (.ref 526),ke P s443 975 (.ref 529),ke P s444 977 (.ref 530),ke P s280 978 .none] 4
noncomputable def o528 (P:Params):Obj:=cl s172 528 527 [none,none,(some (.str s172 935)),(some (.str s172 943)),(some (.builtin "object.__new__")),(some (.bool true))]
noncomputable def q13 (P:Params):List Obj:=[tu [],ob "builtin_function_or_method" [(.builtin "type.__prepare__"),(.type "type")],o500 P,tu [],fl (lt [(259,4,510),(262,4,517),(265,4,524)]),o503 P,fr [(some (.ref 503)),(some (.ref 3)),(some (.ref 500)),none,(some (.str s157 833)),none,(some (.ref 0))],tu [],fl [],tu [(.str s38 950),(.str s53 951),(.str s168 952)],tu [],fa s169 s484 t68_0,o510 P,o511 P,tu [],fl [],tu [(.str s38 959),(.str s53 960),(.str s47 961)],tu [],⟨.none,none,(.func ⟨s170,s485,a68_1,(.stmts b68_1),c67_1,0,[],.none,.none,.none,.none,none,.none,.none,0⟩),#[]⟩,o517 P,o518 P,tu [],fl [],tu [(.str s38 968),(.str s53 969)],tu [],fa s171 s486 t68_2,o524 P,o525 P,tu [],o527 P,o528 P,ob "getset_descriptor" [(.str s443 974),(.ref 528),(.builtin "function.__dict__"),(.builtin "function.__dict__#set")],ob "getset_descriptor" [(.str s444 976),(.ref 528),(.builtin "ExceptionGroup.__weakref__"),.none],ob "super" [(.ref 528),(.ref 528),(.ref 528)],ob "builtin_function_or_method" [(.builtin "object.__init_subclass__"),(.ref 528)]]
noncomputable def ol13 (P:Params):List Obj:=[o0 P,o1 P,o2v1 P,o3v13 P,o4 P,o5 P,o6 P,o7 P,o8 P,o9 P,o10 P,o11 P,o12v12 P,o13 P,o14 P]++(q1 P++(q2 P++((q3 P).set 36 (o107v1 P)++(q4 P++(q5 P++(q6 P++(q7 P++(q8 P++(q9 P++(q10 P++(q11 P++(q12 P++q13 P))))))))))))
noncomputable def tr13 (P:Params):BT:=ofL 12 (ol13 P)
noncomputable def st12:List Stmt:=[t68]
theorem pc12 (w:World):(fun os=>segRunT treeTable PySem.Challenge.pw_xw0122_01 w 11 (some (.ref 6)) 1 288 ⟨tr12 w.params,498,⟨[],[],[],0,[],[],false,#[],[],0,false,false,false,0,[2000,10,10],false,0,true,[],[],0,false⟩,#[],⟨0,0,0,0⟩,935,os⟩ (piecesOf st12 env0 cE ⟨244,0,256,17⟩ B0)) = fun os=>some (.next,⟨tr13 w.params,533,⟨[],[],[],0,[],[],false,#[],[],0,false,false,false,0,[2000,10,10],false,0,true,[],[],0,false⟩,#[],⟨0,0,0,0⟩,981,os⟩,cE,⟨257,0,266,17⟩):=by
 rw [PySem.W.Fast.te10110043849684766642,PySem.W.Fast.te14364793385576792824]; kernel_rfl
noncomputable def po3v14 (P:Params):List DictEntry:=[ke P s176 1018 (.ref 556)]
noncomputable def o3v14 (P:Params):Obj:=dl (po3v10 P++(po3v11 P++(po3v12 P++(po3v13 P++po3v14 P)))) 71
noncomputable def po12v13:List Value:=lt [(267,0,538)]
noncomputable def o12v13 (P:Params):Obj:=fl (po12v1++(po12v2++(po12v3++(po12v4++(po12v5++(po12v6++(po12v7++(po12v8++(po12v9++(po12v10++(po12v11++(po12v12++po12v13))))))))))))
noncomputable def o535 (P:Params):Obj:=dl [ke P s438 988 (.str s157 833),ke P s439 990 (.str s176 989),ke P s440 992 (.int 267 991),ke P s169 1000 (.ref 546),ke P s175 1010 (.ref 553),ke P s441 1011 (.ref 554)] 6
noncomputable def o538 (P:Params):Obj:=cd s176 s176 983 267 0 0 536 false 537 .none .none .none .none 986
noncomputable def o545 (P:Params):Obj:=cd s169 s487 993 269 2 3 540 true 541 .none (.ref 542) (.ref 543) (.ref 544) 998
noncomputable def o546 (P:Params):Obj:=fb s169 s487 t69_0 .none (.str s157 833) 545
noncomputable def o552 (P:Params):Obj:=cd s175 s488 1001 272 4 3 547 true 548 .none (.ref 549) (.ref 550) (.ref 551) 1008
noncomputable def o553 (P:Params):Obj:=fb s175 s488 t69_1 .none (.str s157 833) 552
noncomputable def o555 (P:Params):Obj:=dl [ke P s438 988 (.str s157 833),ke P s440 992 (.int 267 991),ke P s169 1000 (.ref 546),ke P s175 1010 (.ref 553),ke P s441 1011 (.ref 554),ke P s443 1013 (.ref 557),ke P s444 1015 (.ref 558),ke P s280 1016 .none] 4
noncomputable def o556 (P:Params):Obj:=cl s176 556 555 [none,none,(some (.str s176 981)),(some (.str s176 989)),(some (.builtin "object.__new__")),(some (.bool true))]
noncomputable def q14 (P:Params):List Obj:=[tu [],ob "builtin_function_or_method" [(.builtin "type.__prepare__"),(.type "type")],o535 P,tu [],fl (lt [(269,4,545),(272,4,552)]),o538 P,fr [(some (.ref 538)),(some (.ref 3)),(some (.ref 535)),none,(some (.str s157 833)),none,(some (.ref 0))],tu [],fl [],tu [(.str s38 996),(.str s53 997)],tu [],fa s169 s487 t69_0,o545 P,o546 P,tu [],fl [],tu [(.str s38 1004),(.str s53 1005),(.str s173 1006),(.str s174 1007)],tu [],fa s175 s488 t69_1,o552 P,o553 P,tu [],o555 P,o556 P,ob "getset_descriptor" [(.str s443 1012),(.ref 556),(.builtin "function.__dict__"),(.builtin "function.__dict__#set")],ob "getset_descriptor" [(.str s444 1014),(.ref 556),(.builtin "ExceptionGroup.__weakref__"),.none],ob "super" [(.ref 556),(.ref 556),(.ref 556)],ob "builtin_function_or_method" [(.builtin "object.__init_subclass__"),(.ref 556)]]
noncomputable def ol14 (P:Params):List Obj:=[o0 P,o1 P,o2v1 P,o3v14 P,o4 P,o5 P,o6 P,o7 P,o8 P,o9 P,o10 P,o11 P,o12v13 P,o13 P,o14 P]++(q1 P++(q2 P++((q3 P).set 36 (o107v1 P)++(q4 P++(q5 P++(q6 P++(q7 P++(q8 P++(q9 P++(q10 P++(q11 P++(q12 P++(q13 P++q14 P)))))))))))))
noncomputable def tr14 (P:Params):BT:=ofL 12 (ol14 P)
noncomputable def st13:List Stmt:=[t69]
theorem pc13 (w:World):(fun os=>segRunT treeTable PySem.Challenge.pw_xw0122_01 w 11 (some (.ref 6)) 1 256 ⟨tr13 w.params,533,⟨[],[],[],0,[],[],false,#[],[],0,false,false,false,0,[2000,10,10],false,0,true,[],[],0,false⟩,#[],⟨0,0,0,0⟩,981,os⟩ (piecesOf st13 env0 cE ⟨257,0,266,17⟩ B0)) = fun os=>some (.next,⟨tr14 w.params,561,⟨[],[],[],0,[],[],false,#[],[],0,false,false,false,0,[2000,10,10],false,0,true,[],[],0,false⟩,#[],⟨0,0,0,0⟩,1019,os⟩,cE,⟨267,0,273,17⟩):=by
 rw [PySem.W.Fast.te10110043849684766642,PySem.W.Fast.te14364793385576792824]; kernel_rfl
noncomputable def po3v15 (P:Params):List DictEntry:=[ke P s210 1123 (.ref 612)]
noncomputable def o3v15 (P:Params):Obj:=dl (po3v10 P++(po3v11 P++(po3v12 P++(po3v13 P++(po3v14 P++po3v15 P))))) 72
noncomputable def po12v14:List Value:=lt [(274,0,566)]
noncomputable def o12v14 (P:Params):Obj:=fl (po12v1++(po12v2++(po12v3++(po12v4++(po12v5++(po12v6++(po12v7++(po12v8++(po12v9++(po12v10++(po12v11++(po12v12++(po12v13++po12v14)))))))))))))
noncomputable def o563 (P:Params):Obj:=dl [ke P s438 1026 (.str s157 833),ke P s439 1028 (.str s210 1027),ke P s440 1030 (.int 274 1029),ke P s45 1040 (.ref 574),ke P s206 1048 (.ref 581),ke P s207 1056 (.ref 588),ke P s165 1065 (.ref 595),ke P s208 1073 (.ref 602),ke P s209 1080 (.ref 609),ke P s441 1116 (.ref 610)] 10
noncomputable def o566 (P:Params):Obj:=cd s210 s210 1021 274 0 0 564 false 565 .none .none .none .none 1024
noncomputable def o573 (P:Params):Obj:=cd s45 s489 1031 276 4 3 568 true 569 .none (.ref 570) (.ref 571) (.ref 572) 1038
noncomputable def o574 (P:Params):Obj:=fb s45 s489 t70_0 .none (.str s157 833) 573
noncomputable def o580 (P:Params):Obj:=cd s206 s490 1041 313 2 3 575 true 576 .none (.ref 577) (.ref 578) (.ref 579) 1046
noncomputable def o581 (P:Params):Obj:=⟨(.type "function"),none,(.func ⟨s206,s490,a70_1,(.stmts b70_1),c66_0,3,[],.none,.none,.none,(.str s157 833),none,(.ref 580),.none,0⟩),#[]⟩
noncomputable def o587 (P:Params):Obj:=cd s207 s491 1049 316 2 3 582 true 583 .none (.ref 584) (.ref 585) (.ref 586) 1054
noncomputable def o588 (P:Params):Obj:=⟨(.type "function"),none,(.func ⟨s207,s491,a70_2,(.stmts b70_2),c66_0,3,[],.none,.none,.none,(.str s157 833),none,(.ref 587),.none,0⟩),#[]⟩
noncomputable def o594 (P:Params):Obj:=cd s165 s492 1057 319 3 3 589 true 590 .none (.ref 591) (.ref 592) (.ref 593) 1063
noncomputable def o595 (P:Params):Obj:=fb s165 s492 t70_3 .none (.str s157 833) 594
noncomputable def o601 (P:Params):Obj:=cd s208 s493 1066 322 2 3 596 true 597 .none (.ref 598) (.ref 599) (.ref 600) 1071
noncomputable def o602 (P:Params):Obj:=fb s208 s493 t70_4 .none (.str s157 833) 601
noncomputable def o608 (P:Params):Obj:=cd s209 s494 1074 325 1 3 603 true 604 .none (.ref 605) (.ref 606) (.ref 607) 1078
noncomputable def o609 (P:Params):Obj:=⟨(.type "function"),none,(.func ⟨s209,s494,a70_5,(.stmts b70_5),c51_2,3,[],.none,.none,.none,(.str s157 833),none,(.ref 608),.none,0⟩),#[]⟩
noncomputable def o611 (P:Params):Obj:=dl [ke P s438 1026 (.str s157 833),ke P s440 1030 (.int 274 1029),ke P s45 1040 (.ref 574),ke P s206 1048 (.ref 581),ke P s207 1056 (.ref 588),ke P s165 1065 (.ref 595),ke P s208 1073 (.ref 602),ke P s209 1080 (.ref 609),ke P s441 1116 (.ref 610),ke P s443 1118 (.ref 613),ke P s444 1120 (.ref 614),ke P s280 1121 .none] 4
noncomputable def o612 (P:Params):Obj:=cl s210 612 611 [none,none,(some (.str s210 1019)),(some (.str s210 1027)),(some (.builtin "object.__new__")),(some (.bool true))]
noncomputable def q15 (P:Params):List Obj:=[tu [],ob "builtin_function_or_method" [(.builtin "type.__prepare__"),(.type "type")],o563 P,tu [],fl (lt [(276,4,573),(313,4,580),(316,4,587),(319,4,594),(322,4,601),(325,4,608)]),o566 P,fr [(some (.ref 566)),(some (.ref 3)),(some (.ref 563)),none,(some (.str s157 833)),none,(some (.ref 0))],tu [],fl [],tu [(.str s38 1034),(.str s177 1035),(.str s135 1036),(.str s150 1037)],tu [],fa s45 s489 t70_0,o573 P,o574 P,tu [],fl [],tu [(.str s38 1044),(.str s47 1045)],tu [],⟨.none,none,(.func ⟨s206,s490,a70_1,(.stmts b70_1),c66_0,0,[],.none,.none,.none,.none,none,.none,.none,0⟩),#[]⟩,o580 P,o581 P,tu [],fl [],tu [(.str s38 1052),(.str s47 1053)],tu [],⟨.none,none,(.func ⟨s207,s491,a70_2,(.stmts b70_2),c66_0,0,[],.none,.none,.none,.none,none,.none,.none,0⟩),#[]⟩,o587 P,o588 P,tu [],fl [],tu [(.str s38 1060),(.str s55 1061),(.str s54 1062)],tu [],fa s165 s492 t70_3,o594 P,o595 P,tu [],fl [],tu [(.str s38 1069),(.str s168 1070)],tu [],fa s208 s493 t70_4,o601 P,o602 P,tu [],fl [],tu [(.str s38 1077)],tu [],⟨.none,none,(.func ⟨s209,s494,a70_5,(.stmts b70_5),c51_2,0,[],.none,.none,.none,.none,none,.none,.none,0⟩),#[]⟩,o608 P,o609 P,tu [(.str s196 1081),(.str s135 1082),(.str s189 1083),(.str s205 1084),(.str s204 1085),(.str s185 1086),(.str s193 1087),(.str s184 1088),(.str s119 1089),(.str s190 1090),(.str s150 1091),(.str s178 1092),(.str s180 1093),(.str s198 1094),(.str s201 1095),(.str s177 1096),(.str s192 1097),(.str s186 1098),(.str s187 1099),(.str s191 1100),(.str s55 1101),(.str s194 1102),(.str s197 1103),(.str s126 1104),(.str s203 1105),(.str s199 1106),(.str s202 1107),(.str s182 1108),(.str s183 1109),(.str s200 1110),(.str s179 1111),(.str s118 1112),(.str s188 1113),(.str s195 1114),(.str s181 1115)],o611 P,o612 P,ob "getset_descriptor" [(.str s443 1117),(.ref 612),(.builtin "function.__dict__"),(.builtin "function.__dict__#set")],ob "getset_descriptor" [(.str s444 1119),(.ref 612),(.builtin "ExceptionGroup.__weakref__"),.none],ob "super" [(.ref 612),(.ref 612),(.ref 612)],ob "builtin_function_or_method" [(.builtin "object.__init_subclass__"),(.ref 612)]]
noncomputable def ol15 (P:Params):List Obj:=[o0 P,o1 P,o2v1 P,o3v15 P,o4 P,o5 P,o6 P,o7 P,o8 P,o9 P,o10 P,o11 P,o12v14 P,o13 P,o14 P]++(q1 P++(q2 P++((q3 P).set 36 (o107v1 P)++(q4 P++(q5 P++(q6 P++(q7 P++(q8 P++(q9 P++(q10 P++(q11 P++(q12 P++(q13 P++(q14 P++q15 P))))))))))))))
noncomputable def tr15 (P:Params):BT:=ofL 12 (ol15 P)
noncomputable def st14:List Stmt:=[t70]
theorem pc14 (w:World):(fun os=>segRunT treeTable PySem.Challenge.pw_xw0122_01 w 11 (some (.ref 6)) 1 419 ⟨tr14 w.params,561,⟨[],[],[],0,[],[],false,#[],[],0,false,false,false,0,[2000,10,10],false,0,true,[],[],0,false⟩,#[],⟨0,0,0,0⟩,1019,os⟩ (piecesOf st14 env0 cE ⟨267,0,273,17⟩ B0)) = fun os=>some (.next,⟨tr15 w.params,617,⟨[],[],[],0,[],[],false,#[],[],0,false,false,false,0,[2000,10,10],false,0,true,[],[],0,false⟩,#[],⟨0,0,0,0⟩,1124,os⟩,cE,⟨274,0,326,17⟩):=by
 rw [PySem.W.Fast.te10110043849684766642,PySem.W.Fast.te14364793385576792824]; kernel_rfl
noncomputable def po3v16 (P:Params):List DictEntry:=[ke P s2 165 (.str s211 1124),ke P s280 166 .none,ke P s281 167 .none,ke P s282 168 (.builtin "__main__.__loader__#opaque"),ke P s283 169 .none,ke P s432 170 (.ref 6),ke P s433 171 (.ref 4),ke P s434 173 (.str s435 172),ke P s436 174 .none,ke P s1 193 (.ref 21),ke P s4 197 (.int 8 196),ke P s5 199 (.int 27 198),ke P s6 201 (.int 28 200),ke P s7 203 (.int 34 202),ke P s8 205 (.int 35 204),ke P s9 207 (.int 36 206),ke P s10 209 (.int 59 208),ke P s11 211 (.int 61 210),ke P s12 213 (.int 62 212),ke P s13 215 (.int 63 214),ke P s14 217 (.int 64 216),ke P s15 219 (.int 65 218),ke P s16 221 (.int 71 220),ke P s17 223 (.int 80 222),ke P s18 225 (.int 81 224),ke P s19 227 (.int 99 226),ke P s20 229 (.int 16 228),ke P s21 231 (.int 32 230),ke P s22 233 (.int 64 232),ke P s23 235 (.int 128 234),ke P s24 237 (.int 256 236),ke P s25 239 (.int 512 238),ke P s26 241 (.int 1024 240),ke P s27 243 (.int 4096 242),ke P s28 245 (.int 8192 244),ke P s29 247 (.int 16384 246),ke P s30 249 (.int 32768 248),ke P s31 251 (.int 65536 250),ke P s32 253 (.int 131072 252),ke P s33 255 (.int 262144 254),ke P s34 257 (.int 524288 256),ke P s35 259 (.int 1048576 258),ke P s36 261 (.int 2097152 260),ke P s37 263 (.int 4194304 262),ke P s46 301 (.ref 38),ke P s49 309 (.ref 49),ke P s51 313 (.int 245760 312),ke P s52 320 (.ref 56),ke P s56 329 (.ref 63),ke P s61 341 (.ref 70),ke P s63 350 (.ref 77),ke P s67 356 (.ref 82),ke P s72 367 (.ref 89),ke P s77 400 (.ref 107),ke P s79 427 (.ref 128),ke P s83 469 (.ref 154),ke P s87 517 (.ref 190),ke P s89 521 (.int 1 520),ke P s90 523 (.int 2 522),ke P s91 525 (.int 6 524),ke P s92 527 (.int 8 526),ke P s93 549 (.ref 217),ke P s114 604 (.ref 248),ke P s116 608 (.int 200 607),ke P s117 610 (.int 40 609),ke P s148 796 (.ref 395),ke P s156 832 (.ref 416),ke P s161 878 (.ref 451),ke P s167 934 (.ref 493),ke P s172 980 (.ref 528),ke P s176 1018 (.ref 556),ke P s210 1123 (.ref 612),ke P s212 1130 (.ref 617),ke P s218 1139 (.ref 624),ke P s219 1151 (.ref 631),ke P s223 1163 (.ref 638),ke P s229 1177 (.ref 645),ke P s232 1187 (.ref 652),ke P s235 1200 (.ref 659),ke P s240 1217 (.ref 666),ke P s243 1223 (.ref 671),ke P s246 1240 (.ref 678),ke P s255 1260 (.ref 685)]
noncomputable def o3v16 (P:Params):Obj:=dl (po3v16 P) 83
noncomputable def po12v15:List Value:=lt [(329,0,623),(334,0,630),(339,0,637),(342,0,644),(354,0,651),(360,0,658),(364,0,665),(374,0,670),(386,0,677),(410,0,684)]
noncomputable def o12v15 (P:Params):Obj:=fl (po12v1++(po12v2++(po12v3++(po12v4++(po12v5++(po12v6++(po12v7++(po12v8++(po12v9++(po12v10++(po12v11++(po12v12++(po12v13++(po12v14++po12v15))))))))))))))
noncomputable def o617 (P:Params):Obj:=tu [(.str s213 1126),(.str s214 1127),(.str s215 1128),(.str s75 1129)]
noncomputable def o623 (P:Params):Obj:=cd s218 s218 1131 329 1 3 618 true 619 .none (.ref 620) (.ref 621) (.ref 622) 1137
noncomputable def o624 (P:Params):Obj:=fb s218 s218 t73 .none (.str s211 1124) 623
noncomputable def o630 (P:Params):Obj:=cd s219 s219 1140 334 5 3 625 true 626 .none (.ref 627) (.ref 628) (.ref 629) 1149
noncomputable def o631 (P:Params):Obj:=fb s219 s219 t74 .none (.str s211 1124) 630
noncomputable def o637 (P:Params):Obj:=cd s223 s223 1152 339 5 3 632 true 633 .none (.ref 634) (.ref 635) (.ref 636) 1161
noncomputable def o638 (P:Params):Obj:=fb s223 s223 t75 .none (.str s211 1124) 637
noncomputable def o644 (P:Params):Obj:=cd s229 s229 1164 342 2 3 639 true 640 .none (.ref 641) (.ref 642) (.ref 643) 1175
noncomputable def o645 (P:Params):Obj:=fb s229 s229 t76 .none (.str s211 1124) 644
noncomputable def o651 (P:Params):Obj:=cd s232 s232 1178 354 4 3 646 true 647 .none (.ref 648) (.ref 649) (.ref 650) 1185
noncomputable def o652 (P:Params):Obj:=fb s232 s232 t77 .none (.str s211 1124) 651
noncomputable def o658 (P:Params):Obj:=cd s235 s235 1188 360 6 3 653 true 654 .none (.ref 655) (.ref 656) (.ref 657) 1198
noncomputable def o659 (P:Params):Obj:=fb s235 s235 t78 .none (.str s211 1124) 658
noncomputable def o665 (P:Params):Obj:=cd s240 s240 1201 364 6 3 660 true 661 .none (.ref 662) (.ref 663) (.ref 664) 1215
noncomputable def o666 (P:Params):Obj:=fb s240 s240 t79 .none (.str s211 1124) 665
noncomputable def o670 (P:Params):Obj:=cd s243 s243 1218 374 4 3 667 true 668 .none .none .none (.ref 669) 1221
noncomputable def o671 (P:Params):Obj:=fb s243 s243 t80 .none (.str s211 1124) 670
noncomputable def o677 (P:Params):Obj:=cd s246 s246 1224 386 2 3 672 true 673 .none (.ref 674) (.ref 675) (.ref 676) 1238
noncomputable def o678 (P:Params):Obj:=fb s246 s246 t81 .none (.str s211 1124) 677
noncomputable def o684 (P:Params):Obj:=cd s255 s255 1241 410 3 3 679 true 680 .none (.ref 681) (.ref 682) (.ref 683) 1258
noncomputable def o685 (P:Params):Obj:=fb s255 s255 t82 .none (.str s211 1124) 684
noncomputable def q16 (P:Params):List Obj:=[o617 P,tu [],fl [],tu [(.str s216 1134),(.str s43 1135),(.str s217 1136)],tu [],fa s218 s218 t73,o623 P,o624 P,tu [],fl [],tu [(.str s216 1143),(.str s39 1144),(.str s40 1145),(.str s41 1146),(.str s42 1147),(.str s47 1148)],tu [],fa s219 s219 t74,o630 P,o631 P,tu [],fl [],tu [(.str s216 1155),(.str s58 1156),(.str s42 1157),(.str s220 1158),(.str s221 1159),(.str s222 1160)],tu [],fa s223 s223 t75,o637 P,o638 P,tu [],fl [],tu [(.str s216 1167),(.str s214 1168),(.str s58 1169),(.str s225 1170),(.str s166 1171),(.str s124 1172),(.str s226 1173),(.str s227 1174)],tu [],fa s229 s229 t76,o644 P,o645 P,tu [],fl [],tu [(.str s230 1181),(.str s58 1182),(.str s64 1183),(.str s231 1184)],tu [],fa s232 s232 t77,o651 P,o652 P,tu [],fl [],tu [(.str s216 1191),(.str s233 1192),(.str s58 1193),(.str s230 1194),(.str s166 1195),(.str s234 1196),(.str s47 1197)],tu [],fa s235 s235 t78,o658 P,o659 P,tu [],fl [],tu [(.str s216 1204),(.str s233 1205),(.str s58 1206),(.str s230 1207),(.str s236 1208),(.str s214 1209),(.str s234 1210),(.str s237 1211),(.str s238 1212),(.str s166 1213),(.str s239 1214)],tu [],fa s240 s240 t79,o665 P,o666 P,tu [],fl [],fa s243 s243 t80,o670 P,o671 P,tu [],fl [],tu [(.str s216 1227),(.str s233 1228),(.str s244 1229),(.str s58 1230),(.str s236 1231),(.str s230 1232),(.str s214 1233),(.str s245 1234),(.str s41 1235),(.str s234 1236),(.str s238 1237)],tu [],fa s246 s246 t81,o677 P,o678 P,tu [],fl [],tu [(.str s216 1244),(.str s58 1245),(.str s244 1246),(.str s233 1247),(.str s165 1248),(.str s247 1249),(.str s225 1250),(.str s42 1251),(.str s249 1252),(.str s251 1253),(.str s47 1254),(.str s252 1255),(.str s230 1256),(.str s166 1257)],tu [],fa s255 s255 t82,o684 P,o685 P]
noncomputable def ol16 (P:Params):List Obj:=[o0 P,o1 P,o2v1 P,o3v16 P,o4 P,o5 P,o6 P,o7 P,o8 P,o9 P,o10 P,o11 P,o12v15 P,o13 P,o14 P]++(q1 P++(q2 P++((q3 P).set 36 (o107v1 P)++(q4 P++(q5 P++(q6 P++(q7 P++(q8 P++(q9 P++(q10 P++(q11 P++(q12 P++(q13 P++(q14 P++(q15 P++q16 P)))))))))))))))
noncomputable def tr16 (P:Params):BT:=ofL 12 (ol16 P)
noncomputable def st15:List Stmt:=[t71,t72,t73,t74,t75,t76,t77,t78,t79,t80,t81,t82]
theorem pc15 (w:World):(fun os=>segRunT treeTable PySem.Challenge.pw_xw0122_01 w 11 (some (.ref 6)) 1 372 ⟨tr15 w.params,617,⟨[],[],[],0,[],[],false,#[],[],0,false,false,false,0,[2000,10,10],false,0,true,[],[],0,false⟩,#[],⟨0,0,0,0⟩,1124,os⟩ (piecesOf st15 env0 cE ⟨274,0,326,17⟩ B0)) = fun os=>some (.next,⟨tr16 w.params,686,⟨[],[],[],0,[],[],false,#[],[],0,false,false,false,0,[2000,10,10],false,0,true,[],[],0,false⟩,#[],⟨0,0,0,0⟩,1261,os⟩,cE,⟨410,0,425,93⟩):=by
 rw [PySem.W.Fast.te10110043849684766642,PySem.W.Fast.te14364793385576792824]; kernel_rfl
noncomputable def po3v17 (P:Params):List DictEntry:=[ke P s256 1271 (.ref 692),ke P s261 1277 (.ref 697),ke P s268 1290 (.ref 704),ke P s270 1301 (.ref 711),ke P s271 1307 (.ref 716),ke P s273 1313 (.ref 721),ke P s278 1319 (.ref 726)]
noncomputable def o3v17 (P:Params):Obj:=dl (po3v16 P++po3v17 P) 90
noncomputable def po12v16:List Value:=lt [(426,0,691),(441,0,696),(452,0,703),(467,0,710),(475,0,715),(486,0,720),(495,0,725)]
noncomputable def o12v16 (P:Params):Obj:=fl (po12v1++(po12v2++(po12v3++(po12v4++(po12v5++(po12v6++(po12v7++(po12v8++(po12v9++(po12v10++(po12v11++(po12v12++(po12v13++(po12v14++(po12v15++po12v16)))))))))))))))
noncomputable def o691 (P:Params):Obj:=cd s256 s256 1261 426 2 3 686 true 687 .none (.ref 688) (.ref 689) (.ref 690) 1269
noncomputable def o692 (P:Params):Obj:=fb s256 s256 t83 .none (.str s211 1124) 691
noncomputable def o696 (P:Params):Obj:=cd s261 s261 1272 441 2 3 693 true 694 .none .none .none (.ref 695) 1275
noncomputable def o697 (P:Params):Obj:=fb s261 s261 t84 .none (.str s211 1124) 696
noncomputable def o703 (P:Params):Obj:=cd s268 s268 1278 452 2 3 698 true 699 .none (.ref 700) (.ref 701) (.ref 702) 1288
noncomputable def o704 (P:Params):Obj:=fb s268 s268 t85 .none (.str s211 1124) 703
noncomputable def o710 (P:Params):Obj:=cd s270 s270 1291 467 2 3 705 true 706 .none (.ref 707) (.ref 708) (.ref 709) 1299
noncomputable def o711 (P:Params):Obj:=fb s270 s270 t86 .none (.str s211 1124) 710
noncomputable def o715 (P:Params):Obj:=cd s271 s271 1302 475 2 3 712 true 713 .none .none .none (.ref 714) 1305
noncomputable def o716 (P:Params):Obj:=fb s271 s271 t87 .none (.str s211 1124) 715
noncomputable def o720 (P:Params):Obj:=cd s273 s273 1308 486 1 3 717 true 718 .none .none .none (.ref 719) 1311
noncomputable def o721 (P:Params):Obj:=fb s273 s273 t88 .none (.str s211 1124) 720
noncomputable def o725 (P:Params):Obj:=cd s278 s278 1314 495 1 3 722 true 723 .none .none .none (.ref 724) 1317
noncomputable def o726 (P:Params):Obj:=fb s278 s278 t89 .none (.str s211 1124) 725
noncomputable def q17 (P:Params):List Obj:=[tu [],fl [],tu [(.str s216 1264),(.str s244 1265),(.str s58 1266),(.str s236 1267),(.str s41 1268)],tu [],fa s256 s256 t83,o691 P,o692 P,tu [],fl [],fa s261 s261 t84,o696 P,o697 P,tu [],fl [],tu [(.str s216 1281),(.str s58 1282),(.str s244 1283),(.str s262 1284),(.str s263 1285),(.str s264 1286),(.str s267 1287)],tu [],fa s268 s268 t85,o703 P,o704 P,tu [],fl [],tu [(.str s269 1294),(.str s227 1295),(.str s166 1296),(.str s225 1297),(.str s198 1298)],tu [],fa s270 s270 t86,o710 P,o711 P,tu [],fl [],fa s271 s271 t87,o715 P,o716 P,tu [],fl [],fa s273 s273 t88,o720 P,o721 P,tu [],fl [],fa s278 s278 t89,o725 P,o726 P]
noncomputable def ol17 (P:Params):List Obj:=[o0 P,o1 P,o2v1 P,o3v17 P,o4 P,o5 P,o6 P,o7 P,o8 P,o9 P,o10 P,o11 P,o12v16 P,o13 P,o14 P]++(q1 P++(q2 P++((q3 P).set 36 (o107v1 P)++(q4 P++(q5 P++(q6 P++(q7 P++(q8 P++(q9 P++(q10 P++(q11 P++(q12 P++(q13 P++(q14 P++(q15 P++(q16 P++q17 P))))))))))))))))
noncomputable def tr17 (P:Params):BT:=ofL 12 (ol17 P)
noncomputable def st16:List Stmt:=[t83,t84,t85,t86,t87,t88,t89]
theorem pc16 (w:World):(fun os=>segRunT treeTable PySem.Challenge.pw_xw0122_01 w 11 (some (.ref 6)) 1 206 ⟨tr16 w.params,686,⟨[],[],[],0,[],[],false,#[],[],0,false,false,false,0,[2000,10,10],false,0,true,[],[],0,false⟩,#[],⟨0,0,0,0⟩,1261,os⟩ (piecesOf st16 env0 cE ⟨410,0,425,93⟩ B0)) = fun os=>some (.next,⟨tr17 w.params,727,⟨[],[],[],0,[],[],false,#[],[],0,false,false,false,0,[2000,10,10],false,0,true,[],[],0,false⟩,#[],⟨0,0,0,0⟩,1320,os⟩,cE,⟨495,0,518,27⟩):=by
 rw [PySem.W.Fast.te10110043849684766642,PySem.W.Fast.te14364793385576792824]; kernel_rfl
noncomputable def objs (P:Params):List Obj:=ol17 P
noncomputable def H1 (P:Params):Heap:=⟨(objs P).toArray,{}⟩
theorem pre (w:World) (os:OsState):topGo treeTable PySem.Challenge.pw_xw0122_01 w 11 (some (.ref 6)) 12 ⟨boot_heap w.params,#[],boot_drawn,boot_toks,os⟩ (topStub PySem.Challenge.pw_xw0122_01) = some ((SharedT.mk (tr0 w.params) 15 {} #[] {} 187 os).abs,⟨denote treeTable cE,cE,⟨0,0,0,0⟩,B0⟩):=by kernel_rfl
theorem block (w:World) (os:OsState):segRun treeTable PySem.Challenge.pw_xw0122_01 w 11 (some (.ref 6)) 1 1 (SharedT.mk (tr0 w.params) 15 {} #[] {} 187 os).abs (blockOf body env0 cE ⟨0,0,0,0⟩ B0) = some (.next,(SharedT.mk (tr0 w.params) 15 {} #[] {} 187 os).abs,cE,⟨0,0,0,0⟩):=by kernel_rfl
theorem fin (w:World) (os:OsState):topRun treeTable PySem.Challenge.pw_xw0122_01 w 11 (some (.ref 6)) 2 (SharedT.mk (tr17 w.params) 727 {} #[] {} 1320 os).abs ⟨doneF .next,cE,⟨495,0,518,27⟩,B0⟩ = some ⟨H1 w.params,#[],{},1320,os⟩:=by kernel_rfl
theorem body_eq:body = st0++(st1++(st2++(st3++(st4++(st5++(st6++(st7++(st8++(st9++(st10++(st11++(st12++(st13++(st14++(st15++(st16++[])))))))))))))))):=by kernel_rfl
theorem run_all (w:World) (os:OsState):topRun treeTable PySem.Challenge.pw_xw0122_01 w 11 (some (.ref 6)) 5556 ⟨boot_heap w.params,#[],boot_drawn,boot_toks,os⟩ (topStub PySem.Challenge.pw_xw0122_01) = some ⟨H1 w.params,#[],{},1320,os⟩:=by
 have k:=piece_nil (env:=env0) (q:=⟨0,0,0,0⟩) (fin w os)
 replace k:=piece_app (segRun_of (congrFun (pc16 w) os)) k
 replace k:=piece_app (segRun_of (congrFun (pc15 w) os)) k
 replace k:=piece_app (segRun_of (congrFun (pc14 w) os)) k
 replace k:=piece_app (segRun_of (congrFun (pc13 w) os)) k
 replace k:=piece_app (segRun_of (congrFun (pc12 w) os)) k
 replace k:=piece_app (segRun_of (congrFun (pc11 w) os)) k
 replace k:=piece_app (segRun_of (congrFun (pc10 w) os)) k
 replace k:=piece_app (segRun_of (congrFun (pc9 w) os)) k
 replace k:=piece_app (segRun_of (congrFun (pc8 w) os)) k
 replace k:=piece_app (segRun_of (congrFun (pc7 w) os)) k
 replace k:=piece_app (segRun_of (congrFun (pc6 w) os)) k
 replace k:=piece_app (segRun_of (congrFun (pc5 w) os)) k
 replace k:=piece_app (segRun_of (congrFun (pc4 w) os)) k
 replace k:=piece_app (segRun_of (congrFun (pc3 w) os)) k
 replace k:=piece_app (segRun_of (congrFun (pc2 w) os)) k
 replace k:=piece_app (segRun_of (congrFun (pc1 w) os)) k
 replace k:=piece_app (segRun_of (congrFun (pc0 w) os)) k
 rw [← body_eq] at k
 exact go_top (pre w os) (piece_block (block w os) k)
noncomputable def qF:Program:={ PySem.Challenge.pw_xw0122_01 with main:={ PySem.Challenge.pw_xw0122_01.main with body:=[t89] } }
noncomputable def looseF:List Str:=[s1,s4,s5,s6,s7,s8,s9,s10,s11,s12,s13,s14,s15,s16,s17,s18,s19,s20,s21,s22,s23,s24,s25,s26,s27,s28,s29,s30,s31,s32,s33,s34,s35,s36,s37,s46,s49,s51,s52,s56,s61,s63,s67,s72,s77,s79,s83,s87,s89,s90,s91,s92,s93,s114,s116,s117,s148,s156,s161,s167,s172,s176,s210,s212,s218,s219,s223,s229,s232,s235,s240,s243,s246,s255,s256,s261,s268,s270,s271,s273]
theorem mods_eq:importedModules PySem.Challenge.pw_xw0122_01.main.body = []:=by kernel_rfl
theorem size (w:World):((boot_heap w.params).isNs mainGlobals && (#[]:Array GenState).size == 0,(boot_heap w.params).objs.size,(boot_heap w.params).nsMap mainGlobals "__annotations__") = (true,11,some (.ref 6)):=by kernel_rfl
theorem look1 (w:World):staticsOk [] (boot_heap w.params) (H1 w.params) = true:=by kernel_rfl
theorem look2 (w:World):namesBound PySem.Challenge.pw_xw0122_01 (H1 w.params) = true:=by kernel_rfl
theorem look3 (w:World):laidKept (boot_heap w.params) (H1 w.params) = true:=by kernel_rfl
theorem look4 (w:World) (os:OsState):openSeen qF looseF [] (fun _=>true) true ⟨H1 w.params,#[],{},1320,os⟩ = openGood qF looseF:=by kernel_rfl
theorem said:PySem.Challenge.rw_xw0122_01.wellSaid = true:=by rw [PySem.W.Fast.te9446332074065402090]; kernel_rfl
noncomputable def KF (P:Params):Frag:=[(1,o1 P),(3,o3v17 P),(6,o6 P),(9,o9 P),(13,o13 P),(20,o20 P),(21,o21 P),(24,o24 P),(27,o27 P),(34,o34 P),(35,o35 P),(37,o37 P),(38,o38 P),(48,o48 P),(49,o49 P),(55,o55 P),(56,o56 P),(62,o62 P),(63,o63 P),(69,o69 P),(70,o70 P),(76,o76 P),(77,o77 P),(81,o81 P),(82,o82 P),(88,o88 P),(89,o89 P),(92,o92 P),(95,o95 P),(103,o103 P),(104,o104 P),(106,o106 P),(107,o107v1 P),(113,o113 P),(116,o116 P),(124,o124 P),(125,o125 P),(127,o127 P),(128,o128 P),(133,o133 P),(136,o136 P),(143,o143 P),(144,o144 P),(150,o150 P),(151,o151 P),(153,o153 P),(154,o154 P),(161,o161 P),(164,o164 P),(166,o166 P),(172,o172 P),(173,o173 P),(179,o179 P),(180,o180 P),(186,o186 P),(187,o187 P),(189,o189 P),(190,o190 P),(195,o195 P),(196,o196 P),(197,o197 P),(198,o198 P),(199,o199 P),(200,o200 P),(201,o201 P),(202,o202 P),(203,o203 P),(204,o204 P),(205,o205 P),(206,o206 P),(207,o207 P),(208,o208 P),(209,o209 P),(210,o210 P),(211,o211 P),(212,o212 P),(213,o213 P),(214,o214 P),(215,o215 P),(216,o216 P),(217,o217 P),(218,o218 P),(220,o220 P),(221,o221 P),(223,o223 P),(230,o230 P),(231,o231 P),(237,o237 P),(238,o238 P),(244,o244 P),(245,o245 P),(247,o247 P),(248,o248 P),(255,o255 P),(258,o258 P),(265,o265 P),(266,o266 P),(272,o272 P),(273,o273 P),(279,o279 P),(280,o280 P),(286,o286 P),(287,o287 P),(293,o293 P),(294,o294 P),(300,o300 P),(301,o301 P),(307,o307 P),(308,o308 P),(314,o314 P),(315,o315 P),(321,o321 P),(322,o322 P),(328,o328 P),(329,o329 P),(335,o335 P),(336,o336 P),(342,o342 P),(343,o343 P),(349,o349 P),(350,o350 P),(356,o356 P),(357,o357 P),(363,o363 P),(364,o364 P),(370,o370 P),(371,o371 P),(377,o377 P),(378,o378 P),(384,o384 P),(385,o385 P),(391,o391 P),(392,o392 P),(394,o394 P),(395,o395 P),(402,o402 P),(405,o405 P),(412,o412 P),(413,o413 P),(415,o415 P),(416,o416 P),(423,o423 P),(426,o426 P),(433,o433 P),(434,o434 P),(440,o440 P),(441,o441 P),(447,o447 P),(448,o448 P),(450,o450 P),(451,o451 P),(458,o458 P),(461,o461 P),(468,o468 P),(469,o469 P),(475,o475 P),(476,o476 P),(482,o482 P),(483,o483 P),(489,o489 P),(490,o490 P),(492,o492 P),(493,o493 P),(500,o500 P),(503,o503 P),(510,o510 P),(511,o511 P),(517,o517 P),(518,o518 P),(524,o524 P),(525,o525 P),(527,o527 P),(528,o528 P),(535,o535 P),(538,o538 P),(545,o545 P),(546,o546 P),(552,o552 P),(553,o553 P),(555,o555 P),(556,o556 P),(563,o563 P),(566,o566 P),(573,o573 P),(574,o574 P),(580,o580 P),(581,o581 P),(587,o587 P),(588,o588 P),(594,o594 P),(595,o595 P),(601,o601 P),(602,o602 P),(608,o608 P),(609,o609 P),(611,o611 P),(612,o612 P),(617,o617 P),(623,o623 P),(624,o624 P),(630,o630 P),(631,o631 P),(637,o637 P),(638,o638 P),(644,o644 P),(645,o645 P),(651,o651 P),(652,o652 P),(658,o658 P),(659,o659 P),(665,o665 P),(666,o666 P),(670,o670 P),(671,o671 P),(677,o677 P),(678,o678 P),(684,o684 P),(685,o685 P),(691,o691 P),(692,o692 P),(696,o696 P),(697,o697 P),(703,o703 P),(704,o704 P),(710,o710 P),(711,o711 P),(715,o715 P),(716,o716 P),(720,o720 P),(721,o721 P),(725,o725 P),(726,o726 P)]
noncomputable def kAs:List Addr:=[1,3,6,9,13,20,21,24,27,34,35,37,38,48,49,55,56,62,63,69,70,76,77,81,82,88,89,92,95,103,104,106,107,113,116,124,125,127,128,133,136,143,144,150,151,153,154,161,164,166,172,173,179,180,186,187,189,190,195,196,197,198,199,200,201,202,203,204,205,206,207,208,209,210,211,212,213,214,215,216,217,218,220,221,223,230,231,237,238,244,245,247,248,255,258,265,266,272,273,279,280,286,287,293,294,300,301,307,308,314,315,321,322,328,329,335,336,342,343,349,350,356,357,363,364,370,371,377,378,384,385,391,392,394,395,402,405,412,413,415,416,423,426,433,434,440,441,447,448,450,451,458,461,468,469,475,476,482,483,489,490,492,493,500,503,510,511,517,518,524,525,527,528,535,538,545,546,552,553,555,556,563,566,573,574,580,581,587,588,594,595,601,602,608,609,611,612,617,623,624,630,631,637,638,644,645,651,652,658,659,665,666,670,671,677,678,684,685,691,692,696,697,703,704,710,711,715,716,720,721,725,726]
theorem kAs_eq (P:Params):kAs = (KF P).map (·.1):=rfl
theorem look5 (w:World) (os:OsState):kAs.map (H1 w.params).get? = (KF w.params).map fun p=>some p.2:=by kernel_rfl
noncomputable def lawRec:DefRec:=⟨s278,a89,b89,c89,⟨495,0,518,27⟩⟩
theorem prog_eq:PySem.Challenge.rw_xw0122_01.row.prog = PySem.Challenge.pw_xw0122_01:=rfl
theorem looks (w:World):(fun os=>((staticsOk (importedModules PySem.Challenge.pw_xw0122_01.main.body) (boot_heap w.params) (H1 w.params) && namesBound PySem.Challenge.pw_xw0122_01 (H1 w.params) && gensDone ⟨H1 w.params,#[],{},1320,os⟩ && laidKept (boot_heap w.params) (H1 w.params)),
  openSeen qF looseF (importedModules PySem.Challenge.pw_xw0122_01.main.body) (fun _=>true) true ⟨H1 w.params,#[],{},1320,os⟩,(fun s:Shared=>kAs.map s.heap.get?) ⟨H1 w.params,#[],{},1320,os⟩)) = fun _=>(true,openGood qF looseF,(KF w.params).map fun p=>some p.2):=by
 funext os
 rw [mods_eq,look1,look2,look3,look4]
 exact congrArg (fun x=>(true,openGood qF looseF,x)) (look5 w os)
theorem left:LeftO PySem.Challenge.pw_xw0122_01 qF looseF (fun _=>true) (fun s:Shared=>kAs.map s.heap.get?) (fun w=>(KF w.params).map fun p=>some p.2) 20000 :=
 LeftO.of_pieces (M:=5556) (boot_open (by kernel_rfl) (by kernel_rfl) (fun _=>rfl)) size run_all (by kernel_rfl) looks
theorem head (walk:WalkO qF looseF (fun _ _=>True) (fun w h=>(KF w.params).In h) PySem.Challenge.rw_xw0122_01.row.toRowW lawRec [] fun f vs=>PySem.call f vs):PySem.Challenge.rw_xw0122_01.Holds:=by
 refine holds_law said fun hs=>?_
 refine holds_open (q:=qF) (loose:=looseF) (Xt:=fun _=>true) (XP:=fun _ _=>True) (N:=20000) left (fun w s e=>Frag.in_of (kAs_eq _) e) (fun w h h' x k=>x.keeps k) (fun _ _=>trivial) (fun _ _ _ _ _=>trivial) (d:=lawRec) (kwd:=[]) ?_ ?_ rfl ?_ ?_ hs ?_ ?_ ?_ walk
 ·kernel_rfl
 ·kernel_rfl
 ·exact fun s _=>recFacts_of (by rfl)
 ·kernel_rfl
 ·kernel_rfl
 ·exact ⟨by kernel_rfl,by kernel_rfl,by kernel_rfl,by kernel_rfl,by kernel_rfl,by kernel_rfl⟩
 ·exact ⟨[.list []],by decide +kernel,by decide +kernel⟩
noncomputable abbrev PM:Program:=PySem.Challenge.pw_xw0122_01
inductive F where
 | none
 | bool (b:Bool)
 | int (i:Int)
 | str (i:Nat)
 | tup (l:List F)
 | lst (l:List F)
 | dic (ks:List Nat) (l:List F)
 | dicI (ks:List Int) (l:List F)
 | inst (C:Nat) (ks:List Nat) (l:List F)
inductive D where
 | fro (f:F)
 | ref (k:Nat)
noncomputable def Le (G H:Heap):Prop:=∀ b o,G.get? b = some o→H.get? b = some o
theorem Le.refl (G:Heap):Le G G:=fun _ _ e=>e
theorem Le.trans {G H I:Heap} (a:Le G H) (b:Le H I):Le G I:=fun x o e=>b x o (a x o e)
noncomputable def nmL:List Str:=[s0,s1,s2,s3,s4,s5,s6,s7,s8,s9,s10,s11,s12,s13,s14,s15,s16,s17,s18,s19,s20,s21,s22,s23,s24,s25,s26,s27,s28,s29,s30,s31,s32,s33,s34,s35,s36,s37,s38,s39,s40,s41,s42,s43,s44,s45,s46,s47,s48,s49,s50,s51,s52,s53,s54,s55,s56,s57,s58,s59,s60,s61,s62,s63,s64,s65,s66,s67,s68,s69,s70,s71,s72,s73,s74,s75,s76,s77,s78,s79,s80,s81,s82,s83,s84,s85,s86,s87,s88,s89,s90,s91,s92,s93,s94,s95,s96,s97,s98,s99,s100,s101,s102,s103,s104,s105,s106,s107,s108,s109,s110,s111,s112,s113,s114,s115,s116,s117,s118,s119,s120,s121,s122,s123,s124,s125,s126,s127,s128,s129,s130,s131,s132,s133,s134,s135,s136,s137,s138,s139,s140,s141,s142,s143,s144,s145,s146,s147,s148,s149,s150,s151,s152,s153,s154,s155,s156,s157,s158,s159,s160,s161,s162,s163,s164,s165,s166,s167,s168,s169,s170,s171,s172,s173,s174,s175,s176,s177,s178,s179,s180,s181,s182,s183,s184,s185,s186,s187,s188,s189,s190,s191,s192,s193,s194,s195,s196,s197,s198,s199,s200,s201,s202,s203,s204,s205,s206,s207,s208,s209,s210,s211,s212,s213,s214,s215,s216,s217,s218,s219,s220,s221,s222,s223,s224,s225,s226,s227,s228,s229,s230,s231,s232,s233,s234,s235,s236,s237,s238,s239,s240,s241,s242,s243,s244,s245,s246,s247,s248,s249,s250,s251,s252,s253,s254,s255,s256,s257,s258,s259,s260,s261,s262,s263,s264,s265,s266,s267,s268,s269,s270,s271,s272,s273,s274,s275,s276,s277,s278,⟨#[65]⟩,⟨#[66]⟩,⟨#[67]⟩]
noncomputable def nodupB:List Nat→Bool
 | []=>true
 | k :: ks=>!(ks.any (Nat.beq k)) && nodupB ks
theorem nodupB_ok:∀ {ks:List Nat},nodupB ks = true→ks.Nodup
 | [],_=>List.nodup_nil
 | k :: ks,h=>by
  unfold nodupB at h
  obtain ⟨h1,h2⟩:=Bool.and_eq_true_iff.mp h
  refine List.nodup_cons.mpr ⟨fun z=>?_,nodupB_ok h2⟩
  have:ks.any (Nat.beq k) = true:=List.any_eq_true.mpr ⟨k,z,by simp⟩
  rw [this] at h1; cases h1
noncomputable def codeS (x:Str):Nat:=x.cps.toList.foldl (fun n c=>n * 1114112 + (c:Nat)) 1
theorem nmL_nodup:nmL.Nodup:=List.Pairwise.of_map codeS (fun _ _ hne e=>hne (e ▸ rfl)) (nodupB_ok (show nodupB (nmL.map codeS) = true by kernel_rfl))
theorem nmL_len:nmL.length = 282:=rfl
noncomputable def nm (i:Nat):Str:=nmL.getD i ⟨#[]⟩
theorem nm_get {i:Nat} (h:i < nmL.length):nmL[i]? = some (nm i):=by
 unfold nm
 rw [List.getD_eq_getElem?_getD,List.getElem?_eq_getElem h]; rfl
theorem nm_inj {i j:Nat} (hi:i < nmL.length) (hj:j < nmL.length) (e:nm i = nm j):i = j:=by
 have a:=nm_get hi
 have b:=nm_get hj
 rw [e] at a
 obtain ⟨a1,a2⟩:=List.getElem?_eq_some_iff.mp a
 obtain ⟨b1,b2⟩:=List.getElem?_eq_some_iff.mp b
 exact (List.getElem_inj nmL_nodup).mp (a2.trans b2.symm)
theorem nm_beq {i j:Nat} (hi:i < nmL.length) (hj:j < nmL.length):(nm i == nm j) = decide (i = j):=by
 by_cases q:i = j
 ·subst q; simp
 ·have:nm i ≠ nm j:=fun e=>q (nm_inj hi hj e)
  simp [q,this]
noncomputable def Gets (od:Obj):List Nat→List Value→Prop
 | [],[]=>True
 | k :: ks,v :: vs=>lookIn (nm k) od = some (some v)∧Gets od ks vs
 | _,_=>False
noncomputable def lobj (vs:List Value) (n:Nat):Obj:=⟨.type "list",none,.seq vs.toArray n,#[]⟩
theorem list_of_lobj {h:Heap} {a:Addr} {vs:List Value} {n:Nat} (e:h.get? a = some (lobj vs n)):h.IsList a vs.toArray:=⟨_,e,rfl,n,rfl⟩
mutual
noncomputable def Den (w:World) (G:Heap):F→Value→Prop
 | .none,v=>v = .none
 | .bool b,v=>v = .bool b
 | .int i,v=>∃ t,v = .int i t
 | .str i,v=>i < nmL.length∧∃ t,v = .str (nm i) t
 | .tup l,v=>E2 fun a vs=>A3 (v = .ref a) (IsTup G a vs.toArray) (Dens w G l vs)
 | .lst l,v=>E2 fun a vs=>A3 (v = .ref a) (∃ n,G.get? a = some (lobj vs n)) (Dens w G l vs)
 | .dic ks l,v=>(∀ k∈ks,k < nmL.length)∧E2 fun a vs=>A5 (v = .ref a) (G.DictOf (strKind PM w) a ((ks.map nm).zip vs)) (Dens w G l vs) (ks.length = vs.length) ((a == sysModules) = false)
 | .dicI ks l,v=>E2 fun a vs=>A5 (v = .ref a) (G.DictOf (intKind PM w) a (ks.zip vs)) (Dens w G l vs) (ks.length = vs.length) ((a == sysModules) = false)
 | .inst C ks l,v=>E4 fun a ox od vs=>A4 (v = .ref a) (W.InstAt G a ox C (some od)) (Gets od ks vs) (Dens w G l vs)
noncomputable def Dens (w:World) (G:Heap):List F→List Value→Prop
 | [],[]=>True
 | f :: l,v :: vs=>Den w G f v∧Dens w G l vs
 | _,_=>False
end
mutual
theorem Den.mono {w:World} {G H:Heap} (x:Le G H):∀ (f:F) (v:Value),Den w G f v→Den w H f v
 | .none,v,h=>h
 | .bool b,v,h=>h
 | .int i,v,h=>h
 | .str i,v,h=>h
 | .tup l,v,h=>by
  unfold Den at h ⊢
  obtain ⟨a,vs,e,i,d⟩:=h
  exact ⟨a,vs,e,i.keeps x,Dens.mono x l vs d⟩
 | .lst l,v,h=>by
  unfold Den at h ⊢
  obtain ⟨a,vs,e,i,d⟩:=h
  obtain ⟨n,i⟩:=i
  exact ⟨a,vs,e,⟨n,x _ _ i⟩,Dens.mono x l vs d⟩
 | .dic ks l,v,h=>by
  unfold Den at h ⊢
  obtain ⟨z,a,vs,e,⟨o,es,ep,ho,r⟩,d,y,y2⟩:=h
  exact ⟨z,a,vs,e,⟨o,es,ep,x _ _ ho,r⟩,Dens.mono x l vs d,y,y2⟩
 | .dicI ks l,v,h=>by
  unfold Den at h ⊢
  obtain ⟨a,vs,e,⟨o,es,ep,ho,r⟩,d,y,y2⟩:=h
  exact ⟨a,vs,e,⟨o,es,ep,x _ _ ho,r⟩,Dens.mono x l vs d,y,y2⟩
 | .inst C ks l,v,h=>by
  unfold Den at h ⊢
  obtain ⟨a,ox,od,vs,e,⟨i1,i2,i3,i4⟩,g,d⟩:=h
  refine ⟨a,ox,od,vs,e,⟨x _ _ i1,i2,i3,?_⟩,g,Dens.mono x l vs d⟩
  revert i4
  cases ox.dict with
  | none=>exact id
  | some dx=>exact fun y=>x _ _ y
theorem Dens.mono {w:World} {G H:Heap} (x:Le G H):∀ (l:List F) (vs:List Value),Dens w G l vs→Dens w H l vs
 | [],[],h=>by unfold Dens; trivial
 | [],_ :: _,h=>by exact False.elim h
 | _ :: _,[],h=>by exact False.elim h
 | f :: l,v :: vs,h=>by
  unfold Dens at h ⊢
  exact ⟨Den.mono x f v h.1,Dens.mono x l vs h.2⟩
end
theorem Dens.length {w:World} {G:Heap}:∀ {l:List F} {vs:List Value},Dens w G l vs→l.length = vs.length
 | [],[],h=>rfl
 | [],_ :: _,h=>by exact False.elim h
 | _ :: _,[],h=>by exact False.elim h
 | f :: l,v :: vs,h=>by simp [Dens.length h.2]
theorem Dens.get {w:World} {G:Heap}:∀ {l:List F} {vs:List Value},Dens w G l vs→∀ {i:Nat} {f:F},l[i]? = some f→∃ v,vs[i]? = some v∧Den w G f v
 | [],[],h,i,f,e=>by simp at e
 | [],_ :: _,h,_,_,_=>by exact False.elim h
 | _ :: _,[],h,_,_,_=>by exact False.elim h
 | g :: l,v :: vs,h,i,f,e=>by
  cases i with
  | zero=>simp at e; subst e; exact ⟨v,by simp,h.1⟩
  | succ i=>simp at e; obtain ⟨u,a,b⟩:=Dens.get h.2 e; exact ⟨u,by simpa using a,b⟩
theorem Dens.append {w:World} {G:Heap}:∀ {l m:List F} {vs us:List Value},Dens w G l vs→Dens w G m us→Dens w G (l++m) (vs++us)
 | [],m,[],us,h,k=>k
 | [],_,_ :: _,_,h,_=>by exact False.elim h
 | _ :: _,_,[],_,h,_=>by exact False.elim h
 | f :: l,m,v :: vs,us,h,k=>by
  show Dens w G (f :: (l++m)) (v :: (vs++us))
  unfold Dens
  exact ⟨h.1,Dens.append h.2 k⟩
theorem Den.handed {w:World} {G:Heap} {f:F} {v:Value} (h:Den w G f v):handedIn v = true:=by
 cases f <;> unfold Den at h
 ·subst h; rfl
 ·subst h; rfl
 ·obtain ⟨t,rfl⟩:=h; rfl
 ·obtain ⟨_,t,rfl⟩:=h; rfl
 ·obtain ⟨a,vs,rfl,_⟩:=h; rfl
 ·obtain ⟨a,vs,rfl,_⟩:=h; rfl
 ·obtain ⟨_,a,vs,rfl,_⟩:=h; rfl
 ·obtain ⟨a,vs,rfl,_⟩:=h; rfl
 ·obtain ⟨a,_,_,vs,rfl,_⟩:=h; rfl
section
variable {w:World} {G:Heap}
theorem den_tup {l:List F} {vs:List Value} {a:Addr} (h:IsTup G a vs.toArray) (d:Dens w G l vs):Den w G (.tup l) (.ref a):=by unfold Den; exact ⟨a,vs,rfl,h,d⟩
theorem dens_nil:Dens w G [] []:=by unfold Dens; trivial
theorem dens_cons {f:F} {l:List F} {v:Value} {vs:List Value} (h:Den w G f v) (t:Dens w G l vs):Dens w G (f :: l) (v :: vs):=by unfold Dens; exact ⟨h,t⟩
theorem di (i:Int) (t:Tok):Den w G (.int i) (.int i t):=by unfold Den; exact ⟨t,rfl⟩
theorem ds (k:Nat) (t:Tok) (h:k < 282):Den w G (.str k) (.str (nm k) t):=by unfold Den; exact ⟨by rw [nmL_len]; exact h,t,rfl⟩
theorem den_lst {l:List F} {vs:List Value} {a:Addr} {n:Nat} (h:G.get? a = some (lobj vs n)) (d:Dens w G l vs):Den w G (.lst l) (.ref a):=by unfold Den; exact ⟨a,vs,rfl,⟨n,h⟩,d⟩
theorem densI {H:Heap}:∀ {ns:List Int} {vs:List Value},Dens w G (ns.map .int) vs→Dens w H (ns.map .int) vs
 | [],[],_=>dens_nil
 | [],_ :: _,q=>False.elim q
 | _ :: _,[],q=>False.elim q
 | i :: ns,v :: vs,q=>dens_cons (by obtain ⟨t,rfl⟩:=q.1; exact di i t) (densI (ns:=ns) q.2)
end
noncomputable def DenD (w:World) (ρ:List Addr) (G:Heap):D→Value→Prop
 | .fro f,v=>Den w G f v
 | .ref k,v=>∃ a,ρ[k]? = some a∧v = .ref a
noncomputable def DenDs (w:World) (ρ:List Addr) (G:Heap):List D→List Value→Prop
 | [],[]=>True
 | d :: l,v :: vs=>DenD w ρ G d v∧DenDs w ρ G l vs
 | _,_=>False
mutual
noncomputable def plainF:F→Bool
 | .int _=>true
 | .str _=>true
 | .tup l=>plainFs l
 | _=>false
noncomputable def plainFs:List F→Bool
 | []=>true
 | f :: l=>plainF f && plainFs l
end
mutual
noncomputable def depthF:F→Nat
 | .tup l=>depthFs l + 1
 | _=>0
noncomputable def depthFs:List F→Nat
 | []=>0
 | f :: l=>Nat.max (depthF f) (depthFs l)
end
mutual
noncomputable def drawsF:F→Nat
 | .tup l=>drawsFs l + 1
 | _=>1
noncomputable def drawsFs:List F→Nat
 | []=>0
 | f :: l=>drawsF f + drawsFs l
end
mutual
noncomputable def hashF (w:World):F→Int
 | .int i=>hashInt i
 | .str k=>hashStr w (nm k)
 | .tup l=>reduceHash (Builtin.Tuple.tupleHashOf (hashFs w l))
 | _=>0
noncomputable def hashFs (w:World):List F→List Int
 | []=>[]
 | f :: l=>hashF w f :: hashFs w l
end
section
variable {prog:Program} {w:World} {E:Value→Shared→Prop}
mutual
theorem pyHashF:∀ (f:F) (v:Value) (A:Around) (s:Shared) (Q:Int→Shared→Prop),plainF f = true→Den w s.heap f v→A.units + depthF f < cLine→Q (hashF w f) { s with toks:=s.toks + drawsF f }→wpAny (model prog w) A (pyHash v) Q E s
 | .int i=>by
  intro v A s Q _ x _ h
  obtain ⟨t,rfl⟩:=x
  exact wpAny_pyHash_int h
 | .str k=>by
  intro v A s Q _ x _ h
  obtain ⟨_,t,rfl⟩:=x
  exact wpAny_pyHash_str h
 | .tup l=>by
  intro v A s Q hp x hu h
  obtain ⟨a,vs,rfl,⟨o,ho,hc,n,hd⟩,dn⟩:=x
  change A.units + (depthFs l + 1) < cLine at hu
  refine pyHash_slot (T:="tuple") ⟨o,ho,hc⟩ F.slot_tuple_hash F.entry_tuple_hash (F.args_tuple_hash_1 _) (beq_builtin_none _) (.inr (by omega)) ?_
  show wpAny _ _ (Builtin.Tuple.tupleItemsOf (.ref a) >>= _) _ _ s
  refine wpAny_bind (wpAny_tupleItemsOf ho hd ?_)
  refine wpAny_bind ?_
  rw [← Array.forIn_toList]
  refine hashLoopF l vs A.in1 s #[] _ hp dn (by simp only [Around.in1_units]; omega) fun b hb=>?_
  show wpAny _ _ (retInt (Builtin.Tuple.tupleHashOf b.toList)) _ _ _
  rw [hb]
  refine wpAny_bind (wpAny_mkInt (wpAny_pure ⟨_,_,rfl,?_⟩))
  change Q (reduceHash (Builtin.Tuple.tupleHashOf (hashFs w l))) { s with toks:=s.toks + (drawsFs l + 1) } at h
  simpa only [List.nil_append,Nat.add_assoc] using h
 | .none=>fun _ _ _ _ hp _ _ _=>Bool.noConfusion hp
 | .bool _=>fun _ _ _ _ hp _ _ _=>Bool.noConfusion hp
 | .lst _=>fun _ _ _ _ hp _ _ _=>Bool.noConfusion hp
 | .dic _ _=>fun _ _ _ _ hp _ _ _=>Bool.noConfusion hp
 | .dicI _ _=>fun _ _ _ _ hp _ _ _=>Bool.noConfusion hp
 | .inst _ _ _=>fun _ _ _ _ hp _ _ _=>Bool.noConfusion hp
theorem hashLoopF:∀ (l:List F) (vs:List Value) (A:Around) (s:Shared) (b:Array Int) (Q:Array Int→Shared→Prop),plainFs l = true→Dens w s.heap l vs→A.units + depthFs l < cLine →
  (∀ b',b'.toList = b.toList++hashFs w l→Q b' { s with toks:=s.toks + drawsFs l })→wpAny (model prog w) A (forIn vs b fun x r=>do let h ← pyHash x; pure PUnit.unit; pure (ForInStep.yield (r.push h))) Q E s
 | []=>by
  intro vs A s b Q _ x _ h
  cases vs with
  | nil=>exact wpAny_pure (h b (List.append_nil _).symm)
  | cons=>exact False.elim x
 | f :: l=>by
  intro vs A s b Q hp x hu h
  cases vs with
  | nil=>exact False.elim x
  | cons v vs =>
   have hp':=Bool.and_eq_true_iff.mp hp
   have m1:=Nat.le_max_left (depthF f) (depthFs l)
   have m2:=Nat.le_max_right (depthF f) (depthFs l)
   have hu':A.units + Nat.max (depthF f) (depthFs l) < cLine:=hu
   rw [List.forIn_cons]
   refine wpAny_bind (wpAny_bind (pyHashF f v A s _ hp'.1 x.1 (Nat.lt_of_le_of_lt (Nat.add_le_add_left m1 _) hu') ?_))
   refine wpAny_bind (wpAny_pure (wpAny_pure ?_))
   refine hashLoopF l vs A _ _ Q hp'.2 x.2 (Nat.lt_of_le_of_lt (Nat.add_le_add_left m2 _) hu') fun b' hb=>?_
   have:=h b' (by rw [hb,Array.toList_push,List.append_assoc]; rfl)
   change Q b' { s with toks:=s.toks + (drawsF f + drawsFs l) } at this
   rw [← Nat.add_assoc] at this; exact this
end
end
mutual
noncomputable def eqF:F→F→Option Bool
 | .int a,.int b=>some (a == b)
 | .str a,.str b=>some (decide (a = b))
 | .tup l,.tup m=>eqFs l m
 | _,_=>none
noncomputable def eqFs:List F→List F→Option Bool
 | [],[]=>some true
 | [],_ :: _=>some false
 | _ :: _,[]=>some false
 | f :: l,g :: m=>match eqF f g with
  | some true=>eqFs l m
  | some false=>some false
  | none=>none
end
open PySem.SeqAt in
inductive EqZ (A:Around) (s:Shared) (fin:Bool):List (Value × Value)→Bool→Prop where
 | nil:EqZ A s fin [] fin
 | stop {u v:Value} {r:List (Value × Value)}:EqAt A s u v false→EqZ A s fin ((u,v) :: r) false
 | go {u v:Value} {r:List (Value × Value)} {b:Bool}:EqAt A s u v true→EqZ A s fin r b→EqZ A s fin ((u,v) :: r) b
open PySem.SeqAt in
theorem eqTree {prog:Program} {w:World} {A:Around} {E:Value→Shared→Prop} {s:Shared} {a b:Addr} {oa ob:Obj} {xs ys:Array Value} {na nb:Nat} {P:Fin→Shared→Prop} {r:Bool} (hoa:s.heap.get? a = some oa) (hda:oa.data = .seq xs na) (hob:s.heap.get? b = some ob) (hcb:ob.cls = .type "tuple") (hdb:ob.data = .seq ys nb)
  (z:EqZ A s (xs.size == ys.size) (List.zip xs.toList ys.toList) r) (h:P (.done (.ret (.bool r))) s):wpAny (model prog w) A (Builtin.«tuple.__eq__» ⟨[.ref a,.ref b],[]⟩) P E s:=by
 show wpAny _ _ (isInstance (.ref b) (.type "tuple") >>= _) _ _ s
 refine wpAny_bind (wpAny_isInstance ⟨ob,hob,hcb⟩ isSubtype_tuple_tuple ?_)
 simp only [Bool.not_true,Bool.false_eq_true,if_false]
 refine wpAny_bind (wpAny_tupleItemsOf hoa hda ?_)
 refine wpAny_bind (wpAny_tupleItemsOf hob hdb ?_)
 refine wpAny_bind ?_
 refine wpAny_forIn_list _
  (fun rest q s'=>q.1 = none∧s' = s∧EqZ A s (xs.size == ys.size) rest r)
  _ ?_ ?_ _ _ ⟨rfl,rfl,z⟩
 ·rintro ⟨u,v⟩ rest q s' ⟨hq,rfl,z'⟩
  cases z' with
  | stop e =>
   refine wpAny_bind (e _ _ _ _ ?_)
   simp only [Bool.not_false,if_true]
   exact wpAny_bind (wpAny_pure (wpAny_pure (wpAny_pure h)))
  | go e z'' =>
   refine wpAny_bind (e _ _ _ _ ?_)
   simp only [Bool.not_true,Bool.false_eq_true,if_false]
   exact wpAny_pure ⟨rfl,rfl,z''⟩
 ·rintro ⟨r1,r2⟩ s' ⟨hr,rfl,z'⟩
  simp only at hr
  subst hr
  refine wpAny_pure ?_
  cases z'
  exact h
section
open PySem.SeqAt
section
variable {w:World}
mutual
theorem eqF_refl:∀ (f g:F) (u:Value) (h:Heap) (b:Bool),Den w h f u→Den w h g u→eqF f g = some b→b = true
 | .int i=>by
  intro g u h b x y e
  cases g with
  | int j =>
   obtain ⟨t,rfl⟩:=x
   obtain ⟨t',e2⟩:=y
   injection e2 with e2 _
   rw [← Option.some.inj e,e2]; exact beq_self_eq_true j
  | _=>exact nos e
 | .str i=>by
  intro g u h b x y e
  cases g with
  | str j =>
   obtain ⟨h1,t,rfl⟩:=x
   obtain ⟨h2,t',e2⟩:=y
   injection e2 with e2 _
   rw [← Option.some.inj e]; exact decide_eq_true (nm_inj h1 h2 e2)
  | _=>exact nos e
 | .tup l=>by
  intro g u h b x y e
  cases g with
  | tup m =>
   obtain ⟨a,xs,rfl,⟨oa,hoa,hca,na,hda⟩,dx⟩:=x
   obtain ⟨c,ys,e2,⟨ob,hob,hcb,nb,hdb⟩,dy⟩:=y
   injection e2 with e2
   rw [← e2,hoa] at hob
   rw [← Option.some.inj hob,hda] at hdb
   injection hdb with h1 _
   exact eqFs_refl l m xs h b dx (by rw [show xs = ys from congrArg Array.toList h1]; exact dy) e
  | _=>exact nos e
 | .none=>fun _ _ _ _ _ _ e=>nos e
 | .bool _=>fun _ _ _ _ _ _ e=>nos e
 | .lst _=>fun _ _ _ _ _ _ e=>nos e
 | .dic _ _=>fun _ _ _ _ _ _ e=>nos e
 | .dicI _ _=>fun _ _ _ _ _ _ e=>nos e
 | .inst _ _ _=>fun _ _ _ _ _ _ e=>nos e
theorem eqFs_refl:∀ (l m:List F) (xs:List Value) (h:Heap) (b:Bool),Dens w h l xs→Dens w h m xs→eqFs l m = some b→b = true
 | []=>by
  intro m xs h b x y e
  cases xs with
  | cons=>exact False.elim x
  | nil =>
   cases m with
   | nil=>exact (Option.some.inj e).symm
   | cons=>exact False.elim y
 | f :: l=>by
  intro m xs h b x y e
  cases xs with
  | nil=>exact False.elim x
  | cons u xs =>
   cases m with
   | nil=>exact False.elim y
   | cons g m =>
    change (match eqF f g with | some true=>eqFs l m | some false=>some false | none=>none) = some b at e
    cases q:eqF f g with
    | none=>rw [q] at e; exact nos e
    | some z =>
     rw [q,eqF_refl f g u h z x.1 y.1 q] at e
     exact eqFs_refl l m xs h b x.2 y.2 e
end
mutual
theorem eqF_ok:∀ (f g:F) (u v:Value) (A:Around) (s:Shared) (b:Bool),Den w s.heap f u→Den w s.heap g v→eqF f g = some b→A.units + depthF f < cLine→EqAt A s u v b
 | .int i=>by
  intro g u v A s b x y e _
  cases g with
  | int j =>
   obtain ⟨t,rfl⟩:=x
   obtain ⟨t',rfl⟩:=y
   obtain rfl:=Option.some.inj e
   exact EqAt.int_int i t j t'
  | _=>exact nos e
 | .str i=>by
  intro g u v A s b x y e _
  cases g with
  | str j =>
   obtain ⟨h1,t,rfl⟩:=x
   obtain ⟨h2,t',rfl⟩:=y
   obtain rfl:=Option.some.inj e
   have:=EqAt.str_str (A:=A) (s:=s) (nm i) t (nm j) t'
   rw [nm_beq h1 h2] at this
   exact this
  | _=>exact nos e
 | .tup l=>by
  intro g u v A s b x y e hu
  cases g with
  | tup m =>
   obtain ⟨a,xs,rfl,⟨oa,hoa,hca,na,hda⟩,dx⟩:=x
   obtain ⟨c,ys,rfl,⟨ob,hob,hcb,nb,hdb⟩,dy⟩:=y
   change A.units + (depthFs l + 1) < cLine at hu
   intro prog w' E Q h
   unfold eqBool
   refine wpAny_holding ?_
   refine wpAny_ite_split (fun hab=>?_) (fun _=>?_)
   ·have e2:a = c:=by have:=eq_of_beq hab; injection this
    rw [← e2,hoa] at hob
    rw [← Option.some.inj hob,hda] at hdb
    injection hdb with h1 _
    have hb:b = true:=eqFs_refl l m xs s.heap b dx (by rw [show xs = ys from congrArg Array.toList h1]; exact dy) e
    rw [hb] at h
    exact wpAny_bind (wpAny_rule (wpAny_pure h))
   ·refine wpAny_bind (wpAny_richCompare_same_room (op:=.Eq) (T:="tuple") ⟨oa,hoa,hca⟩ ⟨ob,hob,hcb⟩ F.slot_tuple_eq (wpAny_call_entry F.slot_tuple_eq ⟨oa,hoa,hca⟩ F.entry_tuple_eq ?_ (F.args_tuple_eq_2 _ _)) (by omega))
    refine eqTree hoa hda hob hcb hdb (r:=b) ?_ ⟨_,rfl,(fun e=>by cases e),wpAny_truthy_bool h⟩
    exact eqFs_ok l m xs ys A.in1 s b dx dy e (by rw [Around.in1_units]; omega)
  | _=>exact nos e
 | .none=>fun _ _ _ _ _ _ _ _ e _=>nos e
 | .bool _=>fun _ _ _ _ _ _ _ _ e _=>nos e
 | .lst _=>fun _ _ _ _ _ _ _ _ e _=>nos e
 | .dic _ _=>fun _ _ _ _ _ _ _ _ e _=>nos e
 | .dicI _ _=>fun _ _ _ _ _ _ _ _ e _=>nos e
 | .inst _ _ _=>fun _ _ _ _ _ _ _ _ e _=>nos e
theorem eqFs_ok:∀ (l m:List F) (xs ys:List Value) (A:Around) (s:Shared) (b:Bool),Dens w s.heap l xs→Dens w s.heap m ys→eqFs l m = some b→A.units + depthFs l < cLine→EqZ A s (xs.length == ys.length) (List.zip xs ys) b
 | []=>by
  intro m xs ys A s b x y e _
  cases xs with
  | cons=>exact False.elim x
  | nil =>
   cases m with
   | nil =>
    cases ys with
    | cons=>exact False.elim y
    | nil=>obtain rfl:=Option.some.inj e; exact .nil
   | cons g m =>
    cases ys with
    | nil=>exact False.elim y
    | cons v ys=>obtain rfl:=Option.some.inj e; exact .nil
 | f :: l=>by
  intro m xs ys A s b x y e hu
  cases xs with
  | nil=>exact False.elim x
  | cons u xs =>
   cases m with
   | nil =>
    cases ys with
    | cons=>exact False.elim y
    | nil=>obtain rfl:=Option.some.inj e; exact .nil
   | cons g m =>
    cases ys with
    | nil=>exact False.elim y
    | cons v ys =>
     have hu':A.units + Nat.max (depthF f) (depthFs l) < cLine:=hu
     have m1:=Nat.le_max_left (depthF f) (depthFs l)
     have m2:=Nat.le_max_right (depthF f) (depthFs l)
     change (match eqF f g with | some true=>eqFs l m | some false=>some false | none=>none) = some b at e
     rw [show ((u :: xs).length == (v :: ys).length) = (xs.length == ys.length) by simp]
     show EqZ A s _ ((u,v) :: List.zip xs ys) b
     cases q:eqF f g with
     | none=>rw [q] at e; exact nos e
     | some z =>
      rw [q] at e
      have:=eqF_ok f g u v A s z x.1 y.1 q (Nat.lt_of_le_of_lt (Nat.add_le_add_left m1 _) hu')
      cases z with
      | true=>exact .go this (eqFs_ok l m xs ys A s b x.2 y.2 e (Nat.lt_of_le_of_lt (Nat.add_le_add_left m2 _) hu'))
      | false=>obtain rfl:=Option.some.inj e; exact .stop this
end
end
end
section
open PySem.SeqAt
section
variable {prog:Program} {w:World}
mutual
theorem quietF:∀ (f:F) (v:Value) (n:Nat) (A:Around) (E:Value→Shared→Prop) (s:Shared) (Q:Bool→Shared→Prop),plainF f = true→Den w s.heap f v→depthF f≤n→Q true s→wpAny (model prog w) A (eqIsQuiet n v) Q E s
 | .int i=>by
  intro v n A E s Q _ x _ h
  obtain ⟨t,rfl⟩:=x
  rw [eqIsQuiet_byValue n rfl]; exact wpAny_pure h
 | .str k=>by
  intro v n A E s Q _ x _ h
  obtain ⟨_,t,rfl⟩:=x
  rw [eqIsQuiet_byValue n rfl]; exact wpAny_pure h
 | .tup l=>by
  intro v n A E s Q hp x hn h
  cases n with
  | zero=>exact absurd hn (Nat.not_succ_le_zero _)
  | succ n =>
   obtain ⟨a,vs,rfl,⟨o,ho,hc,n',hd⟩,dn⟩:=x
   have hq:=quietFs l vs n s hp dn (Nat.le_of_succ_le_succ hn)
   have hT:s.TypeIs (.ref a) "tuple":=⟨o,ho,hc⟩
   unfold eqIsQuiet
   refine wpAny_bind (wpAny_specialOf hT F.slot_tuple_eq.lookup ?_)
   show wpAny _ _ (isInstance (.ref a) (.type "tuple") >>= _) _ _ s
   refine wpAny_bind (wpAny_isInstance hT isSubtype_tuple_tuple ?_)
   simp only [Bool.not_true,Bool.false_eq_true,if_false]
   refine wpAny_bind (wpAny_seqItems ho hd ?_)
   refine wpAny_bind ?_
   show wpAny _ _ (forIn vs.toArray _ _) _ _ s
   rw [← Array.forIn_toList]
   refine wpAny_forIn_list _ (fun rest r s'=>r.1 = none∧s' = s∧∀ v∈rest,v∈vs) _ ?_ ?_ _ _ ⟨rfl,rfl,fun v hv=>hv⟩
   ·rintro v rest r s' ⟨hr,rfl,hall⟩
    refine wpAny_bind (hq v (hall v List.mem_cons_self) _ _ _ ?_)
    simp only [Bool.not_true,Bool.false_eq_true,if_false]
    exact wpAny_pure ⟨rfl,rfl,fun u hu'=>hall u (List.mem_cons_of_mem _ hu')⟩
   ·rintro ⟨r1,r2⟩ s' ⟨hr,rfl,_⟩
    simp only at hr
    subst hr
    exact wpAny_pure h
 | .none=>fun _ _ _ _ _ _ hp _ _ _=>Bool.noConfusion hp
 | .bool _=>fun _ _ _ _ _ _ hp _ _ _=>Bool.noConfusion hp
 | .lst _=>fun _ _ _ _ _ _ hp _ _ _=>Bool.noConfusion hp
 | .dic _ _=>fun _ _ _ _ _ _ hp _ _ _=>Bool.noConfusion hp
 | .dicI _ _=>fun _ _ _ _ _ _ hp _ _ _=>Bool.noConfusion hp
 | .inst _ _ _=>fun _ _ _ _ _ _ hp _ _ _=>Bool.noConfusion hp
theorem quietFs:∀ (l:List F) (vs:List Value) (n:Nat) (s:Shared),plainFs l = true→Dens w s.heap l vs→depthFs l≤n→∀ v∈vs,∀ (A:Around) (E:Value→Shared→Prop) (Q:Bool→Shared→Prop),Q true s→wpAny (model prog w) A (eqIsQuiet n v) Q E s
 | []=>by
  intro vs n s _ x _ v hv
  cases vs with
  | nil=>exact absurd hv List.not_mem_nil
  | cons=>exact False.elim x
 | f :: l=>by
  intro vs n s hp x hn v hv
  cases vs with
  | nil=>exact False.elim x
  | cons u vs =>
   have hp':=Bool.and_eq_true_iff.mp hp
   have m1:=Nat.le_max_left (depthF f) (depthFs l)
   have m2:=Nat.le_max_right (depthF f) (depthFs l)
   have hn':Nat.max (depthF f) (depthFs l)≤n:=hn
   rcases List.mem_cons.mp hv with e | hv
   ·rw [e]
    exact fun A E Q h=>quietF f u n A E s Q hp'.1 x.1 (Nat.le_trans m1 hn') h
   ·exact quietFs l vs n s hp'.2 x.2 (Nat.le_trans m2 hn') v hv
end
mutual
theorem keepF {h h':Heap} (k:∀ b o items n,h.get? b = some o→o.data = .seq items n→h'.get? b = some o):∀ (f:F) (v:Value),plainF f = true→Den w h f v→Den w h' f v
 | .int i=>by intro v _ x; obtain ⟨t,rfl⟩:=x; exact di i t
 | .str i=>by intro v _ x; unfold Den at x ⊢; exact x
 | .tup l=>by
  intro v hp x
  obtain ⟨a,vs,rfl,⟨o,ho,hc,n,hd⟩,dn⟩:=x
  exact den_tup ⟨o,k _ _ _ _ ho hd,hc,n,hd⟩ (keepFs k l vs hp dn)
 | .none=>fun _ hp _=>Bool.noConfusion hp
 | .bool _=>fun _ hp _=>Bool.noConfusion hp
 | .lst _=>fun _ hp _=>Bool.noConfusion hp
 | .dic _ _=>fun _ hp _=>Bool.noConfusion hp
 | .dicI _ _=>fun _ hp _=>Bool.noConfusion hp
 | .inst _ _ _=>fun _ hp _=>Bool.noConfusion hp
theorem keepFs {h h':Heap} (k:∀ b o items n,h.get? b = some o→o.data = .seq items n→h'.get? b = some o):∀ (l:List F) (vs:List Value),plainFs l = true→Dens w h l vs→Dens w h' l vs
 | []=>by
  intro vs _ x
  cases vs with
  | nil=>exact dens_nil
  | cons=>exact False.elim x
 | f :: l=>by
  intro vs hp x
  cases vs with
  | nil=>exact False.elim x
  | cons v vs=>exact dens_cons (keepF k f v (Bool.and_eq_true_iff.mp hp).1 x.1) (keepFs k l vs (Bool.and_eq_true_iff.mp hp).2 x.2)
end
end
noncomputable def rowsF:List F:=[.tup [.int 1,.str 94],.tup [.int 1,.str 95],.tup [.int 1,.str 96],.tup [.int 1,.str 97],.tup [.int 1,.str 98],.tup [.int 1,.str 99],.tup [.int 1,.str 100],.tup [.int 1,.str 76],.tup [.int 2,.int 0,.int 0],.tup [.int 2,.int 1,.int 0],
 .tup [.int 1,.str 101],.tup [.int 8,.tup [],.tup [],.tup [],.tup [],.tup [],.int 0],.tup [.int 6,.tup [.int 8,.int 9]],.tup [.int 1,.str 102],.tup [.int 2,.int 0,.int 1],.tup [.int 2,.int 1,.int 1]]
noncomputable def rowF (k:Nat):F:=rowsF.getD k .none
theorem row_ok:∀ k,k < 16→plainF (rowF k) = true∧depthF (rowF k)≤2:=by decide
theorem row_eq:∀ i,i < 16→∀ j,j < 16→eqF (rowF i) (rowF j) = some (decide (i = j)):=by decide
noncomputable def rowKind (w:World):HeapKind PM w Nat where
 is:=fun h k a=>k < 16∧Den w h (rowF k) (.ref a)
 hash:=fun k=>hashF w (rowF k)
 draws:=fun k=>drawsF (rowF k)
 room:=fun A=>A.units + 4 < cLine
 inj:=fun {h a x y} hx hy=>of_decide_eq_true (eqF_refl (rowF x) (rowF y) (.ref a) h _ hx.2 hy.2 (row_eq x hx.1 y hy.1))
 keeps:=fun {h h' k a d o es ep} x ho hd hs=>⟨x.1,keepF (fun b o' items n e e2=>by
  have hne:b ≠ d:=by
   rintro rfl
   rw [ho] at e; cases e
   rw [hd] at e2; cases e2
  exact (hs.2 b hne).trans e) _ _ (row_ok k x.1).1 x.2⟩
 pyHash:=fun {A E s k a Q} hu hk h=>pyHashF (rowF k) (.ref a) A s Q (row_ok k hk.1).1 hk.2 (by have:=(row_ok k hk.1).2; omega) h
 eqBool:=fun {A E s x y a b Q} hu hx hy h=>eqF_ok (rowF x) (rowF y) (.ref a) (.ref b) A s _ hx.2 hy.2 (row_eq x hx.1 y hy.1) (by have:=(row_ok x hx.1).2; omega) _ _ _ _ h
 quiet:=fun {A E s k a Q} hk h=>quietF (rowF k) (.ref a) 8 A E s Q (row_ok k hk.1).1 hk.2 (by have:=(row_ok k hk.1).2; omega) h
end
noncomputable def restr (h:Heap) (p:Addr→Bool):Heap:=hideAll h ((List.range h.objs.size).filter fun b=>!p b)
theorem restr_get {h:Heap} {p:Addr→Bool} {b:Addr} {o:Obj}:(restr h p).get? b = some o ↔ p b = true∧h.get? b = some o:=by
 constructor
 ·intro e
  have e2:=of_hideAll _ e
  refine ⟨?_,e2⟩
  cases q:p b with
  | true=>rfl
  | false =>
   have:(restr h p).get? b = none:=hideAll_none _ (List.mem_filter.mpr ⟨List.mem_range.mpr (Heap.lt_size e2),by simp [q]⟩)
   rw [this] at e; cases e
 ·rintro ⟨q,e⟩
  refine hideAll_get _ e fun m=>?_
  have:=(List.mem_filter.mp m).2
  simp [q] at this
structure Gnd (w:World) (G:Heap):Prop where
 K:(KF w.params).In G
 T:E2 fun mg mb=>A3 (G.Ns mainGlobals mg) (G.Ns builtinsNs mb) (∀ x:Str,x ≠ "__name__"→mb x = bootBuiltins x)
 lim:G.NoLimit
theorem Gnd.mono {w:World} {G H:Heap} (x:Gnd w G) (k:Le G H):Gnd w H :=
 ⟨x.K.keeps k,by obtain ⟨mg,mb,a,b,c⟩:=x.T; exact ⟨mg,mb,a.keeps k,b.keeps k,c⟩,x.lim.keeps k⟩
noncomputable abbrev K0:=Str ⊕ Bool
noncomputable def isK0:K0→Value→Bool
 | .inl x,v=>Value.isStrOf x v
 | .inr b,v=>v == .bool b
theorem isK0_shape {k:K0} {v:Value} (h:isK0 k v = true):(E2 fun x t=>k = .inl x∧v = .str x t)∨∃ b,k = .inr b∧v = .bool b:=by
 cases k with
 | inl x=>obtain ⟨t,rfl⟩:=Value.isStrOf_shape h; exact .inl ⟨x,t,rfl,rfl⟩
 | inr b=>exact .inr ⟨b,rfl,eq_of_beq h⟩
noncomputable def hashK0 (w:World):K0→Int
 | .inl x=>hashStr w x
 | .inr b=>reduceHash (if b then 1 else 0)
theorem pyHash_bool {prog:Program} {w:World} {A:Around} {E:Value→Shared→Prop} {s:Shared} {b:Bool} {Q:Int→Shared→Prop} (h:Q (hashK0 w (.inr b)) { s with toks:=s.toks + 1 }):wpAny (model prog w) A (pyHash (.bool b)) Q E s:=by
 refine pyHash_slot (T:="bool") rfl F.slot_bool_hash entry_int_hash (args_int_hash _) (beq_builtin_none _) (.inl rfl) ?_
 cases b
 ·exact (show wpAny _ _ (do ret (← mkInt 0)) _ _ s from wpAny_bind (wpAny_mkInt (wpAny_pure ⟨_,_,rfl,h⟩)))
 ·exact (show wpAny _ _ (do ret (← mkInt 1)) _ _ s from wpAny_bind (wpAny_mkInt (wpAny_pure ⟨_,_,rfl,h⟩)))
noncomputable def kk0 (w:World):KeyKind PM w K0 where
 is:=isK0
 hash:=hashK0 w
 inj:=fun v a b ha hb=>by
  rcases isK0_shape ha with ⟨x,t,rfl,rfl⟩ | ⟨x,rfl,rfl⟩ <;> rcases isK0_shape hb with ⟨y,u,rfl,e⟩ | ⟨y,rfl,e⟩ <;> cases e <;> rfl
 byValue:=fun k v h=>by rcases isK0_shape h with ⟨x,t,rfl,rfl⟩ | ⟨x,rfl,rfl⟩ <;> rfl
 pyHash:=fun hv h=>by
  rcases isK0_shape hv with ⟨x,t,rfl,rfl⟩ | ⟨x,rfl,rfl⟩
  ·exact wpAny_pyHash_str h
  ·exact pyHash_bool h
 eqBool:=fun hu hv h=>by
  rcases isK0_shape hu with ⟨x,t,rfl,rfl⟩ | ⟨x,rfl,rfl⟩ <;> rcases isK0_shape hv with ⟨y,u,rfl,rfl⟩ | ⟨y,rfl,rfl⟩
  ·exact wpAny_eqBool_str (by simpa using h)
  ·exact PySem.SeqAt.EqAt.str_bool x t y _ _ _ _ (by simpa using h)
  ·exact PySem.SeqAt.EqAt.bool_str x y u _ _ _ _ (by simpa using h)
  ·refine PySem.SeqAt.EqAt.bool_bool x y _ _ _ _ ?_
   have e:(x == y) = decide ((Sum.inr x:K0) = .inr y):=by cases x <;> cases y <;> rfl
   rw [e]; exact h
 «strs»:=fun k x t v h=>by
  rcases isK0_shape h with ⟨y,u,rfl,e⟩ | ⟨y,rfl,e⟩
  ·cases e; cases v <;> rfl
  ·cases e
noncomputable def gotKey (p:Nat × Bool):List K0:=[.inl (nm p.1),.inr p.2]
theorem tupKey_mono {w:World} {G H:Heap} {k:List K0} {a:Addr} (x:IsTupleKey (kk0 w) G k a) (le:Le G H):IsTupleKey (kk0 w) H k a:=by obtain ⟨o,i,n,e,r⟩:=x; exact ⟨o,i,n,le _ _ e,r⟩
noncomputable def PDict (w:World) (G h:Heap) (l:List (Nat × Bool)) (a:Addr):Prop :=
 E4 fun (o:Obj) (es:Array DictEntry) (ep:Nat) (xs:List (List K0 × Addr × Value))=>A8 (h.get? a = some o) o.ExactDict (o.data = .dict es ep) (es.toList = xs.map (entryOfKey (tupleKind (kk0 w)))) (∀ x∈xs,IsTupleKey (kk0 w) G x.1 x.2.1) ((xs.map (·.1)).Nodup) (xs.map (·.1) = l.map gotKey) (∀ p∈l,p.1 < nmL.length)
theorem PDict.frame {w:World} {G G' h h':Heap} {l:List (Nat × Bool)} {a:Addr} (x:PDict w G h l a) (g:Le G G') (k:∀ o,h.get? a = some o→h'.get? a = some o):PDict w G' h' l a :=
 by obtain ⟨o,es,ep,xs,e1,e2,e3,e4,e5,r,r2,r3⟩:=x; exact ⟨o,es,ep,xs,k _ e1,e2,e3,e4,fun y hy=>tupKey_mono (e5 y hy) g,r,r2,r3⟩
theorem PDict.dict {w:World} {G h:Heap} {l:List (Nat × Bool)} {a:Addr} (x:PDict w G h l a) (le:Le G h):∃ xs,h.DictOfH (tupleKind (kk0 w)) a xs∧xs.map (·.1) = l.map gotKey :=
 by obtain ⟨o,es,ep,xs,e1,e2,e3,e4,e5,e6,e7,_⟩:=x; exact ⟨xs,⟨o,es,ep,e1,e2,e3,e4,fun y hy=>tupKey_mono (e5 y hy) le,e6⟩,e7⟩
noncomputable def RDict (w:World) (G h:Heap) (l:List Nat) (a:Addr):Prop :=
 E4 fun (o:Obj) (es:Array DictEntry) (ep:Nat) (xs:List (Nat × Addr × Value))=>A7 (h.get? a = some o) o.ExactDict (o.data = .dict es ep) (es.toList = xs.map (entryOfKey (rowKind w))) (∀ x∈xs,x.1 < 16∧Den w G (rowF x.1) (.ref x.2.1)) ((xs.map (·.1)).Nodup) (xs.map (·.1) = l)
theorem RDict.frame {w:World} {G G' h h':Heap} {l:List Nat} {a:Addr} (x:RDict w G h l a) (g:Le G G') (k:∀ o,h.get? a = some o→h'.get? a = some o):RDict w G' h' l a :=
 by obtain ⟨o,es,ep,xs,e1,e2,e3,e4,e5,r,r2⟩:=x; exact ⟨o,es,ep,xs,k _ e1,e2,e3,e4,fun y hy=>⟨(e5 y hy).1,Den.mono g _ _ (e5 y hy).2⟩,r,r2⟩
inductive M where
 | lst (l:List D)
 | dic (ks:List Nat) (l:List D)
 | dicI (ks:List Int) (l:List D)
 | inst (C:Nat) (ks:List Nat) (l:List D)
 | side (s:List (Nat × Int × List Int))
 | pd (l:List (Nat × Bool))
 | rd (l:List Nat)
 | fz (f:F)
 | cell (d:Option D)
noncomputable def Ents:List DictEntry→List Nat→List Value→Prop
 | [],[],[]=>True
 | e :: es,k :: ks,v :: vs=>(k < nmL.length∧∃ t,e.key = .str (nm k) t)∧e.val = v∧Ents es ks vs
 | _,_,_=>False
inductive SideL (w:World) (h:Heap):List (Nat × Int × List Int)→List (Str × Value)→List Addr→Prop
 | nil:SideL w h [] [] []
 | cons {k:Nat} {c:Int} {ns:List Int} {s:List (Nat × Int × List Int)} {kvs:List (Str × Value)} {a b:Addr} {fp:List Addr} {t:Tok} {n m:Nat} {vs:List Value} (hk:k < nmL.length) (ea:h.get? a = some (lobj [.int c t,.ref b] n)) (eb:h.get? b = some (lobj vs m)) (dn:Dens w h (ns.map .int) vs) (r:SideL w h s kvs fp):SideL w h ((k,c,ns) :: s) ((nm k,.ref a) :: kvs) (a :: b :: fp)
noncomputable def DenO (w:World) (ρ:List Addr) (G:Heap):Option D→Option Value→Prop
 | none,none=>True
 | some d,some v=>DenD w ρ G d v
 | _,_=>False
noncomputable def MH (w:World) (ρ:List Addr) (G h:Heap):M→Addr→List Addr→Prop
 | .lst l,a,fp=>fp = [a]∧E2 fun vs n=>h.get? a = some (lobj vs n)∧DenDs w ρ G l vs
 | .dic ks l,a,fp=>fp = [a]∧(∀ k∈ks,k < nmL.length)∧∃ vs,A3 (h.DictOf (strKind PM w) a ((ks.map nm).zip vs)) (DenDs w ρ G l vs) (ks.length = vs.length)
 | .dicI ks l,a,fp=>fp = [a]∧∃ vs,A3 (h.DictOf (intKind PM w) a (ks.zip vs)) (DenDs w ρ G l vs) (ks.length = vs.length)
 | .inst C ks l,a,fp=>E4 fun dx es n vs=>A6 (fp = [a,dx]) (a ≠ dx) (h.get? a = some (instObj C dx)) (h.get? dx = some (dictOf es n)) (Ents es ks vs) (DenDs w ρ G l vs)
 | .side s,a,fp=>E2 fun kvs fp'=>A4 (fp = a :: fp') fp.Nodup (h.DictOf (strKind PM w) a kvs) (SideL w h s kvs fp')
 | .pd l,a,fp=>fp = [a]∧PDict w G h l a
 | .rd l,a,fp=>fp = [a]∧RDict w G h l a
 | .fz f,a,fp=>fp = []∧Den w G f (.ref a)
 | .cell d,a,fp=>fp = [a]∧∃ v,h.IsCell a v∧DenO w ρ G d v
theorem dens2 {w:World} {ρ:List Addr} {G:Heap} {d1 d2:D} {vs:List Value} (h:DenDs w ρ G [d1,d2] vs):E2 fun u1 u2=>A3 (vs = [u1,u2]) (DenD w ρ G d1 u1) (DenD w ρ G d2 u2):=by
 cases vs with
 | nil=>exact False.elim h
 | cons u1 vs =>
  cases vs with
  | nil=>exact False.elim h.2
  | cons u2 vs =>
   cases vs with
   | nil=>exact ⟨u1,u2,rfl,h.1,h.2.1⟩
   | cons=>exact False.elim h.2.2
theorem DenD.mono {w:World} {ρ r:List Addr} {G H:Heap} (x:Le G H) {d:D} {v:Value} (h:DenD w ρ G d v):DenD w (ρ++r) H d v:=by
 cases d with
 | fro f=>exact Den.mono x f v h
 | ref k =>
  obtain ⟨a,e,q⟩:=h
  exact ⟨a,by rw [List.getElem?_append_left (by
   rcases Nat.lt_or_ge k ρ.length with y | y
   ·exact y
   ·rw [List.getElem?_eq_none y] at e; cases e)]; exact e,q⟩
theorem DenDs.mono {w:World} {ρ r:List Addr} {G H:Heap} (x:Le G H):∀ {l:List D} {vs:List Value},DenDs w ρ G l vs→DenDs w (ρ++r) H l vs
 | [],[],h=>trivial
 | [],_ :: _,h=>h.elim
 | _ :: _,[],h=>h.elim
 | d :: l,v :: vs,h=>⟨h.1.mono x,DenDs.mono x h.2⟩
theorem DenDs.length {w:World} {ρ:List Addr} {G:Heap}:∀ {l:List D} {vs:List Value},DenDs w ρ G l vs→l.length = vs.length
 | [],[],h=>rfl
 | [],_ :: _,h=>h.elim
 | _ :: _,[],h=>h.elim
 | d :: l,v :: vs,h=>by simp [DenDs.length h.2]
theorem SideL.frame {w:World} {h h':Heap} {s:List (Nat × Int × List Int)} {kvs:List (Str × Value)} {fp:List Addr} (x:SideL w h s kvs fp):(∀ b∈fp,∀ o,h.get? b = some o→h'.get? b = some o)→SideL w h' s kvs fp:=by
 induction x with
 | nil=>exact fun _=>.nil
 | cons hk ea eb dn r ih=>exact fun k'=>.cons hk (k' _ (.head _) _ ea) (k' _ (.tail _ (.head _)) _ eb) (densI dn) (ih fun b hb=>k' b (.tail _ (.tail _ hb)))
theorem MH.frame {w:World} {ρ r:List Addr} {G G' h h':Heap} {m:M} {a:Addr} {fp:List Addr} (x:MH w ρ G h m a fp) (g:Le G G') (k:∀ b∈fp,∀ o,h.get? b = some o→h'.get? b = some o) :
  MH w (ρ++r) G' h' m a fp:=by
 cases m with
 | lst l=>obtain ⟨rfl,vs,n,e,d⟩:=x; exact ⟨rfl,vs,n,k _ (by simp) _ e,d.mono g⟩
 | dic ks l=>obtain ⟨rfl,z,vs,⟨o,es,ep,ho,q⟩,d,e⟩:=x; exact ⟨rfl,z,vs,⟨o,es,ep,k _ (by simp) _ ho,q⟩,d.mono g,e⟩
 | dicI ks l=>obtain ⟨rfl,vs,⟨o,es,ep,ho,q⟩,d,e⟩:=x; exact ⟨rfl,vs,⟨o,es,ep,k _ (by simp) _ ho,q⟩,d.mono g,e⟩
 | inst C ks l=>obtain ⟨dx,es,n,vs,rfl,ne,e1,e2,e3,d⟩:=x; exact ⟨dx,es,n,vs,rfl,ne,k _ (by simp) _ e1,k _ (by simp) _ e2,e3,d.mono g⟩
 | side s=>obtain ⟨kvs,fp',rfl,nd,⟨o,es,ep,ho,q⟩,sl⟩:=x; exact ⟨kvs,fp',rfl,nd,⟨o,es,ep,k _ (by simp) _ ho,q⟩,sl.frame fun b hb=>k b (by simp [hb])⟩
 | pd l=>exact ⟨x.1,x.2.frame g fun o e=>k _ (by rw [x.1]; simp) _ e⟩
 | rd l=>exact ⟨x.1,x.2.frame g fun o e=>k _ (by rw [x.1]; simp) _ e⟩
 | fz f=>obtain ⟨rfl,d⟩:=x; exact ⟨rfl,Den.mono g f _ d⟩
 | cell d =>
  obtain ⟨rfl,v,⟨o,ho,hd⟩,e⟩:=x
  refine ⟨rfl,v,⟨o,k _ (by simp) _ ho,hd⟩,?_⟩
  cases d <;> cases v <;> first | exact e.elim | trivial | exact DenD.mono g e
structure Cx where
 w:World
 env:Env
 names:List Str
 G₀:Heap
 h₀:Heap
 F₀:List (List Addr)
 cl:List (Str × Nat)
structure St where
 loc:List (Option D)
 mu:List (Option M)
structure Vw where
 ρ:List Addr
 fps:List (List Addr)
 G:Heap
noncomputable def Ext (p q:Vw):Prop:=(∃ r,q.ρ = p.ρ++r)∧Le p.G q.G
theorem Ext.refl (p:Vw):Ext p p:=⟨⟨[],by simp⟩,Le.refl _⟩
theorem Ext.trans {p q r:Vw} (a:Ext p q) (b:Ext q r):Ext p r:=by
 obtain ⟨⟨x,hx⟩,ha⟩:=a
 obtain ⟨⟨y,hy⟩,hb⟩:=b
 exact ⟨⟨x++y,by rw [hy,hx,List.append_assoc]⟩,ha.trans hb⟩
theorem Ext.den {p q:Vw} {w:World} (a:Ext p q) {d:D} {v:Value} (h:DenD w p.ρ p.G d v):DenD w q.ρ q.G d v:=by
 obtain ⟨⟨x,hx⟩,ha⟩:=a
 rw [hx]; exact h.mono ha
structure At (c:Cx) (st:St) (p:Vw) (h:Heap):Prop where
 gnd:Gnd c.w p.G
 sub:Le p.G h
 new:∀ b o,p.G.get? b = some o→c.G₀.get? b = some o∨c.h₀.get? b = none∨b∈c.F₀.flatten
 g0:Le c.G₀ p.G
 keep:∀ b o,c.h₀.get? b = some o→b ∉ c.F₀.flatten→b ≠ c.env.locals→h.get? b = some o
 live:∀ b o,c.h₀.get? b = some o→∃ o',h.get? b = some o'
 kind:c.env.scope.kind = .function
 glob:c.env.globals = mainGlobals
 bi:c.env.builtins = builtinsNs
 ns:∃ m,h.Ns c.env.locals m∧∀ (i:Nat) (x:Str) (d:D),c.names[i]? = some x→st.loc[i]? = some (some d)→∃ v,m x = some v∧DenD c.w p.ρ p.G d v
 nms:∀ (i:Nat) x,c.names[i]? = some x→c.env.kindOf x = some .local
 nod:c.names.Nodup
 frG:p.G.get? c.env.locals = none
 frF:∀ (i:Nat) fi,p.fps[i]? = some fi→c.env.locals ∉ fi
 len1:st.mu.length = p.ρ.length
 len2:p.fps.length = p.ρ.length
 mus:∀ (k:Nat) m,st.mu[k]? = some (some m)→E2 fun a fp=>A3 (p.ρ[k]? = some a) (p.fps[k]? = some fp) (MH c.w p.ρ p.G h m a fp)
 sep:∀ (i j:Nat) fi fj,i ≠ j→p.fps[i]? = some fi→p.fps[j]? = some fj→∀ b∈fi,b ∉ fj
 off:∀ (i:Nat) fi,p.fps[i]? = some fi→∀ b∈fi,p.G.get? b = none∧∃ o,h.get? b = some o
 own:∀ (i:Nat) fi,p.fps[i]? = some fi→∀ b∈fi,b∈c.F₀.getD i []∨c.h₀.get? b = none
 lenF:c.F₀.length≤p.ρ.length
 cl:∀ (x:Str) (i:Nat),(x,i)∈c.cl→∃ b,A3 (p.ρ[i]? = some b) (c.env.cells.lookup x = some b) (c.env.kindOf x = some .cell∨c.env.kindOf x = some .free)
theorem get_size {h:Heap}:h.get? h.objs.size = none:=by
 cases q:h.get? h.objs.size with
 | none=>rfl
 | some o=>exact absurd (Heap.lt_size q) (Nat.lt_irrefl _)
theorem not_live {h:Heap} {b:Addr} (e:h.get? b = none):¬ ∃ o,h.get? b = some o:=by rintro ⟨o,q⟩; rw [e] at q; cases q
theorem getD_flatten {α:Type} {L:List (List α)} {i:Nat} {b:α} (h:b∈L.getD i []):b∈L.flatten:=by
 rw [List.getD_eq_getElem?_getD] at h
 cases q:L[i]? with
 | none=>rw [q] at h; cases h
 | some x=>rw [q] at h; exact List.mem_flatten.mpr ⟨x,List.mem_of_getElem? q,h⟩
section
variable {c:Cx} {st:St} {p:Vw} {h h':Heap}
theorem At.grown (x:At c st p h) (k:Le h h'):At c st p h' where
 gnd:=x.gnd
 sub:=x.sub.trans k
 new:=x.new
 g0:=x.g0
 keep:=fun b o e n l=>k _ _ (x.keep b o e n l)
 live:=fun b o e=>by obtain ⟨o',q⟩:=x.live b o e; exact ⟨o',k _ _ q⟩
 kind:=x.kind
 glob:=x.glob
 bi:=x.bi
 ns:=by obtain ⟨m,a,b⟩:=x.ns; exact ⟨m,a.keeps k,b⟩
 nms:=x.nms
 nod:=x.nod
 frG:=x.frG
 frF:=x.frF
 len1:=x.len1
 len2:=x.len2
 mus:=fun i m e=>by obtain ⟨a,fp,e1,e2,y⟩:=x.mus i m e; exact ⟨a,fp,e1,e2,by simpa using y.frame (r:=[]) (Le.refl _) fun b _ o q=>k _ _ q⟩
 sep:=x.sep
 off:=fun i fi e b hb=>by obtain ⟨a,o,q⟩:=x.off i fi e b hb; exact ⟨a,o,k _ _ q⟩
 own:=x.own
 lenF:=x.lenF
 cl:=x.cl
theorem At.push (x:At c st p h) (o:Obj):At c st p (h.push o):=x.grown (fun b o' e=>Heap.get?_push_of_some _ e)
theorem At.locals_live (x:At c st p h):∃ o,h.get? c.env.locals = some o:=by obtain ⟨_,⟨o,_,_,a,_⟩,_⟩:=x.ns; exact ⟨o,a⟩
theorem At.fresh (x:At c st p h) {b:Addr} (e:h.get? b = none):c.h₀.get? b = none:=by
 cases q:c.h₀.get? b with
 | none=>rfl
 | some o=>exact absurd (x.live b o q) (not_live e)
theorem At.store (x:At c st p h) {i:Nat} {name:Str} {m:Str→Option Value} {v:Value} {d:D} (hi:c.names[i]? = some name) (hm:h.Ns c.env.locals m)
  (hm':∀ (j:Nat) (y:Str) (d:D),c.names[j]? = some y→st.loc[j]? = some (some d)→∃ v,m y = some v∧DenD c.w p.ρ p.G d v)
  (hn:h'.Ns c.env.locals (fun y=>if y = name then some v else m y)) (hs:Heap.SameBut c.env.locals h h') (hd:DenD c.w p.ρ p.G d v):At c { st with loc:=st.loc.set i (some d) } p h':=by
 have k:∀ b o,b ≠ c.env.locals→h.get? b = some o→h'.get? b = some o:=fun b o hb e=>(hs.2 b hb).trans e
 refine { x with sub:=?_,keep:=?_,live:=?_,ns:=?_,mus:=?_,off:=?_ }
 ·intro b o e
  refine k b o (fun q=>?_) (x.sub b o e)
  rw [q,x.frG] at e; cases e
 ·intro b o e n l
  exact k b o l (x.keep b o e n l)
 ·intro b o e
  obtain ⟨o',q⟩:=x.live b o e
  by_cases z:b = c.env.locals
  ·obtain ⟨o2,_,_,q2,_⟩:=hn; exact ⟨o2,z ▸ q2⟩
  ·exact ⟨o',k _ _ z q⟩
 ·refine ⟨_,hn,fun j y d' hj hl=>?_⟩
  by_cases hy:y = name
  ·subst hy
   have:j = i:=by
    have a:=List.getElem?_eq_some_iff.mp hj
    have b:=List.getElem?_eq_some_iff.mp hi
    obtain ⟨a1,a2⟩:=a
    obtain ⟨b1,b2⟩:=b
    exact (List.getElem_inj x.nod).mp (a2.trans b2.symm)
   subst this
   rw [List.getElem?_set_self' ] at hl
   cases q:st.loc[j]? with
   | none=>rw [q] at hl; cases hl
   | some z =>
    rw [q] at hl
    simp at hl
    subst hl
    exact ⟨v,by simp,hd⟩
  ·have hji:i ≠ j:=by
    rintro rfl
    rw [hi] at hj
    exact hy (Option.some.inj hj).symm
   rw [List.getElem?_set_ne hji] at hl
   obtain ⟨u,hu,du⟩:=hm' j y d' hj hl
   exact ⟨u,by simp [hy,hu],du⟩
 ·intro i' m' e
  obtain ⟨a,fp,e1,e2,y⟩:=x.mus i' m' e
  exact ⟨a,fp,e1,e2,by simpa using y.frame (r:=[]) (Le.refl _) fun b hb o q=>k _ _ (fun z=>x.frF _ _ e2 (z ▸ hb)) q⟩
 ·intro i' fi e b hb
  obtain ⟨a,o,q⟩:=x.off i' fi e b hb
  exact ⟨a,o,k _ _ (fun z=>x.frF _ _ e (z ▸ hb)) q⟩
theorem At.newM (x:At c st p h) {m:M} {a:Addr} {fp:List Addr} (k:Le h h') (hm:MH c.w p.ρ p.G h' m a fp) (hf:∀ b∈fp,h.get? b = none∧∃ o,h'.get? b = some o) :
  At c { st with mu:=st.mu++[some m] } { p with ρ:=p.ρ++[a],fps:=p.fps++[fp] } h':=by
 have y:=x.grown k
 have up:∀ (i:Nat) fi,(p.fps++[fp])[i]? = some fi→p.fps[i]? = some fi∨(i = p.fps.length∧fi = fp):=by
  intro i fi e
  rw [List.getElem?_append] at e
  split at e
  ·exact .inl e
  ·rename_i q
   cases r:i - p.fps.length with
   | zero=>rw [r] at e; simp at e; exact .inr ⟨by omega,e.symm⟩
   | succ n=>rw [r] at e; simp at e
 refine { y with ns:=?_,frF:=?_,len1:=?_,len2:=?_,mus:=?_,sep:=?_,off:=?_,own:=?_,lenF:=?_,cl:=fun y i e=>by obtain ⟨b,e1,e2,e3⟩:=x.cl y i e; exact ⟨b,by simp only; rw [List.getElem?_append_left (List.getElem?_eq_some_iff.mp e1).1]; exact e1,e2,e3⟩ }
 ·obtain ⟨mm,a1,b1⟩:=y.ns
  exact ⟨mm,a1,fun i x' d e1 e2=>by obtain ⟨v,q1,q2⟩:=b1 i x' d e1 e2; exact ⟨v,q1,q2.mono (Le.refl _)⟩⟩
 ·intro i fi e hb
  rcases up i fi e with q | ⟨_,rfl⟩
  ·exact x.frF i fi q hb
  ·exact not_live (hf _ hb).1 x.locals_live
 ·simp [x.len1]
 ·simp [x.len2]
 ·intro i m' e
  simp only at e
  rw [List.getElem?_append] at e
  split at e
  ·rename_i q
   obtain ⟨a',fp',e1,e2,z⟩:=y.mus i m' e
   have l1:=x.len1
   have l2:=x.len2
   refine ⟨a',fp',?_,?_,z.frame (Le.refl _) fun b _ o q=>q⟩
   ·simp only; rw [List.getElem?_append_left (by omega)]; exact e1
   ·simp only; rw [List.getElem?_append_left (by omega)]; exact e2
  ·rename_i q
   cases r:i - st.mu.length with
   | zero =>
    rw [r] at e
    simp at e
    subst e
    have l1:=x.len1
    have l2:=x.len2
    have:i = p.ρ.length:=by omega
    subst this
    refine ⟨a,fp,by simp,?_,hm.frame (Le.refl _) fun b _ o q=>q⟩
    simp only
    rw [List.getElem?_append_right (by omega),l2]; simp
   | succ n=>rw [r] at e; simp at e
 ·intro i j fi fj hij ei ej b hb
  rcases up i fi ei with q | ⟨q1,rfl⟩ <;> rcases up j fj ej with r | ⟨r1,rfl⟩
  ·exact x.sep i j fi fj hij q r b hb
  ·intro hb'
   exact not_live (hf b hb').1 (x.off i fi q b hb).2
  ·intro hb'
   exact not_live (hf b hb).1 (x.off j fj r b hb').2
  ·omega
 ·intro i fi e b hb
  rcases up i fi e with q | ⟨_,rfl⟩
  ·exact y.off i fi q b hb
  ·refine ⟨?_,(hf b hb).2⟩
   cases q:p.G.get? b with
   | none=>rfl
   | some o=>exact absurd ⟨o,x.sub b o q⟩ (not_live (hf b hb).1)
 ·intro i fi e b hb
  rcases up i fi e with q | ⟨_,rfl⟩
  ·exact x.own i fi q b hb
  ·exact .inr (x.fresh (hf b hb).1)
 ·simp only [List.length_append]; exact Nat.le_trans x.lenF (Nat.le_add_right _ _)
theorem At.updM (x:At c st p h) {k:Nat} {m:M} {a:Addr} {fp fp':List Addr} (hr:p.ρ[k]? = some a) (hfp:p.fps[k]? = some fp) (hk:∀ b o,b ∉ fp→h.get? b = some o→h'.get? b = some o)
  (hl:∀ b∈fp,∃ o,h'.get? b = some o) (hm:MH c.w p.ρ p.G h' m a fp') (hf:∀ b∈fp',b∈fp∨(h.get? b = none∧∃ o,h'.get? b = some o)) :
  At c { st with mu:=st.mu.set k (some m) } { p with fps:=p.fps.set k fp' } h':=by
 have kl:k < p.fps.length:=(List.getElem?_eq_some_iff.mp hfp).1
 have up:∀ (i:Nat) fi,(p.fps.set k fp')[i]? = some fi→(i ≠ k∧p.fps[i]? = some fi)∨(i = k∧fi = fp'):=by
  intro i fi e
  by_cases q:i = k
  ·subst q
   rw [List.getElem?_set_self kl] at e
   exact .inr ⟨rfl,(Option.some.inj e).symm⟩
  ·rw [List.getElem?_set_ne (Ne.symm q)] at e
   exact .inl ⟨q,e⟩
 have offp:∀ b∈fp',p.G.get? b = none∧b ≠ c.env.locals:=by
  intro b hb
  rcases hf b hb with q | q
  ·exact ⟨(x.off k fp hfp b q).1,fun z=>x.frF k fp hfp (z ▸ q)⟩
  ·refine ⟨?_,fun z=>not_live q.1 (z ▸ x.locals_live)⟩
   cases r:p.G.get? b with
   | none=>rfl
   | some o=>exact absurd ⟨o,x.sub b o r⟩ (not_live q.1)
 refine { x with sub:=?_,keep:=?_,live:=?_,ns:=?_,frF:=?_,len1:=?_,len2:=?_,mus:=?_,sep:=?_,off:=?_,own:=?_ }
 ·intro b o e
  refine hk b o (fun q=>?_) (x.sub b o e)
  rw [(x.off k fp hfp b q).1] at e; cases e
 ·intro b o e n l
  refine hk b o (fun q=>?_) (x.keep b o e n l)
  rcases x.own k fp hfp b q with r | r
  ·exact n (getD_flatten r)
  ·rw [r] at e; cases e
 ·intro b o e
  obtain ⟨o',q⟩:=x.live b o e
  by_cases z:b∈fp
  ·exact hl b z
  ·exact ⟨o',hk _ _ z q⟩
 ·obtain ⟨mm,⟨o,es,ep,ho,r⟩,b1⟩:=x.ns
  exact ⟨mm,⟨o,es,ep,hk _ _ (x.frF k fp hfp) ho,r⟩,b1⟩
 ·intro i fi e hb
  rcases up i fi e with ⟨_,q⟩ | ⟨_,rfl⟩
  ·exact x.frF i fi q hb
  ·exact (offp _ hb).2 rfl
 ·simp [x.len1]
 ·simp [x.len2]
 ·intro i m' e
  simp only at e
  by_cases q:i = k
  ·subst q
   have l1:=x.len1
   have l2:=x.len2
   rw [List.getElem?_set_self (by omega)] at e
   cases e
   exact ⟨a,fp',hr,by simp only; rw [List.getElem?_set_self kl],hm⟩
  ·rw [List.getElem?_set_ne (Ne.symm q)] at e
   obtain ⟨a',fi,e1,e2,z⟩:=x.mus i m' e
   refine ⟨a',fi,e1,by simp only; rw [List.getElem?_set_ne (Ne.symm q)]; exact e2,?_⟩
   simpa using z.frame (r:=[]) (Le.refl _) fun b hb o r=>hk b o (x.sep i k fi fp q e2 hfp b hb) r
 ·intro i j fi fj hij ei ej b hb
  rcases up i fi ei with ⟨q0,q⟩ | ⟨q1,rfl⟩ <;> rcases up j fj ej with ⟨r0,r⟩ | ⟨r1,rfl⟩
  ·exact x.sep i j fi fj hij q r b hb
  ·intro hb'
   rcases hf b hb' with z | z
   ·exact x.sep i k fi fp q0 q hfp b hb z
   ·exact not_live z.1 (x.off i fi q b hb).2
  ·intro hb'
   rcases hf b hb with z | z
   ·exact x.sep j k fj fp r0 r hfp b hb' z
   ·exact not_live z.1 (x.off j fj r b hb').2
  ·omega
 ·intro i fi e b hb
  rcases up i fi e with ⟨_,q⟩ | ⟨_,rfl⟩
  ·obtain ⟨y1,o,y2⟩:=x.off i fi q b hb
   exact ⟨y1,o,hk _ _ (x.sep i _ fi fp ‹_› q hfp b hb) y2⟩
  ·refine ⟨(offp b hb).1,?_⟩
   rcases hf b hb with z | z
   ·exact hl b z
   ·exact z.2
 ·intro i fi e b hb
  rcases up i fi e with ⟨_,q⟩ | ⟨q1,rfl⟩
  ·exact x.own i fi q b hb
  ·rcases hf b hb with z | z
   ·subst q1; exact x.own _ fp hfp b z
   ·exact .inr (x.fresh z.1)
theorem At.drop (x:At c st p h) (k:Nat):At c { st with mu:=st.mu.set k none } { p with fps:=p.fps.set k [] } h:=by
 have up:∀ (i:Nat) fi,(p.fps.set k [])[i]? = some fi→(i ≠ k∧p.fps[i]? = some fi)∨fi = []:=by
  intro i fi e
  by_cases q:i = k
  ·subst q
   rcases Nat.lt_or_ge i p.fps.length with kl | kl
   ·rw [List.getElem?_set_self kl] at e
    exact .inr (Option.some.inj e).symm
   ·rw [List.getElem?_eq_none (by simpa using kl)] at e; cases e
  ·rw [List.getElem?_set_ne (Ne.symm q)] at e
   exact .inl ⟨q,e⟩
 refine { x with frF:=?_,len1:=?_,len2:=?_,mus:=?_,sep:=?_,off:=?_,own:=?_ }
 ·intro i fi e hb
  rcases up i fi e with ⟨_,q⟩ | rfl
  ·exact x.frF i fi q hb
  ·cases hb
 ·simp [x.len1]
 ·simp [x.len2]
 ·intro i m' e
  simp only at e
  by_cases q:i = k
  ·subst q
   rcases Nat.lt_or_ge i st.mu.length with kl | kl
   ·rw [List.getElem?_set_self kl] at e; cases e
   ·rw [List.getElem?_eq_none (by simpa using kl)] at e; cases e
  ·rw [List.getElem?_set_ne (Ne.symm q)] at e
   obtain ⟨a',fi,e1,e2,z⟩:=x.mus i m' e
   exact ⟨a',fi,e1,by simp only; rw [List.getElem?_set_ne (Ne.symm q)]; exact e2,z⟩
 ·intro i j fi fj hij ei ej b hb
  rcases up i fi ei with ⟨q0,q⟩ | rfl
  ·rcases up j fj ej with ⟨r0,r⟩ | rfl
   ·exact x.sep i j fi fj hij q r b hb
   ·simp
  ·cases hb
 ·intro i fi e b hb
  rcases up i fi e with ⟨_,q⟩ | rfl
  ·exact x.off i fi q b hb
  ·cases hb
 ·intro i fi e b hb
  rcases up i fi e with ⟨_,q⟩ | rfl
  ·exact x.own i fi q b hb
  ·cases hb
theorem At.freeze (x:At c st p h) (S:List Addr) (hS:∀ b∈S,(c.h₀.get? b = none∨b∈c.F₀.flatten)∧b ≠ c.env.locals∧∀ (i:Nat) fi,p.fps[i]? = some fi→b ∉ fi) :
  ∃ G',A3 (Le p.G G') (∀ b∈S,∀ o,h.get? b = some o→G'.get? b = some o) (At c st { p with G:=G' } h):=by
 let f:Addr→Bool:=fun b=>(p.G.get? b).isSome || S.contains b
 have le:Le p.G (restr h f):=fun b o e=>restr_get.mpr ⟨by simp [f,e],x.sub b o e⟩
 refine ⟨restr h f,le,fun b hb o e=>restr_get.mpr ⟨by simp [f,hb],e⟩,?_⟩
 have no:∀ b,p.G.get? b = none→b ∉ S→(restr h f).get? b = none:=by
  intro b e1 e2
  cases q:(restr h f).get? b with
  | none=>rfl
  | some o =>
   have:=(restr_get.mp q).1
   simp [f,e1,e2] at this
 refine { x with gnd:=x.gnd.mono le,sub:=fun b o e=>(restr_get.mp e).2,new:=?_,g0:=x.g0.trans le,ns:=?_,frG:=?_,mus:=?_,off:=?_ }
 ·intro b o e
  obtain ⟨e1,e2⟩:=restr_get.mp e
  simp only [f,Bool.or_eq_true] at e1
  rcases e1 with q | q
  ·obtain ⟨o',ho'⟩:=Option.isSome_iff_exists.mp q
   have:=x.sub b o' ho'
   rw [e2] at this
   cases this
   exact x.new b o ho'
  ·exact .inr (hS b (by simpa using q)).1
 ·obtain ⟨mm,a1,b1⟩:=x.ns
  exact ⟨mm,a1,fun i x' d e1 e2=>by obtain ⟨v,q1,q2⟩:=b1 i x' d e1 e2; exact ⟨v,q1,by simpa using q2.mono (r:=[]) le⟩⟩
 ·exact no _ x.frG fun q=>(hS _ q).2.1 rfl
 ·intro i m e
  obtain ⟨a,fp,e1,e2,y⟩:=x.mus i m e
  exact ⟨a,fp,e1,e2,by simpa using y.frame (r:=[]) le fun b _ o q=>q⟩
 ·intro i fi e b hb
  obtain ⟨y1,y2⟩:=x.off i fi e b hb
  exact ⟨no b y1 fun q=>(hS b q).2.2 i fi e hb,y2⟩
end
noncomputable def NoE:Value→Shared→Prop:=fun _ _=>False
noncomputable def Sx (c:Cx) (A:Around) (t:Sem Value) (st:St) (W:(D→St→Prop)→Prop):Prop :=
 ∀ (s:Shared) (p:Vw) (K:D→St→Prop) (Q:Value→Shared→Prop),At c st p s.heap→W K →
  (∀ d st' v h' tk q,K d st'→At c st' q h'→Ext p q→DenD c.w q.ρ q.G d v→Q v { s with heap:=h',toks:=tk })→wpAny (model PM c.w) A t Q NoE s
noncomputable def Sb (c:Cx) (A:Around) (t:Sem Bool) (st:St) (W:(Bool→St→Prop)→Prop):Prop :=
 ∀ (s:Shared) (p:Vw) (K:Bool→St→Prop) (Q:Bool→Shared→Prop),At c st p s.heap→W K →
  (∀ b st' h' tk q,K b st'→At c st' q h'→Ext p q→Q b { s with heap:=h',toks:=tk })→wpAny (model PM c.w) A t Q NoE s
noncomputable def Sxs (c:Cx) (A:Around) (t:Sem (List Value)) (st:St) (W:(List D→St→Prop)→Prop):Prop :=
 ∀ (s:Shared) (p:Vw) (K:List D→St→Prop) (Q:List Value→Shared→Prop),At c st p s.heap→W K →
  (∀ d st' v h' tk q,K d st'→At c st' q h'→Ext p q→DenDs c.w q.ρ q.G d v→Q v { s with heap:=h',toks:=tk })→wpAny (model PM c.w) A t Q NoE s
inductive FD where
 | next
 | brk
 | cont
 | ret (d:D)
noncomputable def DenF (w:World) (q:Vw):FD→Flow→Prop
 | .next,f=>f = .next
 | .brk,f=>f = .brk
 | .cont,f=>f = .cont
 | .ret d,f=>∃ v,f = .ret v∧DenD w q.ρ q.G d v
noncomputable def Sf (c:Cx) (A:Around) (t:Sem Flow) (st:St) (W:(FD→St→Prop)→Prop):Prop :=
 ∀ (s:Shared) (p:Vw) (K:FD→St→Prop) (Q:Flow→Shared→Prop),At c st p s.heap→W K →
  (∀ d st' f h' tk q,K d st'→At c st' q h'→Ext p q→DenF c.w q d f→Q f { s with heap:=h',toks:=tk })→wpAny (model PM c.w) A t Q NoE s
section
variable {c:Cx} {A:Around} {st:St}
theorem Sx.name {x:Str} {pos:Pos} {i:Nat} {d:D} (hi:c.names[i]? = some x) (hd:st.loc[i]? = some (some d)) (hdb:(x == ("__debug__":Str)) = false) :
  Sx c A (eval (.Name x pos) c.env) st fun K=>K d st:=by
 intro s p K Q a w k
 obtain ⟨m,n,r⟩:=a.ns
 obtain ⟨v,e,q⟩:=r i x d hi hd
 exact wpAny_Name (wpAny_loadName_local a.kind (a.nms i x hi) n e (k d st v s.heap s.toks p w a (.refl p) q)) hdb
noncomputable def constD:Const→Option F
 | .none=>some .none
 | .bool b=>some (.bool b)
 | .int i=>some (.int i)
 | _=>none
theorem Sx.const {k:Const} {n:Nat} {pos:Pos} {f:F} (e:constD k = some f):Sx c A (eval (.Constant k n pos) c.env) st fun K=>K (.fro f) st:=by
 intro s p K Q a w kk
 cases k <;> simp only [constD,Option.some.injEq,reduceCtorEq] at e <;> subst e
 ·exact wpAny_pure (kk _ _ _ s.heap s.toks p w a (.refl p) (by show Den _ _ _ _; unfold Den; rfl))
 ·exact wpAny_pure (kk _ _ _ s.heap s.toks p w a (.refl p) (by show Den _ _ _ _; unfold Den; rfl))
 ·exact wpAny_Constant_int (kk _ _ _ s.heap (s.toks + 1) p w a (.refl p) (by show Den _ _ _ _; unfold Den; exact ⟨_,rfl⟩))
theorem Sx.constS {x:Str} {n:Nat} {pos:Pos} {i:Nat} (hi:i < nmL.length) (e:x = nm i):Sx c A (eval (.Constant (.str x) n pos) c.env) st fun K=>K (.fro (.str i)) st:=by
 intro s p K Q a w kk
 show wpAny _ _ (mkText x) _ _ _
 exact wpAny_mkText (kk _ _ _ s.heap (s.toks + 1) p w a (.refl p) (by show Den _ _ _ _; unfold Den; exact ⟨hi,_,by rw [e]⟩))
theorem Sx.glob {x:Str} {pos:Pos} {v:Value} {f:F} (hn:nsIn (KF c.w.params) mainGlobals x = some (some v)) (hk:c.env.kindOf x = some .globalImplicit) (hdb:(x == ("__debug__":Str)) = false)
  (hd:∀ G,(KF c.w.params).In G→Den c.w G f v):Sx c A (eval (.Name x pos) c.env) st fun K=>K (.fro f) st:=by
 intro s p K Q a w kk
 obtain ⟨mg,mb,g1,g2,g3⟩:=a.gnd.T
 refine Name_function_global a.kind hk (loadGlobal_global (by rw [a.glob]; exact g1.keeps a.sub) (mg_of a.gnd.K g1 hn) ?_) hdb
 exact kk _ _ _ s.heap s.toks p w a (.refl p) (hd _ a.gnd.K)
inductive Bop where
 | add | sub | mulL | mulR | fdiv | mod | band
noncomputable def Bop.op:Bop→Operator
 | .add=>.Add
 | .sub=>.Sub
 | .mulL=>.Mult
 | .mulR=>.Mult
 | .fdiv=>.FloorDiv
 | .mod=>.Mod
 | .band=>.BitAnd
noncomputable def binI:Bop→Int→Int→(Int→Prop)→Prop
 | .add,a,b,K=>K (a + b)
 | .sub,a,b,K=>K (a - b)
 | .mulL,a,b,K=>a.natAbs < 2 ^ 60∧K (a * b)
 | .mulR,a,b,K=>b.natAbs < 2 ^ 60∧K (a * b)
 | .fdiv,a,b,K=>(b ≠ 0∧b.natAbs < 2 ^ 60)∧K (a.fdiv b)
 | .mod,a,b,K=>b ≠ 0∧K (a.fmod b)
 | .band,a,b,K=>K (Builtin.bitAnd a b)
theorem bits60 {a:Int} (h:a.natAbs < 2 ^ 60):Builtin.Int.intBits a≤64:=by
 unfold Builtin.Int.intBits
 by_cases q:a.natAbs = 0
 ·simp [q]; split <;> omega
 ·have:=(Nat.log2_lt q).mpr h
  split <;> omega
theorem noPylong {a b:Int} (h:b.natAbs < 2 ^ 60):Builtin.divisionGoesByPylong a b = false:=by
 unfold Builtin.divisionGoesByPylong
 simp only [Bool.and_eq_false_iff,decide_eq_false_iff_not]
 left
 by_cases q:b = 0
 ·simp [q]
 ·have:=(Nat.log2_lt (by omega)).mpr h
  have:(b == 0) = false:=by simpa using q
  rw [this]
  simp only [Bool.false_eq_true,if_false]
  omega
theorem binI_ok {o:Bop} {a b:Int} {t u:Tok} {w:World} {s:Shared} {K:Int→Prop} {Q:Value→Shared→Prop} (h:binI o a b K) (k:∀ i t,K i→Q (.int i t) { s with toks:=s.toks + 1 }) :
  wpAny (model PM w) A (binaryOp o.op (.int a t) (.int b u)) Q NoE s:=by
 cases o
 ·exact add_int (k _ _ h)
 ·exact sub_int (k _ _ h)
 ·exact mul_int (k _ _ h.2) (IntMulOk.of_left (bits60 h.1))
 ·refine mul_int (k _ _ h.2) ?_
  have h':¬ (Builtin.Int.intBits b > shortFactorBits):=Nat.not_lt.mpr (bits60 h.1)
  unfold IntMulOk; rw [decide_eq_false h']; simp
 ·exact floordiv_int h.1.1 (k _ _ h.2) (.inl (noPylong h.1.2))
 ·exact mod_int h.1 (k _ _ h.2)
 ·exact and_int (k _ _ h)
noncomputable def binD (o:Bop) (a b:D) (st:St) (K:D→St→Prop):Prop:=E2 fun x y=>A3 (a = .fro (.int x)) (b = .fro (.int y)) (binI o x y fun i=>K (.fro (.int i)) st)
theorem Sx.bin {o:Bop} {l r:Expr} {pos:Pos} {Wl:(D→St→Prop)→Prop} {Wr:St→(D→St→Prop)→Prop} (hl:Sx c A (eval l c.env) st Wl) (hr:∀ st',Sx c A (eval r c.env) st' (Wr st')) :
  Sx c A (eval (.BinOp l o.op r pos) c.env) st fun K=>Wl fun a st1=>Wr st1 fun b st2=>binD o a b st2 K:=by
 intro s p K Q a w k
 refine wpAny_BinOp (hl s p _ _ a w fun d1 st1 v1 h1 tk1 q1 k1 a1 e1 n1=>?_)
 refine hr st1 _ q1 _ _ a1 k1 fun d2 st2 v2 h2 tk2 q2 k2 a2 e2 n2=>?_
 obtain ⟨x,y,rfl,rfl,k2⟩:=k2
 obtain ⟨t,rfl⟩:=e2.den n1
 obtain ⟨u,rfl⟩:=n2
 exact binI_ok k2 fun i t ki=>k _ _ _ h2 (tk2 + 1) q2 ki a2 (e1.trans e2) (by show Den _ _ _ _; unfold Den; exact ⟨_,rfl⟩)
theorem Sb.plain {e:Expr} {W:(D→St→Prop)→Prop} (he:Sx c A (eval e c.env) st W) (hp:∀ whole:Sem Value,isTrue e c.env whole = (do let v ← whole; standAt e.pos; holding [v] (truthy v))) :
  Sb c A (isTrue e c.env (eval e c.env)) st fun K=>W fun d st'=>match d with | .fro (.bool b)=>K b st' | _=>False:=by
 intro s p K Q a w k
 refine isTrue_plain (he s p _ _ a w fun d st' v h tk q kd a' ex n=>?_) (hp _)
 split at kd
 ·subst n
  exact wpAny_truthy_bool (k _ _ h tk q kd a' ex)
 ·exact kd.elim
theorem Sb.not {e:Expr} {pos:Pos} {W:(Bool→St→Prop)→Prop} {whole:Sem Value} (he:Sb c A (isTrue e c.env (eval e c.env)) st W) :
  Sb c A (isTrue (.UnaryOp .Not e pos) c.env whole) st fun K=>W fun b=>K (!b):=by
 intro s p K Q a w k
 exact isTrue_not (he s p _ _ a w fun b st' h tk q kd a' ex=>k _ _ h tk q kd a' ex)
theorem Sb.nil {o:BoolOp}:Sb c A (allTrue o [] c.env) st fun K=>K (o == .And) st:=by
 intro s p K Q a w k
 exact wpAny_pure (k _ _ s.heap s.toks p w a (.refl p))
theorem Sb.cons {o:BoolOp} {e:Expr} {l:List Expr} {W:(Bool→St→Prop)→Prop} {Wl:St→(Bool→St→Prop)→Prop} (he:Sb c A (isTrue e c.env (eval e c.env)) st W)
  (hl:∀ st',Sb c A (allTrue o l c.env) st' (Wl st')) :
  Sb c A (allTrue o (e :: l) c.env) st fun K=>W fun b st'=>match o,b with | .And,false=>K false st' | .Or,true=>K true st' | _,_=>Wl st' K:=by
 intro s p K Q a w k
 rw [arm_allTrue_cons]
 refine wpAny_bind (he s p _ _ a w fun b st' h tk q kd a' ex=>?_)
 cases o <;> cases b
 ·exact wpAny_pure (k _ _ h tk q kd a' ex)
 ·exact hl st' _ q _ _ a' kd fun b2 st2 h2 tk2 q2 k2 a2 ex2=>k _ _ h2 tk2 q2 k2 a2 (ex.trans ex2)
 ·exact hl st' _ q _ _ a' kd fun b2 st2 h2 tk2 q2 k2 a2 ex2=>k _ _ h2 tk2 q2 k2 a2 (ex.trans ex2)
 ·exact wpAny_pure (k _ _ h tk q kd a' ex)
theorem Sb.boolop {o:BoolOp} {l:List Expr} {pos:Pos} {whole:Sem Value} {W:(Bool→St→Prop)→Prop} (h:Sb c A (allTrue o l c.env) st W):Sb c A (isTrue (.BoolOp o l pos) c.env whole) st W:=h
theorem Sx.ite {t a b:Expr} {pos:Pos} {Wt:(Bool→St→Prop)→Prop} {Wa Wb:St→(D→St→Prop)→Prop} (ht:Sb c A (isTrue t c.env (eval t c.env)) st Wt)
  (ha:∀ st',Sx c A (eval a c.env) st' (Wa st')) (hb:∀ st',Sx c A (eval b c.env) st' (Wb st')) :
  Sx c A (eval (.IfExp t a b pos) c.env) st fun K=>Wt fun v st'=>if v = true then Wa st' K else Wb st' K:=by
 intro s p K Q x w k
 refine wpAny_IfExp (ht s p _ _ x w fun v st' h tk q kd a' ex=>?_)
 split
 ·rename_i hv
  rw [if_pos hv] at kd
  exact ha st' _ q _ _ a' kd fun d st2 v2 h2 tk2 q2 k2 a2 ex2 n=>k _ _ _ h2 tk2 q2 k2 a2 (ex.trans ex2) n
 ·rename_i hv
  rw [if_neg hv] at kd
  exact hb st' _ q _ _ a' kd fun d st2 v2 h2 tk2 q2 k2 a2 ex2 n=>k _ _ _ h2 tk2 q2 k2 a2 (ex.trans ex2) n
inductive Cop where
 | lt | gt | eq | ne | is | isNot
noncomputable def Cop.op:Cop→CmpOp
 | .lt=>.Lt
 | .gt=>.Gt
 | .eq=>.Eq
 | .ne=>.NotEq
 | .is=>.Is
 | .isNot=>.IsNot
noncomputable def isNone:F→Bool
 | .none=>true
 | _=>false
inductive CmpD (K:Bool→Prop):Cop→D→D→Prop
 | lt {a b:Int} (h:K (decide (a < b))):CmpD K .lt (.fro (.int a)) (.fro (.int b))
 | gt {a b:Int} (h:K (decide (b < a))):CmpD K .gt (.fro (.int a)) (.fro (.int b))
 | eq {a b:Int} (h:K (decide (a = b))):CmpD K .eq (.fro (.int a)) (.fro (.int b))
 | ne {a b:Int} (h:K (!decide (a = b))):CmpD K .ne (.fro (.int a)) (.fro (.int b))
 | eqS {a b:Nat} (h:K (decide (a = b))):CmpD K .eq (.fro (.str a)) (.fro (.str b))
 | neS {a b:Nat} (h:K (!decide (a = b))):CmpD K .ne (.fro (.str a)) (.fro (.str b))
 | neB {a b:Bool} (h:K (a != b)):CmpD K .ne (.fro (.bool a)) (.fro (.bool b))
 | is {f:F} (h:K (isNone f)):CmpD K .is (.fro f) (.fro .none)
 | isNot {f:F} (h:K (!isNone f)):CmpD K .isNot (.fro f) (.fro .none)
noncomputable def cmpD (o:Cop) (a b:D) (K:Bool→Prop):Prop:=CmpD K o a b
end
noncomputable def lk {α:Type}:List Nat→List α→Nat→Option α
 | k' :: ks,v :: l,k=>if k' = k then some v else lk ks l k
 | _,_,_=>none
theorem valueAt_zip {k:Nat} (hk:k < nmL.length):∀ {ks:List Nat} (vs:List Value),(∀ k∈ks,k < nmL.length)→valueAt ((ks.map nm).zip vs) (nm k) = lk ks vs k
 | [],vs,h=>by unfold lk valueAt; rfl
 | k' :: ks,[],h=>by unfold lk valueAt; rfl
 | k' :: ks,v :: vs,h=>by
  have ih:=valueAt_zip hk (ks:=ks) vs fun k q=>h k (by simp [q])
  unfold lk
  unfold valueAt at ih ⊢
  simp only [List.map_cons,List.zip_cons_cons,List.find?_cons]
  by_cases q:k' = k
  ·subst q; simp
  ·have:¬ nm k' = nm k:=fun e=>q (nm_inj (h k' (by simp)) hk e)
   simp only [this,q,decide_false,if_false]
   exact ih
theorem lk_dens {w:World} {G:Heap} {k:Nat}:∀ {ks:List Nat} {l:List F} {vs:List Value} {f:F},Dens w G l vs→lk ks l k = some f→∃ v,lk ks vs k = some v∧Den w G f v
 | [],_,_,_,_,e=>by unfold lk at e; cases e
 | _ :: _,[],_,_,_,e=>by unfold lk at e; cases e
 | _ :: _,_ :: _,[],_,d,_=>by exact False.elim d
 | k' :: ks,g :: l,v :: vs,f,d,e=>by
  unfold lk at e ⊢
  by_cases q:k' = k
  ·rw [if_pos q] at e ⊢; cases e; exact ⟨v,rfl,d.1⟩
  ·rw [if_neg q] at e ⊢; exact lk_dens d.2 e
theorem lk_densD {w:World} {ρ:List Addr} {G:Heap} {k:Nat}:∀ {ks:List Nat} {l:List D} {vs:List Value} {f:D},DenDs w ρ G l vs→lk ks l k = some f→∃ v,lk ks vs k = some v∧DenD w ρ G f v
 | [],_,_,_,_,e=>by unfold lk at e; cases e
 | _ :: _,[],_,_,_,e=>by unfold lk at e; cases e
 | _ :: _,_ :: _,[],_,d,_=>d.elim
 | k' :: ks,g :: l,v :: vs,f,d,e=>by
  unfold lk at e ⊢
  by_cases q:k' = k
  ·rw [if_pos q] at e ⊢; cases e; exact ⟨v,rfl,d.1⟩
  ·rw [if_neg q] at e ⊢; exact lk_densD d.2 e
theorem lk_none {w:World} {k:Nat}:∀ {ks:List Nat} {vs:List Value},ks.length = vs.length→(lk ks vs k).isSome = decide (k∈ks)
 | [],[],_=>by unfold lk; rfl
 | k' :: ks,v :: vs,e=>by
  unfold lk
  by_cases q:k' = k
  ·simp [q]
  ·rw [if_neg q,lk_none (w:=w) (by simpa using e)]
   have:¬ k = k':=fun z=>q z.symm
   simp [this]
section
variable {c:Cx} {A:Around} {st:St}
theorem Den.ne_none {w:World} {G:Heap} {f:F} {v:Value} (h:Den w G f v) (e:isNone f = false):v ≠ .none:=by
 cases f <;> unfold Den at h <;> simp only [isNone,reduceCtorEq] at e
 ·subst h; intro x; cases x
 ·obtain ⟨t,rfl⟩:=h; intro x; cases x
 ·obtain ⟨_,t,rfl⟩:=h; intro x; cases x
 ·obtain ⟨a,vs,rfl,_⟩:=h; intro x; cases x
 ·obtain ⟨a,vs,rfl,_⟩:=h; intro x; cases x
 ·obtain ⟨_,a,vs,rfl,_⟩:=h; intro x; cases x
 ·obtain ⟨a,vs,rfl,_⟩:=h; intro x; cases x
 ·obtain ⟨a,_,_,vs,rfl,_⟩:=h; intro x; cases x
theorem cmpD_ok {w:World} {ρ:List Addr} {G:Heap} {o:Cop} {a b:D} {u v:Value} {s:Shared} {K:Bool→Prop} {Q:Value→Shared→Prop} (h:cmpD o a b K) (ha:DenD w ρ G a u) (hb:DenD w ρ G b v)
  (k:∀ b,K b→Q (.bool b) s):wpAny (model PM w) A (compareOp o.op u v) Q NoE s:=by
 cases h with
 | lt h =>
  obtain ⟨t,rfl⟩:=ha; obtain ⟨r,rfl⟩:=hb; exact lt_int (k _ h)
 | gt h =>
  obtain ⟨t,rfl⟩:=ha; obtain ⟨r,rfl⟩:=hb; exact gt_int (k _ h)
 | @eq x y h =>
  obtain ⟨t,rfl⟩:=ha; obtain ⟨r,rfl⟩:=hb
  refine eq_int ?_
  have:(x == y) = decide (x = y):=by by_cases q:x = y <;> simp [q]
  rw [this]; exact k _ h
 | @ne x y h =>
  obtain ⟨t,rfl⟩:=ha; obtain ⟨r,rfl⟩:=hb
  refine ne_int ?_
  have:(x != y) = !decide (x = y):=by by_cases q:x = y <;> simp [q]
  rw [this]; exact k _ h
 | eqS h =>
  obtain ⟨i,t,rfl⟩:=ha; obtain ⟨j,r,rfl⟩:=hb
  refine eq_str ?_
  rw [nm_beq i j]; exact k _ h
 | neS h =>
  obtain ⟨i,t,rfl⟩:=ha; obtain ⟨j,r,rfl⟩:=hb
  refine ne_str ?_
  rw [bne,nm_beq i j]; exact k _ h
 | neB h =>
  subst ha; subst hb
  exact ne_bool (k _ h)
 | @is f h =>
  subst hb
  cases q:isNone f with
  | true =>
   cases f <;> simp only [isNone,reduceCtorEq] at q
   subst ha
   exact wpAny_is_self rfl (k _ h)
  | false=>rw [q] at h; exact is_none_ne (ha.ne_none q) (k _ h)
 | @isNot f h =>
  subst hb
  cases q:isNone f with
  | true =>
   cases f <;> simp only [isNone,reduceCtorEq] at q
   subst ha
   exact wpAny_isNot_self rfl (k _ h)
  | false=>rw [q] at h; exact isnot_none_ne (ha.ne_none q) (k _ h)
noncomputable def plainR (e:Expr):Bool:=!Nat.beq e.ctorIdx 7
theorem marks_of {op:CmpOp} {e:Expr} (h:plainR e = true):behindInMarks op e = false:=by
 cases e <;> first | rfl | exact Bool.noConfusion h
theorem Sx.cmp {o:Cop} {l r:Expr} {pos:Pos} {Wl:(D→St→Prop)→Prop} {Wr:St→(D→St→Prop)→Prop} (hl:Sx c A (eval l c.env) st Wl) (hr:∀ st',Sx c A (eval r c.env) st' (Wr st')) (hp:plainR r = true) :
  Sx c A (eval (.Compare l [o.op] [r] pos) c.env) st fun K=>Wl fun a st1=>Wr st1 fun b st2=>cmpD o a b fun z=>K (.fro (.bool z)) st2:=by
 intro s p K Q a w k
 refine wpAny_Compare1 (hl s p _ _ a w fun d1 st1 v1 h1 tk1 q1 k1 a1 e1 n1=>?_) (marks_of hp)
 refine hr st1 _ q1 _ _ a1 k1 fun d2 st2 v2 h2 tk2 q2 k2 a2 e2 n2=>?_
 exact cmpD_ok k2 (e2.den n1) n2 fun z kz=>k _ _ _ h2 tk2 q2 kz a2 (e1.trans e2) (by show Den _ _ _ _; unfold Den; rfl)
theorem Sb.cmp {o:Cop} {l r:Expr} {pos:Pos} {whole:Sem Value} {Wl:(D→St→Prop)→Prop} {Wr:St→(D→St→Prop)→Prop} (hl:Sx c A (eval l c.env) st Wl) (hr:∀ st',Sx c A (eval r c.env) st' (Wr st')) (hp:plainR r = true) :
  Sb c A (isTrue (.Compare l [o.op] [r] pos) c.env whole) st fun K=>Wl fun a st1=>Wr st1 fun b st2=>cmpD o a b fun z=>K z st2:=by
 intro s p K Q a w k
 refine wpAny_isTrue_Compare1 (hl s p _ _ a w fun d1 st1 v1 h1 tk1 q1 k1 a1 e1 n1=>?_) (marks_of hp)
 refine hr st1 _ q1 _ _ a1 k1 fun d2 st2 v2 h2 tk2 q2 k2 a2 e2 n2=>?_
 exact cmpD_ok k2 (e2.den n1) n2 fun z kz=>wpAny_truthy_bool (k _ _ h2 tk2 q2 kz a2 (e1.trans e2))
noncomputable def okAttr (P:Params) (x:Nat × Nat):Bool :=
 findIn (KF P) (.ref x.1) "__getattribute__" == some (some (.builtin "object.__getattribute__")) && hasDictIn (KF P) x.1 && (match findIn (KF P) (.ref x.1) (nm x.2) with | some a=>noGet (KF P) a | none=>false)
noncomputable def plainBase (e:Expr):Bool:=!Nat.beq e.ctorIdx 16
theorem attrBase {o:Expr} {attr:Str} {env:Env} {whole:Sem Value} (h:plainBase o = true):attributeBase o attr env whole = whole:=by
 cases o <;> first | rfl | exact Bool.noConfusion h
theorem getAttr_inst {w:World} {G:Heap} {s:Shared} {C k:Nat} {ks:List Nat} {l:List F} {f:F} {v:Value} {e:Bool} {Q:Value→Shared→Prop} (hG:(KF w.params).In G) (sub:Le G s.heap)
  (ok:okAttr w.params (C,k) = true) (hd:Den w G (.inst C ks l) v) (hk:lk ks l k = some f) (h:∀ u,Den w G f u→Q u { s with toks:=s.toks + 1 }) :
  wpAny (model PM w) A (getAttr v (nm k) e) Q NoE s:=by
 obtain ⟨a,ox,od,vs,rfl,I,g,d⟩:=hd
 obtain ⟨u,e1,e2⟩:=lk_dens d hk
 have lo:lookIn (nm k) od = some (some u):=by
  clear d hk e2 I
  induction ks generalizing vs with
  | nil=>unfold lk at e1; cases e1
  | cons k' ks ih =>
   cases vs with
   | nil=>unfold lk at e1; cases e1
   | cons v' vs =>
    unfold Gets at g
    unfold lk at e1
    by_cases q:k' = k
    ·rw [if_pos q] at e1; cases e1; rw [← q]; exact g.1
    ·rw [if_neg q] at e1; exact ih vs g.2 e1
 unfold okAttr at ok
 obtain ⟨ok1,ok3⟩:=Bool.and_eq_true_iff.mp ok
 obtain ⟨ok1,ok2⟩:=Bool.and_eq_true_iff.mp ok1
 have I':W.InstAt s.heap a ox C (some od):=by
  obtain ⟨i1,i2,i3,i4⟩:=I
  refine ⟨sub _ _ i1,i2,i3,?_⟩
  revert i4
  cases ox.dict with
  | none=>exact id
  | some dx=>exact fun y=>sub _ _ y
 split at ok3
 ·rename_i at_ hat
  exact get_value (hG.keeps sub) I' (beq_iff_eq.mp ok1) (findObj_own ok2 hat ok3 lo) e2.handed (h u e2)
 ·cases ok3
inductive V where
 | fro (f:F)
 | mut_ (i:Nat) (m:M)
 | bad
noncomputable def deref (st:St):D→V
 | .fro f=>.fro f
 | .ref i=>match st.mu[i]? with
  | some (some (.fz f))=>.fro f
  | some (some m)=>.mut_ i m
  | _=>.bad
theorem deref_fro {p:Vw} {h:Heap} {d:D} {f:F} {v:Value} (a:At c st p h) (e:deref st d = .fro f) (n:DenD c.w p.ρ p.G d v):Den c.w p.G f v:=by
 cases d with
 | fro g=>cases e; exact n
 | ref i =>
  obtain ⟨x,e1,rfl⟩:=n
  simp only [deref] at e
  split at e
  ·rename_i g hm
   cases e
   obtain ⟨a',fp,y1,y2,y3,y4⟩:=a.mus i _ hm
   rw [e1] at y1
   cases y1
   exact y4
  ·cases e
  ·cases e
theorem deref_mut {p:Vw} {h:Heap} {d:D} {i:Nat} {m:M} {v:Value} (a:At c st p h) (e:deref st d = .mut_ i m) (n:DenD c.w p.ρ p.G d v) :
  E2 fun x fp=>A5 (v = .ref x) (st.mu[i]? = some (some m)) (p.ρ[i]? = some x) (p.fps[i]? = some fp) (MH c.w p.ρ p.G h m x fp):=by
 cases d with
 | fro g=>cases e
 | ref j =>
  obtain ⟨x,e1,rfl⟩:=n
  simp only [deref] at e
  split at e
  ·cases e
  ·rename_i m' hne hm
   cases e
   obtain ⟨a',fp,y1,y2,y3⟩:=a.mus _ _ hm
   rw [e1] at y1
   cases y1
   exact ⟨x,fp,rfl,hm,e1,y2,y3⟩
  ·cases e
theorem isStr_nm {k:Nat} {v:Value} {t:Tok} (e:v = .str (nm k) t) (x:Str):v.isStr x = (nm k == x):=by subst e; rfl
theorem Ents.look {k:Nat} (hk:k < nmL.length):∀ {es:List DictEntry} {ks:List Nat} {vs:List Value} {v:Value},Ents es ks vs→lk ks vs k = some v→getL (nm k) es = some (some v)
 | [],[],[],_,_,e=>by unfold lk at e; cases e
 | e :: es,k' :: ks,v' :: vs,v,⟨⟨h0,t,h1⟩,h2,h3⟩,q=>by
  unfold lk at q
  unfold getL
  rw [List.find?_cons,isStr_nm h1,nm_beq h0 hk]
  by_cases z:k' = k
  ·rw [if_pos z] at q; cases q; simp [z,h2]
  ·rw [if_neg z] at q
   have ih:=Ents.look hk h3 q
   unfold getL at ih
   simp only [z,decide_false]
   revert ih
   cases es.find? (fun e=>e.key.isStr (nm k)) with
   | some y=>exact id
   | none =>
    simp only
    intro ih
    split at ih <;> cases ih
 | [],_ :: _,_,_,h,_=>h.elim
 | [],[],_ :: _,_,h,_=>h.elim
 | _ :: _,[],_,_,h,_=>h.elim
 | _ :: _,_ :: _,[],_,h,_=>h.elim
theorem getAttr_mut {w:World} {G:Heap} {s:Shared} {C k:Nat} {ks:List Nat} {vs:List Value} {a dx:Addr} {es:List DictEntry} {n:Nat} {v:Value} {e:Bool} {Q:Value→Shared→Prop} (hG:(KF w.params).In s.heap)
  (ok:okAttr w.params (C,k) = true) (hk:k < nmL.length) (h1:s.heap.get? a = some (instObj C dx)) (h2:s.heap.get? dx = some (dictOf es n)) (he:Ents es ks vs) (hl:lk ks vs k = some v) (hh:handedIn v = true) (h:Q v { s with toks:=s.toks + 1 }) :
  wpAny (model PM w) A (getAttr (.ref a) (nm k) e) Q NoE s:=by
 unfold okAttr at ok
 obtain ⟨ok1,ok3⟩:=Bool.and_eq_true_iff.mp ok
 obtain ⟨ok1,ok2⟩:=Bool.and_eq_true_iff.mp ok1
 split at ok3
 ·rename_i at_ hat
  exact get_value (od:=some (dictOf es n)) hG ⟨h1,rfl,rfl,h2⟩ (beq_iff_eq.mp ok1) (findObj_own ok2 hat ok3 (by rw [lookIn_dict]; exact he.look hk hl)) hh h
 ·cases ok3
theorem DenD.handed {w:World} {ρ:List Addr} {G:Heap} {d:D} {v:Value} (h:DenD w ρ G d v):handedIn v = true:=by
 cases d with
 | fro f=>exact Den.handed h
 | ref k=>obtain ⟨a,_,rfl⟩:=h; rfl
noncomputable def attrT:List (Nat × Nat):=[(38,39),(38,40),(38,41),(38,42),(38,43),(38,44),(612,55),(190,84),(395,118),(248,84),(248,103)]
theorem attrT_ok (P:Params):attrT.all (okAttr P) = true:=by kernel_rfl
noncomputable def attrOk (C k:Nat):Bool:=attrT.any fun x=>Nat.beq x.1 C && Nat.beq x.2 k
theorem attr_of {P:Params} {C k:Nat} (h:attrOk C k = true):okAttr P (C,k) = true∧k < nmL.length:=by
 unfold attrOk at h
 obtain ⟨x,hx,e⟩:=List.any_eq_true.mp h
 obtain ⟨e1,e2⟩:=Bool.and_eq_true_iff.mp e
 have e1:=Nat.eq_of_beq_eq_true e1
 have e2:=Nat.eq_of_beq_eq_true e2
 obtain ⟨x1,x2⟩:=x
 dsimp only at e1 e2
 subst e1; subst e2
 refine ⟨List.all_eq_true.mp (attrT_ok P) _ hx,?_⟩
 rw [nmL_len]
 exact (by decide:∀ x∈attrT,x.2 < 282) _ hx
noncomputable def attrD (d:D) (k:Nat) (st:St) (K:D→Prop):Prop:=(E4 fun C ks l f=>A4 (deref st d = .fro (.inst C ks l)) (attrOk C k = true) (lk ks l k = some f) (K (.fro f)))∨E5 fun i C ks l f=>A4 (deref st d = .mut_ i (.inst C ks l)) (attrOk C k = true) (lk ks l k = some f) (K f)
theorem attrD_ok {p:Vw} {s:Shared} {d:D} {k:Nat} {v:Value} {K:D→Prop} {e:Bool} {Q:Value→Shared→Prop} (a:At c st p s.heap) (h:attrD d k st K) (n:DenD c.w p.ρ p.G d v)
  (q:∀ d u,K d→DenD c.w p.ρ p.G d u→Q u { s with toks:=s.toks + 1 }):wpAny (model PM c.w) A (getAttr v (nm k) e) Q NoE s:=by
 rcases h with ⟨C,ks,l,f,e1,h1,hf,h2⟩ | ⟨i,C,ks,l,f,e1,h1,hf,h2⟩
 ·exact getAttr_inst a.gnd.K a.sub (attr_of h1).1 (deref_fro a e1 n) hf fun u hu=>q _ _ h2 hu
 ·obtain ⟨x,fp,rfl,y1,y2,y3,dx,es,nn,vs,rfl,y4,y5,y6,y7,y8⟩:=deref_mut a e1 n
  obtain ⟨u,z1,z2⟩:=lk_densD y8 hf
  exact getAttr_mut (G:=p.G) (a:=x) (dx:=dx) (es:=es) (ks:=ks) (vs:=vs) (C:=C) (n:=nn) (a.gnd.K.keeps a.sub) (attr_of (P:=c.w.params) h1).1 (attr_of (P:=c.w.params) h1).2 y5 y6 y7 z1 z2.handed (q _ _ h2 z2)
theorem Sx.attr {e:Expr} {x:Str} {k:Nat} {pos:Pos} {W:(D→St→Prop)→Prop} (he:Sx c A (eval e c.env) st W) (hp:plainBase e = true) (hx:x = nm k) :
  Sx c A (eval (.Attribute e x pos) c.env) st fun K=>W fun d st'=>attrD d k st' fun d'=>K d' st':=by
 intro s p K Q a w kk
 subst hx
 refine Attribute_any_ (he s p _ _ a w fun d st' v h tk q kd a' ex n=>?_) (by rw [arm_eval_Attribute,attrBase hp])
 exact attrD_ok (s:={ s with heap:=h,toks:=tk }) a' kd n fun d' u hd' nd=>kk _ _ _ h (tk + 1) q hd' a' ex nd
end
section
variable {c:Cx} {A:Around} {st:St} {p:Vw}
theorem At.alloc {h:Heap} (a:At c st p h) (o:Obj) (hf:o.isFreed = false):∃ G',A3 (Le p.G G') (G'.get? h.objs.size = some o) (At c st { p with G:=G' } (h.push o)):=by
 obtain ⟨G',l,g,a'⟩:=(a.push o).freeze [h.objs.size] (by
  intro b hb
  rw [List.mem_singleton] at hb
  subst hb
  refine ⟨.inl (a.fresh get_size),fun e=>not_live get_size (e ▸ a.locals_live),fun i fi e hb=>not_live get_size (a.off i fi e _ hb).2⟩)
 exact ⟨G',l,g _ (by simp) _ (Heap.get?_push_size _ hf),a'⟩
noncomputable def fros (st:St):List D→Option (List F)
 | []=>some []
 | d :: l=>match deref st d with
  | .fro f=>match fros st l with
   | some fs=>some (f :: fs)
   | none=>none
  | _=>none
theorem fros_dens {h:Heap} (a:At c st p h):∀ {l:List D} {fs:List F} {vs:List Value},fros st l = some fs→DenDs c.w p.ρ p.G l vs→Dens c.w p.G fs vs
 | [],fs,[],e,_=>by unfold fros at e; cases e; unfold Dens; trivial
 | [],_,_ :: _,_,d=>d.elim
 | _ :: _,_,[],_,d=>d.elim
 | d :: l,fs,v :: vs,e,n=>by
  unfold fros at e
  split at e
  ·rename_i f hf
   split at e
   ·rename_i gs hg
    cases e
    unfold Dens
    exact ⟨deref_fro a hf n.1,fros_dens a hg n.2⟩
   ·cases e
  ·cases e
theorem Sxs.nil {pos:Pos}:Sxs c A (spliced (backTo pos (starEach [] c.env))) st fun K=>K [] st:=by
 intro s p K Q a w k
 exact spliced_nil (k _ _ [] s.heap s.toks p w a (.refl p) trivial)
noncomputable def notStar (e:Expr):Bool:=!Nat.beq e.ctorIdx 22
theorem starEach_cons {e:Expr} {l:List Expr} {env:Env} (h:notStar e = true):starEach (e :: l) env = (false,eval e env) :: starEach l env:=by
 cases e <;> first | rfl | exact Bool.noConfusion h
theorem Sxs.cons {e:Expr} {l:List Expr} {pos:Pos} {W:(D→St→Prop)→Prop} {Wl:St→(List D→St→Prop)→Prop} (he:Sx c A (eval e c.env) st W) (hl:∀ st',Sxs c A (spliced (backTo pos (starEach l c.env))) st' (Wl st')) (hs:notStar e = true) :
  Sxs c A (spliced (backTo pos (starEach (e :: l) c.env))) st fun K=>W fun d st1=>Wl st1 fun ds st2=>K (d :: ds) st2:=by
 intro s p K Q a w k
 rw [starEach_cons hs]
 show wpAny _ _ (spliced ((false,eval e c.env) :: backTo pos (starEach l c.env))) _ _ _
 refine spliced_cons (he s p _ _ a w fun d1 st1 v1 h1 tk1 q1 k1 a1 e1 n1=>?_)
 refine hl st1 _ q1 _ _ a1 k1 fun d2 st2 v2 h2 tk2 q2 k2 a2 e2 n2=>?_
 exact k _ _ _ h2 tk2 q2 k2 a2 (e1.trans e2) ⟨e2.den n1,n2⟩
theorem small {n:Nat} (h:Nat.ble n 1000 = true):n≤sizeLine:=Nat.le_trans (Nat.le_of_ble_eq_true h) (by rw [sizeLine_eq]; decide)
theorem Sx.tup {l:List Expr} {k:Nat} {pos:Pos} {W:(List D→St→Prop)→Prop} (h:Sxs c A (spliced (backTo pos (starEach l c.env))) st W) :
  Sx c A (eval (.Tuple l k pos) c.env) st fun K=>W fun ds st'=>match fros st' ds with
   | some fs=>Nat.ble fs.length 1000 = true∧K (.fro (.tup fs)) st'
   | none=>False:=by
 intro s p K Q a w kk
 refine Tuple_ (h s p _ _ a w fun ds st' vs h' tk q kd a' ex n=>?_)
 split at kd
 ·rename_i fs hf
  have dn:=fros_dens a' hf n
  refine wpAny_newTuple (Q:=Q) ?_ (by rw [← dn.length]; exact small kd.1)
  obtain ⟨G',l1,l2,l3⟩:=a'.alloc { cls:=.type "tuple",data:=.seq vs.toArray } rfl
  refine kk _ _ _ _ tk { q with G:=G' } kd.2 l3 (ex.trans ⟨⟨[],by simp⟩,l1⟩) ?_
  show Den _ _ _ _
  unfold Den
  exact ⟨_,vs,rfl,⟨_,l2,rfl,_,rfl⟩,Dens.mono l1 _ _ dn⟩
 ·exact kd.elim
theorem Sx.lst {l:List Expr} {pos:Pos} {W:(List D→St→Prop)→Prop} (h:Sxs c A (spliced (backTo pos (starEach l c.env))) st W) :
  Sx c A (eval (.List l pos) c.env) st fun K=>W fun ds st'=>match fros st' ds with
   | some fs=>Nat.ble fs.length 1000 = true∧K (.fro (.lst fs)) st'
   | none=>False:=by
 intro s p K Q a w kk
 refine List_ (h s p _ _ a w fun ds st' vs h' tk q kd a' ex n=>?_)
 split at kd
 ·rename_i fs hf
  have dn:=fros_dens a' hf n
  refine wpAny_newList (Q:=Q) ?_ (by rw [← dn.length]; exact small kd.1)
  obtain ⟨G',l1,l2,l3⟩:=a'.alloc { cls:=.type "list",data:=.seq vs.toArray } rfl
  refine kk _ _ _ _ tk { q with G:=G' } kd.2 l3 (ex.trans ⟨⟨[],by simp⟩,l1⟩) ?_
  show Den _ _ _ _
  unfold Den
  exact ⟨_,vs,rfl,⟨0,l2⟩,Dens.mono l1 _ _ dn⟩
 ·exact kd.elim
theorem Sx.mlst {l:List Expr} {pos:Pos} {W:(List D→St→Prop)→Prop} (h:Sxs c A (spliced (backTo pos (starEach l c.env))) st W) :
  Sx c A (eval (.List l pos) c.env) st fun K=>W fun ds st'=>Nat.ble ds.length 1000 = true∧K (.ref st'.mu.length) { st' with mu:=st'.mu++[some (.lst ds)] }:=by
 intro s p K Q a w kk
 refine List_ (h s p _ _ a w fun ds st' vs h' tk q kd a' ex n=>?_)
 refine wpAny_newList (Q:=Q) ?_ (by rw [← n.length]; exact small kd.1)
 have l1:=a'.len1
 have y:=a'.newM (m:=.lst ds) (a:=h'.objs.size) (fp:=[h'.objs.size]) (h':=h'.push { cls:=.type "list",data:=.seq vs.toArray }) (fun b o e=>Heap.get?_push_of_some _ e)
  ⟨rfl,vs,0,Heap.get?_push_size _ rfl,n⟩ (by intro b hb; rw [List.mem_singleton] at hb; subst hb; exact ⟨get_size,_,Heap.get?_push_size _ rfl⟩)
 refine kk _ _ _ _ tk _ kd.2 y (ex.trans ⟨⟨_,rfl⟩,Le.refl _⟩) ?_
 exact ⟨h'.objs.size,by simp [l1],rfl⟩
noncomputable def idxL {α:Type} (l:List α):Int→Option α
 | .ofNat n=>if Nat.ble n 1000000 then l[n]? else none
 | .negSucc _=>none
theorem idxL_some {α:Type} {l:List α} {z:Int} {x:α} (h:idxL l z = some x):0≤z∧z < 2 ^ 63∧l[z.toNat]? = some x:=by
 unfold idxL at h
 split at h
 ·rename_i n
  split at h
  ·rename_i hn
   have h1:=Nat.le_of_ble_eq_true hn
   have h2:((n:Nat):Int)≤1000000:=by omega
   have h3:((n:Nat):Int) < 2 ^ 63:=by
    have:(1000000:Int) < 2 ^ 63:=by decide
    omega
   exact ⟨Int.natCast_nonneg _,h3,h⟩
  ·cases h
 ·cases h
noncomputable def lkI {α:Type}:List Int→List α→Int→Option α
 | k' :: ks,v :: l,k=>if k' = k then some v else lkI ks l k
 | _,_,_=>none
theorem valueAt_zipI {k:Int}:∀ {ks:List Int} (vs:List Value),valueAt (ks.zip vs) k = lkI ks vs k
 | [],vs=>by unfold lkI valueAt; rfl
 | k' :: ks,[]=>by unfold lkI valueAt; rfl
 | k' :: ks,v :: vs=>by
  have ih:=valueAt_zipI (k:=k) (ks:=ks) vs
  unfold lkI
  unfold valueAt at ih ⊢
  simp only [List.zip_cons_cons,List.find?_cons]
  by_cases q:k' = k
  ·simp [q]
  ·simp only [q,decide_false,if_false]; exact ih
theorem lkI_dens {w:World} {G:Heap} {k:Int}:∀ {ks:List Int} {l:List F} {vs:List Value} {f:F},Dens w G l vs→lkI ks l k = some f→∃ v,lkI ks vs k = some v∧Den w G f v
 | [],_,_,_,_,e=>by unfold lkI at e; cases e
 | _ :: _,[],_,_,_,e=>by unfold lkI at e; cases e
 | _ :: _,_ :: _,[],_,d,_=>by exact False.elim d
 | k' :: ks,g :: l,v :: vs,f,d,e=>by
  unfold lkI at e ⊢
  by_cases q:k' = k
  ·rw [if_pos q] at e ⊢; cases e; exact ⟨v,rfl,d.1⟩
  ·rw [if_neg q] at e ⊢; exact lkI_dens d.2 e
inductive IdxD (K:D→Prop):V→D→Prop
 | tup {l:List F} {z:Int} {f:F} (e:idxL l z = some f) (h:K (.fro f)):IdxD K (.fro (.tup l)) (.fro (.int z))
 | lst {l:List F} {z:Int} {f:F} (e:idxL l z = some f) (h:K (.fro f)):IdxD K (.fro (.lst l)) (.fro (.int z))
 | dic {ks:List Nat} {l:List F} {k:Nat} {f:F} (e:lk ks l k = some f) (h:K (.fro f)):IdxD K (.fro (.dic ks l)) (.fro (.str k))
 | dicI {ks:List Int} {l:List F} {k:Int} {f:F} (e:lkI ks l k = some f) (h:K (.fro f)):IdxD K (.fro (.dicI ks l)) (.fro (.int k))
 | mlst {i:Nat} {l:List D} {z:Int} {d:D} (e:idxL l z = some d) (h:K d):IdxD K (.mut_ i (.lst l)) (.fro (.int z))
 | mdic {i:Nat} {ks:List Nat} {l:List D} {k:Nat} {d:D} (e:lk ks l k = some d) (h:K d):IdxD K (.mut_ i (.dic ks l)) (.fro (.str k))
noncomputable def idxD (d i:D) (st:St) (K:D→Prop):Prop:=IdxD K (deref st d) i
theorem DenDs.get {w:World} {ρ:List Addr} {G:Heap}:∀ {l:List D} {vs:List Value},DenDs w ρ G l vs→∀ {i:Nat} {f:D},l[i]? = some f→∃ v,vs[i]? = some v∧DenD w ρ G f v
 | [],[],h,i,f,e=>by simp at e
 | [],_ :: _,h,_,_,_=>h.elim
 | _ :: _,[],h,_,_,_=>h.elim
 | g :: l,v :: vs,h,i,f,e=>by
  cases i with
  | zero=>simp at e; subst e; exact ⟨v,by simp,h.1⟩
  | succ i=>simp at e; obtain ⟨u,a,b⟩:=DenDs.get h.2 e; exact ⟨u,by simpa using a,b⟩
theorem idxD_ok {s:Shared} {d i:D} {u v:Value} {K:D→Prop} {Q:Value→Shared→Prop} (a:At c st p s.heap) (h:idxD d i st K) (n:DenD c.w p.ρ p.G d u) (ni:DenD c.w p.ρ p.G i v)
  (q:∀ d z tk,K d→DenD c.w p.ρ p.G d z→Q z { s with toks:=tk }):wpAny (model PM c.w) A (getItem u v) Q NoE s:=by
 unfold idxD at h
 generalize e1:deref st d = d1 at h
 cases h with
 | @tup l z f hf h =>
  have:=deref_fro a e1 n
  obtain ⟨x,vs,rfl,t,dn⟩:=this
  obtain ⟨tk,rfl⟩:=ni
  obtain ⟨z0,z1,z2⟩:=idxL_some hf
  obtain ⟨y,y1,y2⟩:=dn.get z2
  have lt:=(List.getElem?_eq_some_iff.mp y1).1
  refine getItem_tuple (t.keeps a.sub) (by omega) z1 (j:=z.toNat) ?_ (by simpa using y1) (q _ _ s.toks h y2)
  rw [List.size_toArray]
  have hz:¬ z < 0:=by omega
  have hl:0≤z∧z < (vs.length:Int):=⟨z0,by omega⟩
  simp [seqIndex?,hz,hl]
 | @lst l z f hf h =>
  have:=deref_fro a e1 n
  obtain ⟨x,vs,rfl,⟨tn,t⟩,dn⟩:=this
  obtain ⟨tk,rfl⟩:=ni
  obtain ⟨z0,z1,z2⟩:=idxL_some hf
  obtain ⟨y,y1,y2⟩:=dn.get z2
  exact wpAny_getItem_list (list_of_lobj (a.sub _ _ t)) z0 z1 (by simpa using y1) (q _ _ s.toks h y2)
 | @dic ks l k f hf h =>
  have:=deref_fro a e1 n
  obtain ⟨z,x,vs,rfl,t,dn,len⟩:=this
  obtain ⟨ki,tk,rfl⟩:=ni
  obtain ⟨y,y1,y2⟩:=lk_dens dn hf
  obtain ⟨o,es,ep,ho,r⟩:=t
  have t':s.heap.DictOf (strKind PM c.w) x ((ks.map nm).zip vs):=⟨o,es,ep,a.sub _ _ ho,r⟩
  exact wpAny_getItem_of (strKind_is PM c.w _ _) t'.mapOf (by rw [valueAt_zip ki vs z]; exact y1) (q _ _ _ h y2)
 | @dicI ks l k f hf h =>
  have:=deref_fro a e1 n
  obtain ⟨x,vs,rfl,t,dn,len⟩:=this
  obtain ⟨tk,rfl⟩:=ni
  obtain ⟨y,y1,y2⟩:=lkI_dens dn hf
  obtain ⟨o,es,ep,ho,r⟩:=t
  have t':s.heap.DictOf (intKind PM c.w) x (ks.zip vs):=⟨o,es,ep,a.sub _ _ ho,r⟩
  exact wpAny_getItem_of (intKind_is PM c.w _ _) t'.mapOf (by rw [valueAt_zipI vs]; exact y1) (q _ _ _ h y2)
 | @mlst j l z f hf h =>
  obtain ⟨x,fp,rfl,y1,y2,y3,rfl,vs,nn,y4,y5⟩:=deref_mut a e1 n
  obtain ⟨tk,rfl⟩:=ni
  obtain ⟨z0,z1,z2⟩:=idxL_some hf
  obtain ⟨y,w1,w2⟩:=y5.get z2
  exact wpAny_getItem_list (list_of_lobj y4) z0 z1 (by simpa using w1) (q _ _ s.toks h w2)
 | @mdic j ks l k f hf h =>
  obtain ⟨x,fp,rfl,y1,y2,y3,rfl,z,vs,y4,y5,y6⟩:=deref_mut a e1 n
  obtain ⟨ki,tk,rfl⟩:=ni
  obtain ⟨y,w1,w2⟩:=lk_densD y5 hf
  exact wpAny_getItem_of (strKind_is PM c.w _ _) y4.mapOf (by rw [valueAt_zip ki vs z]; exact w1) (q _ _ _ h w2)
end
noncomputable def Room (A:Around) (L:Nat):Prop:=A.handled = none∧A.depth + L≤900∧A.units + 10 * L≤9000
theorem Room.le {A:Around} {L l:Nat} (h:Room A L) (k:l≤L):Room A l:=⟨h.1,by have:=h.2.1; omega,by have:=h.2.2; omega⟩
theorem Room.deeper {A:Around} {L:Nat} {env:Env} (h:Room A (L + 1)):Room (A.deeper env) L:=by
 obtain ⟨a,b,c⟩:=h
 refine ⟨a,?_,?_⟩
 ·show A.depth + 1 + L≤900; omega
 ·show A.units + 3 + 10 * L≤9000; omega
structure SAt (w:World) (mu:List (Option M)) (p:Vw) (h:Heap):Prop where
 gnd:Gnd w p.G
 sub:Le p.G h
 len1:mu.length = p.ρ.length
 len2:p.fps.length = p.ρ.length
 mus:∀ (k:Nat) m,mu[k]? = some (some m)→E2 fun a fp=>A3 (p.ρ[k]? = some a) (p.fps[k]? = some fp) (MH w p.ρ p.G h m a fp)
 sep:∀ (i j:Nat) fi fj,i ≠ j→p.fps[i]? = some fi→p.fps[j]? = some fj→∀ b∈fi,b ∉ fj
 off:∀ (i:Nat) fi,p.fps[i]? = some fi→∀ b∈fi,p.G.get? b = none∧∃ o,h.get? b = some o
structure Back (w:World) (p:Vw) (h:Heap) (mu':List (Option M)) (q:Vw) (h':Heap):Prop where
 at_:SAt w mu' q h'
 ext:Ext p q
 new:∀ b o,q.G.get? b = some o→p.G.get? b = some o∨h.get? b = none∨b∈p.fps.flatten
 keep:∀ b o,h.get? b = some o→b ∉ p.fps.flatten→h'.get? b = some o
 live:∀ b o,h.get? b = some o→∃ o',h'.get? b = some o'
 own:∀ (i:Nat) fi,q.fps[i]? = some fi→∀ b∈fi,b∈p.fps.getD i []∨h.get? b = none
noncomputable def PT:=List D→List (Option M)→(D→List (Option M)→Prop)→Prop
noncomputable def CallOK (w:World) (L:Nat) (f:Value) (pt:PT):Prop :=
 ∀ (A:Around) (s:Shared) (p:Vw) (mu:List (Option M)) (ds:List D) (vs:List Value) (K:D→List (Option M)→Prop) (Q:Value→Shared→Prop),
  Room A L→SAt w mu p s.heap→DenDs w p.ρ p.G ds vs→pt ds mu K →
  (∀ d mu' q v h' tk,K d mu'→Back w p s.heap mu' q h'→DenD w q.ρ q.G d v→Q v { s with heap:=h',toks:=tk }) →
  codeAny (model PM w) A (.call f ⟨vs,[]⟩) (fun r s'=>match r with | .ok (.ret v)=>Q v s' | .ok _=>False | .error e=>NoE e s') s
theorem CallOK.le {w:World} {L l:Nat} {f:Value} {pt:PT} (h:CallOK w l f pt) (k:l≤L):CallOK w L f pt :=
 fun A s p mu ds vs K Q r=>h A s p mu ds vs K Q (r.le k)
section
variable {c:Cx} {A:Around} {st:St} {p:Vw} {h:Heap}
theorem At.addM (x:At c st p h) {m:M} {a:Addr} {fp:List Addr} (hm:MH c.w p.ρ p.G h m a fp)
  (hf:∀ b∈fp,c.h₀.get? b = none∧(∃ o,h.get? b = some o)∧p.G.get? b = none∧b ≠ c.env.locals∧∀ (i:Nat) fi,p.fps[i]? = some fi→b ∉ fi) :
  At c { st with mu:=st.mu++[some m] } { p with ρ:=p.ρ++[a],fps:=p.fps++[fp] } h:=by
 have up:∀ (i:Nat) fi,(p.fps++[fp])[i]? = some fi→p.fps[i]? = some fi∨(i = p.fps.length∧fi = fp):=by
  intro i fi e
  rw [List.getElem?_append] at e
  split at e
  ·exact .inl e
  ·rename_i q
   cases r:i - p.fps.length with
   | zero=>rw [r] at e; simp at e; exact .inr ⟨by omega,e.symm⟩
   | succ n=>rw [r] at e; simp at e
 refine { x with ns:=?_,frF:=?_,len1:=?_,len2:=?_,mus:=?_,sep:=?_,off:=?_,own:=?_,lenF:=?_,cl:=fun y i e=>by obtain ⟨b,e1,e2,e3⟩:=x.cl y i e; exact ⟨b,by simp only; rw [List.getElem?_append_left (List.getElem?_eq_some_iff.mp e1).1]; exact e1,e2,e3⟩ }
 ·obtain ⟨mm,a1,b1⟩:=x.ns
  exact ⟨mm,a1,fun i x' d e1 e2=>by obtain ⟨v,q1,q2⟩:=b1 i x' d e1 e2; exact ⟨v,q1,q2.mono (Le.refl _)⟩⟩
 ·intro i fi e hb
  rcases up i fi e with q | ⟨_,rfl⟩
  ·exact x.frF i fi q hb
  ·exact (hf _ hb).2.2.2.1 rfl
 ·simp [x.len1]
 ·simp [x.len2]
 ·intro i m' e
  simp only at e
  have l1:=x.len1
  have l2:=x.len2
  rw [List.getElem?_append] at e
  split at e
  ·rename_i q
   obtain ⟨a',fp',e1,e2,z⟩:=x.mus i m' e
   refine ⟨a',fp',?_,?_,z.frame (Le.refl _) fun b _ o q=>q⟩
   ·simp only; rw [List.getElem?_append_left (by omega)]; exact e1
   ·simp only; rw [List.getElem?_append_left (by omega)]; exact e2
  ·rename_i q
   cases r:i - st.mu.length with
   | zero =>
    rw [r] at e
    simp at e
    subst e
    have:i = p.ρ.length:=by omega
    subst this
    refine ⟨a,fp,by simp,?_,hm.frame (Le.refl _) fun b _ o q=>q⟩
    simp only
    rw [List.getElem?_append_right (by omega),l2]; simp
   | succ n=>rw [r] at e; simp at e
 ·intro i j fi fj hij ei ej b hb
  rcases up i fi ei with q | ⟨q1,rfl⟩ <;> rcases up j fj ej with r | ⟨r1,rfl⟩
  ·exact x.sep i j fi fj hij q r b hb
  ·intro hb'
   exact (hf b hb').2.2.2.2 i fi q hb
  ·intro hb'
   exact (hf b hb).2.2.2.2 j fj r hb'
  ·omega
 ·intro i fi e b hb
  rcases up i fi e with q | ⟨_,rfl⟩
  ·exact x.off i fi q b hb
  ·exact ⟨(hf b hb).2.2.1,(hf b hb).2.1⟩
 ·intro i fi e b hb
  rcases up i fi e with q | ⟨_,rfl⟩
  ·exact x.own i fi q b hb
  ·exact .inr (hf b hb).1
 ·simp only [List.length_append]; exact Nat.le_trans x.lenF (Nat.le_add_right _ _)
noncomputable def remD (τ:Nat→Nat):D→D
 | .fro f=>.fro f
 | .ref k=>.ref (τ k)
noncomputable def remM (τ:Nat→Nat):M→M
 | .lst l=>.lst (l.map (remD τ))
 | .dic ks l=>.dic ks (l.map (remD τ))
 | .dicI ks l=>.dicI ks (l.map (remD τ))
 | .inst C ks l=>.inst C ks (l.map (remD τ))
 | .cell d=>.cell (d.map (remD τ))
 | m=>m
noncomputable def okD (σ:List Nat):D→Bool
 | .fro _=>true
 | .ref k=>σ.contains k
noncomputable def okM (σ:List Nat):M→Bool
 | .lst l=>l.all (okD σ)
 | .dic _ l=>l.all (okD σ)
 | .dicI _ l=>l.all (okD σ)
 | .inst _ _ l=>l.all (okD σ)
 | .cell (some d)=>okD σ d
 | _=>true
theorem remD_den {w:World} {ρ r:List Addr} {G:Heap} {τ:Nat→Nat} {σ:List Nat} (ht:∀ k a,k∈σ→ρ[k]? = some a→r[τ k]? = some a) {d:D} {v:Value} (ok:okD σ d = true) (h:DenD w ρ G d v):DenD w r G (remD τ d) v:=by
 cases d with
 | fro f=>exact h
 | ref k=>obtain ⟨a,e,q⟩:=h; exact ⟨a,ht k a (by simpa [okD] using ok) e,q⟩
theorem remD_dens {w:World} {ρ r:List Addr} {G:Heap} {τ:Nat→Nat} {σ:List Nat} (ht:∀ k a,k∈σ→ρ[k]? = some a→r[τ k]? = some a):∀ {l:List D} {vs:List Value},l.all (okD σ) = true→DenDs w ρ G l vs→DenDs w r G (l.map (remD τ)) vs
 | [],[],_,h=>trivial
 | [],_ :: _,_,h=>h.elim
 | _ :: _,[],_,h=>h.elim
 | d :: l,v :: vs,ok,h=>by
  simp only [List.all_cons,Bool.and_eq_true] at ok
  exact ⟨remD_den ht ok.1 h.1,remD_dens ht ok.2 h.2⟩
theorem remM_MH {w:World} {ρ r:List Addr} {G h:Heap} {τ:Nat→Nat} {σ:List Nat} (ht:∀ k a,k∈σ→ρ[k]? = some a→r[τ k]? = some a) {m:M} {a:Addr} {fp:List Addr} (ok:okM σ m = true) (x:MH w ρ G h m a fp):MH w r G h (remM τ m) a fp:=by
 cases m with
 | lst l=>obtain ⟨q,vs,n,e,d⟩:=x; exact ⟨q,vs,n,e,remD_dens ht ok d⟩
 | dic ks l=>obtain ⟨q,z,vs,e,d,y⟩:=x; exact ⟨q,z,vs,e,remD_dens ht ok d,y⟩
 | dicI ks l=>obtain ⟨q,vs,e,d,y⟩:=x; exact ⟨q,vs,e,remD_dens ht ok d,y⟩
 | inst C ks l=>obtain ⟨dx,es,n,vs,q,ne,e1,e2,e3,d⟩:=x; exact ⟨dx,es,n,vs,q,ne,e1,e2,e3,remD_dens ht ok d⟩
 | side s=>exact x
 | pd l=>exact x
 | rd l=>exact x
 | fz f=>exact x
 | cell d =>
  obtain ⟨q,v,e,y⟩:=x
  refine ⟨q,v,e,?_⟩
  cases d <;> cases v <;> first | exact y.elim | trivial | exact remD_den ht ok y
noncomputable def sel {α:Type} (σ:List Nat) (l:List α) (d:α):List α:=σ.map fun i=>l.getD i d
theorem sel_get {α:Type} {σ:List Nat} {l:List α} {d:α} {j:Nat}:(sel σ l d)[j]? = (σ[j]?).map fun i=>l.getD i d:=by simp [sel]
noncomputable def wb {α:Type}:List Nat→List α→List α→List α
 | i :: σ,x :: xs,l=>wb σ xs (l.set i x)
 | _,_,l=>l
theorem wb_length {α:Type}:∀ {σ:List Nat} {xs l:List α},(wb σ xs l).length = l.length
 | [],_,_=>by unfold wb; rfl
 | _ :: _,[],_=>by unfold wb; rfl
 | i :: σ,x :: xs,l=>by unfold wb; rw [wb_length]; simp
theorem wb_out {α:Type}:∀ {σ:List Nat} {xs l:List α} {i:Nat},i ∉ σ→(wb σ xs l)[i]? = l[i]?
 | [],_,_,_,_=>by unfold wb; rfl
 | _ :: _,[],_,_,_=>by unfold wb; rfl
 | k :: σ,x :: xs,l,i,h=>by
  unfold wb
  rw [wb_out fun q=>h (by simp [q]),List.getElem?_set_ne (fun q=>h (by simp [q]))]
theorem wb_in {α:Type}:∀ {σ:List Nat} {xs l:List α} {j i:Nat},σ.Nodup→σ[j]? = some i→i < l.length→j < xs.length→(wb σ xs l)[i]? = xs[j]?
 | [],_,_,_,_,_,e,_,_=>by simp at e
 | _ :: _,[],_,_,_,_,_,_,h=>by simp at h
 | k :: σ,x :: xs,l,j,i,nd,e,hi,hj=>by
  unfold wb
  obtain ⟨n1,n2⟩:=List.nodup_cons.mp nd
  cases j with
  | zero =>
   simp at e; subst e
   rw [wb_out n1,List.getElem?_set_self hi]; simp
  | succ j =>
   simp at e
   rw [wb_in n2 e (by simpa using hi) (by simpa using hj)]; simp
noncomputable def okMs (σ:List Nat) (mu:List (Option M)):Bool:=σ.all fun i=>Nat.blt i mu.length && match mu.getD i none with
 | some m=>okM σ m
 | none=>true
noncomputable def remS (σ:List Nat) (mu:List (Option M)):List (Option M):=(sel σ mu none).map fun m=>m.map (remM fun k=>σ.idxOf k)
theorem sel_bound {σ:List Nat} {mu:List (Option M)} (ok:okMs σ mu = true) {j i:Nat} (e:σ[j]? = some i):i < mu.length:=by
 have:=List.all_eq_true.mp ok i (List.mem_of_getElem? e)
 simp only [Bool.and_eq_true] at this
 exact Nat.le_of_ble_eq_true this.1
theorem At.select (x:At c st p h) {σ:List Nat} (nd:σ.Nodup) (ok:okMs σ st.mu = true) :
  SAt c.w (remS σ st.mu) ⟨sel σ p.ρ 0,sel σ p.fps [],p.G⟩ h:=by
 have l1:=x.len1
 have l2:=x.len2
 have rg:∀ {α:Type} {l:List α} {d a:α} {i:Nat},l.length = p.ρ.length→i < st.mu.length→l.getD i d = a→l[i]? = some a:=by
  intro α l d a i hl hi e
  rw [List.getD_eq_getElem?_getD,List.getElem?_eq_getElem (by omega)] at e
  rw [List.getElem?_eq_getElem (by omega)]
  exact congrArg some e
 have inv:∀ {j:Nat} {fi:List Addr},(sel σ p.fps [])[j]? = some fi→∃ i,σ[j]? = some i∧p.fps[i]? = some fi:=by
  intro j fi e
  rw [sel_get] at e
  cases q:σ[j]? with
  | none=>rw [q] at e; cases e
  | some i =>
   rw [q] at e
   exact ⟨i,rfl,rg l2 (sel_bound ok q) (Option.some.inj e)⟩
 refine ⟨x.gnd,x.sub,by simp [remS,sel],by simp [sel],?_,?_,?_⟩
 ·intro j m e
  simp only [remS,List.getElem?_map,sel_get] at e
  cases q:σ[j]? with
  | none=>rw [q] at e; cases e
  | some i =>
   have hi:=sel_bound ok q
   rw [q] at e
   simp only [Option.map_some,Option.some.injEq] at e
   cases r:st.mu.getD i none with
   | none=>rw [r] at e; cases e
   | some m' =>
    rw [r] at e
    cases e
    have r':st.mu[i]? = some (some m'):=rg l1 hi r
    obtain ⟨a,fp,e1,e2,y⟩:=x.mus i m' r'
    have okm:okM σ m' = true:=by
     have:=List.all_eq_true.mp ok i (List.mem_of_getElem? q)
     rw [r] at this
     exact (Bool.and_eq_true_iff.mp this).2
    refine ⟨a,fp,?_,?_,remM_MH ?_ okm y⟩
    ·simp only [sel_get,q,Option.map_some,List.getD_eq_getElem?_getD,e1]; rfl
    ·simp only [sel_get,q,Option.map_some,List.getD_eq_getElem?_getD,e2]; rfl
    ·intro k b hk hb
     have:σ[σ.idxOf k]? = some k:=by
      rw [List.getElem?_eq_getElem (List.idxOf_lt_length_iff.mpr hk)]; simp
     simp only [sel_get,this,Option.map_some,List.getD_eq_getElem?_getD,hb]; rfl
 ·intro i j fi fj hij ei ej b hb
  obtain ⟨i',q1,q2⟩:=inv ei
  obtain ⟨j',r1,r2⟩:=inv ej
  refine x.sep i' j' fi fj (fun z=>hij ?_) q2 r2 b hb
  subst z
  obtain ⟨a1,a2⟩:=List.getElem?_eq_some_iff.mp q1
  obtain ⟨b1,b2⟩:=List.getElem?_eq_some_iff.mp r1
  exact (List.getElem_inj nd).mp (a2.trans b2.symm)
 ·intro j fi e b hb
  obtain ⟨i,q1,q2⟩:=inv e
  exact x.off i fi q2 b hb
noncomputable def backT (σ:List Nat) (N:Nat) (k:Nat):Nat:=if k < σ.length then σ.getD k 0 else N + (k - σ.length)
noncomputable def wbM (σ:List Nat) (mu' mu:List (Option M)):List (Option M) :=
 wb σ (mu'.map fun m=>m.map (remM (backT σ mu.length))) mu++(mu'.drop σ.length).map fun m=>m.map (remM (backT σ mu.length))
theorem remM_MH' {w:World} {ρ r:List Addr} {G h:Heap} {τ:Nat→Nat} (ht:∀ k a,ρ[k]? = some a→r[τ k]? = some a) {m:M} {a:Addr} {fp:List Addr} (x:MH w ρ G h m a fp):MH w r G h (remM τ m) a fp:=by
 have dn:∀ {l:List D} {vs:List Value},DenDs w ρ G l vs→DenDs w r G (l.map (remD τ)) vs:=by
  intro l
  induction l with
  | nil=>intro vs d; cases vs with
   | nil=>trivial
   | cons _ _=>exact d.elim
  | cons e l ih=>intro vs d; cases vs with
   | nil=>exact d.elim
   | cons v vs =>
    refine ⟨?_,ih d.2⟩
    have d1:=d.1
    cases e with
    | fro f=>exact d1
    | ref k=>obtain ⟨a,e,q⟩:=d1; exact ⟨a,ht k a e,q⟩
 cases m with
 | lst l=>obtain ⟨q,vs,n,e,d⟩:=x; exact ⟨q,vs,n,e,dn d⟩
 | dic ks l=>obtain ⟨q,z,vs,e,d,y⟩:=x; exact ⟨q,z,vs,e,dn d,y⟩
 | dicI ks l=>obtain ⟨q,vs,e,d,y⟩:=x; exact ⟨q,vs,e,dn d,y⟩
 | inst C ks l=>obtain ⟨dx,es,n,vs,q,ne,e1,e2,e3,d⟩:=x; exact ⟨dx,es,n,vs,q,ne,e1,e2,e3,dn d⟩
 | side s=>exact x
 | pd l=>exact x
 | rd l=>exact x
 | fz f=>exact x
 | cell d =>
  obtain ⟨q,v,e,y⟩:=x
  refine ⟨q,v,e,?_⟩
  cases d with
  | none=>cases v <;> first | exact y.elim | trivial
  | some d=>cases v with
   | none=>exact y.elim
   | some v =>
    cases d with
    | fro f=>exact y
    | ref k=>obtain ⟨a',e',q'⟩:=y; exact ⟨a',ht k a' e',q'⟩
theorem At.back (x:At c st p h) {σ:List Nat} (nd:σ.Nodup) (ok:okMs σ st.mu = true) {mu':List (Option M)} {q:Vw} {h':Heap}
  (b:Back c.w ⟨sel σ p.ρ 0,sel σ p.fps [],p.G⟩ h mu' q h') :
  At c { st with mu:=wbM σ mu' st.mu } ⟨p.ρ++q.ρ.drop σ.length,wb σ q.fps p.fps++q.fps.drop σ.length,q.G⟩ h' ∧
   ∀ d v,DenD c.w q.ρ q.G d v→DenD c.w (p.ρ++q.ρ.drop σ.length) q.G (remD (backT σ st.mu.length) d) v:=by
 have l1:=x.len1
 have l2:=x.len2
 obtain ⟨r,hr⟩:=b.ext.1
 have hr:q.ρ = sel σ p.ρ 0++r:=hr
 have s0:σ.length≤q.ρ.length:=by rw [hr]; simp [sel]
 have s1:mu'.length = q.ρ.length:=b.at_.len1
 have s2:q.fps.length = q.ρ.length:=b.at_.len2
 have bd:∀ {i:Nat},i∈σ→i < st.mu.length:=fun hi=>by
  obtain ⟨j,hj⟩:=List.mem_iff_getElem?.mp hi
  exact sel_bound ok hj
 have selFlat:∀ b',b'∈(sel σ p.fps []).flatten→E2 fun i fi=>A3 (i∈σ) (p.fps[i]? = some fi) (b'∈fi):=by
  intro b' hb
  obtain ⟨l,hl,hb⟩:=List.mem_flatten.mp hb
  simp only [sel,List.mem_map] at hl
  obtain ⟨i,hi,rfl⟩:=hl
  refine ⟨i,_,hi,?_,hb⟩
  have:=bd hi
  rw [List.getD_eq_getElem?_getD,List.getElem?_eq_getElem (by omega)]; rfl
 have keep:∀ b' o,h.get? b' = some o→(∀ i fi,i∈σ→p.fps[i]? = some fi→b' ∉ fi)→h'.get? b' = some o:=by
  intro b' o e n
  refine b.keep b' o e fun q=>?_
  obtain ⟨i,fi,q1,q2,q3⟩:=selFlat b' q
  exact n i fi q1 q2 q3
 have inv:∀ (i:Nat) fi,(wb σ q.fps p.fps++q.fps.drop σ.length)[i]? = some fi→(i ∉ σ∧p.fps[i]? = some fi)∨(∃ j:Nat,A3 (backT σ st.mu.length j = i) (j < σ.length→σ[j]? = some i) (q.fps[j]? = some fi)):=by
  intro i fi e
  rw [List.getElem?_append] at e
  split at e
  ·rename_i hi
   rw [wb_length] at hi
   by_cases q:i∈σ
   ·obtain ⟨j,hj⟩:=List.mem_iff_getElem?.mp q
    have jl:=(List.getElem?_eq_some_iff.mp hj).1
    rw [wb_in nd hj hi (by omega)] at e
    refine .inr ⟨j,?_,fun _=>hj,e⟩
    unfold backT
    rw [if_pos jl,List.getD_eq_getElem?_getD,hj]; rfl
   ·rw [wb_out q] at e; exact .inl ⟨q,e⟩
  ·rename_i hi
   rw [wb_length] at hi
   rw [wb_length,List.getElem?_drop] at e
   refine .inr ⟨σ.length + (i - p.fps.length),?_,fun z=>by omega,e⟩
   unfold backT
   rw [if_neg (by omega)]; omega
 have inj:∀ {j1 j2 i:Nat},backT σ st.mu.length j1 = i→(j1 < σ.length→σ[j1]? = some i)→backT σ st.mu.length j2 = i→(j2 < σ.length→σ[j2]? = some i)→j1 = j2:=by
  intro j1 j2 i a1 a2 b1 b2
  unfold backT at a1 b1
  by_cases c1:j1 < σ.length <;> by_cases c2:j2 < σ.length
  ·obtain ⟨y1,y2⟩:=List.getElem?_eq_some_iff.mp (a2 c1)
   obtain ⟨z1,z2⟩:=List.getElem?_eq_some_iff.mp (b2 c2)
   exact (List.getElem_inj nd).mp (y2.trans z2.symm)
  ·rw [if_neg c2] at b1
   have:=bd (List.mem_of_getElem? (a2 c1)); omega
  ·rw [if_neg c1] at a1
   have:=bd (List.mem_of_getElem? (b2 c2)); omega
  ·rw [if_neg c1] at a1; rw [if_neg c2] at b1; omega
 have ownI:∀ {j i:Nat} {fi},(j < σ.length→σ[j]? = some i)→q.fps[j]? = some fi→∀ b'∈fi,(∃ fo,A3 (i∈σ) (p.fps[i]? = some fo) (b'∈fo))∨h.get? b' = none:=by
  intro j i fi e1 e2 b' hb
  rcases b.own j fi e2 b' hb with z | z
  ·left
   by_cases jl:j < σ.length
   ·have e1:=e1 jl
    have:=sel_bound ok e1
    refine ⟨p.fps.getD i [],List.mem_of_getElem? e1,?_,?_⟩
    ·rw [List.getD_eq_getElem?_getD,List.getElem?_eq_getElem (by omega)]; rfl
    ·simpa [List.getD_eq_getElem?_getD,sel_get,e1] using z
   ·have:(sel σ p.fps ([]:List Addr)).getD j [] = []:=by
     rw [List.getD_eq_getElem?_getD,List.getElem?_eq_none (by simp [sel]; omega)]; rfl
    have z':b'∈(sel σ p.fps ([]:List Addr)).getD j []:=z
    rw [this] at z'; cases z'
  ·exact .inr z
 have rho:∀ k a,q.ρ[k]? = some a→(p.ρ++q.ρ.drop σ.length)[backT σ st.mu.length k]? = some a:=by
  intro k a e
  unfold backT
  by_cases kl:k < σ.length
  ·rw [if_pos kl]
   have e':=e
   rw [hr,List.getElem?_append_left (by simp [sel]; exact kl),sel_get,List.getElem?_eq_getElem kl] at e'
   have e3:p.ρ.getD σ[k] 0 = a:=Option.some.inj e'
   have hb:=bd (List.getElem_mem kl)
   rw [List.getD_eq_getElem?_getD,List.getElem?_eq_getElem kl]
   show (p.ρ++q.ρ.drop σ.length)[σ[k]]? = some a
   rw [List.getElem?_append_left (by omega)]
   rw [List.getD_eq_getElem?_getD,List.getElem?_eq_getElem (by omega)] at e3
   rw [List.getElem?_eq_getElem (by omega)]
   exact congrArg some e3
  ·rw [if_neg kl,List.getElem?_append_right (by omega),List.getElem?_drop]
   rw [show σ.length + (st.mu.length + (k - σ.length) - p.ρ.length) = k from by omega]; exact e
 refine ⟨{ x with gnd:=b.at_.gnd,sub:=b.at_.sub,new:=?_,g0:=x.g0.trans b.ext.2,keep:=?_,live:=fun b' o e=>by obtain ⟨o',q⟩:=x.live b' o e; exact b.live b' o' q,ns:=?_,frG:=?_,frF:=?_,len1:=?_,len2:=?_,mus:=?_,sep:=?_,off:=?_,own:=?_,lenF:=?_,cl:=fun y i e=>by obtain ⟨b,e1,e2,e3⟩:=x.cl y i e; exact ⟨b,by simp only; rw [List.getElem?_append_left (List.getElem?_eq_some_iff.mp e1).1]; exact e1,e2,e3⟩ },?_⟩
 ·intro b' o e
  rcases b.new b' o e with q | q | q
  ·exact x.new b' o q
  ·exact .inr (.inl (x.fresh q))
  ·obtain ⟨i,fi,q1,q2,q3⟩:=selFlat b' q
   rcases x.own i fi q2 b' q3 with r | r
   ·exact .inr (.inr (getD_flatten r))
   ·exact .inr (.inl r)
 ·intro b' o e n l
  refine keep b' o (x.keep b' o e n l) fun i fi q1 q2 q3=>?_
  rcases x.own i fi q2 b' q3 with r | r
  ·exact n (getD_flatten r)
  ·rw [r] at e; cases e
 ·obtain ⟨mm,⟨o,es,ep,ho,z⟩,b1⟩:=x.ns
  refine ⟨mm,⟨o,es,ep,keep _ _ ho fun i fi _ q2 q3=>x.frF i fi q2 q3,z⟩,fun i x' d e1 e2=>?_⟩
  obtain ⟨v,q1,q2⟩:=b1 i x' d e1 e2
  exact ⟨v,q1,q2.mono b.ext.2⟩
 ·show q.G.get? c.env.locals = none
  cases z:q.G.get? c.env.locals with
  | none=>rfl
  | some o =>
   rcases b.new _ o z with r | r | r
   ·have r':p.G.get? c.env.locals = some o:=r
    rw [x.frG] at r'; cases r'
   ·exact absurd x.locals_live (not_live r)
   ·obtain ⟨i,fi,q1,q2,q3⟩:=selFlat _ r
    exact absurd q3 (x.frF i fi q2)
 ·intro i fi e hb
  rcases inv i fi e with ⟨q1,q2⟩ | ⟨j,_,q1,q2⟩
  ·exact x.frF i fi q2 hb
  ·rcases ownI q1 q2 _ hb with ⟨fo,_,r1,r2⟩ | r
   ·exact x.frF i fo r1 r2
   ·exact absurd x.locals_live (not_live r)
 ·simp [wbM,wb_length,l1]; omega
 ·simp [wb_length,l2]; omega
 ·intro i m e
  simp only [wbM] at e
  have fin:∀ (j:Nat) (m1:M),backT σ st.mu.length j = i→mu'[j]? = some (some m1)→m = remM (backT σ st.mu.length) m1→(∀ fp,q.fps[j]? = some fp→(wb σ q.fps p.fps++q.fps.drop σ.length)[i]? = some fp) →
    E2 fun a fp=>A3 ((p.ρ++q.ρ.drop σ.length)[i]? = some a) ((wb σ q.fps p.fps++q.fps.drop σ.length)[i]? = some fp) (MH c.w (p.ρ++q.ρ.drop σ.length) q.G h' m a fp):=by
   intro j m1 hji hj em hfp
   obtain ⟨a,fp,e1,e2,y⟩:=b.at_.mus j m1 hj
   subst em
   exact ⟨a,fp,hji ▸ rho j a e1,hfp fp e2,remM_MH' rho y⟩
  have mapm:∀ {l:List (Option M)} {j:Nat} {m:M},(l.map fun m=>m.map (remM (backT σ st.mu.length)))[j]? = some (some m)→∃ m1,l[j]? = some (some m1)∧m = remM (backT σ st.mu.length) m1:=by
   intro l j m e
   rw [List.getElem?_map] at e
   cases z:l[j]? with
   | none=>rw [z] at e; cases e
   | some m0 =>
    rw [z] at e
    cases m0 with
    | none=>cases e
    | some m1=>cases e; exact ⟨m1,rfl,rfl⟩
  rw [List.getElem?_append] at e
  split at e
  ·rename_i hi
   rw [wb_length] at hi
   by_cases z:i∈σ
   ·obtain ⟨j,hj⟩:=List.mem_iff_getElem?.mp z
    have jl:=(List.getElem?_eq_some_iff.mp hj).1
    rw [wb_in nd hj hi (by rw [List.length_map]; omega)] at e
    obtain ⟨m1,e1,e2⟩:=mapm e
    refine fin j m1 ?_ e1 e2 fun fp hfp=>?_
    ·unfold backT
     rw [if_pos jl,List.getD_eq_getElem?_getD,hj]; rfl
    ·rw [List.getElem?_append_left (by rw [wb_length]; omega),wb_in nd hj (by omega) (by omega)]; exact hfp
   ·rw [wb_out z] at e
    obtain ⟨a,fp,e1,e2,y⟩:=x.mus i m e
    refine ⟨a,fp,?_,?_,y.frame b.ext.2 fun b' hb o r=>keep b' o r fun i' fi q1 q2 q3=>x.sep i i' fp fi (fun w=>z (w ▸ q1)) e2 q2 b' hb q3⟩
    ·show (p.ρ++q.ρ.drop σ.length)[i]? = some a
     rw [List.getElem?_append_left (by omega)]; exact e1
    ·show (wb σ q.fps p.fps++q.fps.drop σ.length)[i]? = some fp
     rw [List.getElem?_append_left (by rw [wb_length]; omega),wb_out z]; exact e2
  ·rename_i hi
   rw [wb_length] at hi
   rw [wb_length] at e
   obtain ⟨m1,e1,e2⟩:=mapm e
   rw [List.getElem?_drop] at e1
   refine fin (σ.length + (i - st.mu.length)) m1 ?_ e1 e2 fun fp hfp=>?_
   ·unfold backT
    rw [if_neg (by omega)]; omega
   ·rw [List.getElem?_append_right (by rw [wb_length]; omega),wb_length,List.getElem?_drop,l2,← l1]; exact hfp
 ·intro i j fi fj hij ei ej b' hb
  rcases inv i fi ei with ⟨q1,q2⟩ | ⟨j1,q0,q1,q2⟩ <;> rcases inv j fj ej with ⟨r1,r2⟩ | ⟨j2,r0,r1,r2⟩
  ·exact x.sep i j fi fj hij q2 r2 b' hb
  ·intro hb'
   rcases ownI r1 r2 _ hb' with ⟨fo,z0,z1,z2⟩ | z
   ·exact x.sep i j fi fo hij q2 z1 b' hb z2
   ·exact not_live z (x.off i fi q2 b' hb).2
  ·intro hb'
   rcases ownI q1 q2 _ hb with ⟨fo,z0,z1,z2⟩ | z
   ·exact x.sep i j fo fj hij z1 r2 b' z2 hb'
   ·exact not_live z (x.off j fj r2 b' hb').2
  ·refine b.at_.sep j1 j2 fi fj (fun z=>hij ?_) q2 r2 b' hb
   subst z
   exact q0.symm.trans r0
 ·intro i fi e b' hb
  rcases inv i fi e with ⟨q1,q2⟩ | ⟨j,q0,q1,q2⟩
  ·obtain ⟨y1,o2,y2⟩:=x.off i fi q2 b' hb
   refine ⟨?_,b.live b' o2 y2⟩
   show q.G.get? b' = none
   cases z:q.G.get? b' with
   | none=>rfl
   | some o =>
    rcases b.new b' o z with r | r | r
    ·have r':p.G.get? b' = some o:=r
     rw [y1] at r'; cases r'
    ·exact absurd ⟨o2,y2⟩ (not_live r)
    ·obtain ⟨i',fi',z1,z2,z3⟩:=selFlat _ r
     exact absurd z3 (x.sep i i' fi fi' (fun z=>q1 (z ▸ z1)) q2 z2 b' hb)
  ·exact b.at_.off j fi q2 b' hb
 ·intro i fi e b' hb
  rcases inv i fi e with ⟨q1,q2⟩ | ⟨j,q0,q1,q2⟩
  ·exact x.own i fi q2 b' hb
  ·rcases ownI q1 q2 _ hb with ⟨fo,_,z1,z2⟩ | z
   ·exact x.own i fo z1 b' z2
   ·exact .inr (x.fresh z)
 ·rw [List.length_append]; exact Nat.le_trans x.lenF (Nat.le_add_right _ _)
 ·intro d v hd
  cases d with
  | fro f=>exact hd
  | ref k=>obtain ⟨a,e,z⟩:=hd; exact ⟨a,rho k a e,z⟩
end
noncomputable def passDs (σ:List Nat) (st:St):List D→Option (List D)
 | []=>some []
 | d :: l=>match deref st d,passDs σ st l with
  | .fro f,some r=>some (.fro f :: r)
  | .mut_ i _,some r=>if σ.contains i then some (.ref (σ.idxOf i) :: r) else none
  | _,_=>none
section
variable {c:Cx} {A:Around} {st:St} {p:Vw} {h:Heap}
theorem passDs_den (a:At c st p h) {σ:List Nat}:∀ {ds r:List D} {vs:List Value},passDs σ st ds = some r→DenDs c.w p.ρ p.G ds vs→DenDs c.w (sel σ p.ρ 0) p.G r vs
 | [],r,[],e,_=>by unfold passDs at e; cases e; trivial
 | [],_,_ :: _,_,d=>d.elim
 | _ :: _,_,[],_,d=>d.elim
 | d :: l,r,v :: vs,e,n=>by
  unfold passDs at e
  split at e
  ·rename_i f r' hf hr
   cases e
   exact ⟨deref_fro a hf n.1,passDs_den a hr n.2⟩
  ·rename_i i m r' hm hr
   split at e
   ·rename_i hs
    cases e
    refine ⟨?_,passDs_den a hr n.2⟩
    obtain ⟨x,fp,rfl,z1,z2,z3,z4⟩:=deref_mut a hm n.1
    refine ⟨x,?_,rfl⟩
    have hi:i∈σ:=by simpa using hs
    have:σ[σ.idxOf i]? = some i:=by
     rw [List.getElem?_eq_getElem (List.idxOf_lt_length_iff.mpr hi)]; simp
    rw [sel_get,this]
    simp only [Option.map_some,List.getD_eq_getElem?_getD,z2]; rfl
   ·cases e
  ·cases e
theorem sel_range {α:Type} {l r:List α} {d:α}:sel (List.range l.length) (l++r) d = l:=by
 apply List.ext_getElem?
 intro i
 rw [sel_get]
 by_cases hi:i < l.length
 ·rw [List.getElem?_range hi]
  simp only [Option.map_some,List.getD_eq_getElem?_getD]
  rw [List.getElem?_append_left hi,List.getElem?_eq_getElem hi]; rfl
 ·rw [List.getElem?_eq_none (by simpa using hi),List.getElem?_eq_none (by omega)]; rfl
theorem At.toBack (x:At c st p h) {q:Vw} {ex:List Nat} (e1:c.G₀ = q.G) (e2:c.F₀ = q.fps) (e3:Ext q p) (e4:q.fps.length = q.ρ.length) (e5:c.h₀.get? c.env.locals = none) (nd:(List.range q.ρ.length++ex).Nodup) (hex:∀ i∈ex,q.ρ.length≤i)
  (ok:okMs (List.range q.ρ.length++ex) st.mu = true) :
  Back c.w q c.h₀ (remS (List.range q.ρ.length++ex) st.mu) ⟨sel (List.range q.ρ.length++ex) p.ρ 0,sel (List.range q.ρ.length++ex) p.fps [],p.G⟩ h:=by
 obtain ⟨⟨r,e3⟩,e3'⟩:=e3
 have l1:=x.len1
 have l2:=x.len2
 refine ⟨x.select nd ok,⟨⟨sel ex p.ρ 0,?_⟩,e3'⟩,?_,?_,x.live,?_⟩
 ·show sel (List.range q.ρ.length++ex) p.ρ 0 = q.ρ++sel ex p.ρ 0
  have:sel (List.range q.ρ.length++ex) p.ρ 0 = sel (List.range q.ρ.length) p.ρ 0++sel ex p.ρ 0:=by simp [sel]
  rw [this,e3,sel_range]
 ·intro b o e
  rcases x.new b o e with z | z | z
  ·exact .inl (e1 ▸ z)
  ·exact .inr (.inl z)
  ·exact .inr (.inr (e2 ▸ z))
 ·intro b o e n
  exact x.keep b o e (e2 ▸ n) fun z=>by rw [z,e5] at e; cases e
 ·intro i fi e b hb
  have e':(sel (List.range q.ρ.length++ex) p.fps ([]:List Addr))[i]? = some fi:=e
  rw [sel_get] at e'
  cases z:(List.range q.ρ.length++ex)[i]? with
  | none=>rw [z] at e'; cases e'
  | some i' =>
   rw [z] at e'
   have hb':=sel_bound ok z
   have e6:p.fps.getD i' [] = fi:=Option.some.inj e'
   have e7:p.fps[i']? = some fi:=by
    rw [List.getD_eq_getElem?_getD,List.getElem?_eq_getElem (by omega)] at e6
    rw [List.getElem?_eq_getElem (by omega)]; exact congrArg some e6
   rcases x.own i' fi e7 b hb with w | w
   ·by_cases il:i < q.ρ.length
    ·rw [List.getElem?_append_left (by simpa using il),List.getElem?_range il] at z
     cases z
     exact .inl (e2 ▸ w)
    ·rw [List.getElem?_append_right (by simpa using il)] at z
     have:=hex i' (List.mem_of_getElem? z)
     have w':b∈q.fps.getD i' []:=e2 ▸ w
     rw [List.getD_eq_getElem?_getD,List.getElem?_eq_none (by omega)] at w'
     cases w'
   ·exact .inr w
end
noncomputable def endK (n:Nat) (ex:List Nat) (K:D→List (Option M)→Prop):FD→St→Prop
 | .next,st=>okMs (List.range n++ex) st.mu = true∧K (.fro .none) (remS (List.range n++ex) st.mu)
 | .ret d,st=>okMs (List.range n++ex) st.mu = true∧match passDs (List.range n++ex) st [d] with
  | some [d']=>K d' (remS (List.range n++ex) st.mu)
  | _=>False
 | _,_=>False
theorem lookup_zip_rev {names:List Str} {vs:List Value} (nd:names.Nodup) (l:names.length≤vs.length) {i:Nat} {x:Str} {v:Value} (hx:names[i]? = some x) (hv:vs[i]? = some v) :
  (names.zip vs).reverse.lookup x = some v:=by
 have key:∀ (ps:List (Str × Value)),(ps.map (·.1)).Nodup→∀ x v,(x,v)∈ps→ps.lookup x = some v:=by
  intro ps
  induction ps with
  | nil=>intro _ x v h; cases h
  | cons q ps ih =>
   intro nd x v h
   obtain ⟨y,u⟩:=q
   simp only [List.map_cons,List.nodup_cons] at nd
   rw [List.lookup_cons]
   rcases List.mem_cons.mp h with e | e
   ·cases e; simp
   ·have:(x == y) = false:=by
     have hne:x ≠ y:=fun z=>nd.1 (z ▸ List.mem_map.mpr ⟨(x,v),e,rfl⟩)
     simpa using hne
    rw [this]; exact ih nd.2 x v e
 refine key _ ?_ x v ?_
 ·rw [List.map_reverse,List.map_fst_zip l]
  exact (List.reverse_perm _).nodup_iff.mpr nd
 ·rw [List.mem_reverse]
  refine List.mem_iff_getElem?.mpr ⟨i,?_⟩
  rw [List.getElem?_zip_eq_some]; exact ⟨hx,hv⟩
theorem DenDs.none {w:World} {ρ:List Addr} {G:Heap} {ds:List D} {vs:List Value} (h:DenDs w ρ G ds vs) {i:Nat} {d:D} (e:ds[i]? = some d):∃ v,vs[i]? = some v∧DenD w ρ G d v:=h.get e
theorem fn_okB {w:World} {L:Nat} {f:Addr} {fd:FuncData} {body:List Stmt} {names:List Str} {n:Nat} {pt:PT} (W:St→(FD→St→Prop)→Prop)
  (ho:∃ o,(KF w.params).lookup f = some o∧o.data = .func fd) (hcd:codeIn (KF w.params) fd.code fd.qualname = true) (hb:fd.body = .stmts body)
  (hbind:∀ (s:Shared) (vs:List Value),(KF w.params).In s.heap→vs.length = n→BindsTo s fd ⟨vs,[]⟩ ((names.take n).zip vs)) (hcell:∀ x∈fd.scope.names,x.2 ≠ .cell)
  (hco:fd.scope.isCoroutine = false) (hgen:fd.scope.isGenerator = false) (hk:fd.scope.kind = .function)
  (hloc:∀ x∈names,fd.scope.names.lookup x = some .local) (hnd:names.Nodup) (hn:n≤names.length) (hg:fd.globals = mainGlobals) (hbi:fd.builtins = builtinsNs)
  (hW:∀ (c:Cx) (A:Around),c.w = w→c.names = names→c.cl = []→c.env.scope = fd.scope→Room A L→∀ st,Sf c A (execs body c.env) st (W st))
  (hpt:∀ ds mu K,pt ds mu K→ds.length = n∧∃ ex:List Nat,A3 ((List.range mu.length++ex).Nodup) (∀ i∈ex,mu.length≤i) (W ⟨ds.map some++List.replicate (names.length - n) none,mu⟩ (endK mu.length ex K))):CallOK w (L + 1) (.ref f) pt:=by
 intro A s p mu ds vs K Q room x dn h k
 obtain ⟨len,ex,nd,hex,hw⟩:=hpt ds mu K h
 obtain ⟨o,ho,hdata⟩:=ho
 have lv:vs.length = n:=by rw [← dn.length]; exact len
 have x1:=x.len1
 have x2:=x.len2
 have hroom:A.depth < recursionLimit:=by
  have:=room.2.1
  show A.depth < 1000
  omega
 have tl:(names.take n).length = n:=by rw [List.length_take]; omega
 refine codeAny_call_def hroom (x.sub _ _ (x.gnd.K _ _ ho)) hdata (x.gnd.lim.keeps x.sub) ((codeRec_of x.gnd.K hcd).keeps x.sub) hb (hbind s vs (x.gnd.K.keeps x.sub) lv) hcell
  (fun y hy=>hloc _ (List.mem_of_mem_take (List.of_mem_zip hy).1)) (fun h₁ hns hkeep=>?_) hco hgen hk
 let c:Cx:=⟨w,callEnv fd s.heap.objs.size f,names,p.G,s.heap,p.fps,[]⟩
 have at_:At c ⟨ds.map some++List.replicate (names.length - n) none,mu⟩ p h₁:={
  gnd:=x.gnd
  sub:=x.sub.trans hkeep
  new:=fun b o e=>.inl e
  g0:=Le.refl _
  keep:=fun b o e _ _=>hkeep b o e
  live:=fun b o e=>⟨o,hkeep b o e⟩
  kind:=hk
  glob:=hg
  bi:=hbi
  ns:=⟨_,hns,fun i y d e1 e2=>by
   have e3:ds[i]? = some d:=by
    have e2':(ds.map some++List.replicate (names.length - n) none)[i]? = some (some d):=e2
    rw [List.getElem?_append] at e2'
    split at e2'
    ·rw [List.getElem?_map] at e2'
     cases q:ds[i]? with
     | none=>rw [q] at e2'; cases e2'
     | some d'=>rw [q] at e2'; cases e2'; rfl
    ·rw [List.getElem?_replicate] at e2'
     split at e2' <;> cases e2'
   obtain ⟨v,e4,e5⟩:=dn.get e3
   have il:i < n:=by have:=(List.getElem?_eq_some_iff.mp e3).1; omega
   refine ⟨v,lookup_zip_rev ((List.take_sublist _ _).nodup hnd) (by omega) (i:=i) ?_ e4,e5⟩
   rw [List.getElem?_take,if_pos il]; exact e1⟩
  nms:=fun i y e=>hloc y (List.mem_of_getElem? e)
  nod:=hnd
  frG:=by
   show p.G.get? s.heap.objs.size = none
   cases q:p.G.get? s.heap.objs.size with
   | none=>rfl
   | some o=>exact absurd (Heap.lt_size (x.sub _ _ q)) (Nat.lt_irrefl _)
  frF:=fun i fi e hb=>not_live get_size (x.off i fi e _ hb).2
  len1:=x1
  len2:=x2
  mus:=fun i m e=>by obtain ⟨a,fp,e1,e2,y⟩:=x.mus i m e; exact ⟨a,fp,e1,e2,by simpa using y.frame (r:=[]) (Le.refl _) fun b _ o q=>hkeep _ _ q⟩
  sep:=x.sep
  off:=fun i fi e b hb=>by obtain ⟨a,o,q⟩:=x.off i fi e b hb; exact ⟨a,o,hkeep _ _ q⟩
  own:=fun i fi e b hb=>.inl (by rw [List.getD_eq_getElem?_getD]; show b∈(p.fps[i]?).getD []; rw [e]; exact hb)
  lenF:=by show p.fps.length≤p.ρ.length; omega
  cl:=fun x i e=>by cases e }
 refine wpAny_mono (hW c (A.deeper c.env) rfl rfl rfl rfl (Room.deeper room) ⟨ds.map some++List.replicate (names.length - n) none,mu⟩ { s with heap:=h₁,toks:=s.toks + ((names.take n).zip vs).length } p _ (fun fl s'=>Q (match fl with | .ret v=>v | _=>.none) s') at_ hw ?_) (fun fl s' q=>q) (fun _ _ x=>x.elim)
 intro d st' f h' tk q hd a' ext n'
 rw [x1] at nd hex
 cases d with
 | next =>
  have n':f = .next:=n'
  subst n'
  obtain ⟨ok,hd⟩:=hd
  rw [x1] at ok hd
  refine k _ _ _ .none h' tk hd (a'.toBack (q:=p) rfl rfl ext x2 get_size nd hex ok) ?_
  show Den _ _ _ _
  unfold Den; rfl
 | brk=>exact hd.elim
 | cont=>exact hd.elim
 | ret d =>
  obtain ⟨v,rfl,n'⟩:=n'
  obtain ⟨ok,hd⟩:=hd
  rw [x1] at ok hd
  split at hd
  ·rename_i d' hd'
   exact k _ _ _ v h' tk hd (a'.toBack (q:=p) rfl rfl ext x2 get_size nd hex ok) (passDs_den a' (vs:=[v]) hd' ⟨n',trivial⟩).1
  ·exact hd.elim
theorem fn_ok {w:World} {L:Nat} {f:Addr} {fd:FuncData} {body:List Stmt} {names:List Str} {n:Nat} {pt:PT} (W:St→(FD→St→Prop)→Prop)
  (ho:∃ o,(KF w.params).lookup f = some o∧o.data = .func fd) (hcd:codeIn (KF w.params) fd.code fd.qualname = true) (hb:fd.body = .stmts body)
  (hbind:∀ vs:List Value,vs.length = n→bindArgs fd ⟨vs,[]⟩ = pure ((names.take n).zip vs)) (hcell:∀ x∈fd.scope.names,x.2 ≠ .cell)
  (hco:fd.scope.isCoroutine = false) (hgen:fd.scope.isGenerator = false) (hk:fd.scope.kind = .function)
  (hloc:∀ x∈names,fd.scope.names.lookup x = some .local) (hnd:names.Nodup) (hn:n≤names.length) (hg:fd.globals = mainGlobals) (hbi:fd.builtins = builtinsNs)
  (hW:∀ (c:Cx) (A:Around),c.w = w→c.names = names→c.cl = []→c.env.scope = fd.scope→Room A L→∀ st,Sf c A (execs body c.env) st (W st))
  (hpt:∀ ds mu K,pt ds mu K→ds.length = n∧∃ ex:List Nat,A3 ((List.range mu.length++ex).Nodup) (∀ i∈ex,mu.length≤i) (W ⟨ds.map some++List.replicate (names.length - n) none,mu⟩ (endK mu.length ex K))):CallOK w (L + 1) (.ref f) pt :=
 fn_okB W ho hcd hb (fun s vs _ h=>BindsTo.of_eq (hbind vs h)) hcell hco hgen hk hloc hnd hn hg hbi hW hpt
noncomputable def callD (σ:List Nat) (pt:PT) (ds:List D) (st:St) (K:D→St→Prop):Prop :=
 okMs σ st.mu = true∧match passDs σ st ds with
 | none=>False
 | some r=>pt r (remS σ st.mu) fun d mu'=>K (remD (backT σ st.mu.length) d) { st with mu:=wbM σ mu' st.mu }
section
variable {c:Cx} {A:Around} {st:St} {p:Vw} {h:Heap}
theorem callD_ok {s:Shared} {σ:List Nat} {pt:PT} {ds:List D} {vs:List Value} {L:Nat} {f:Value} {K:D→St→Prop} {Q:Value→Shared→Prop} (hok:CallOK c.w L f pt) (room:Room A L) (nd:σ.Nodup)
  (a:At c st p s.heap) (h:callD σ pt ds st K) (n:DenDs c.w p.ρ p.G ds vs)
  (k:∀ d st' v h' tk q,K d st'→At c st' q h'→Ext p q→DenD c.w q.ρ q.G d v→Q v { s with heap:=h',toks:=tk }):wpAny (model PM c.w) A (call f vs) Q NoE s:=by
 obtain ⟨h1,h2⟩:=h
 split at h2
 ·exact h2.elim
 ·rename_i r hr
  refine wpAny_call (hok A s ⟨sel σ p.ρ 0,sel σ p.fps [],p.G⟩ (remS σ st.mu) r vs _ Q room (a.select nd h1) (passDs_den a hr n) h2 ?_)
  intro d mu' q v h' tk hK bk dr
  obtain ⟨a',hd⟩:=a.back nd h1 bk
  exact k _ _ v h' tk _ hK a' ⟨⟨_,rfl⟩,bk.ext.2⟩ (hd d v dr)
theorem any_backTo {l:List Expr} {pos:Pos} {env:Env} (h:l.all notStar = true):(backTo pos (starEach l env)).any (·.1) = false:=by
 induction l with
 | nil=>rfl
 | cons e l ih =>
  simp only [List.all_cons,Bool.and_eq_true] at h
  rw [starEach_cons h.1]
  show (false || (backTo pos (starEach l env)).any (·.1)) = false
  rw [ih h.2]; rfl
theorem Sx.call {x:Str} {pos p0:Pos} {e:Expr} {rest:List Expr} {f:Value} {σ:List Nat} {pt:PT} {W:(List D→St→Prop)→Prop} {L:Nat} (hn:nsIn (KF c.w.params) mainGlobals x = some (some f)) (hk:c.env.kindOf x = some .globalImplicit) (hdb:(x == ("__debug__":Str)) = false)
  (hkeep:keepIn (KF c.w.params) f = true) (hplain:(e :: rest).all notStar = true) (hok:CallOK c.w L f pt) (room:Room A L) (nd:σ.Nodup) (hl:Sxs c A (spliced (backTo pos (starEach (e :: rest) c.env))) st W) :
  Sx c A (eval (.Call (.Name x p0) (e :: rest) [] pos) c.env) st fun K=>W fun ds st'=>callD σ pt ds st' K:=by
 intro s p K Q a w k
 obtain ⟨mg,mb,g1,g2,g3⟩:=a.gnd.T
 refine Call_Name rfl (Name_function_global a.kind hk (loadGlobal_global (by rw [a.glob]; exact g1.keeps a.sub) (mg_of a.gnd.K g1 hn) ?_) hdb)
 have fin:∀ (ds:List D) (st':St) (vs:List Value) (h':Heap) (tk:Nat) (q:Vw),callD σ pt ds st' K→At c st' q h'→Ext p q→DenDs c.w q.ρ q.G ds vs→wpAny (model PM c.w) A (PySem.call f ([]++vs)) Q NoE { s with heap:=h',toks:=tk } :=
  fun ds st' vs h' tk q kd a' ex n=>callD_ok (s:={ s with heap:=h',toks:=tk }) hok room nd a' kd n fun d st2 v h2 tk2 q2 k2 a2 e2 n2=>k d st2 v h2 tk2 q2 k2 a2 (ex.trans e2) n2
 simp only [List.all_cons,Bool.and_eq_true] at hplain
 refine callWith_K a.gnd.K hkeep (hl s p _ _ a w fun ds st' vs h' tk q kd a' ex n=>⟨a'.gnd.K.keeps a'.sub,fin ds st' vs h' tk q kd a' ex n⟩) (starEach_cons hplain.1) (any_backTo hplain.2)
theorem Sx.call0 {x:Str} {pos p0:Pos} {f:Value} {σ:List Nat} {pt:PT} {L:Nat} (hn:nsIn (KF c.w.params) mainGlobals x = some (some f)) (hk:c.env.kindOf x = some .globalImplicit) (hdb:(x == ("__debug__":Str)) = false)
  (hkeep:keepIn (KF c.w.params) f = true) (hok:CallOK c.w L f pt) (room:Room A L) (nd:σ.Nodup) :
  Sx c A (eval (.Call (.Name x p0) [] [] pos) c.env) st fun K=>callD σ pt [] st K:=by
 intro s p K Q a w k
 obtain ⟨mg,mb,g1,g2,g3⟩:=a.gnd.T
 refine Call_Name rfl (Name_function_global a.kind hk (loadGlobal_global (by rw [a.glob]; exact g1.keeps a.sub) (mg_of a.gnd.K g1 hn) ?_) hdb)
 exact callWith_K0 (a.gnd.K.keeps a.sub) hkeep (callD_ok (s:=s) (vs:=[]) hok room nd a w trivial fun d st2 v h2 tk2 q2 k2 a2 e2 n2=>k d st2 v h2 tk2 q2 k2 a2 e2 n2)
end
noncomputable def Cx.at_ (c:Cx) (G:Heap) (h:Heap) (F:List (List Addr)):Cx:=⟨c.w,c.env,c.names,G,h,F,c.cl⟩
section
variable {c:Cx} {A:Around} {st st':St} {p q:Vw} {h h':Heap}
theorem At.rebase (x:At c st p h):At (c.at_ p.G h p.fps) st p h:={ x with
 new:=fun b o e=>.inl e
 g0:=Le.refl _
 keep:=fun b o e _ _=>e
 live:=fun b o e=>⟨o,e⟩
 own:=fun i fi e b hb=>.inl (by rw [List.getD_eq_getElem?_getD]; show b∈(p.fps[i]?).getD []; rw [e]; exact hb)
 lenF:=Nat.le_of_eq x.len2 }
theorem At.unbase (x:At c st p h) (y:At (c.at_ p.G h p.fps) st' q h'):At c st' q h':={ y with
 new:=fun b o e=>by
  rcases y.new b o e with z | z | z
  ·exact x.new b o z
  ·exact .inr (.inl (x.fresh z))
  ·obtain ⟨fi,hfi,hb⟩:=List.mem_flatten.mp z
   obtain ⟨i,hi⟩:=List.mem_iff_getElem?.mp hfi
   rcases x.own i fi hi b hb with r | r
   ·exact .inr (.inr (getD_flatten r))
   ·exact .inr (.inl r)
 g0:=x.g0.trans y.g0
 keep:=fun b o e n l=>by
  refine y.keep b o (x.keep b o e n l) (fun z=>?_) l
  obtain ⟨fi,hfi,hb⟩:=List.mem_flatten.mp z
  obtain ⟨i,hi⟩:=List.mem_iff_getElem?.mp hfi
  rcases x.own i fi hi b hb with r | r
  ·exact n (getD_flatten r)
  ·rw [r] at e; cases e
 live:=fun b o e=>by obtain ⟨o',z⟩:=x.live b o e; exact y.live b o' z
 own:=fun i fi e b hb=>by
  rcases y.own i fi e b hb with z | z
  ·have z':b∈p.fps.getD i []:=z
   rw [List.getD_eq_getElem?_getD] at z'
   cases w:p.fps[i]? with
   | none=>rw [w] at z'; cases z'
   | some fo=>rw [w] at z'; exact x.own i fo w b z'
  ·exact .inr (x.fresh z)
 lenF:=by
  have:=x.lenF
  have h2:p.fps.length≤q.ρ.length:=y.lenF
  have:=x.len2
  omega }
end
noncomputable def plainV (e:Expr):Bool:=!(Nat.beq e.ctorIdx 8 || Nat.beq e.ctorIdx 9 || Nat.beq e.ctorIdx 10)
theorem swaps_of {v:Expr} {t:Option Expr} {n:Nat} {env:Env} (h:plainV v = true):swapsWith v t n env = pure false:=by
 cases v <;> first | rfl | exact Bool.noConfusion h
section
variable {c:Cx} {A:Around} {st:St}
theorem Sf.nil:Sf c A (execs [] c.env) st fun K=>K .next st:=by
 intro s p K Q a w k
 exact wpAny_execs_nil (k .next st .next s.heap s.toks p w a (.refl p) rfl)
theorem Sf.cons {y:Stmt} {l:List Stmt} {W:(FD→St→Prop)→Prop} {Wl:St→(FD→St→Prop)→Prop} (hy:Sf c A (exec y c.env) st W) (hl:∀ st',Sf c A (execs l c.env) st' (Wl st')) :
  Sf c A (execs (y :: l) c.env) st fun K=>W fun fd st'=>match fd with | .next=>Wl st' K | fd=>K fd st':=by
 intro s p K Q a w k
 refine wpAny_execs_cons (hy s p _ _ a w fun fd st' f h' tk q kd a' ex n=>?_)
 cases fd with
 | next=>cases n; exact hl st' _ q _ _ a' kd fun fd2 st2 f2 h2 tk2 q2 k2 a2 ex2 n2=>k _ _ _ h2 tk2 q2 k2 a2 (ex.trans ex2) n2
 | brk=>cases n; exact k _ _ _ h' tk q kd a' ex rfl
 | cont=>cases n; exact k _ _ _ h' tk q kd a' ex rfl
 | ret d=>obtain ⟨v,rfl,n⟩:=n; exact k _ _ _ h' tk q kd a' ex ⟨v,rfl,n⟩
theorem At.bind {p:Vw} {s:Shared} {i:Nat} {x:Str} {d:D} {v:Value} {Q:Unit→Shared→Prop} (a:At c st p s.heap) (hi:c.names[i]? = some x) (hd:DenD c.w p.ρ p.G d v)
  (k:∀ h' tk,At c { st with loc:=st.loc.set i (some d) } p h'→(∀ b o,b ≠ c.env.locals→s.heap.get? b = some o→h'.get? b = some o)→Q () { s with heap:=h',toks:=tk }):wpAny (model PM c.w) A (storeName c.env x v) Q NoE s:=by
 obtain ⟨m,n,r⟩:=a.ns
 exact wpAny_storeName_local (a.nms i x hi) n (fun h' hn hs=>k _ _ (a.store hi n r hn hs hd) fun b o hb e=>(hs.2 b hb).trans e) (by rw [a.kind]; rfl)
theorem Sf.assign {x:Str} {p' pos:Pos} {value:Expr} {i:Nat} {W:(D→St→Prop)→Prop} (hi:c.names[i]? = some x) (he:Sx c A (eval value c.env) st W) (hv:plainV value = true) :
  Sf c A (exec (.Assign [.Name x p'] value pos) c.env) st fun K=>W fun d st'=>K .next { st' with loc:=st'.loc.set i (some d) }:=by
 intro s p K Q a w k
 refine wpAny_Assign_Name (he s p _ _ a w fun d st' v h' tk q kd a' ex n=>?_) (swaps_of hv)
 exact a'.bind (s:={ s with heap:=h',toks:=tk }) hi n fun h2 tk2 a2 _=>k .next _ .next h2 tk2 q kd a2 ex rfl
theorem Sf.ite {t:Expr} {x y:List Stmt} {pos:Pos} {Wt:(Bool→St→Prop)→Prop} {Wx Wy:St→(FD→St→Prop)→Prop} (ht:Sb c A (isTrue t c.env (eval t c.env)) st Wt)
  (hx:∀ st',Sf c A (execs x c.env) st' (Wx st')) (hy:∀ st',Sf c A (execs y c.env) st' (Wy st')) :
  Sf c A (exec (.If t x y pos) c.env) st fun K=>Wt fun b st'=>if b = true then Wx st' K else Wy st' K:=by
 intro s p K Q a w k
 refine wpAny_If (ht s p _ _ a w fun b st' h tk q kd a' ex=>?_)
 split
 ·rename_i hv
  rw [if_pos hv] at kd
  exact hx st' _ q _ _ a' kd fun d st2 v2 h2 tk2 q2 k2 a2 ex2 n=>k _ _ _ h2 tk2 q2 k2 a2 (ex.trans ex2) n
 ·rename_i hv
  rw [if_neg hv] at kd
  exact hy st' _ q _ _ a' kd fun d st2 v2 h2 tk2 q2 k2 a2 ex2 n=>k _ _ _ h2 tk2 q2 k2 a2 (ex.trans ex2) n
theorem Sf.ret {e:Expr} {pos:Pos} {W:(D→St→Prop)→Prop} (he:Sx c A (eval e c.env) st W) :
  Sf c A (exec (.Return (some e) pos) c.env) st fun K=>W fun d st'=>K (.ret d) st':=by
 intro s p K Q a w k
 exact wpAny_Return_some (he s p _ _ a w fun d st' v h tk q kd a' ex n=>k _ _ _ h tk q kd a' ex ⟨v,rfl,n⟩)
theorem fro_dens {w:World} {ρ:List Addr} {G:Heap}:∀ {fs:List F} {vs:List Value},Dens w G fs vs→DenDs w ρ G (fs.map .fro) vs
 | [],[],_=>trivial
 | [],_ :: _,h=>by exact False.elim h
 | _ :: _,[],h=>by exact False.elim h
 | f :: fs,v :: vs,h=>by exact ⟨h.1,fro_dens h.2⟩
inductive Tg where
 | one (i:Nat)
 | many (l:List Nat)
 | cell (i:Nat)
noncomputable def cellF (i:Nat) (f:F) (st:St) (K:St→Prop):Prop:=match st.mu[i]? with
 | some (some (.cell _))=>K { st with mu:=st.mu.set i (some (.cell (some (.fro f)))) }
 | _=>False
noncomputable def setL:List Nat→List D→St→Option St
 | [],[],st=>some st
 | i :: l,d :: ds,st=>setL l ds { st with loc:=st.loc.set i (some d) }
 | _,_,_=>none
noncomputable def setT (t:Tg) (f:F) (st:St) (K:St→Prop):Prop:=match t,f with
 | .one i,f=>K { st with loc:=st.loc.set i (some (.fro f)) }
 | .many l,.tup fs=>(match setL l (fs.map .fro) st with
  | some st'=>K st'
  | none=>False)
 | .cell i,f=>cellF i f st K
 | _,_=>False
inductive NmsOK (ns:List Str):List Nat→List Expr→Prop
 | nil:NmsOK ns [] []
 | cons {i:Nat} {x:Str} {p:Pos} {l:List Nat} {es:List Expr} (h:ns[i]? = some x) (t:NmsOK ns l es):NmsOK ns (i :: l) (.Name x p :: es)
inductive TgOK (c:Cx):Tg→Expr→Prop
 | one {i:Nat} {x:Str} {p:Pos} (h:c.names[i]? = some x):TgOK c (.one i) (.Name x p)
 | cell {i:Nat} {x:Str} {p:Pos} (h:c.cl.lookup x = some i) (k:c.env.kindOf x = some .cell):TgOK c (.cell i) (.Name x p)
 | many {l:List Nat} {es:List Expr} {k:Nat} {p:Pos} (h:NmsOK c.names l es):TgOK c (.many l) (.Tuple es k p)
theorem cl_mem {α:Type}:∀ {l:List (Str × α)} {n:Str} {a:α},l.lookup n = some a→(n,a)∈l
 | [],_,_,h=>by cases h
 | (m,b) :: l,n,a,h=>by
  rw [List.lookup_cons] at h
  cases q:n == m with
  | true=>rw [q] at h; cases h; rw [eq_of_beq q]; simp
  | false=>rw [q] at h; exact List.mem_cons_of_mem _ (cl_mem h)
theorem assignEach_names {env:Env} {ns:List Str} {l:List Nat} {es:List Expr} (h:NmsOK ns l es):A3 (es.length = l.length) ((assignEach es env).length = es.length) ((assignEach es env).findIdx? (·.1) = none):=by
 induction h with
 | nil=>exact ⟨rfl,rfl,rfl⟩
 | cons h t ih =>
  obtain ⟨h0,h1,h2⟩:=ih
  exact ⟨congrArg Nat.succ h0,congrArg Nat.succ h1,by show List.findIdx? _ (_ :: assignEach _ env) = _; rw [List.findIdx?_cons,h2]; rfl⟩
theorem setL_len:∀ {l:List Nat} {ds:List D} {st st':St},setL l ds st = some st'→l.length = ds.length
 | [],[],_,_,_=>rfl
 | [],_ :: _,_,_,e=>nos e
 | _ :: _,[],_,_,e=>nos e
 | _ :: l,_ :: ds,_,_,e=>congrArg Nat.succ (setL_len (l:=l) (ds:=ds) e)
theorem setNames {p:Vw} {Q:Unit→Shared→Prop} {es:List Expr} {l:List Nat} {s0:Shared} {st':St} (n:NmsOK c.names l es)
  (k:∀ h' tk,At c st' p h'→(∀ b o,b ≠ c.env.locals→s0.heap.get? b = some o→h'.get? b = some o)→Q () { s0 with heap:=h',toks:=tk }) :
  ∀ {ds:List D} {vs:List Value} {st:St} {h:Heap} {tk:Tok},At c st p h→setL l ds st = some st'→DenDs c.w p.ρ p.G ds vs→(∀ b o,b ≠ c.env.locals→s0.heap.get? b = some o→h.get? b = some o)→wpAny (model PM c.w) A (assignInOrder ((assignEach es c.env).map (·.2)) vs) Q NoE { s0 with heap:=h,toks:=tk }:=by
 induction n with
 | nil =>
  intro ds vs st h tk a hs dn kp
  cases ds with
  | cons=>exact nos hs
  | nil =>
   cases vs with
   | cons=>exact False.elim dn
   | nil =>
    obtain rfl:=Option.some.inj hs
    exact wpAny_pure (k _ _ a kp)
 | cons e t ih =>
  intro ds vs st h tk a hs dn kp
  cases ds with
  | nil=>exact nos hs
  | cons d ds =>
   cases vs with
   | nil=>exact False.elim dn
   | cons v vs =>
    exact assignInOrder_cons (wpAny_assign_Name (a.bind (s:={ s0 with heap:=h,toks:=tk }) e dn.1 fun h2 tk2 a2 kp2=>ih a2 hs dn.2 fun b o hb q=>kp2 b o hb (kp b o hb q)))
theorem At.touch {p:Vw} {h h':Heap} {I:Addr} (x:At c st p h) (k:∀ b o,b ≠ I→h.get? b = some o→h'.get? b = some o) (i1:p.G.get? I = none) (i2:I ≠ c.env.locals) (i3:∀ (i:Nat) fi,p.fps[i]? = some fi→I ∉ fi) (i4:c.h₀.get? I = none) :
  At c st p h':={ x with
 sub:=fun b o e=>k b o (fun z=>by rw [z,i1] at e; cases e) (x.sub b o e)
 keep:=fun b o e n l=>k b o (fun z=>by rw [z,i4] at e; cases e) (x.keep b o e n l)
 live:=fun b o e=>by obtain ⟨o',q⟩:=x.live b o e; exact ⟨o',k b o' (fun z=>by rw [z,i4] at e; cases e) q⟩
 ns:=by obtain ⟨m,⟨o,es,ep,ho,r⟩,b⟩:=x.ns; exact ⟨m,⟨o,es,ep,k _ _ (fun z=>i2 z.symm) ho,r⟩,b⟩
 mus:=fun i m e=>by obtain ⟨a,fp,e1,e2,y⟩:=x.mus i m e; exact ⟨a,fp,e1,e2,by simpa using y.frame (r:=[]) (Le.refl _) fun b hb o q=>k _ _ (fun z=>i3 i fp e2 (z ▸ hb)) q⟩
 off:=fun i fi e b hb=>by obtain ⟨a,o,q⟩:=x.off i fi e b hb; exact ⟨a,o,k _ _ (fun z=>i3 i fi e (z ▸ hb)) q⟩ }
structure ItAt (c:Cx) (A:Around) (t:Expr) (I:Addr) (fp:List Addr) (items:List F) (G:Heap) (P:Nat→Value→Prop) (S:Nat→Heap→Prop):Prop where
 W:Walks PM c.w A I fp [I] items.length P S
 item:∀ i v,i < items.length→P i v→∃ f,items[i]? = some f∧Den c.w G f v
 fp:∀ b∈fp,b ≠ I→∃ o,G.get? b = some o
 live:∀ i h,S i h→∃ o,h.get? I = some o
 own:∀ i v (s:Shared) (Q:Unit→Shared→Prop),S i s.heap→(E2 fun G' f=>Den c.w G' f v)→Q () s→wpAny (model PM c.w) A (letOwnedTupleGo t (.ref I) v) Q NoE s
noncomputable def forW (t:Tg) (W:St→(FD→St→Prop)→Prop):List F→St→(FD→St→Prop)→Prop
 | [],st,K=>K .next st
 | f :: l,st,K=>setT t f st fun st1=>W st1 fun fd st2=>match fd with
  | .next=>forW t W l st2 K
  | .cont=>forW t W l st2 K
  | .brk=>K .next st2
  | .ret d=>K (.ret d) st2
theorem setT_ok {t:Tg} {te:Expr} {f:F} {st:St} {p:Vw} {s:Shared} {v:Value} {K:St→Prop} {Q:Unit→Shared→Prop} (hh:A.handled = none) (ht:TgOK c t te) (a:At c st p s.heap) (hs:setT t f st K) (dq:Den c.w p.G f v)
  (k:∀ st1 h3 tk3,K st1→At c st1 p h3→(∀ b o,b ≠ c.env.locals→(∀ i fi,t = .cell i→p.fps[i]? = some fi→b ∉ fi)→s.heap.get? b = some o→h3.get? b = some o)→Q () { s with heap:=h3,toks:=tk3 }):wpAny (model PM c.w) A (assign te c.env v) Q NoE s:=by
 cases ht with
 | one ht=>exact wpAny_assign_Name (a.bind (d:=.fro f) ht dq fun h3 tk3 a3 kp3=>k _ h3 tk3 hs a3 fun b o hb _ e=>kp3 b o hb e)
 | @many l es ek ep hT =>
  cases f with
  | tup fs =>
   change (match setL l (fs.map .fro) st with | some st'=>K st' | none=>False) at hs
   cases hs1:setL l (fs.map .fro) st with
   | none=>rw [hs1] at hs; exact hs.elim
   | some st1 =>
    rw [hs1] at hs
    obtain ⟨T,vs,rfl,hT0,dvs⟩:=dq
    have l2:=setL_len hs1
    rw [List.length_map] at l2
    obtain ⟨n0,n1,n2⟩:=assignEach_names (env:=c.env) hT
    refine assign_Tuple_tuple hh (hT0.keeps a.sub) (by rw [n1,n0,l2,dvs.length]; rfl) n2 fun h3 he=>?_
    have le3:Le s.heap h3:=fun b o e=>he b o (fun z=>by rw [z,show s.heap.get? _ = none from get_size] at e; exact nos e) e
    exact setNames (s0:={ s with heap:=h3 }) hT (fun h4 tk4 a4 kp4=>k _ h4 tk4 hs a4 fun b o hb _ e=>kp4 b o hb (le3 b o e)) (a.grown le3) hs1 (fro_dens dvs) fun b o _ e=>e
  | _=>exact False.elim hs
 | @cell ci x xp hc1 hc2 =>
  change cellF ci f st K at hs
  unfold cellF at hs
  split at hs
  ·rename_i d0 hd
   obtain ⟨b,e1,e2,e3⟩:=a.cl _ ci (cl_mem hc1)
   obtain ⟨b',fp',r1,r2,rfl,v0,hv,dv⟩:=a.mus ci _ hd
   rw [e1] at r1
   obtain rfl:=Option.some.inj r1
   refine wpAny_assign_Name (wpAny_storeName_cell a.kind hc2 e2 hv fun h3 hc hs'=>?_)
   have a3:=a.updM (h':=h3) (m:=.cell (some (.fro f))) (fp':=[b]) e1 r2 (fun b o hb e=>(hs'.2 b (by simpa using hb)).trans e) (fun b hb=>by rw [List.mem_singleton] at hb; subst hb; obtain ⟨o,ho,_⟩:=hc; exact ⟨o,ho⟩)
    ⟨rfl,some v,hc,dq⟩ (fun b hb=>.inl hb)
   have sf:p.fps.set ci [b] = p.fps:=by
    apply List.ext_getElem?
    intro i
    by_cases z:ci = i
    ·subst z
     rw [List.getElem?_set_self (List.getElem?_eq_some_iff.mp r2).1,r2]
    ·rw [List.getElem?_set_ne z]
   rw [sf] at a3
   exact k _ h3 s.toks hs a3 fun b' o _ hn e=>(hs'.2 b' fun z=>hn ci [b] rfl r2 (by rw [z]; exact List.mem_singleton.mpr rfl)).trans e
  ·exact hs.elim
theorem loop_ok {t:Tg} {te:Expr} {body:List Stmt} {I:Addr} {fp:List Addr} {items:List F} {G:Heap} {P:Nat→Value→Prop} {S:Nat→Heap→Prop} {s:Shared} {p:Vw} {W:St→(FD→St→Prop)→Prop} {K:FD→St→Prop} {Q:Flow→Shared→Prop} {E:Value→Shared→Prop}
  (hh:A.handled = none) (it:ItAt c A te I fp items G P S) (ht:TgOK c t te)
  (hW:∀ c':Cx,c'.w = c.w→c'.env = c.env→c'.names = c.names→c'.cl = c.cl→∀ st',Sf c' A (execs body c'.env) st' (W st'))
  (a:At c st p s.heap) (hG:Le G p.G) (h0:S 0 s.heap) (i1:p.G.get? I = none) (i2:I ≠ c.env.locals) (i3:∀ (i:Nat) fi,p.fps[i]? = some fi→I ∉ fi) (i4:c.h₀.get? I = none) (hw:forW t W items st K)
  (k:∀ d st' f h' tk q,K d st'→At c st' q h'→Ext p q→DenF c.w q d f→Q f { s with heap:=h',toks:=tk }) :
  codeAny (model PM c.w) A (.forLoop te (.ref I) body [] c.env) (fun r s'=>match r with | .ok f=>Q f s' | .error e=>E e s') s:=by
 refine codeAny_forLoop_any (fun n s'=>E5 fun i st' q h' tk=>A9 (s' = { s with heap:=h',toks:=tk }) (i≤items.length) (n = items.length - i) (At c st' q h') (Ext p q) (S i h') (q.G.get? I = none) (∀ (i:Nat) fi,q.fps[i]? = some fi→I ∉ fi) (forW t W (items.drop i) st' K)) ?_ items.length
  ⟨0,st,p,s.heap,s.toks,rfl,Nat.zero_le _,rfl,a,.refl p,h0,i1,i3,hw⟩
 rintro n s' ⟨i,st',q,h',tk,rfl,hi,rfl,a',ex,hS,j1,j3,hw'⟩
 rcases Nat.lt_or_ge i items.length with lt | ge
 ·refine it.W.item i _ _ _ lt hS fun v h2 tk2 hP hS2 kp=>?_
  obtain ⟨f,ef,df⟩:=it.item i v lt hP
  have a2:At c st' q h2:=a'.touch (fun b o hb e=>kp b o (by simpa using hb) e) j1 i2 j3 i4
  have dq:Den c.w q.G f v:=Den.mono (hG.trans ex.2) f v df
  refine wpAny_mono (it.own (i + 1) v { s with heap:=h2,toks:=tk2 } _ hS2 ⟨_,f,df⟩ ?_) (fun _ _ x=>x) (fun _ _ x=>x.elim)
  have hd:items.drop i = f :: items.drop (i + 1):=by
   obtain ⟨l1,l2⟩:=List.getElem?_eq_some_iff.mp ef
   rw [List.drop_eq_getElem_cons l1,l2]
  rw [hd] at hw'
  unfold forW at hw'
  have fin:∀ st1 h3 tk3,At c st1 q h3→(∀ b∈fp,∀ o,h2.get? b = some o→h3.get? b = some o)→W st1 (fun fd st2=>match fd with
     | .next=>forW t W (items.drop (i + 1)) st2 K
     | .cont=>forW t W (items.drop (i + 1)) st2 K
     | .brk=>K .next st2
     | .ret d=>K (.ret d) st2)→wpAny (model PM c.w) A (execs body c.env) (fun f s₃=>match f with
      | .next | .cont=>∃ m,m < items.length - i∧E5 fun i st' q h' tk=>A9 (s₃ = { s with heap:=h',toks:=tk }) (i≤items.length) (m = items.length - i) (At c st' q h') (Ext p q) (S i h') (q.G.get? I = none) (∀ (i:Nat) fi,q.fps[i]? = some fi→I ∉ fi) (forW t W (items.drop i) st' K)
      | .brk=>Q .next s₃
      | .ret v=>Q (.ret v) s₃) NoE { s with heap:=h3,toks:=tk3 }:=by
   intro st1 h3 tk3 a3 kp3 hw3
   refine hW (c.at_ q.G h3 q.fps) rfl rfl rfl rfl st1 { s with heap:=h3,toks:=tk3 } q _ _ a3.rebase hw3 fun fd st4 fl h4 tk4 q4 k4 a4 ex4 n4=>?_
   have a5:=a3.unbase a4
   have notIn:I ∉ q.fps.flatten:=fun z=>by
    obtain ⟨fi,hfi,hb⟩:=List.mem_flatten.mp z
    obtain ⟨i',hi'⟩:=List.mem_iff_getElem?.mp hfi
    exact j3 i' fi hi' hb
   have hS3:S (i + 1) h3:=it.W.frame _ _ _ hS2 kp3
   obtain ⟨oI,hoI⟩:=it.live _ _ hS3
   have hS4:S (i + 1) h4:=it.W.frame _ _ _ hS3 fun b hb o e=>by
    by_cases y:b = I
    ·subst y
     exact a4.keep b o e notIn i2
    ·obtain ⟨o',ho'⟩:=it.fp b hb y
     have e1:=a3.sub _ _ ((hG.trans ex.2) b o' ho')
     rw [e] at e1
     cases e1
     exact a4.sub _ _ (ex4.2 _ _ ((hG.trans ex.2) b _ ho'))
   have j1':q4.G.get? I = none:=by
    cases z:q4.G.get? I with
    | none=>rfl
    | some o =>
     rcases a4.new I o z with y | y | y
     ·have y':q.G.get? I = some o:=y
      rw [j1] at y'; cases y'
     ·have y':h3.get? I = none:=y
      rw [hoI] at y'; cases y'
     ·exact absurd y notIn
   have j3':∀ (i:Nat) fi,q4.fps[i]? = some fi→I ∉ fi:=by
    intro i' fi e hb
    rcases a4.own i' fi e I hb with y | y
    ·exact notIn (getD_flatten y)
    ·have y':h3.get? I = none:=y
     rw [hoI] at y'; cases y'
   cases fd with
   | next=>cases n4; exact ⟨_,by omega,i + 1,st4,q4,h4,tk4,rfl,lt,rfl,a5,ex.trans ex4,hS4,j1',j3',k4⟩
   | cont=>cases n4; exact ⟨_,by omega,i + 1,st4,q4,h4,tk4,rfl,lt,rfl,a5,ex.trans ex4,hS4,j1',j3',k4⟩
   | brk=>cases n4; exact k _ _ _ _ _ _ k4 a5 (ex.trans ex4) rfl
   | ret d=>obtain ⟨v,rfl,n4⟩:=n4; exact k _ _ _ _ _ _ k4 a5 (ex.trans ex4) ⟨v,rfl,n4⟩
  refine wpAny_mono (setT_ok (s:={ s with heap:=h2,toks:=tk2 }) (Q:=fun _ s₂=>wpAny (model PM c.w) A (execs body c.env) _ _ s₂) hh ht a2 hw' dq fun st1 h3 tk3 hw3 a3 kp3=>wpAny_mono (fin st1 h3 tk3 a3 (fun b hb o e=>kp3 b o (fun z=>?_) (fun ci fi _ hf m=>?_) e) hw3) (fun _ _ x=>x) (fun _ _ x=>x.elim)) (fun _ _ x=>x) (fun _ _ x=>x.elim)
  ·by_cases y:b = I
   ·exact i2 (y ▸ z)
   ·obtain ⟨o',ho'⟩:=it.fp b hb y
    have:=(hG.trans ex.2) b o' ho'
    rw [z,a2.frG] at this; exact nos this
  ·by_cases y:b = I
   ·exact j3 ci fi hf (y ▸ m)
   ·obtain ⟨o',ho'⟩:=it.fp b hb y
    have:=(a2.off ci fi hf b m).1
    rw [(hG.trans ex.2) b o' ho'] at this
    exact son this
 ·have:i = items.length:=Nat.le_antisymm hi ge
  subst this
  refine it.W.done _ _ _ hS fun h2 tk2 kp=>?_
  have a2:At c st' q h2:=a'.touch (fun b o hb e=>kp b o (by simpa using hb) e) j1 i2 j3 i4
  rw [List.drop_length] at hw'
  unfold forW at hw'
  exact wpAny_execs_nil (k .next st' .next h2 tk2 q hw' a2 ex rfl)
end
section
variable {c:Cx} {A:Around} {st:St} {p:Vw}
noncomputable def noSlice (e:Expr):Bool:=!Nat.beq e.ctorIdx 26
theorem subscripted_of {e:Expr} {o i:Value} (h:noSlice e = true):subscripted e false o i = operate [o,i] (getItem o i):=by
 cases e <;> first | rfl | exact Bool.noConfusion h
theorem idxD_type {s:Shared} {d i:D} {u:Value} {K:D→Prop} (a:At c st p s.heap) (h:idxD d i st K) (n:DenD c.w p.ρ p.G d u) :
  E2 fun T id=>s.TypeIs u T∧typeLookup (.type T) "__getitem__" = pure (some (.builtin id)):=by
 unfold idxD at h
 generalize e1:deref st d = d1 at h
 cases h with
 | @tup l z f hf h =>
  have:=deref_fro a e1 n
  obtain ⟨x,vs,rfl,t,dn⟩:=this
  obtain ⟨o,ho,hc,_⟩:=t.keeps a.sub
  exact ⟨_,_,⟨o,ho,hc⟩,PySem.F.slot_tuple_getitem.lookup⟩
 | @lst l z f hf h =>
  have:=deref_fro a e1 n
  obtain ⟨x,vs,rfl,⟨tn,t⟩,dn⟩:=this
  exact ⟨_,_,(list_of_lobj (a.sub _ _ t)).typeIs,slot_list_getitem.lookup⟩
 | @dic ks l k f hf h =>
  have:=deref_fro a e1 n
  obtain ⟨z,x,vs,rfl,⟨o,es,ep,ho,r⟩,dn,len⟩:=this
  have t':s.heap.DictOf (strKind PM c.w) x ((ks.map nm).zip vs):=⟨o,es,ep,a.sub _ _ ho,r⟩
  exact ⟨_,_,t'.typeIs,slot_dict_getitem.lookup⟩
 | @dicI ks l k f hf h =>
  have:=deref_fro a e1 n
  obtain ⟨x,vs,rfl,⟨o,es,ep,ho,r⟩,dn,len⟩:=this
  have t':s.heap.DictOf (intKind PM c.w) x (ks.zip vs):=⟨o,es,ep,a.sub _ _ ho,r⟩
  exact ⟨_,_,t'.typeIs,slot_dict_getitem.lookup⟩
 | @mlst j l z f hf h =>
  obtain ⟨x,fp,rfl,y1,y2,y3,rfl,vs,nn,y4,y5⟩:=deref_mut a e1 n
  exact ⟨_,_,(list_of_lobj y4).typeIs,slot_list_getitem.lookup⟩
 | @mdic j ks l k f hf h =>
  obtain ⟨x,fp,rfl,y1,y2,y3,rfl,z,vs,y4,y5,y6⟩:=deref_mut a e1 n
  exact ⟨_,_,y4.typeIs,slot_dict_getitem.lookup⟩
theorem Sx.idx {e i:Expr} {pos:Pos} {We:(D→St→Prop)→Prop} {Wi:St→(D→St→Prop)→Prop} (he:Sx c A (eval e c.env) st We) (hi:∀ st',Sx c A (eval i c.env) st' (Wi st')) (hs:noSlice i = true) :
  Sx c A (eval (.Subscript e i pos) c.env) st fun K=>We fun d st1=>Wi st1 fun j st2=>idxD d j st2 fun r=>K r st2:=by
 intro s p K Q a w k
 refine Subscript_ (he s p _ _ a w fun d1 st1 v1 h1 tk1 q1 k1 a1 e1 n1=>?_)
 refine hi st1 _ q1 _ _ a1 k1 fun d2 st2 v2 h2 tk2 q2 k2 a2 e2 n2=>?_
 obtain ⟨T,id,hT,hl⟩:=idxD_type (s:={ s with heap:=h2,toks:=tk2 }) a2 k2 (e2.den n1)
 exact tail_any hT hl (idxD_ok (s:={ s with heap:=h2,toks:=tk2 }) a2 k2 (e2.den n1) n2 fun d z tk kd nd=>k d st2 z h2 tk q2 kd a2 (e1.trans e2) nd) (subscripted_of hs)
theorem notSet {e:Expr} {env:Env} (h:plainR e = true) (x:Value):foldedSetIterable e env x = pure x:=by
 cases e <;> first | rfl | exact Bool.noConfusion h
noncomputable def oneT:Tg→Bool
 | .one _=>true
 | .cell _=>true
 | _=>false
theorem letOwned_one {t:Tg} {te:Expr} {it v:Value} (ht:TgOK c t te) (h1:oneT t = true):letOwnedTupleGo te it v = pure ():=by
 cases ht with
 | many=>cases h1
 | one=>rfl
 | cell=>rfl
theorem Sf.forF {t:Tg} {te it:Expr} {body:List Stmt} {pos:Pos} {We:(D→St→Prop)→Prop} {W:St→(FD→St→Prop)→Prop} (hh:A.handled = none) (he:Sx c A (eval it c.env) st We) (hp:plainR it = true) (ht:TgOK c t te)
  (hW:∀ c':Cx,c'.w = c.w→c'.env = c.env→c'.names = c.names→c'.cl = c.cl→∀ st',Sf c' A (execs body c'.env) st' (W st')) :
  Sf c A (exec (.For te it body [] pos) c.env) st fun K=>We fun d st'=>match deref st' d with
   | .fro (.lst l)=>forW t W l st' K
   | .fro (.tup l)=>oneT t = true∧forW t W l st' K
   | .fro (.dic ks _)=>oneT t = true∧forW t W (ks.map .str) st' K
   | _=>False:=by
 intro s p K Q a w k
 refine wpAny_For (he s p _ _ a w fun d st' v h tk q kd a' ex n=>?_) (notSet hp)
 have nz:h.get? h.objs.size = none:=get_size
 have i1:q.G.get? h.objs.size = none:=by
  cases z:q.G.get? h.objs.size with
  | none=>rfl
  | some o=>exact absurd ⟨o,a'.sub _ _ z⟩ (not_live nz)
 have i2:h.objs.size ≠ c.env.locals:=fun z=>not_live nz (z ▸ a'.locals_live)
 have i3:∀ (i:Nat) fi,q.fps[i]? = some fi→h.objs.size ∉ fi:=fun i fi e hb=>not_live nz (a'.off i fi e _ hb).2
 have i4:=a'.fresh nz
 split at kd
 ·rename_i l e1
  have:=deref_fro a' e1 n
  obtain ⟨x,vs,rfl,⟨tn,t1⟩,dn⟩:=this
  have hx:x ≠ h.objs.size:=fun z=>by rw [z,i1] at t1; cases t1
  have hl:h.IsList x vs.toArray:=list_of_lobj (a'.sub _ _ t1)
  refine wpAny_pyIter_list (s:={ s with heap:=h,toks:=tk }) hl ?_
  refine loop_ok (s:={ s with heap:=h.push { cls:=.type "list_iterator",data:=.fields #[.ref x,.int 0 0] },toks:=tk }) (p:=q) (G:=q.G) (fp:=[h.objs.size,x]) (P:=fun i v=>vs.toArray[i]? = some v) (S:=fun i g=>g.IsListIter h.objs.size x i∧g.IsList x vs.toArray) hh ⟨?_,?_,?_,?_,?_⟩ ht hW (a'.push _) (Le.refl _) ⟨⟨_,Heap.get?_push_size _ rfl,rfl,rfl⟩,hl.at fun o e=>Heap.get?_push_of_some _ e⟩ i1 i2 i3 i4 kd ?_
  ·have:=Walks.list (prog:=PM) (w:=c.w) hh h.objs.size x hx vs.toArray
   rw [show vs.toArray.size = l.length from by simp [dn.length]] at this
   exact this
  ·intro i v hi hv
   obtain ⟨u,y1,y2⟩:=dn.get (List.getElem?_eq_getElem hi)
   rw [List.getElem?_toArray] at hv
   rw [y1] at hv; cases hv
   exact ⟨_,List.getElem?_eq_getElem hi,y2⟩
  ·intro b hb hne
   simp only [List.mem_cons,List.not_mem_nil,or_false] at hb
   rcases hb with rfl | rfl
   ·exact absurd rfl hne
   ·exact ⟨_,t1⟩
  ·rintro i g ⟨⟨o,ho,_⟩,_⟩; exact ⟨o,ho⟩
  ·rintro i v s' Q' ⟨z,_⟩ _ hQ
   cases ht with
   | one=>exact wpAny_pure hQ
   | cell=>exact wpAny_pure hQ
   | many=>cases v <;> first | exact wpAny_pure hQ | exact wpAny_letOwnedTupleGo_listiter z hQ
  ·exact fun fd st2 f h2 tk2 q2 k2 a2 ex2 n2=>k fd st2 f h2 tk2 q2 k2 a2 (ex.trans ex2) n2
 ·rename_i l e1
  obtain ⟨h1,kd⟩:=kd
  have:=deref_fro a' e1 n
  obtain ⟨x,vs,rfl,t1,dn⟩:=this
  have hx:x ≠ h.objs.size:=fun z=>by obtain ⟨o,ho,_⟩:=t1; rw [z,i1] at ho; cases ho
  have hl:h.IsTuple x vs.toArray:=t1.keeps a'.sub
  refine wpAny_pyIter_tuple (s:={ s with heap:=h,toks:=tk }) hl ?_
  refine loop_ok (s:={ s with heap:=h.push { cls:=.type "tuple_iterator",data:=.fields #[.ref x,.int 0 0] },toks:=tk }) (p:=q) (G:=q.G) (fp:=[h.objs.size,x]) (P:=fun i v=>vs.toArray[i]? = some v) (S:=fun i g=>g.IsTupleIter h.objs.size x i∧g.IsTuple x vs.toArray) hh ⟨?_,?_,?_,?_,?_⟩ ht hW (a'.push _) (Le.refl _) ⟨⟨_,Heap.get?_push_size _ rfl,rfl,rfl⟩,hl.push _⟩ i1 i2 i3 i4 kd ?_
  ·have:=Walks.tuple (prog:=PM) (w:=c.w) hh h.objs.size x hx vs.toArray
   rw [show vs.toArray.size = l.length from by simp [dn.length]] at this
   exact this
  ·intro i v hi hv
   obtain ⟨u,y1,y2⟩:=dn.get (List.getElem?_eq_getElem hi)
   rw [List.getElem?_toArray] at hv
   rw [y1] at hv; cases hv
   exact ⟨_,List.getElem?_eq_getElem hi,y2⟩
  ·intro b hb hne
   simp only [List.mem_cons,List.not_mem_nil,or_false] at hb
   rcases hb with rfl | rfl
   ·exact absurd rfl hne
   ·obtain ⟨o,ho,_⟩:=t1; exact ⟨o,ho⟩
  ·rintro i g ⟨⟨o,ho,_⟩,_⟩; exact ⟨o,ho⟩
  ·intro i v s' Q' _ _ hQ
   rw [letOwned_one ht h1]; exact wpAny_pure hQ
  ·exact fun fd st2 f h2 tk2 q2 k2 a2 ex2 n2=>k fd st2 f h2 tk2 q2 k2 a2 (ex.trans ex2) n2
 ·rename_i ks l e1
  obtain ⟨h1,kd⟩:=kd
  have:=deref_fro a' e1 n
  obtain ⟨z,x,vs,rfl,t1,dn,len,hsm⟩:=this
  have hx:x ≠ h.objs.size:=fun z=>by obtain ⟨o,es,ep,ho,_⟩:=t1; rw [z,i1] at ho; cases ho
  have t2:h.DictOf (strKind PM c.w) x ((ks.map nm).zip vs):=by obtain ⟨o,es,ep,ho,r⟩:=t1; exact ⟨o,es,ep,a'.sub _ _ ho,r⟩
  obtain ⟨ep,hat⟩:=t2.dictAt
  refine wpAny_pyIter_dict (s:={ s with heap:=h,toks:=tk }) hsm hat ?_
  have zl:((ks.map nm).zip vs).length = (ks.map F.str).length:=by simp [List.length_zip,len]
  refine loop_ok (s:={ s with heap:=h.push { cls:=.type "dict_keyiterator",data:=.fields #[.ref x,.int 0 0,.int ((ks.map nm).zip vs).length 0,.int ep 0] },toks:=tk }) (p:=q) (G:=q.G) (fp:=[h.objs.size,x])
   (P:=fun i v=>∃ k y,((ks.map nm).zip vs)[i]? = some (k,y)∧(strKind PM c.w).is k v = true) (S:=fun i g=>g.IsKeyIter h.objs.size x i ((ks.map nm).zip vs).length ep∧g.DictAt (strKind PM c.w) x ((ks.map nm).zip vs) ep) hh ⟨?_,?_,?_,?_,?_⟩ ht hW (a'.push _) (Le.refl _)
   ⟨⟨_,Heap.get?_push_size _ rfl,rfl,rfl⟩,hat.at' fun o e=>Heap.get?_push_of_some _ e⟩ i1 i2 i3 i4 kd ?_
  ·have:=Walks.dictKeys (prog:=PM) (w:=c.w) (knd:=strKind PM c.w) hh h.objs.size x hx ((ks.map nm).zip vs) ep
   rw [zl] at this ⊢
   exact this
  ·rintro i v hi ⟨k',y,hv,hk⟩
   rw [List.getElem?_zip_eq_some,List.getElem?_map] at hv
   cases w1:ks[i]? with
   | none=>rw [w1] at hv; cases hv.1
   | some k0 =>
    rw [w1] at hv
    have hv1:=Option.some.inj hv.1
    refine ⟨.str k0,by rw [List.getElem?_map,w1]; rfl,?_⟩
    unfold Den
    refine ⟨z k0 (List.mem_of_getElem? w1),?_⟩
    rw [hv1]
    exact Value.isStrOf_shape hk
  ·intro b hb hne
   simp only [List.mem_cons,List.not_mem_nil,or_false] at hb
   rcases hb with rfl | rfl
   ·exact absurd rfl hne
   ·obtain ⟨o,es,ep,ho,_⟩:=t1; exact ⟨o,ho⟩
  ·rintro i g ⟨⟨o,ho,_⟩,_⟩; exact ⟨o,ho⟩
  ·intro i v s' Q' _ _ hQ
   rw [letOwned_one ht h1]; exact wpAny_pure hQ
  ·exact fun fd st2 f h2 tk2 q2 k2 a2 ex2 n2=>k fd st2 f h2 tk2 q2 k2 a2 (ex.trans ex2) n2
 ·exact kd.elim
end
section
variable {c:Cx} {A:Around} {st:St} {p:Vw} {h h':Heap}
theorem At.fresh1 (x:At c st p h) {a:Addr} {o:Obj} (k:Le h h') (hn:h.get? a = none) (ho:h'.get? a = some o) :
  ∃ G',A3 (Le p.G G') (G'.get? a = some o) (At c st { p with G:=G' } h'):=by
 obtain ⟨G',l,g,a'⟩:=(x.grown k).freeze [a] (by
  intro b hb
  rw [List.mem_singleton] at hb
  subst hb
  exact ⟨.inl (x.fresh hn),fun e=>not_live hn (e ▸ x.locals_live),fun i fi e hb=>not_live hn (x.off i fi e _ hb).2⟩)
 exact ⟨G',l,g _ (by simp) _ ho,a'⟩
theorem At.freezeNew (x:At c st p h) {a:Addr} {o:Obj} (n1:c.h₀.get? a = none) (n2:a ≠ c.env.locals) (n3:∀ (i:Nat) fi,p.fps[i]? = some fi→a ∉ fi) (ho:h.get? a = some o) :
  ∃ G',A3 (Le p.G G') (G'.get? a = some o) (At c st { p with G:=G' } h):=by
 obtain ⟨G',l,g,a'⟩:=x.freeze [a] (by
  intro b hb
  rw [List.mem_singleton] at hb
  subst hb
  exact ⟨.inl n1,n2,n3⟩)
 exact ⟨G',l,g _ (by simp) _ ho,a'⟩
noncomputable def others (h:Heap) (L:Addr):List (Addr × Obj):=(List.range h.objs.size).filterMap fun b=>if b = L then none else (h.get? b).map fun o=>(b,o)
theorem others_mem {h:Heap} {L b:Addr} {o:Obj}:(b,o)∈others h L ↔ h.get? b = some o∧b ≠ L:=by
 unfold others
 rw [List.mem_filterMap]
 constructor
 ·rintro ⟨b',_,e⟩
  split at e
  ·cases e
  ·rename_i ne
   cases q:h.get? b' with
   | none=>rw [q] at e; cases e
   | some o'=>rw [q] at e; cases e; exact ⟨q,ne⟩
 ·rintro ⟨e,ne⟩
  refine ⟨b,List.mem_range.mpr (Heap.lt_size e),?_⟩
  rw [if_neg ne,e]; rfl
noncomputable def noHeap:Heap:=⟨#[],{}⟩
theorem noHeap_get {b:Addr}:noHeap.get? b = none:=by
 cases q:noHeap.get? b with
 | none=>rfl
 | some o=>exact absurd (Heap.lt_size q) (Nat.not_lt_zero _)
theorem frOf {L:Addr} {m:Str→Option Value} (n:h.Ns L m):Fr noHeap L h m:=⟨n,(fun b o e=>by rw [noHeap_get] at e; cases e),Nat.zero_le _⟩
theorem newsOf {L:Addr}:News noHeap L h (others h L):=fun q hq=>⟨(others_mem.mp hq).1,(others_mem.mp hq).2,noHeap_get⟩
theorem news_keep {L:Addr} {l:List (Addr × Obj)} (N:News noHeap L h' l) (s:∀ q∈others h L,q∈l):∀ b o,b ≠ L→h.get? b = some o→h'.get? b = some o :=
 fun b o ne e=>(N _ (s _ (others_mem.mpr ⟨e,ne⟩))).1
theorem At.bridge (x:At c st p h) {m:Str→Option Value} (hm:h.Ns c.env.locals m) (hm':h'.Ns c.env.locals m) (k:∀ b o,b ≠ c.env.locals→h.get? b = some o→h'.get? b = some o):At c st p h':={ x with
 sub:=fun b o e=>k b o (fun z=>by rw [z,x.frG] at e; cases e) (x.sub b o e)
 keep:=fun b o e n l=>k b o l (x.keep b o e n l)
 live:=fun b o e=>by
  obtain ⟨o',q⟩:=x.live b o e
  by_cases z:b = c.env.locals
  ·obtain ⟨o2,_,_,q2,_⟩:=hm'; exact ⟨o2,z ▸ q2⟩
  ·exact ⟨o',k _ _ z q⟩
 ns:=by
  obtain ⟨m2,n2,r2⟩:=x.ns
  refine ⟨m,hm',fun i y d e1 e2=>?_⟩
  obtain ⟨v,e3,e4⟩:=r2 i y d e1 e2
  refine ⟨v,?_,e4⟩
  rw [← e3]
  obtain ⟨o1,es1,ep1,ho1,hd1,_,r1⟩:=hm
  obtain ⟨o3,es3,ep3,ho3,hd3,_,r3⟩:=n2
  rw [ho1] at ho3
  cases ho3
  rw [hd1] at hd3
  cases hd3
  exact (r1 y).symm.trans (r3 y)
 mus:=fun i m e=>by obtain ⟨a,fp,e1,e2,y⟩:=x.mus i m e; exact ⟨a,fp,e1,e2,by simpa using y.frame (r:=[]) (Le.refl _) fun b hb o q=>k _ _ (fun z=>x.frF i fp e2 (z ▸ hb)) q⟩
 off:=fun i fi e b hb=>by obtain ⟨a,o,q⟩:=x.off i fi e b hb; exact ⟨a,o,k _ _ (fun z=>x.frF i fi e (z ▸ hb)) q⟩ }
theorem Sx.bi {x:Str} {p0 pos:Pos} {e:Expr} {f:Value} {W:(D→St→Prop)→Prop} {U:D→St→(D→St→Prop)→Prop} (hn:nsIn (KF c.w.params) mainGlobals x = some none) (hb:bootBuiltins x = some f) (hx:x ≠ "__name__") (hk:c.env.kindOf x = some .globalImplicit) (hdb:(x == ("__debug__":Str)) = false)
  (hcw:∀ {t:Sem Value} {Q:Value→Shared→Prop} {s:Shared},wpAny (model PM c.w) A t (fun v s₁=>wpAny (model PM c.w) A (PySem.call f [v]) Q NoE s₁) NoE s→wpAny (model PM c.w) A (callWith pos f [] [(false,t)] []) Q NoE s) (hs:notStar e = true)
  (hU:∀ (d:D) (st':St) (s:Shared) (p:Vw) (v:Value) (K:D→St→Prop) (Q:Value→Shared→Prop),At c st' p s.heap→DenD c.w p.ρ p.G d v→U d st' K→(∀ d st' v h' tk q,K d st'→At c st' q h'→Ext p q→DenD c.w q.ρ q.G d v→Q v { s with heap:=h',toks:=tk })→wpAny (model PM c.w) A (PySem.call f [v]) Q NoE s)
  (he:Sx c A (eval e c.env) st W):Sx c A (eval (.Call (.Name x p0) [e] [] pos) c.env) st fun K=>W fun d st'=>U d st' K:=by
 intro s p K Q a w k
 obtain ⟨mg,mb,g1,g2,g3⟩:=a.gnd.T
 have hse:starEach [e] c.env = [(false,eval e c.env)]:=by rw [starEach_cons hs]; rfl
 refine Call_Name1 (Name_function_global a.kind hk (loadGlobal_builtin (by rw [a.glob]; exact g1.keeps a.sub) (mg_none_of a.gnd.K g1 hn) (by rw [a.bi]; exact g2.keeps a.sub) (by rw [g3 x hx]; exact hb) ?_) hdb) hse
 refine hcw (he s p _ _ a w fun d st' v h tk q kd a' ex n=>?_)
 exact hU d st' { s with heap:=h,toks:=tk } q v K _ a' n kd fun d2 st2 v2 h2 tk2 q2 k2 a2 ex2 n2=>k _ _ _ h2 tk2 q2 k2 a2 (ex.trans ex2) n2
end
noncomputable def intsF:List F→Option (List Int)
 | []=>some []
 | .int i :: l=>match intsF l with
  | some r=>some (i :: r)
  | none=>none
 | _=>none
theorem intsF_are {w:World} {G:Heap}:∀ {l:List F} {ns:List Int} {vs:List Value},intsF l = some ns→Dens w G l vs→IntsAre vs ns
 | [],ns,[],e,_=>by unfold intsF at e; cases e; exact .nil
 | [],_,_ :: _,_,d=>by exact False.elim d
 | _ :: _,_,[],_,d=>by exact False.elim d
 | f :: l,ns,v :: vs,e,d=>by
  cases f <;> simp only [intsF,reduceCtorEq] at e
  split at e
  ·rename_i r hr
   cases e
   have:=d.1
   obtain ⟨t,rfl⟩:=this
   exact .cons _ _ (intsF_are hr d.2)
  ·cases e
theorem intsF_map (ns:List Int):intsF (ns.map .int) = some ns:=by
 induction ns with
 | nil=>rfl
 | cons n ns ih=>simp [intsF,ih]
theorem ints_dens {w:World} {G:Heap}:∀ {vs:List Value} {ns:List Int},IntsAre vs ns→Dens w G (ns.map .int) vs
 | _,_,.nil=>by unfold Dens; trivial
 | _,_,.cons n t r=>by
  show Dens w G (.int n :: _) _
  unfold Dens
  exact ⟨by unfold Den; exact ⟨t,rfl⟩,ints_dens r⟩
section
variable {c:Cx} {A:Around} {st:St} {p:Vw} {s:Shared} {K:D→St→Prop} {Q:Value→Shared→Prop}
theorem listAt {d:D} {v:Value} (a:At c st p s.heap) (n:DenD c.w p.ρ p.G d v) {l:List F} (e:deref st d = .fro (.lst l)):E2 fun x vs=>A3 (v = .ref x) (s.heap.IsList x vs.toArray) (Dens c.w p.G l vs):=by
 have:=deref_fro a e n
 obtain ⟨x,vs,rfl,⟨tn,t1⟩,dn⟩:=this
 exact ⟨x,vs,rfl,list_of_lobj (a.sub _ _ t1),dn⟩
noncomputable def lenU (d:D) (st:St) (K:D→St→Prop):Prop:=(∃ l,A3 (deref st d = .fro (.lst l)) (l.length≤1000000) (K (.fro (.int l.length)) st))∨E2 fun i l=>A3 (deref st d = .mut_ i (.lst l)) (l.length≤1000000) (K (.fro (.int l.length)) st)
theorem lenU_ok {d:D} {v:Value} (a:At c st p s.heap) (n:DenD c.w p.ρ p.G d v) (u:lenU d st K)
  (k:∀ d st' v h' tk q,K d st'→At c st' q h'→Ext p q→DenD c.w q.ρ q.G d v→Q v { s with heap:=h',toks:=tk }):wpAny (model PM c.w) A (PySem.call (.builtin "len") [v]) Q NoE s:=by
 have go:∀ {x:Addr} {vs:List Value} {n:Nat},s.heap.IsList x vs.toArray→n = vs.length→n≤1000000→K (.fro (.int n)) st→wpAny (model PM c.w) A (PySem.call (.builtin "len") [.ref x]) Q NoE s:=by
  intro x vs n hl e1 h1 h2
  rw [e1] at h1 h2
  refine call_len_list hl ?_ (k _ _ _ s.heap _ p h2 a (.refl p) (di (w:=c.w) (G:=p.G) _ _))
  rw [List.size_toArray]
  exact Int.lt_of_le_of_lt (Int.ofNat_le.mpr h1) (by decide)
 rcases u with ⟨l,e,h1,h2⟩ | ⟨j,l,e,h1,h2⟩
 ·obtain ⟨x,vs,rfl,hl,dn⟩:=listAt a n e
  exact go hl dn.length h1 h2
 ·obtain ⟨x,fp,rfl,_,_,_,rfl,vs,m,y4,dn⟩:=deref_mut a e n
  exact go (list_of_lobj y4) dn.length h1 h2
theorem lstFro {a:Addr} {vs:List Value} {l:List F} {n:Nat} {G:Heap} {w:World} (ho:G.get? a = some (lobj vs n)) (dn:Dens w G l vs):Den w G (.lst l) (.ref a):=by
 unfold Den
 exact ⟨a,vs,rfl,⟨n,ho⟩,dn⟩
noncomputable def sortU (d:D) (st:St) (K:D→St→Prop):Prop:=(E2 fun l ns=>A4 (deref st d = .fro (.lst l)) (l.length < 64) (intsF l = some ns) (∀ ns':List Int,ns'.Perm ns→ns'.Pairwise (·≤·)→K (.fro (.lst (ns'.map .int))) st)) ∨
 E2 fun ks l=>A3 (deref st d = .fro (.dicI ks l)) (ks.length < 64) (∀ ns':List Int,ns'.Perm ks→ns'.Pairwise (·≤·)→K (.fro (.lst (ns'.map .int))) st)
theorem sortU_ok {d:D} {v:Value} (hh:A.handled = none) (a:At c st p s.heap) (n:DenD c.w p.ρ p.G d v) (u:sortU d st K)
  (k:∀ d st' v h' tk q,K d st'→At c st' q h'→Ext p q→DenD c.w q.ρ q.G d v→Q v { s with heap:=h',toks:=tk }):wpAny (model PM c.w) A (PySem.call (.builtin "sorted") [v]) Q NoE s:=by
 rcases u with ⟨l,ns,e,u1,hns,u2⟩ | ⟨ks,l,e,u1,u2⟩
 ·obtain ⟨x,vs,rfl,hl,dn⟩:=listAt a n e
  refine sorted_ints hl (intsF_are hns dn) (by rw [← dn.length]; exact u1) fun out ns' a1 a2 a3=>?_
  obtain ⟨e1,he⟩:=sortedAll_at s.heap vs out
  have nz:s.heap.get? (s.heap.objs.size + 1) = none:=by
   cases q:s.heap.get? (s.heap.objs.size + 1) with
   | none=>rfl
   | some o=>exact absurd (Heap.lt_size q) (Nat.not_lt.mpr (Nat.le_succ _))
  obtain ⟨G',g1,g2,g3⟩:=a.fresh1 (fun b o=>sortedAll_old) nz he
  refine k _ _ _ _ s.toks { p with G:=G' } (u2 ns' a2 a3) g3 ⟨⟨[],by simp⟩,g1⟩ ?_
  refine lstFro (n:=e1) (vs:=out.toList) ?_ (ints_dens a1)
  rw [g2]
  simp [lobj,seqObj]
 ·have:=deref_fro a e n
  obtain ⟨x,vs,rfl,t1,dn,len,hsm⟩:=this
  have t2:s.heap.DictOf (intKind PM c.w) x (ks.zip vs):=by obtain ⟨o,es,ep,ho,r⟩:=t1; exact ⟨o,es,ep,a.sub _ _ ho,r⟩
  obtain ⟨ep,hat⟩:=t2.dictAt
  obtain ⟨m,hm,_⟩:=a.ns
  have zl:(ks.zip vs).length = ks.length:=by simp [List.length_zip,len]
  refine kdu_sorted (kdl_dict (knd:=intKind PM c.w) (kvs:=ks.zip vs) (ep:=ep) hsm) hh (frOf hm) newsOf hat (by rw [zl,sizeLine_eq]; omega) fun B h' tk us F' N' l1 hl hv=>?_
  have ia:IntsAre us ks:=by
   have:∀ (ks:List Int) (us:List Value),us.length = ks.length→(∀ (j:Nat) (v:Value) (z:Int),us[j]? = some v→ks[j]? = some z→∃ t,v = .int z t)→IntsAre us ks:=by
    intro ks
    induction ks with
    | nil=>intro us e _; cases us with
     | nil=>exact .nil
     | cons=>simp at e
    | cons z ks ih=>intro us e h; cases us with
     | nil=>simp at e
     | cons u us =>
      obtain ⟨t,rfl⟩:=h 0 u z rfl rfl
      exact .cons z t (ih us (by simpa using e) fun j v z' e1 e2=>h (j + 1) v z' (by simpa using e1) (by simpa using e2))
   refine this ks us (by rw [hl,zl]) fun j v z e1 e2=>?_
   obtain ⟨k',y,y1,y2⟩:=hv j v e1
   rw [List.getElem?_zip_eq_some,e2] at y1
   have:k' = z:=(Option.some.inj y1.1).symm
   subst this
   exact Value.isInt_shape y2
  refine wpAny_mono (ksk_lsort (its:=us.toArray) (n:=0) (vs:=us) (ns:=ks) (news':=fun o=>(B,o) :: others s.heap c.env.locals) F' N' (fun o=>.head fun q hq=>Nat.ne_of_lt (l1 q hq)) (by simp) ia u1 fun vs' ns' c' h2 F2 N2 y1 y2 y3 y4 _=>?_) (fun _ _ x=>x) (fun _ _ x=>x)
  have kp:=news_keep (h:=s.heap) N2 fun q hq=>List.mem_cons_of_mem _ hq
  have a2:=a.bridge hm F2.ns kp
  have hB:=(N2 _ (.head _)).1
  have nB:s.heap.get? B = none:=by
   cases q:s.heap.get? B with
   | none=>rfl
   | some o =>
    by_cases z:B = c.env.locals
    ·exact absurd z (N2 _ (.head _)).2.1
    ·exact absurd (l1 _ (others_mem.mpr ⟨q,z⟩)) (Nat.lt_irrefl _)
  obtain ⟨G',g1,g2,g3⟩:=a2.freezeNew (a:=B) (a.fresh nB) (fun z=>(N2 _ (.head _)).2.1 z) (fun i fi e hb=>not_live nB (a.off i fi e _ hb).2) hB
  refine k _ _ _ _ _ { p with G:=G' } (u2 ns' y3 y4) g3 ⟨⟨[],by simp⟩,g1⟩ ?_
  exact lstFro (n:=c') g2 (ints_dens y1)
end
noncomputable def putK:List Nat→Nat→List Nat
 | [],k=>[k]
 | k' :: ks,k=>if k' = k then k' :: ks else k' :: putK ks k
noncomputable def putV {α:Type}:List Nat→List α→Nat→α→List α
 | k' :: ks,x :: l,k,v=>if k' = k then v :: l else x :: putV ks l k v
 | _,_,_,v=>[v]
theorem putV_len {α:Type}:∀ {ks:List Nat} {l:List α} {k:Nat} {v:α},ks.length = l.length→(putK ks k).length = (putV ks l k v).length
 | [],[],k,v,_=>rfl
 | k' :: ks,x :: l,k,v,h=>by
  unfold putK putV
  split
  ·simpa using h
  ·simp [putV_len (k:=k) (v:=v) (show ks.length = l.length by simpa using h)]
theorem putK_mem {P:Nat→Prop}:∀ {ks:List Nat} {k:Nat},(∀ x∈ks,P x)→P k→∀ x∈putK ks k,P x
 | [],k,h,hk,x,hx=>by simp [putK] at hx; subst hx; exact hk
 | k' :: ks,k,h,hk,x,hx=>by
  unfold putK at hx
  split at hx
  ·exact h x hx
  ·rcases List.mem_cons.mp hx with e | e
   ·subst e; exact h _ (by simp)
   ·exact putK_mem (fun x q=>h x (by simp [q])) hk x e
theorem putK_len:∀ {ks:List Nat} {k:Nat},(putK ks k).length≤ks.length + 1
 | [],k=>by simp [putK]
 | k' :: ks,k=>by
  unfold putK
  split
  ·simp
  ·simp only [List.length_cons]; have:=putK_len (ks:=ks) (k:=k); omega
theorem putV_dens {w:World} {ρ:List Addr} {G:Heap} {k:Nat} {d:D} {v:Value}:∀ {ks:List Nat} {l:List D} {vs:List Value},ks.length = vs.length→DenDs w ρ G l vs→DenD w ρ G d v→DenDs w ρ G (putV ks l k d) (putV ks vs k v)
 | [],[],[],_,_,h=>⟨h,trivial⟩
 | [],[],_ :: _,e,_,_=>by simp at e
 | [],_ :: _,[],_,x,_=>x.elim
 | [],_ :: _,_ :: _,e,_,_=>by simp at e
 | _ :: _,[],[],e,_,_=>by simp at e
 | _ :: _,[],_ :: _,_,x,_=>x.elim
 | _ :: _,_ :: _,[],_,x,_=>x.elim
 | k' :: ks,x :: l,y :: vs,e,n,h=>by
  unfold putV
  split
  ·exact ⟨h,n.2⟩
  ·exact ⟨n.1,putV_dens (by simpa using e) n.2 h⟩
theorem stored_zip {k:Nat} {v:Value} (hk:k < nmL.length):∀ {ks:List Nat} {vs:List Value},ks.Nodup→(∀ k∈ks,k < nmL.length)→ks.length = vs.length→stored ((ks.map nm).zip vs) (nm k) v = ((putK ks k).map nm).zip (putV ks vs k v)
 | [],[],_,_,_=>rfl
 | k' :: ks,u :: vs,nd,h,e=>by
  have ih:=stored_zip (v:=v) hk (ks:=ks) (vs:=vs) (List.nodup_cons.mp nd).2 (fun x q=>h x (by simp [q])) (by simpa using e)
  unfold putK putV
  unfold stored at ih ⊢
  simp only [List.map_cons,List.zip_cons_cons,List.any_cons]
  by_cases q:k' = k
  ·subst q
   simp only [decide_true,Bool.true_or,if_true,List.map_cons,List.zip_cons_cons,List.cons.injEq,true_and]
   have:∀ {ks:List Nat} {vs:List Value},k' ∉ ks→(∀ k∈ks,k < nmL.length)→((ks.map nm).zip vs).map (fun kv=>if kv.1 = nm k' then (kv.1,v) else kv) = (ks.map nm).zip vs:=by
    intro ks
    induction ks with
    | nil=>intro vs _ _; rfl
    | cons k0 ks ih2=>intro vs nm_ hlt; cases vs with
     | nil=>rfl
     | cons u vs =>
      have h0:¬ nm k0 = nm k':=fun z=>nm_ (by rw [nm_inj (hlt k0 (by simp)) hk z]; simp)
      simp only [List.map_cons,List.zip_cons_cons,h0,if_false]
      rw [ih2 (fun z=>nm_ (by simp [z])) (fun x q=>hlt x (by simp [q]))]
   exact this (List.nodup_cons.mp nd).1 fun x q=>h x (by simp [q])
  ·have h0:¬ nm k' = nm k:=fun z=>q (nm_inj (h k' (by simp)) hk z)
   simp only [h0,q,decide_false,Bool.false_or,if_false,List.map_cons,List.zip_cons_cons]
   rw [← ih]
   split <;> simp [h0]
theorem putK_nodup:∀ {ks:List Nat} {k:Nat},ks.Nodup→(putK ks k).Nodup
 | [],k,_=>by simp [putK]
 | k' :: ks,k,nd=>by
  unfold putK
  split
  ·exact nd
  ·rename_i q
   obtain ⟨n1,n2⟩:=List.nodup_cons.mp nd
   refine List.nodup_cons.mpr ⟨fun z=>?_,putK_nodup n2⟩
   have:∀ {ks:List Nat},k'∈putK ks k→k'∈ks:=by
    intro ks
    induction ks with
    | nil=>intro z; simp [putK] at z; exact absurd z q
    | cons k0 ks ih =>
     intro z
     unfold putK at z
     split at z
     ·exact z
     ·rcases List.mem_cons.mp z with e | e
      ·simp [e]
      ·exact List.mem_cons_of_mem _ (ih e)
   exact n1 (this z)
noncomputable def putKI:List Int→Int→List Int
 | [],k=>[k]
 | k' :: ks,k=>if k' = k then k' :: ks else k' :: putKI ks k
noncomputable def putVI {α:Type}:List Int→List α→Int→α→List α
 | k' :: ks,x :: l,k,v=>if k' = k then v :: l else x :: putVI ks l k v
 | _,_,_,v=>[v]
theorem putVI_len {α:Type}:∀ {ks:List Int} {l:List α} {k:Int} {v:α},ks.length = l.length→(putKI ks k).length = (putVI ks l k v).length
 | [],[],k,v,_=>rfl
 | k' :: ks,x :: l,k,v,h=>by
  unfold putKI putVI
  split
  ·simpa using h
  ·simp [putVI_len (k:=k) (v:=v) (show ks.length = l.length by simpa using h)]
theorem putVI_dens {w:World} {ρ:List Addr} {G:Heap} {k:Int} {d:D} {v:Value}:∀ {ks:List Int} {l:List D} {vs:List Value},ks.length = vs.length→DenDs w ρ G l vs→DenD w ρ G d v→DenDs w ρ G (putVI ks l k d) (putVI ks vs k v)
 | [],[],[],_,_,h=>⟨h,trivial⟩
 | [],[],_ :: _,e,_,_=>by simp at e
 | [],_ :: _,[],_,x,_=>x.elim
 | [],_ :: _,_ :: _,e,_,_=>by simp at e
 | _ :: _,[],[],e,_,_=>by simp at e
 | _ :: _,[],_ :: _,_,x,_=>x.elim
 | _ :: _,_ :: _,[],_,x,_=>x.elim
 | k' :: ks,x :: l,y :: vs,e,n,h=>by
  unfold putVI
  split
  ·exact ⟨h,n.2⟩
  ·exact ⟨n.1,putVI_dens (by simpa using e) n.2 h⟩
theorem stored_zipI {k:Int} {v:Value}:∀ {ks:List Int} {vs:List Value},ks.Nodup→ks.length = vs.length→stored (ks.zip vs) k v = (putKI ks k).zip (putVI ks vs k v)
 | [],[],_,_=>rfl
 | k' :: ks,u :: vs,nd,e=>by
  have ih:=stored_zipI (k:=k) (v:=v) (ks:=ks) (vs:=vs) (List.nodup_cons.mp nd).2 (by simpa using e)
  unfold putKI putVI
  unfold stored at ih ⊢
  simp only [List.zip_cons_cons,List.any_cons]
  by_cases q:k' = k
  ·subst q
   simp only [decide_true,Bool.true_or,if_true,List.map_cons,List.zip_cons_cons,List.cons.injEq,true_and]
   have:∀ {ks:List Int} {vs:List Value},k' ∉ ks→(ks.zip vs).map (fun kv=>if kv.1 = k' then (kv.1,v) else kv) = ks.zip vs:=by
    intro ks
    induction ks with
    | nil=>intro vs _; rfl
    | cons k0 ks ih2=>intro vs nm_; cases vs with
     | nil=>rfl
     | cons u vs =>
      have h0:¬ k0 = k':=fun z=>nm_ (by rw [z]; simp)
      simp only [List.zip_cons_cons,List.map_cons,h0,if_false]
      rw [ih2 (fun z=>nm_ (by simp [z]))]
   exact this (List.nodup_cons.mp nd).1
  ·simp only [q,decide_false,Bool.false_or,if_false,List.zip_cons_cons]
   rw [← ih]
   split <;> simp [q]
theorem Ents.put {k:Nat} {v:Value} {hs:Int} {t:Tok} (hk:k < nmL.length):∀ {es:List DictEntry} {ks:List Nat} {vs:List Value},Ents es ks vs →
  Ents (nsPutIn (nm k).cps.size (nm k).cps.toList (fun | some e=>{ e with val:=v } | none=>⟨hs,.str (nm k) t,v⟩) es).1 (putK ks k) (putV ks vs k v)
 | [],[],[],_=>⟨⟨hk,t,rfl⟩,rfl,trivial⟩
 | e :: es,k' :: ks,v' :: vs,⟨⟨h0,t',h1⟩,h2,h3⟩=>by
  unfold nsPutIn putK putV
  rw [Value.isStrByCps_eq,isStr_nm h1,nm_beq h0 hk]
  by_cases z:k' = k
  ·subst z
   simp only [decide_true,if_true]
   exact ⟨⟨h0,t',h1⟩,rfl,h3⟩
  ·simp only [z,decide_false,Bool.false_eq_true,if_false]
   exact ⟨⟨h0,t',h1⟩,h2,Ents.put hk h3⟩
 | [],_ :: _,_,h=>h.elim
 | [],[],_ :: _,h=>h.elim
 | _ :: _,[],_,h=>h.elim
 | _ :: _,_ :: _,[],h=>h.elim
theorem Ents.len:∀ {es:List DictEntry} {ks:List Nat} {vs:List Value},Ents es ks vs→es.length = ks.length∧ks.length = vs.length
 | [],[],[],_=>⟨rfl,rfl⟩
 | e :: es,k :: ks,v :: vs,h=>by obtain ⟨a,b⟩:=Ents.len h.2.2; simp [a,b]
 | [],_ :: _,_,h=>h.elim
 | [],[],_ :: _,h=>h.elim
 | _ :: _,[],_,h=>h.elim
 | _ :: _,_ :: _,[],h=>h.elim
theorem Ents.seen {k:Nat}:∀ {es:List DictEntry} {ks:List Nat} {vs:List Value},Ents es ks vs→(getL (nm k) es).isSome = true:=by
 intro es ks vs h
 unfold getL
 split
 ·rfl
 ·have:es.any (·.refKey) = false:=by
   have:∀ {es:List DictEntry} {ks:List Nat} {vs:List Value},Ents es ks vs→es.any (·.refKey) = false:=by
    intro es
    induction es with
    | nil=>intros; rfl
    | cons e es ih=>intro ks vs h; cases ks with
     | nil=>exact h.elim
     | cons k ks=>cases vs with
      | nil=>exact h.elim
      | cons v vs =>
       obtain ⟨⟨_,t,h1⟩,_,h3⟩:=h
       simp only [List.any_cons,ih h3,Bool.or_false]
       unfold DictEntry.refKey
       rw [h1]
   exact this h
  rw [this]; rfl
noncomputable def fzF (st:St):M→Option F
 | .lst l=>(fros st l).map .lst
 | .dic ks l=>(fros st l).map (.dic ks)
 | .dicI ks l=>(fros st l).map (.dicI ks)
 | .inst C ks l=>if nodupB ks then (fros st l).map (.inst C ks) else none
 | .side s=>some (.dic (s.map (·.1)) (s.map fun x=>.lst [.int x.2.1,.lst (x.2.2.map .int)]))
 | .fz f=>some f
 | .cell _=>none
 | .pd _=>none
 | .rd _=>none
theorem Gets.of {w:World} {es:List DictEntry} {n:Nat}:∀ {es:List DictEntry} {n:Nat} {ks:List Nat} {vs:List Value},Ents es ks vs→ks.Nodup→Gets (dictOf es n) ks vs:=by
 intro es n ks vs he nd
 have key:∀ {k:Nat} {v:Value},k < nmL.length→lk ks vs k = some v→lookIn (nm k) (dictOf es n) = some (some v):=fun hk hl=>by rw [lookIn_dict]; exact he.look hk hl
 have lt:∀ {es:List DictEntry} {ks:List Nat} {vs:List Value},Ents es ks vs→∀ k∈ks,k < nmL.length:=by
  intro es
  induction es with
  | nil=>intro ks vs h; cases ks with
   | nil=>intro k hk; cases hk
   | cons k ks=>exact h.elim
  | cons e es ih=>intro ks vs h; cases ks with
   | nil=>exact h.elim
   | cons k ks=>cases vs with
    | nil=>exact h.elim
    | cons v vs =>
     intro x hx
     rcases List.mem_cons.mp hx with q | q
     ·subst q; exact h.1.1
     ·exact ih h.2.2 x q
 have lt1:=lt he
 have len:=(Ents.len he).2
 clear he lt
 have gen:∀ (ks':List Nat) (vs':List Value),ks'.length = vs'.length→ks'.Nodup→(∀ k∈ks',k < nmL.length)→(∀ {k:Nat} {v:Value},k < nmL.length→lk ks' vs' k = some v→lookIn (nm k) (dictOf es n) = some (some v))→Gets (dictOf es n) ks' vs':=by
  intro ks'
  induction ks' with
  | nil=>intro vs' e _ _ _; cases vs' with
   | nil=>unfold Gets; trivial
   | cons=>simp at e
  | cons k ks' ih=>intro vs' e nd h1 h2; cases vs' with
   | nil=>simp at e
   | cons v vs' =>
    unfold Gets
    obtain ⟨n1,n2⟩:=List.nodup_cons.mp nd
    refine ⟨h2 (h1 k (by simp)) (by unfold lk; rw [if_pos rfl]),ih vs' (by simpa using e) n2 (fun x q=>h1 x (by simp [q])) fun {k2 v2} hk hl=>h2 hk ?_⟩
    unfold lk
    by_cases z:k = k2
    ·exfalso
     subst z
     have:∀ {ks:List Nat} {vs:List Value} {v:Value},lk ks vs k = some v→k∈ks:=by
      intro ks
      induction ks with
      | nil=>intro vs v e; unfold lk at e; cases e
      | cons k0 ks ih=>intro vs v e; cases vs with
       | nil=>unfold lk at e; cases e
       | cons u vs =>
        unfold lk at e
        by_cases y:k0 = k
        ·simp [y]
        ·rw [if_neg y] at e; exact List.mem_cons_of_mem _ (ih e)
     exact n1 (this hl)
    ·rw [if_neg z]; exact hl
 exact gen ks vs len nd lt1 key
theorem SideL.den {w:World} {h G':Heap} {s:List (Nat × Int × List Int)} {kvs:List (Str × Value)} {fp:List Addr} (x:SideL w h s kvs fp):(∀ b∈fp,∀ o,h.get? b = some o→G'.get? b = some o) →
  (∀ k∈s.map (·.1),k < nmL.length)∧∃ vs,A3 (kvs = ((s.map (·.1)).map nm).zip vs) (Dens w G' (s.map fun x=>.lst [.int x.2.1,.lst (x.2.2.map .int)]) vs) ((s.map (·.1)).length = vs.length):=by
 induction x with
 | nil=>exact fun _=>⟨fun _ h=>absurd h List.not_mem_nil,[],rfl,dens_nil,rfl⟩
 | @cons k c ns s kvs a b fp t n m us hk ea eb dn r ih =>
  intro kp
  obtain ⟨y1,vs,y2,y3,y4⟩:=ih fun b hb=>kp b (.tail _ (.tail _ hb))
  refine ⟨fun z hz=>?_,.ref a :: vs,by rw [y2]; rfl,dens_cons (den_lst (kp a (.head _) _ ea) (dens_cons (di c t) (dens_cons (den_lst (kp b (.tail _ (.head _)) _ eb) (densI dn)) dens_nil))) y3,congrArg Nat.succ y4⟩
  rcases List.mem_cons.mp hz with q | q
  ·rw [q]; exact hk
  ·exact y1 z q
section
variable {c:Cx} {A:Around} {st:St} {p:Vw} {h h':Heap}
theorem Gnd.sys {w:World} {G:Heap} (g:Gnd w G):∃ o,G.get? sysModules = some o:=⟨_,g.K 1 (o1 w.params) rfl⟩
theorem fzF_den (x:At c st p h) {m:M} {a:Addr} {fp:List Addr} {f:F} {G':Heap} (e:fzF st m = some f) (hm:MH c.w p.ρ p.G h m a fp) (off:∀ b∈fp,p.G.get? b = none) (le:Le p.G G') (kp:∀ b∈fp,∀ o,h.get? b = some o→G'.get? b = some o) :
  Den c.w G' f (.ref a):=by
 have ns:a∈fp→(a == sysModules) = false:=fun ha=>by
  have:=off a ha
  obtain ⟨o,ho⟩:=x.gnd.sys
  simp only [beq_eq_false_iff_ne,ne_eq]
  intro z; rw [z,ho] at this; cases this
 cases m with
 | lst l =>
  obtain ⟨rfl,vs,n,e1,d⟩:=hm
  simp only [fzF] at e
  cases q:fros st l with
  | none=>rw [q] at e; cases e
  | some fs =>
   rw [q] at e; cases e
   unfold Den
   exact ⟨a,vs,rfl,⟨n,kp a (by simp) _ e1⟩,Dens.mono le _ _ (fros_dens x q d)⟩
 | dic ks l =>
  obtain ⟨rfl,z,vs,⟨o,es,ep,ho,r⟩,d,y⟩:=hm
  simp only [fzF] at e
  cases q:fros st l with
  | none=>rw [q] at e; cases e
  | some fs =>
   rw [q] at e; cases e
   unfold Den
   exact ⟨z,a,vs,rfl,⟨o,es,ep,kp a (by simp) _ ho,r⟩,Dens.mono le _ _ (fros_dens x q d),y,ns (by simp)⟩
 | dicI ks l =>
  obtain ⟨rfl,vs,⟨o,es,ep,ho,r⟩,d,y⟩:=hm
  simp only [fzF] at e
  cases q:fros st l with
  | none=>rw [q] at e; cases e
  | some fs =>
   rw [q] at e; cases e
   unfold Den
   exact ⟨a,vs,rfl,⟨o,es,ep,kp a (by simp) _ ho,r⟩,Dens.mono le _ _ (fros_dens x q d),y,ns (by simp)⟩
 | inst C ks l =>
  obtain ⟨dx,es,n,vs,rfl,ne,e1,e2,e3,d⟩:=hm
  simp only [fzF] at e
  split at e
  ·rename_i nd
   cases q:fros st l with
   | none=>rw [q] at e; cases e
   | some fs =>
    rw [q] at e; cases e
    unfold Den
    exact ⟨a,instObj C dx,dictOf es n,vs,rfl,⟨kp a (by simp) _ e1,rfl,rfl,kp dx (by simp) _ e2⟩,Gets.of (w:=c.w) (es:=es) (n:=n) e3 (nodupB_ok nd),Dens.mono le _ _ (fros_dens x q d)⟩
  ·cases e
 | side s =>
  obtain ⟨kvs,fp',rfl,nd,⟨o,es,ep,ho,r⟩,sl⟩:=hm
  cases e
  obtain ⟨y1,vs,y2,y3,y4⟩:=sl.den (G':=G') fun b hb=>kp b (by simp [hb])
  subst y2
  unfold Den
  exact ⟨y1,a,vs,rfl,⟨o,es,ep,kp a (by simp) _ ho,r⟩,y3,y4,ns (by simp)⟩
 | fz g =>
  obtain ⟨rfl,d⟩:=hm
  cases e
  exact Den.mono le _ _ d
 | cell d=>simp only [fzF,reduceCtorEq] at e
 | pd l=>simp only [fzF,reduceCtorEq] at e
 | rd l=>simp only [fzF,reduceCtorEq] at e
theorem At.fz (x:At c st p h) {k:Nat} {m:M} {f:F} (hm:st.mu[k]? = some (some m)) (e:fzF st m = some f) :
  ∃ q,A3 (Ext p q) (At c { st with mu:=st.mu.set k (some (.fz f)) } q h) (∀ a,p.ρ[k]? = some a→Den c.w q.G f (.ref a)):=by
 obtain ⟨a,fp,hr,hfp,y⟩:=x.mus k m hm
 have xd:=x.drop k
 have up:∀ (i:Nat) fi,(p.fps.set k [])[i]? = some fi→(i ≠ k∧p.fps[i]? = some fi)∨fi = []:=by
  intro i fi e
  by_cases q:i = k
  ·subst q
   rcases Nat.lt_or_ge i p.fps.length with kl | kl
   ·rw [List.getElem?_set_self kl] at e
    exact .inr (Option.some.inj e).symm
   ·rw [List.getElem?_eq_none (by simpa using kl)] at e; cases e
  ·rw [List.getElem?_set_ne (Ne.symm q)] at e
   exact .inl ⟨q,e⟩
 obtain ⟨G',le,kp,a'⟩:=xd.freeze fp (by
  intro b hb
  refine ⟨?_,fun z=>x.frF k fp hfp (z ▸ hb),fun i fi e hb'=>?_⟩
  ·rcases x.own k fp hfp b hb with r | r
   ·exact .inr (getD_flatten r)
   ·exact .inl r
  ·rcases up i fi e with ⟨q1,q2⟩ | rfl
   ·exact x.sep i k fi fp q1 q2 hfp b hb' hb
   ·cases hb')
 have dn:Den c.w G' f (.ref a):=fzF_den x e y (fun b hb=>(x.off k fp hfp b hb).1) le kp
 refine ⟨⟨p.ρ,p.fps.set k [],G'⟩,⟨⟨[],by simp⟩,le⟩,{ a' with len1:=by simpa using a'.len1,mus:=?_ },fun a2 h2=>by rw [hr] at h2; cases h2; exact dn⟩
 intro i m' e'
 have l1:=x.len1
 have l2:=x.len2
 by_cases z:i = k
 ·subst z
  have kl:i < st.mu.length:=(List.getElem?_eq_some_iff.mp hm).1
  rw [List.getElem?_set_self kl] at e'
  cases e'
  exact ⟨a,[],hr,by show (p.fps.set i [])[i]? = some []; rw [List.getElem?_set_self (by omega)],rfl,dn⟩
 ·rw [List.getElem?_set_ne (Ne.symm z)] at e'
  exact a'.mus i m' (by show (st.mu.set k none)[i]? = some (some m'); rw [List.getElem?_set_ne (Ne.symm z)]; exact e')
noncomputable def fzK (k:Nat) (st:St) (K:St→Prop):Prop:=match st.mu[k]? with
 | some (some m)=>(match fzF st m with
  | some f=>K { st with mu:=st.mu.set k (some (.fz f)) }
  | none=>False)
 | _=>False
theorem Sf.ghost {l:List Stmt} {k:Nat} {W:St→(FD→St→Prop)→Prop} (h:∀ st',Sf c A (execs l c.env) st' (W st')):Sf c A (execs l c.env) st fun K=>fzK k st fun st'=>W st' K:=by
 intro s p K Q a w kk
 unfold fzK at w
 split at w
 ·rename_i m hm
  split at w
  ·rename_i f hf
   obtain ⟨q,ex,a',_⟩:=a.fz hm hf
   exact h _ s q K Q a' w fun d st' f' h' tk q2 k2 a2 ex2 n2=>kk d st' f' h' tk q2 k2 a2 (ex.trans ex2) n2
  ·exact w.elim
 ·exact w.elim
noncomputable def frzD (d:D) (st:St) (K:D→St→Prop):Prop:=match d with
 | .ref k=>(match st.mu[k]? with
  | some (some m)=>(match fzF st m with
   | some f=>K (.fro f) { st with mu:=st.mu.set k (some (.fz f)) }
   | none=>False)
  | _=>False)
 | .fro f=>K (.fro f) st
theorem Sx.frz {e:Expr} {W:(D→St→Prop)→Prop} (he:Sx c A (eval e c.env) st W):Sx c A (eval e c.env) st fun K=>W fun d st'=>frzD d st' K:=by
 intro s p K Q a w k
 refine he s p _ Q a w fun d st' v h' tk q kd a' ex n=>?_
 cases d with
 | fro f=>exact k _ _ v h' tk q kd a' ex n
 | ref i =>
  simp only [frzD] at kd
  split at kd
  ·rename_i m hm
   split at kd
   ·rename_i f hf
    obtain ⟨x,hx,rfl⟩:=n
    obtain ⟨q2,ex2,a2,dn⟩:=a'.fz hm hf
    exact k _ _ _ h' tk q2 kd a2 (ex.trans ex2) (dn x hx)
   ·exact kd.elim
  ·exact kd.elim
end
noncomputable def normD (st:St) (d:D):D:=match deref st d with
 | .fro f=>.fro f
 | _=>d
section
variable {c:Cx} {A:Around} {st:St} {p:Vw} {h h':Heap}
theorem normD_den {d:D} {v:Value} (a:At c st p h) (n:DenD c.w p.ρ p.G d v):DenD c.w p.ρ p.G (normD st d) v:=by
 unfold normD
 split
 ·rename_i f e; exact deref_fro a e n
 ·exact n
theorem interactive_of {env:Env} (h:env.scope.kind = .function):interactive env = false:=by unfold interactive; rw [h]; rfl
theorem DenDs.app {w:World} {ρ:List Addr} {G:Heap}:∀ {l m:List D} {vs us:List Value},DenDs w ρ G l vs→DenDs w ρ G m us→DenDs w ρ G (l++m) (vs++us)
 | [],m,[],us,h,k=>k
 | [],_,_ :: _,_,h,_=>h.elim
 | _ :: _,_,[],_,h,_=>h.elim
 | f :: l,m,v :: vs,us,h,k=>⟨h.1,DenDs.app h.2 k⟩
theorem At.grow (x:At c st p h) {k:Nat} {l:List D} {a:Addr} {vs us:List Value} {n n':Nat} {m:List D} (hm:st.mu[k]? = some (some (.lst l))) (hr:p.ρ[k]? = some a) (hfp:p.fps[k]? = some [a]) (hl:DenDs c.w p.ρ p.G l vs)
  (ho:h.get? a = some (lobj vs n)) (ho':h'.get? a = some (lobj (vs++us) n')) (kp:∀ b o,b ≠ a→h.get? b = some o→h'.get? b = some o) (d:DenDs c.w p.ρ p.G m us) :
  At c { st with mu:=st.mu.set k (some (.lst (l++m))) } p h':=by
 have y:=x.updM (h':=h') (m:=.lst (l++m)) (fp':=[a]) hr hfp (fun b o hb e=>kp b o (by simpa using hb) e) (fun b hb=>by rw [List.mem_singleton] at hb; subst hb; exact ⟨_,ho'⟩) ⟨rfl,vs++us,n',ho',hl.app d⟩ (fun b hb=>.inl hb)
 have:p.fps.set k [a] = p.fps:=by
  apply List.ext_getElem?
  intro i
  by_cases q:k = i
  ·subst q
   rw [List.getElem?_set_self (List.getElem?_eq_some_iff.mp hfp).1,hfp]
  ·rw [List.getElem?_set_ne q]
 rw [this] at y
 exact y
noncomputable def appD (d:D) (e:D) (st:St) (K:FD→St→Prop):Prop:=E2 fun k l=>A3 (deref st d = .mut_ k (.lst l)) (Nat.ble l.length 1000 = true) (K .next { st with mu:=st.mu.set k (some (.lst (l++[normD st e]))) })
noncomputable def isLst (d:D) (st:St):Prop:=E2 fun k l=>deref st d = .mut_ k (.lst l)
theorem isLst_at {d:D} {v:Value} (a:At c st p h) (n:DenD c.w p.ρ p.G d v) (e:isLst d st):E3 fun x vs n=>v = .ref x∧h.get? x = some (lobj vs n):=by
 obtain ⟨k,l,hk⟩:=e
 obtain ⟨x,fp,rfl,y1,y2,y3,rfl,vs,nn,y4,y5⟩:=deref_mut a hk n
 exact ⟨x,vs,nn,rfl,y4⟩
theorem ble_line {n:Nat} (h:Nat.ble n 1000 = true):n≤sizeLine:=small h
theorem Sf.append {o e:Expr} {apos cpos pos:Pos} {Wo:(D→St→Prop)→Prop} {We:St→(D→St→Prop)→Prop} (ho:Sx c A (eval o c.env) st Wo) (he:∀ st',Sx c A (eval e c.env) st' (We st')) (hp:plainBase o = true) (hs:notStar e = true) (hl:(apos.endLine == cpos.line) = true) :
  Sf c A (exec (.Expr (.Call (.Attribute o "append" apos) [e] [] cpos) pos) c.env) st fun K=>Wo fun d st1=>isLst d st1∧We st1 fun x st2=>appD d x st2 K:=by
 intro s p K Q a w k
 have hse:starEach [e] c.env = [(false,eval e c.env)]:=by rw [starEach_cons hs]; rfl
 refine wpAny_Expr (Call_method1 (attrBase hp) hse hl (ho s p _ _ a w fun d st1 v h1 tk1 q1 k1 a1 ex1 n1=>?_)) (interactive_of a.kind) (swaps_of rfl)
 obtain ⟨k1,k2⟩:=k1
 obtain ⟨x,vs,n,rfl,hx⟩:=isLst_at a1 n1 k1
 refine ⟨"list","list.append",PySem.F.plainAttrs_list,PySem.F.slot_list_append,PySem.F.type_list_append,⟨_,hx,rfl⟩,fun b e=>by cases e; exact ⟨_,hx,rfl⟩,?_⟩
 refine PySem.P.append_list (he st1 _ q1 _ _ a1 k2 fun d2 st2 v2 h2 tk2 q2 k3 a2 ex2 n2=>?_)
 obtain ⟨i,l,hi,k31,k32⟩:=k3
 obtain ⟨y,fp,ey,y1,y2,y3,rfl,us,m,y4,y5⟩:=deref_mut a2 hi (ex2.den n1)
 cases ey
 refine ⟨us.toArray,m,?_,y4,?_⟩
 ·rw [List.size_toArray,← y5.length]; exact ble_line k31
 ·have hn:=get?_update_seq (c:="list") (xs:=us.toArray) (n:=m) y4 (fun xs=>xs.push v2)
  have a3:=a2.grow (h':=h2.update x (Obj.mapSeq fun xs=>xs.push v2)) (us:=[v2]) (m:=[normD st2 d2]) y1 y2 y3 y5 y4 (n':=if (us.toArray.push v2).size == us.toArray.size then m else m + 1) (by rw [hn]; simp [lobj,seqObj]) (fun b o hb e=>by rw [Heap.get?_update_ne _ _ _ _ hb]; exact e) ⟨normD_den a2 n2,trivial⟩
  exact k _ _ .next _ tk2 q2 k32 a3 (ex1.trans ex2) rfl
noncomputable def extD (d:D) (e:D) (st:St) (K:FD→St→Prop):Prop:=E3 fun k l m=>A4 (deref st d = .mut_ k (.lst l)) (deref st e = .fro (.lst m)) (l.length + m.length≤1000) (K .next { st with mu:=st.mu.set k (some (.lst (l++m.map .fro))) })
theorem Sf.extend {o e:Expr} {apos cpos pos:Pos} {Wo:(D→St→Prop)→Prop} {We:St→(D→St→Prop)→Prop} (ho:Sx c A (eval o c.env) st Wo) (he:∀ st',Sx c A (eval e c.env) st' (We st')) (hp:plainBase o = true) (hs:notStar e = true) (hl:(apos.endLine == cpos.line) = true) :
  Sf c A (exec (.Expr (.Call (.Attribute o "extend" apos) [e] [] cpos) pos) c.env) st fun K=>Wo fun d st1=>isLst d st1∧We st1 fun x st2=>extD d x st2 K:=by
 intro s p K Q a w k
 have hse:starEach [e] c.env = [(false,eval e c.env)]:=by rw [starEach_cons hs]; rfl
 refine wpAny_Expr (Call_method1 (attrBase hp) hse hl (ho s p _ _ a w fun d st1 v h1 tk1 q1 k1 a1 ex1 n1=>?_)) (interactive_of a.kind) (swaps_of rfl)
 obtain ⟨k1,k2⟩:=k1
 obtain ⟨x,vs,n,rfl,hx⟩:=isLst_at a1 n1 k1
 refine ⟨"list","list.extend",PySem.F.plainAttrs_list,PySem.F.slot_list_extend,PySem.F.type_list_extend,⟨_,hx,rfl⟩,fun b e=>by cases e; exact ⟨_,hx,rfl⟩,?_⟩
 refine PySem.P.extend_list (he st1 _ q1 _ _ a1 k2 fun d2 st2 v2 h2 tk2 q2 k3 a2 ex2 n2=>?_)
 obtain ⟨i,l,m',hi,hj,k31,k32⟩:=k3
 obtain ⟨y,fp,ey,y1,y2,y3,rfl,us,m,y4,y5⟩:=deref_mut a2 hi (ex2.den n1)
 cases ey
 have:=deref_fro a2 hj n2
 obtain ⟨z,ws,rfl,⟨mn,z1⟩,dn⟩:=this
 have e1:us.toArray.size = l.length:=by simp [y5.length]
 have e2:ws.toArray.size = m'.length:=by simp [dn.length]
 refine ⟨z,us.toArray,ws.toArray,m,mn,?_,?_,?_,rfl,y4,a2.sub _ _ z1,?_⟩
 ·rw [e1,sizeLine_eq]; omega
 ·rw [e1,e2,sizeLine_eq]; omega
 ·rw [e1,e2]
  have:Builtin.List.listTooLong (l.length + m'.length) = false:=by
   unfold Builtin.List.listTooLong
   rw [sizeLine_eq]
   exact decide_eq_false (by omega)
  rw [this]; simp
 ·have hn:=get?_update_seq (c:="list") (xs:=us.toArray) (n:=m) y4 (fun xs=>xs++ws.toArray)
  have a3:=a2.grow (h':=h2.update x (Obj.mapSeq fun xs=>xs++ws.toArray)) (us:=ws) (m:=m'.map .fro) y1 y2 y3 y5 y4 (n':=if (us.toArray++ws.toArray).size == us.toArray.size then m else m + 1) (by rw [hn]; simp [lobj,seqObj]) (fun b o hb e=>by rw [Heap.get?_update_ne _ _ _ _ hb]; exact e) (fro_dens dn)
  exact k _ _ .next _ tk2 q2 k32 a3 (ex1.trans ex2) rfl
end
noncomputable def nodupI:List Int→Bool
 | []=>true
 | k :: ks=>!(ks.any fun j=>decide (k = j)) && nodupI ks
theorem nodupI_ok:∀ {ks:List Int},nodupI ks = true→ks.Nodup
 | [],_=>List.nodup_nil
 | k :: ks,h=>by
  unfold nodupI at h
  obtain ⟨h1,h2⟩:=Bool.and_eq_true_iff.mp h
  refine List.nodup_cons.mpr ⟨fun z=>?_,nodupI_ok h2⟩
  have:(ks.any fun j=>decide (k = j)) = true:=List.any_eq_true.mpr ⟨k,z,by simp⟩
  rw [this] at h1; cases h1
theorem set_self {α:Type} {l:List α} {k:Nat} {x:α} (h:l[k]? = some x):l.set k x = l:=by
 apply List.ext_getElem?
 intro i
 by_cases q:k = i
 ·subst q
  rw [List.getElem?_set_self (List.getElem?_eq_some_iff.mp h).1,h]
 ·rw [List.getElem?_set_ne q]
section
variable {c:Cx} {A:Around} {st:St} {p:Vw}
noncomputable def rowIx (f:F):Option Nat:=(List.range 16).find? fun k=>eqF (rowF k) f == some true
mutual
theorem eqF_eq:∀ (f g:F),eqF f g = some true→f = g
 | .int i=>by
  intro g e
  cases g with
  | int j=>rw [eq_of_beq (Option.some.inj e:(i == j) = true)]
  | _=>exact nos e
 | .str i=>by
  intro g e
  cases g with
  | str j=>rw [of_decide_eq_true (Option.some.inj e:decide (i = j) = true)]
  | _=>exact nos e
 | .tup l=>by
  intro g e
  cases g with
  | tup m=>rw [eqFs_eq l m e]
  | _=>exact nos e
 | .none=>fun _ e=>nos e
 | .bool _=>fun _ e=>nos e
 | .lst _=>fun _ e=>nos e
 | .dic _ _=>fun _ e=>nos e
 | .dicI _ _=>fun _ e=>nos e
 | .inst _ _ _=>fun _ e=>nos e
theorem eqFs_eq:∀ (l m:List F),eqFs l m = some true→l = m
 | []=>by
  intro m e
  cases m with
  | nil=>rfl
  | cons=>exact Bool.noConfusion (Option.some.inj e:false = true)
 | f :: l=>by
  intro m e
  cases m with
  | nil=>exact Bool.noConfusion (Option.some.inj e:false = true)
  | cons g m =>
   change (match eqF f g with | some true=>eqFs l m | some false=>some false | none=>none) = some true at e
   cases q:eqF f g with
   | none=>rw [q] at e; exact nos e
   | some z =>
    rw [q] at e
    cases z with
    | true=>rw [eqF_eq f g q,eqFs_eq l m e]
    | false=>exact Bool.noConfusion (Option.some.inj e)
end
theorem rowIx_ok {f:F} {k:Nat} (h:rowIx f = some k):k < 16∧rowF k = f:=by
 unfold rowIx at h
 have h1:=List.mem_of_find?_eq_some h
 have h2:=List.find?_some h
 exact ⟨List.mem_range.mp h1,eqF_eq _ _ (by simpa using h2)⟩
theorem row_ref {w:World} {G:Heap} {f:F} {k:Nat} {v:Value} (h:rowIx f = some k) (d:Den w G f v):∃ a,A3 (v = .ref a) (k < 16) (Den w G (rowF k) (.ref a)):=by
 obtain ⟨h1,h2⟩:=rowIx_ok h
 have hp:=(row_ok k h1).1
 subst h2
 have:∃ l,rowF k = .tup l:=by
  have:∀ k,k < 16→(match rowF k with | .tup _=>true | _=>false) = true:=by decide
  have:=this k h1
  split at this
  ·rename_i l e; exact ⟨l,e⟩
  ·cases this
 obtain ⟨l,e⟩:=this
 have d':=d
 rw [e] at d'
 unfold Den at d'
 obtain ⟨a,vs,rfl,_⟩:=d'
 exact ⟨a,rfl,h1,d⟩
theorem atRow_iff {xs:List (Nat × Addr × Value)} {l:List Nat} (e:xs.map (·.1) = l) {k:Nat}:(atKey xs k).isSome = l.contains k:=by
 have h1:(atKey xs k).isSome = true ↔ k∈xs.map (·.1):=by
  unfold atKey
  rw [Option.isSome_map,List.find?_isSome]
  simp only [decide_eq_true_eq,List.mem_map]
 rw [Bool.eq_iff_iff,h1,e,List.contains_iff_mem]
inductive SetD (st:St) (v:D) (K:St→Prop):V→D→Prop
 | dic {k:Nat} {ks:List Nat} {l:List D} {x:Nat} (h1:nodupB ks = true) (h2:Nat.ble ks.length 1000 = true) (h3:K { st with mu:=st.mu.set k (some (.dic (putK ks x) (putV ks l x (normD st v)))) }):SetD st v K (.mut_ k (.dic ks l)) (.fro (.str x))
 | dicI {k:Nat} {ks:List Int} {l:List D} {z:Int} (h1:nodupI ks = true) (h2:Nat.ble ks.length 1000 = true) (h3:K { st with mu:=st.mu.set k (some (.dicI (putKI ks z) (putVI ks l z (normD st v)))) }):SetD st v K (.mut_ k (.dicI ks l)) (.fro (.int z))
 | pd {k:Nat} {l:List (Nat × Bool)} {x:Nat} {b:Bool} (h2:Nat.ble l.length 1000 = true) (h3:K { st with mu:=st.mu.set k (some (.pd (if l.contains (x,b) then l else l++[(x,b)]))) }):SetD st v K (.mut_ k (.pd l)) (.fro (.tup [.str x,.bool b]))
 | rd {k:Nat} {l:List Nat} {f:F} {j:Nat} (hi:rowIx f = some j) (h2:Nat.ble l.length 1000 = true) (h4:l.contains j = false) (h3:K { st with mu:=st.mu.set k (some (.rd (l++[j]))) }):SetD st v K (.mut_ k (.rd l)) (.fro f)
noncomputable def setD (o i v:D) (st:St) (K:St→Prop):Prop:=SetD st v K (deref st o) i
theorem gotKey_inj {p q:Nat × Bool} (hp:p.1 < nmL.length) (hq:q.1 < nmL.length) (e:gotKey p = gotKey q):p = q:=by
 obtain ⟨a,b⟩:=p
 obtain ⟨c,d⟩:=q
 unfold gotKey at e
 simp only [List.cons.injEq,Sum.inl.injEq,Sum.inr.injEq,and_true] at e
 exact Prod.ext (nm_inj hp hq e.1) e.2
theorem tup_key {w:World} {G:Heap} {x:Nat} {b:Bool} {v:Value} (h:Den w G (.tup [.str x,.bool b]) v):x < nmL.length∧∃ a,v = .ref a∧IsTupleKey (kk0 w) G (gotKey (x,b)) a:=by
 obtain ⟨a,vs,rfl,⟨o,ho,hc,n,hd⟩,dn⟩:=h
 match vs,dn with
 | [],dn=>exact False.elim dn
 | [_],dn=>have:=dn.2; exact False.elim this
 | v1 :: v2 :: v3 :: vs,dn=>have:=dn.2; have:=this.2; exact False.elim this
 | [v1,v2],dn =>
  obtain ⟨d1,d2⟩:=dn
  obtain ⟨d2,_⟩:=d2
  obtain ⟨hx,t,rfl⟩:=d1
  subst d2
  refine ⟨hx,a,rfl,o,_,n,ho,hc,hd,?_⟩
  refine .cons ?_ (.cons ?_ .nil)
  ·show Value.isStrOf (nm x) (.str (nm x) t) = true
   unfold Value.isStrOf; simp
  ·show (Value.bool b == .bool b) = true
   simp
theorem atKey_iff {xs:List (List K0 × Addr × Value)} {l:List (Nat × Bool)} (e:xs.map (·.1) = l.map gotKey) (hl:∀ p∈l,p.1 < nmL.length) {p:Nat × Bool} (hp:p.1 < nmL.length):(atKey xs (gotKey p)).isSome = l.contains p:=by
 have h1:(atKey xs (gotKey p)).isSome = true ↔ gotKey p∈xs.map (·.1):=by
  unfold atKey
  rw [Option.isSome_map,List.find?_isSome]
  simp only [decide_eq_true_eq,List.mem_map]
 have h2:l.contains p = true ↔ p∈l:=by simp
 rw [Bool.eq_iff_iff,h1,h2,e,List.mem_map]
 exact ⟨fun ⟨q,hq,z⟩=>gotKey_inj hp (hl q hq) z.symm ▸ hq,fun h=>⟨p,h,rfl⟩⟩
theorem setD_ok {s:Shared} {o i v:D} {uo ui uv:Value} {K:St→Prop} {Q:Unit→Shared→Prop} (a:At c st p s.heap) (h:setD o i v st K) (no:DenD c.w p.ρ p.G o uo) (ni:DenD c.w p.ρ p.G i ui) (nv:DenD c.w p.ρ p.G v uv) (room:Room A 1)
  (k:∀ st' h' tk,K st'→At c st' p h'→Q () { s with heap:=h',toks:=tk }):wpAny (model PM c.w) A (setItem uo ui uv) Q NoE s:=by
 have nv':=normD_den a nv
 unfold setD at h
 generalize hk:deref st o = o1 at h
 cases h with
 | @dic j ks l x h1 h2 h3 =>
  obtain ⟨y,fp,rfl,y1,y2,y3,rfl,lt,vs,y4,y5,y6⟩:=deref_mut a hk no
  obtain ⟨xl,t,rfl⟩:=ni
  refine wpAny_setItem_pairs (strKind_is PM c.w _ _) y4 (fun h' hd hs=>?_) (by rw [List.length_zip,List.length_map,← y6,Nat.min_self]; exact small h2)
  rw [stored_zip xl (nodupB_ok h1) lt y6] at hd
  have a2:=a.updM (h':=h') (m:=.dic (putK ks x) (putV ks l x (normD st v))) (fp':=[y]) y2 y3 (fun b o hb e=>(hs.2 b (by simpa using hb)).trans e) (fun b hb=>by rw [List.mem_singleton] at hb; subst hb; obtain ⟨o,es,ep,ho,_⟩:=hd; exact ⟨o,ho⟩)
   ⟨rfl,putK_mem lt xl,putV ks vs x uv,hd,putV_dens y6 y5 nv',putV_len y6⟩ (fun b hb=>.inl hb)
  rw [set_self y3] at a2
  exact k _ h' _ h3 a2
 | @dicI j ks l z h1 h2 h3 =>
  obtain ⟨y,fp,rfl,y1,y2,y3,rfl,vs,y4,y5,y6⟩:=deref_mut a hk no
  obtain ⟨t,rfl⟩:=ni
  refine wpAny_setItem_pairs (intKind_is PM c.w _ _) y4 (fun h' hd hs=>?_) (by rw [List.length_zip,← y6,Nat.min_self]; exact small h2)
  rw [stored_zipI (nodupI_ok h1) y6] at hd
  have a2:=a.updM (h':=h') (m:=.dicI (putKI ks z) (putVI ks l z (normD st v))) (fp':=[y]) y2 y3 (fun b o hb e=>(hs.2 b (by simpa using hb)).trans e) (fun b hb=>by rw [List.mem_singleton] at hb; subst hb; obtain ⟨o,es,ep,ho,_⟩:=hd; exact ⟨o,ho⟩)
   ⟨rfl,putVI ks vs z uv,hd,putVI_dens y6 y5 nv',putVI_len y6⟩ (fun b hb=>.inl hb)
  rw [set_self y3] at a2
  exact k _ h' _ h3 a2
 | @pd j l x b h2 h3 =>
  obtain ⟨y,fp,rfl,y1,y2,y3,rfl,pd⟩:=deref_mut a hk no
  obtain ⟨hx,ka,rfl,key⟩:=tup_key ni
  obtain ⟨o,es,ep,xs,e1,e2,e3,e4,e5,e6,e7,e8⟩:=pd
  have hd:s.heap.DictOfH (tupleKind (kk0 c.w)) y xs:=⟨o,es,ep,e1,e2,e3,e4,fun z hz=>tupKey_mono (e5 z hz) a.sub,e6⟩
  have hu:A.in1.units < cLine:=by
   have:=room.2.2
   show A.units + 1 < 9900
   omega
  have hlen:xs.length = l.length:=by have:=congrArg List.length e7; simpa using this
  refine wpAny_setItem_heap hu (tupKey_mono key a.sub) hd (fun h' hd' hs=>?_) (by rw [hlen]; exact small h2)
  obtain ⟨o',es',ep',f1,f2,f3,f4,f5,f6⟩:=hd'
  have hat:=atKey_iff e7 e8 (p:=(x,b)) hx
  have nk:(storedH xs (gotKey (x,b)) ka uv).map (·.1) = (if l.contains (x,b) then l else l++[(x,b)]).map gotKey∧∀ z∈storedH xs (gotKey (x,b)) ka uv,IsTupleKey (kk0 c.w) p.G z.1 z.2.1:=by
   unfold storedH
   rw [hat]
   cases q:l.contains (x,b)
   ·rw [if_neg (by decide),if_neg (by decide)]
    refine ⟨by rw [List.map_append,e7,List.map_append]; rfl,fun z hz=>?_⟩
    rcases List.mem_append.mp hz with r | r
    ·exact e5 z r
    ·rw [List.mem_singleton] at r; subst r; exact key
   ·rw [if_pos rfl,if_pos rfl]
    have pa:∀ z:List K0 × Addr × Value,(putAt (gotKey (x,b)) uv z).1 = z.1∧(putAt (gotKey (x,b)) uv z).2.1 = z.2.1:=by
     intro z; unfold putAt; split <;> exact ⟨rfl,rfl⟩
    refine ⟨?_,fun z hz=>?_⟩
    ·rw [List.map_map,← e7]
     exact List.map_congr_left fun z _=>(pa z).1
    ·obtain ⟨z',hz',rfl⟩:=List.mem_map.mp hz
     rw [(pa z').1,(pa z').2]; exact e5 z' hz'
  have a2:=a.updM (h':=h') (m:=.pd (if l.contains (x,b) then l else l++[(x,b)])) (fp':=[y]) y2 y3 (fun b o hb e=>(hs.2 b (by simpa using hb)).trans e) (fun b hb=>by rw [List.mem_singleton] at hb; subst hb; exact ⟨o',f1⟩)
   ⟨rfl,o',es',ep',_,f1,f2,f3,f4,nk.2,f6,nk.1,fun z hz=>by
    split at hz
    ·exact e8 z hz
    ·rcases List.mem_append.mp hz with r | r
     ·exact e8 z r
     ·rw [List.mem_singleton] at r; subst r; exact hx⟩ (fun b hb=>.inl hb)
  rw [set_self y3] at a2
  exact k _ h' _ h3 a2
 | @rd j l f i hi h2 h4 h3 =>
  obtain ⟨y,fp,rfl,y1,y2,y3,rfl,pd⟩:=deref_mut a hk no
  obtain ⟨ka,rfl,hx,key⟩:=row_ref hi ni
  obtain ⟨o,es,ep,xs,e1,e2,e3,e4,e5,e6,e7⟩:=pd
  have hd:s.heap.DictOfH (rowKind c.w) y xs:=⟨o,es,ep,e1,e2,e3,e4,fun z hz=>⟨(e5 z hz).1,Den.mono a.sub _ _ (e5 z hz).2⟩,e6⟩
  have hu:A.in1.units + 4 < cLine:=by
   have:=room.2.2
   show A.units + 1 + 4 < 9900
   omega
  have hlen:xs.length = l.length:=by have:=congrArg List.length e7; simpa using this
  refine wpAny_setItem_heap (knd:=rowKind c.w) (k:=i) hu ⟨hx,Den.mono a.sub _ _ key⟩ hd (fun h' hd' hs=>?_) (by rw [hlen]; exact small h2)
  obtain ⟨o',es',ep',f1,f2,f3,f4,f5,f6⟩:=hd'
  have hat:=atRow_iff e7 (k:=i)
  have nk:storedH xs i ka uv = xs++[(i,ka,uv)]:=by
   unfold storedH
   rw [hat,h4,if_neg (by decide)]
  rw [nk] at f4 f5 f6
  have a2:=a.updM (h':=h') (m:=.rd (l++[i])) (fp':=[y]) y2 y3 (fun b o hb e=>(hs.2 b (by simpa using hb)).trans e) (fun b hb=>by rw [List.mem_singleton] at hb; subst hb; exact ⟨o',f1⟩)
   ⟨rfl,o',es',ep',_,f1,f2,f3,f4,fun z hz=>by
    rcases List.mem_append.mp hz with r | r
    ·exact e5 z r
    ·rw [List.mem_singleton] at r; subst r; exact ⟨hx,key⟩,f6,by rw [List.map_append,e7]; rfl⟩ (fun b hb=>.inl hb)
  rw [set_self y3] at a2
  exact k _ h' _ h3 a2
theorem Sf.setI {o i v:Expr} {p' pos:Pos} {Wv:(D→St→Prop)→Prop} {Wo Wi:St→(D→St→Prop)→Prop} (hv:Sx c A (eval v c.env) st Wv) (ho:∀ st',Sx c A (eval o c.env) st' (Wo st')) (hi:∀ st',Sx c A (eval i c.env) st' (Wi st')) (pv:plainV v = true) (room:Room A 1) :
  Sf c A (exec (.Assign [.Subscript o i p'] v pos) c.env) st fun K=>Wv fun x st1=>Wo st1 fun y st2=>Wi st2 fun z st3=>setD y z x st3 fun st'=>K .next st':=by
 intro s p K Q a w k
 refine wpAny_Assign_Subscript (hv s p _ _ a w fun d1 st1 v1 h1 tk1 q1 k1 a1 e1 n1=>?_) (swaps_of pv)
 refine ho st1 _ q1 _ _ a1 k1 fun d2 st2 v2 h2 tk2 q2 k2 a2 e2 n2=>?_
 refine hi st2 _ q2 _ _ a2 k2 fun d3 st3 v3 h3 tk3 q3 k3 a3 e3 n3=>?_
 exact setD_ok (s:={ s with heap:=h3,toks:=tk3 }) a3 k3 (e3.den n2) n3 (e3.den (e2.den n1)) room fun st' h' tk kd a'=>k _ _ .next h' tk q3 kd a' (e1.trans (e2.trans e3)) rfl
theorem aug_tail {e:Expr} {ov iv new:Value} {M:Model} {E:Value→Shared→Prop} {s:Shared} {Q:Flow→Shared→Prop} (hs:noSlice e = true) (h:wpAny M A (setItem ov iv new) (fun _ s'=>Q .next s') E s):wpAny M A (augStore e ov iv new) Q E s:=by
 have:augStore e ov iv new = (do holding [new,ov,iv] (setItem ov iv new); release [new,ov,iv] []; pure .next):=by
  cases e <;> first | rfl | exact Bool.noConfusion hs
 rw [this]
 exact wpAny_bind (wpAny_holding (wpAny_mono h (fun _ s' h'=>wpAny_bind (fun Γ p hΓ=>by rw [Sem.wp_release]; exact wpAny_pure h')) fun _ _ e=>e))
theorem Sf.aug {o i v:Expr} {p' pos:Pos} {Wo:(D→St→Prop)→Prop} {Wi Wv:St→(D→St→Prop)→Prop} (ho:Sx c A (eval o c.env) st Wo) (hi:∀ st',Sx c A (eval i c.env) st' (Wi st')) (hv:∀ st',Sx c A (eval v c.env) st' (Wv st')) (hs:noSlice i = true) (room:Room A 1) :
  Sf c A (exec (.AugAssign (.Subscript o i p') .Add v pos) c.env) st fun K=>Wo fun y st1=>Wi st1 fun z st2=>idxD y z st2 fun old=>Wv st2 fun x st3=>match old,x with
   | .fro (.int a),.fro (.int b)=>setD y z (.fro (.int (a + b))) st3 fun st'=>K .next st'
   | _,_=>False:=by
 intro s p K Q a w k
 rw [arm_exec_AugAssign_3]
 refine wpAny_bind (wpAny_standAt (wpAny_bind (ho s p _ _ a w fun d1 st1 v1 h1 tk1 q1 k1 a1 e1 n1=>wpAny_bind (wpAny_holding (hi st1 _ q1 _ _ a1 k1 fun d2 st2 v2 h2 tk2 q2 k2 a2 e2 n2=>?_)))))
 refine wpAny_bind (wpAny_holding (wpAny_bind (wpAny_standAt (wpAny_bind (idxD_ok (s:={ s with heap:=h2,toks:=tk2 }) a2 k2 (e2.den n1) n2 fun d z tk kd nd=>?_)))))
 refine wpAny_bind (wpAny_holding (hv st2 { s with heap:=h2,toks:=tk } q2 _ _ a2 kd fun d3 st3 v3 h3 tk3 q3 k3 a3 e3 n3=>?_))
 refine wpAny_bind (wpAny_standAt (wpAny_operating ?_))
 split at k3
 ·rename_i x y
  have nd':=e3.den nd
  change Den _ _ _ _ at nd' n3
  unfold Den at nd' n3
  obtain ⟨t,rfl⟩:=nd'
  obtain ⟨u,rfl⟩:=n3
  refine iadd_int ?_
  refine wpAny_bind (wpAny_standAt (aug_tail hs (setD_ok (s:={ s with heap:=h3,toks:=tk3 + 1 }) a3 k3 (e3.den (e2.den n1)) (e3.den n2) (by show Den _ _ _ _; unfold Den; exact ⟨_,rfl⟩) room fun st' h' tk kd a'=>k _ _ .next h' tk q3 kd a' (e1.trans (e2.trans e3)) rfl)))
 ·exact k3.elim
end
theorem Room.tc {A:Around} {L:Nat} {C:Addr} {vs:List Value} (h:Room A (L + 1)):Room (A.under (.builtin "type.__call__" ⟨.ref C :: vs,[]⟩)) L:=by
 obtain ⟨a,b,c⟩:=h
 refine ⟨a,?_,?_⟩
 ·show A.depth + 1 + L≤900
  omega
 ·show A.units + 1 + 10 * L≤9000
  omega
theorem SAt.inst {w:World} {p:Vw} {h:Heap} {C:Addr} (x:SAt w [] p h) :
  SAt w [some (.inst C [] [])] ⟨[h.objs.size + 1],[[h.objs.size + 1,h.objs.size]],p.G⟩ ((h.push emptyDict).push (instObj C h.objs.size)):=by
 have k:Le h ((h.push emptyDict).push (instObj C h.objs.size)):=fun b o e=>Heap.get?_push_of_some _ (Heap.get?_push_of_some _ e)
 have g1:((h.push emptyDict).push (instObj C h.objs.size)).get? (h.objs.size + 1) = some (instObj C h.objs.size):=by
  rw [← Heap.size_push h emptyDict]; exact Heap.get?_push_size _ rfl
 have g2:((h.push emptyDict).push (instObj C h.objs.size)).get? h.objs.size = some emptyDict:=Heap.get?_push_of_some _ (Heap.get?_push_size _ rfl)
 have n1:h.get? (h.objs.size + 1) = none:=by
  cases q:h.get? (h.objs.size + 1) with
  | none=>rfl
  | some o=>exact absurd (Heap.lt_size q) (Nat.not_lt.mpr (Nat.le_succ _))
 have gn:∀ b,h.get? b = none→p.G.get? b = none:=fun b e=>by
  cases q:p.G.get? b with
  | none=>rfl
  | some o=>rw [x.sub _ _ q] at e; cases e
 refine ⟨x.gnd,x.sub.trans k,rfl,rfl,?_,?_,?_⟩
 ·intro i m e
  cases i with
  | succ=>simp at e
  | zero =>
   simp at e; subst e
   exact ⟨_,_,rfl,rfl,h.objs.size,[],0,[],rfl,Nat.succ_ne_self _,g1,g2,trivial,trivial⟩
 ·intro i j fi fj hij ei ej
  cases i <;> cases j <;> simp at ei ej hij
 ·intro i fi e b hb
  cases i with
  | succ=>simp at e
  | zero =>
   simp at e; subst e
   simp only [List.mem_cons,List.not_mem_nil,or_false] at hb
   rcases hb with rfl | rfl
   ·exact ⟨gn _ n1,_,g1⟩
   ·exact ⟨gn _ get_size,_,g2⟩
theorem inst_back {w:World} {p q:Vw} {h h':Heap} {C:Addr} {mu':List (Option M)} (x:SAt w [] p h)
  (b:Back w ⟨[h.objs.size + 1],[[h.objs.size + 1,h.objs.size]],p.G⟩ ((h.push emptyDict).push (instObj C h.objs.size)) mu' q h'):Back w p h mu' q h':=by
 have k:Le h ((h.push emptyDict).push (instObj C h.objs.size)):=fun b o e=>Heap.get?_push_of_some _ (Heap.get?_push_of_some _ e)
 have n1:h.get? (h.objs.size + 1) = none:=by
  cases q:h.get? (h.objs.size + 1) with
  | none=>rfl
  | some o=>exact absurd (Heap.lt_size q) (Nat.not_lt.mpr (Nat.le_succ _))
 have hr:p.ρ = []:=by have:=x.len1; simpa using this.symm
 have hf:p.fps = []:=by have:=x.len2; rw [hr] at this; simpa using this
 have nn:∀ b',b'∈[[h.objs.size + 1,h.objs.size]].flatten→h.get? b' = none:=by
  intro b' hb
  simp only [List.flatten_cons,List.flatten_nil,List.append_nil,List.mem_cons,List.not_mem_nil,or_false] at hb
  rcases hb with rfl | rfl
  ·exact n1
  ·exact get_size
 have np:∀ b',((h.push emptyDict).push (instObj C h.objs.size)).get? b' = none→h.get? b' = none:=fun b' e=>by
  cases q:h.get? b' with
  | none=>rfl
  | some o=>rw [k _ _ q] at e; cases e
 refine ⟨b.at_,⟨⟨q.ρ,by rw [hr]; rfl⟩,b.ext.2⟩,?_,?_,?_,?_⟩
 ·intro b' o e
  rcases b.new b' o e with z | z | z
  ·exact .inl z
  ·exact .inr (.inl (np _ z))
  ·exact .inr (.inl (nn b' z))
 ·intro b' o e _
  exact b.keep b' o (k _ _ e) fun z=>by rw [nn b' z] at e; cases e
 ·exact fun b' o e=>b.live b' o (k _ _ e)
 ·intro i fi e b' hb
  rcases b.own i fi e b' hb with z | z
  ·exact .inr (nn b' (getD_flatten z))
  ·exact .inr (np _ z)
theorem cls_ok {w:World} {L:Nat} {C fI:Addr} {pI:PT} (hm:makesIn (KF w.params) C = true) (hi:findIn (KF w.params) (.ref C) "__init__" = some (some (.ref fI))) (hf:isFn (KF w.params) (.ref fI) = true) (hI:CallOK w L (.ref fI) pI) :
  CallOK w (L + 1) (.ref C) fun ds mu K=>mu = []∧pI (.ref 0 :: ds) [some (.inst C [] [])] fun d mu'=>d = .fro .none∧K (.ref 0) mu':=by
 intro A s p mu ds vs K Q room x dn h k
 obtain ⟨rfl,h⟩:=h
 obtain ⟨hp,g,d,t,os⟩:=s
 have X:(KF w.params).In hp:=x.gnd.K.keeps x.sub
 have hr:p.ρ = []:=by have:=x.len1; simpa using this.symm
 refine make_core (makes_of X hm) (looks_findIn X hi) (fun self=>bind_fn X self (beq_iff_eq.mp hf)) (.inl rfl) ?_
 refine codeAny_mono (hI _ ⟨(hp.push emptyDict).push (instObj C hp.objs.size),g,d,t,os⟩ _ _ (.ref 0 :: ds) (.ref (hp.objs.size + 1) :: vs) _ (fun v s'=>v = .none∧Q (.ref (hp.objs.size + 1)) s') (Room.tc room) x.inst ⟨⟨_,rfl,rfl⟩,?_⟩ h ?_) fun r s' z=>?_
 ·rw [hr] at dn
  simpa using dn.mono (r:=[hp.objs.size + 1]) (Le.refl _)
 ·intro d' mu' q v h' tk hd bk dv
  obtain ⟨rfl,hd⟩:=hd
  have dv':Den w q.G .none v:=dv
  unfold Den at dv'
  subst dv'
  obtain ⟨r,hr'⟩:=bk.ext.1
  exact ⟨rfl,k (.ref 0) mu' q (.ref (hp.objs.size + 1)) h' tk hd (inst_back x bk) ⟨_,by rw [hr']; rfl,rfl⟩⟩
 ·rcases r with e | (v | _ | _ | _) <;> first | exact z | exact z.elim
theorem cls_ok0 {w:World} {C:Addr} (hm:makesIn (KF w.params) C = true) (hi:findIn (KF w.params) (.ref C) "__init__" = some (some (.builtin "object.__init__"))) :
  CallOK w 1 (.ref C) fun ds mu K=>mu = []∧ds = []∧K (.ref 0) [some (.inst C [] [])]:=by
 intro A s p mu ds vs K Q room x dn h k
 obtain ⟨rfl,rfl,h⟩:=h
 cases vs with
 | cons=>exact dn.elim
 | nil =>
 obtain ⟨hp,g,d,t,os⟩:=s
 have X:(KF w.params).In hp:=x.gnd.K.keeps x.sub
 have Y:=makes_of (M:=model PM w) X hm
 have xi:SAt w [some (.inst C [] [])] ⟨[hp.objs.size + 1],[[hp.objs.size + 1,hp.objs.size]],p.G⟩ ((hp.push emptyDict).push (instObj C hp.objs.size)):=x.inst
 refine make_core Y (looks_findIn X hi) (fun self=>Looks.of_pure (oi_bind self)) (.inr ⟨rfl,rfl⟩) ?_
 have g1:((hp.push emptyDict).push (instObj C hp.objs.size)).get? (hp.objs.size + 1) = some (instObj C hp.objs.size):=by
  rw [← Heap.size_push hp emptyDict]; exact Heap.get?_push_size _ rfl
 have t1:Looks (model PM w) ((hp.push emptyDict).push (instObj C hp.objs.size)) (typeOf (.ref (hp.objs.size + 1))) (.ref C):=(Looks.ld g1).andThen .now
 have t2:Looks (model PM w) ((hp.push emptyDict).push (instObj C hp.objs.size)) (isInstance (.ref (hp.objs.size + 1)) (.type "object")) true:=t1.andThen (Y.top.keeps fun b o e=>Heap.get?_push_of_some _ (Heap.get?_push_of_some _ e))
 refine codeAny_call_builtin oi_plain entry_oi (@check_slot (model PM w) _ _ _ "object.__init__" "object" "__init__" (.ref (hp.objs.size + 1)) [] [] _ oi_kind oi_split t2 (oi_args (.ref (hp.objs.size + 1))) ?_)
 rw [oi_run]
 refine wpAny_pure (And.intro rfl (k (.ref 0) _ ⟨[hp.objs.size + 1],[[hp.objs.size + 1,hp.objs.size]],p.G⟩ (.ref (hp.objs.size + 1)) _ t h (inst_back x ⟨xi,.refl _,fun b o e=>.inl e,fun b o e _=>e,fun b o e=>⟨o,e⟩,?_⟩) ⟨_,rfl,rfl⟩))
 intro i fi e b hb
 exact .inl (by rw [List.getD_eq_getElem?_getD]; show b∈([[hp.objs.size + 1,hp.objs.size]][i]?).getD []; rw [e]; exact hb)
noncomputable def okSetC (P:Params) (C:Nat):Bool :=
 findIn (KF P) (.ref C) "__setattr__" == some (some (.builtin "object.__setattr__")) && plainOver (KF P) C && (clsIn (KF P) C).any (·.hasDict)
noncomputable def okSet (P:Params) (x:Nat × Nat):Bool:=takerIn (KF P) x.1 (nm x.2) == some none
section
variable {c:Cx} {A:Around} {st:St} {p:Vw} {h:Heap}
theorem others_split {L d:Addr} {o:Obj} (e:h.get? d = some o) (ne:d ≠ L):E2 fun pre post=>A3 (others h L = pre++(d,o) :: post) (∀ q∈pre,q.1 ≠ d) (∀ q∈post,q.1 ≠ d):=by
 obtain ⟨pre,post,q⟩:=List.append_of_mem (others_mem.mpr ⟨e,ne⟩)
 have nd:((others h L).map (·.1)).Nodup:=by
  unfold others
  have:∀ l:List Nat,l.Nodup→((l.filterMap fun b=>if b = L then none else (h.get? b).map fun o=>(b,o)).map (·.1)).Nodup∧∀ x∈((l.filterMap fun b=>if b = L then none else (h.get? b).map fun o=>(b,o)).map (·.1)),x∈l:=by
   intro l
   induction l with
   | nil=>intro _; exact ⟨List.nodup_nil,fun x hx=>by simp at hx⟩
   | cons b l ih =>
    intro nd
    obtain ⟨n1,n2⟩:=List.nodup_cons.mp nd
    obtain ⟨i1,i2⟩:=ih n2
    rw [List.filterMap_cons]
    split
    ·exact ⟨i1,fun x hx=>List.mem_cons_of_mem _ (i2 x hx)⟩
    ·rename_i y hy
     have hb:y.1 = b:=by
      split at hy
      ·cases hy
      ·cases z:h.get? b with
       | none=>rw [z] at hy; cases hy
       | some o=>rw [z] at hy; cases hy; rfl
     rw [List.map_cons,hb]
     refine ⟨List.nodup_cons.mpr ⟨fun z=>n1 (i2 _ z),i1⟩,fun x hx=>?_⟩
     rcases List.mem_cons.mp hx with z | z
     ·simp [z]
     ·exact List.mem_cons_of_mem _ (i2 x z)
  exact (this _ List.nodup_range).1
 rw [q,List.map_append,List.map_cons] at nd
 obtain ⟨a1,a2,a3⟩:=List.nodup_append.mp nd
 obtain ⟨b1,b2⟩:=List.nodup_cons.mp a2
 refine ⟨pre,post,q,fun y hy z=>?_,fun y hy z=>b1 (z ▸ List.mem_map.mpr ⟨y,hy,rfl⟩)⟩
 exact a3 d (z ▸ List.mem_map.mpr ⟨y,hy,rfl⟩) d (by simp) rfl
noncomputable def setAD (ok:Nat→Nat→Bool) (o:D) (x:Nat) (v:D) (st:St) (K:St→Prop):Prop:=E4 fun k C ks l=>A4 (deref st o = .mut_ k (.inst C ks l)) (ok C x = true) (Nat.ble ks.length 500 = true) (K { st with mu:=st.mu.set k (some (.inst C (putK ks x) (putV ks l x (normD st v)))) })
theorem setAD_ok {s:Shared} {ok:Nat→Nat→Bool} {o v:D} {x:Nat} {uo uv:Value} {K:St→Prop} {Q:Unit→Shared→Prop} (hok:∀ C x,ok C x = true→x < nmL.length∧okSetC c.w.params C = true∧okSet c.w.params (C,x) = true) (a:At c st p s.heap) (h:setAD ok o x v st K) (no:DenD c.w p.ρ p.G o uo) (nv:DenD c.w p.ρ p.G v uv)
  (k:∀ st' h' tk,K st'→At c st' p h'→Q () { s with heap:=h',toks:=tk }):wpAny (model PM c.w) A (setAttr uo (nm x) uv) Q NoE s:=by
 have nv':=normD_den a nv
 obtain ⟨j,C,ks,l,hk,h1,h2,h3⟩:=h
 obtain ⟨hx,hc,ht⟩:=hok C x h1
 obtain ⟨y,fp,rfl,y1,y2,y3,dx,es,n,vs,rfl,ne,e1,e2,e3,e4⟩:=deref_mut a hk no
 unfold okSetC at hc
 obtain ⟨hc1,hc3⟩:=Bool.and_eq_true_iff.mp hc
 obtain ⟨hc1,hc2⟩:=Bool.and_eq_true_iff.mp hc1
 have X:(KF c.w.params).In s.heap:=a.gnd.K.keeps a.sub
 have I:W.InstAt s.heap y (instObj C dx) C (some (dictOf es n)):=⟨e1,rfl,rfl,e2⟩
 refine set_plain X I (beq_iff_eq.mp hc1) ?_
 obtain ⟨m,hm,_⟩:=a.ns
 have nL:dx ≠ c.env.locals:=fun z=>a.frF j _ y3 (by simp [← z])
 obtain ⟨pre,post,q1,q2,q3⟩:=others_split e2 nL
 have N:News noHeap c.env.locals s.heap (pre++(dx,dictOf es n) :: post):=by rw [← q1]; exact newsOf
 have en:=e3.put (k:=x) (v:=uv) (hs:=PyData.keyHash c.w.params (nm x)) (t:=s.toks + 1) hx
 generalize hr:nsPutIn (nm x).cps.size (nm x).cps.toList _ es = r at en
 obtain ⟨es',b⟩:=r
 have en:Ents es' (putK ks x) (putV ks vs x uv):=en
 have od:Obj.putName (nm x) (PyData.keyHash c.w.params (nm x)) (.str (nm x) (s.toks + 1)) uv (dictOf es n) = dictOf es' (if b then n + 1 else n):=by
  refine Eq.trans (b:=(fun r:List DictEntry × Bool=>(match r with
   | (es',false)=>dictOf es' n
   | (es',true)=>dictOf es' (n + 1))) (es',b)) (congrArg (fun r:List DictEntry × Bool=>(match r with
   | (es',false)=>dictOf es' n
   | (es',true)=>dictOf es' (n + 1))) hr) ?_
  cases b <;> rfl
 refine osa_dict (s:={ s with toks:=s.toks + 1 }) (frOf hm) N X I rfl hc2 (beq_iff_eq.mp ht) hc3 (by rw [lookIn_dict]; exact e3.seen) q2 q3 od rfl ?_ ?_
 ·have:=(Ents.len en).1
  have:=putK_len (ks:=ks) (k:=x)
  have:=Nat.le_of_ble_eq_true h2
  omega
 ·intro h' F' N'
  have hd':=(N' (dx,dictOf es' (if b then n + 1 else n)) (by simp)).1
  have kp:∀ b o,b ≠ c.env.locals→b ≠ dx→s.heap.get? b = some o→h'.get? b = some o:=by
   intro b o n1 n2 e
   have hm':(b,o)∈pre++(dx,dictOf es n) :: post:=by rw [← q1]; exact others_mem.mpr ⟨e,n1⟩
   rcases List.mem_append.mp hm' with z | z
   ·exact (N' (b,o) (List.mem_append.mpr (.inl z))).1
   ·rcases List.mem_cons.mp z with z | z
    ·cases z; exact absurd rfl n2
    ·exact (N' (b,o) (List.mem_append.mpr (.inr (List.mem_cons_of_mem _ z)))).1
  have a2:At c { st with mu:=st.mu.set j (some (.inst C (putK ks x) (putV ks l x (normD st v)))) } p h':=by
   have yL:y ≠ c.env.locals:=fun z=>a.frF j _ y3 (by simp [← z])
   obtain ⟨m2,n2,r2⟩:=a.ns
   have same:∀ z,m z = m2 z:=by
    obtain ⟨o1,es1,ep1,ho1,hd1,_,r1⟩:=hm
    obtain ⟨o3,es3,ep3,ho3,hd3,_,r3⟩:=n2
    rw [ho1] at ho3
    cases ho3
    rw [hd1] at hd3
    cases hd3
    intro z; exact (r1 z).symm.trans (r3 z)
   have offp:=a.off j _ y3
   have hkf:∀ b o,b ∉ [y,dx]→b ≠ c.env.locals→s.heap.get? b = some o→h'.get? b = some o:=fun b o hb hl e=>kp b o hl (fun z=>hb (by simp [z])) e
   have fpo:∀ (i:Nat) fi,i ≠ j→p.fps[i]? = some fi→∀ b∈fi,∀ o,s.heap.get? b = some o→h'.get? b = some o:=fun i fi hij e b hb o q =>
    hkf b o (a.sep i j fi _ hij e y3 b hb) (fun z=>a.frF i fi e (z ▸ hb)) q
   refine { a with sub:=?_,keep:=?_,live:=?_,ns:=⟨m,F'.ns,fun i w d e1 e2=>?_⟩,len1:=by simpa using a.len1,mus:=?_,off:=?_ }
   ·intro b o e
    refine hkf b o (fun z=>?_) (fun z=>?_) (a.sub b o e)
    ·rw [(offp b z).1] at e; cases e
    ·rw [z,a.frG] at e; cases e
   ·intro b o e n' l'
    refine hkf b o (fun z=>?_) l' (a.keep b o e n' l')
    rcases a.own j _ y3 b z with w | w
    ·exact n' (getD_flatten w)
    ·rw [w] at e; cases e
   ·intro b o e
    obtain ⟨o',q⟩:=a.live b o e
    by_cases z:b = c.env.locals
    ·obtain ⟨o2,_,_,q2,_⟩:=F'.ns; exact ⟨o2,z ▸ q2⟩
    ·by_cases z2:b = dx
     ·exact ⟨_,z2 ▸ hd'⟩
     ·exact ⟨o',kp b o' z z2 q⟩
   ·obtain ⟨v',q1',q2'⟩:=r2 i w d e1 e2
    exact ⟨v',by rw [same]; exact q1',q2'⟩
   ·intro i m' e
    by_cases z:i = j
    ·subst z
     rw [List.getElem?_set_self (List.getElem?_eq_some_iff.mp y1).1] at e
     cases e
     exact ⟨y,[y,dx],y2,y3,dx,es',_,putV ks vs x uv,rfl,ne,kp y _ yL ne e1,hd',en,putV_dens (Ents.len e3).2 e4 nv'⟩
    ·rw [List.getElem?_set_ne (Ne.symm z)] at e
     obtain ⟨a',fp',w1,w2,w3⟩:=a.mus i m' e
     exact ⟨a',fp',w1,w2,by simpa using w3.frame (r:=[]) (Le.refl _) fun b hb o q=>fpo i fp' z w2 b hb o q⟩
   ·intro i fi e b hb
    obtain ⟨w1,o,w2⟩:=a.off i fi e b hb
    refine ⟨w1,?_⟩
    by_cases z2:b = dx
    ·exact ⟨_,z2 ▸ hd'⟩
    ·exact ⟨o,kp b o (fun z=>a.frF i fi e (z ▸ hb)) z2 w2⟩
  exact k _ h' _ h3 a2
theorem Sf.setA {ok:Nat→Nat→Bool} {o v:Expr} {attr:Str} {x:Nat} {p' pos:Pos} {Wv:(D→St→Prop)→Prop} {Wo:St→(D→St→Prop)→Prop} (hok:∀ C x,ok C x = true→x < nmL.length∧okSetC c.w.params C = true∧okSet c.w.params (C,x) = true) (hv:Sx c A (eval v c.env) st Wv) (ho:∀ st',Sx c A (eval o c.env) st' (Wo st')) (pv:plainV v = true) (hx:attr = nm x) :
  Sf c A (exec (.Assign [.Attribute o attr p'] v pos) c.env) st fun K=>Wv fun d st1=>Wo st1 fun y st2=>setAD ok y x d st2 fun st'=>K .next st':=by
 intro s p K Q a w k
 subst hx
 refine plainObj_wpAny_Assign_Attribute (hv s p _ _ a w fun d1 st1 v1 h1 tk1 q1 k1 a1 e1 n1=>?_) (swaps_of pv)
 refine ho st1 _ q1 _ _ a1 k1 fun d2 st2 v2 h2 tk2 q2 k2 a2 e2 n2=>?_
 exact setAD_ok (s:={ s with heap:=h2,toks:=tk2 }) hok a2 k2 n2 (e2.den n1) fun st' h' tk kd a'=>k _ _ .next h' tk q2 kd a' (e1.trans e2) rfl
end
section
variable {c:Cx} {A:Around} {st:St} {p:Vw} {h:Heap}
inductive Em where
 | str | int | side | pair | row
noncomputable def emptyM:Em→M
 | .str=>.dic [] []
 | .int=>.dicI [] []
 | .side=>.side []
 | .pair=>.pd []
 | .row=>.rd []
theorem emptyM_MH {w:World} {ρ:List Addr} {G h:Heap} (e:Em):MH w ρ G (h.push { cls:=.type "dict",data:=.dict #[] }) (emptyM e) h.objs.size [h.objs.size]:=by
 cases e
 ·exact ⟨rfl,by simp,[],Heap.DictOf.new h,trivial,rfl⟩
 ·exact ⟨rfl,[],Heap.DictOf.new h,trivial,rfl⟩
 ·exact ⟨[],[],rfl,by simp,Heap.DictOf.new h,.nil⟩
 ·obtain ⟨o,es,ep,e1,e2,e3,e4,_,e6⟩:=Heap.DictOfH.new (knd:=tupleKind (kk0 w)) h
  exact ⟨rfl,o,es,ep,[],e1,e2,e3,e4,by simp,List.nodup_nil,rfl,by simp⟩
 ·obtain ⟨o,es,ep,e1,e2,e3,e4,_,e6⟩:=Heap.DictOfH.new (knd:=rowKind w) h
  exact ⟨rfl,o,es,ep,[],e1,e2,e3,e4,by simp,List.nodup_nil,rfl⟩
theorem At.newDict (x:At c st p h) (e:Em):At c { st with mu:=st.mu++[some (emptyM e)] } { p with ρ:=p.ρ++[h.objs.size],fps:=p.fps++[[h.objs.size]] } (h.push { cls:=.type "dict",data:=.dict #[] }) :=
 x.newM (fun b o e=>Heap.get?_push_of_some _ e) (emptyM_MH e) (by intro b hb; rw [List.mem_singleton] at hb; subst hb; exact ⟨get_size,_,Heap.get?_push_size _ rfl⟩)
theorem Sx.dict0 {pos:Pos} (e:Em):Sx c A (eval (.Dict [] [] pos) c.env) st fun K=>K (.ref st.mu.length) { st with mu:=st.mu++[some (emptyM e)] }:=by
 intro s p K Q a w k
 refine wpAny_Dict_empty (k _ _ _ _ s.toks _ w (a.newDict e) ⟨⟨_,rfl⟩,Le.refl _⟩ ⟨s.heap.objs.size,?_,rfl⟩)
 rw [a.len1]; simp
noncomputable def Sp (c:Cx) (A:Around) (t:Sem (List (Value × Value))) (st:St) (ks:List Nat) (W:(List D→St→Prop)→Prop):Prop :=
 ∀ (s:Shared) (p:Vw) (K:List D→St→Prop) (Q:List (Value × Value)→Shared→Prop),At c st p s.heap→W K →
  (∀ d st' v h' tk q,K d st'→At c st' q h'→Ext p q→Carries (strKind PM c.w) v ((ks.map nm).zip (v.map (·.2)))→(∀ k∈ks,k < nmL.length)→DenDs c.w q.ρ q.G d (v.map (·.2))→ks.length = v.length→Q v { s with heap:=h',toks:=tk })→wpAny (model PM c.w) A t Q NoE s
theorem Sp.nil:Sp c A (evalPairs []) st [] fun K=>K [] st:=by
 intro s p K Q a w k
 exact wpAny_pure (k [] st [] s.heap s.toks p w a (.refl p) trivial (by simp) trivial rfl)
theorem Sp.cons {kx:Str} {n:Nat} {kp pos:Pos} {e:Expr} {kc:Nat} {ks:List Nat} {keys:List (Option Expr)} {values:List Expr} {W:(D→St→Prop)→Prop} {Wl:St→(List D→St→Prop)→Prop} (hk:kc < nmL.length) (ek:kx = nm kc) (he:Sx c A (eval e c.env) st W)
  (hl:∀ st',Sp c A (evalPairs (pairTrees keys values c.env pos)) st' ks (Wl st')) :
  Sp c A (evalPairs (pairTrees (some (.Constant (.str kx) n kp) :: keys) (e :: values) c.env pos)) st (kc :: ks) fun K=>W fun d st1=>Wl st1 fun ds st2=>K (d :: ds) st2:=by
 intro s p K Q a w k
 subst ek
 show wpAny _ _ (do let kv ← mkText (nm kc); let vv ← holding [kv] (do let x ← eval e c.env; standAt pos; pure x); return (kv,vv) :: (← holding [kv,vv] (evalPairs (pairTrees keys values c.env pos)))) _ _ _
 refine wpAny_bind (wpAny_mkText (wpAny_bind (wpAny_holding (wpAny_bind (he { s with toks:=s.toks + 1 } p _ _ a w fun d1 st1 v1 h1 tk1 q1 k1 a1 e1 n1=>wpAny_bind (wpAny_standAt (wpAny_pure (wpAny_bind (wpAny_holding ?_)))))))))
 refine hl st1 { s with heap:=h1,toks:=tk1 } q1 _ _ a1 k1 fun d2 st2 v2 h2 tk2 q2 k2 a2 e2 n2 n3 n4 n5=>?_
 refine wpAny_pure (k (d1 :: d2) st2 _ h2 tk2 q2 k2 a2 (e1.trans e2) ⟨strKind_is _ _ _ _,rfl,n2⟩ ?_ ⟨e2.den n1,n4⟩ (by simp [n5]))
 intro x hx
 rcases List.mem_cons.mp hx with z | z
 ·rw [z]; exact hk
 ·exact n3 x z
theorem nm_nodup:∀ {ks:List Nat},(∀ k∈ks,k < nmL.length)→ks.Nodup→(ks.map nm).Nodup
 | [],_,_=>List.nodup_nil
 | k :: ks,h,nd=>by
  obtain ⟨n1,n2⟩:=List.nodup_cons.mp nd
  refine List.nodup_cons.mpr ⟨fun z=>?_,nm_nodup (fun x q=>h x (by simp [q])) n2⟩
  obtain ⟨j,hj,e⟩:=List.mem_map.mp z
  exact n1 (nm_inj (h j (by simp [hj])) (h k (by simp)) e ▸ hj)
theorem merged_new {K:Type} [DecidableEq K]:∀ (more acc:List (K × Value)),(acc.map (·.1)++more.map (·.1)).Nodup→merged acc more = acc++more
 | [],acc,_=>by simp [merged]
 | (k,v) :: more,acc,nd=>by
  have hk:stored acc k v = acc++[(k,v)]:=by
   unfold stored
   have:(acc.any fun kv=>decide (kv.1 = k)) = false:=by
    rw [List.any_eq_false]
    intro x hx hz
    have hz:=of_decide_eq_true hz
    obtain ⟨_,_,n3⟩:=List.nodup_append.mp nd
    exact n3 x.1 (List.mem_map.mpr ⟨x,hx,rfl⟩) k (by simp) hz
   rw [this]; rfl
  unfold merged
  rw [List.foldl_cons,hk]
  have:=merged_new more (acc++[(k,v)]) (by simpa [List.map_append] using nd)
  unfold merged at this
  rw [this]; simp
theorem Sx.dict {keys:List (Option Expr)} {values:List Expr} {pos:Pos} {ks:List Nat} {W:(List D→St→Prop)→Prop} (hall:keys.all (·.isSome) = true) (hl:keys.length = values.length) (h0:keys ≠ []) (hlen:keys.length≤15) (nd:nodupB ks = true)
  (hp:Sp c A (evalPairs (pairTrees keys values c.env pos)) { st with mu:=st.mu++[some (.dic [] [])] } ks W) :
  Sx c A (eval (.Dict keys values pos) c.env) st fun K=>W fun ds st'=>st'.mu[st.mu.length]? = some (some (.dic [] []))∧K (.ref st.mu.length) { st' with mu:=st'.mu.set st.mu.length (some (.dic ks (ds.map (normD st')))) }:=by
 intro s p K Q a w k
 have a0:At c { st with mu:=st.mu++[some (.dic [] [])] } { p with ρ:=p.ρ++[s.heap.objs.size],fps:=p.fps++[[s.heap.objs.size]] } (s.heap.push { cls:=.type "dict",data:=.dict #[] }):=a.newDict .str
 refine wpAny_Dict_walk (knd:=strKind PM c.w) hall hl h0 hlen (hp { s with heap:=s.heap.push { cls:=.type "dict",data:=.dict #[] } } _ _ _ a0 w fun ds st' v h' tk q kd a' ex n1 n2 n3 n4=>?_)
 obtain ⟨kd1,kd2⟩:=kd
 obtain ⟨x,fp,r1,r2,rfl,_,vs0,r3,r4,r5⟩:=a'.mus _ _ kd1
 have vs0n:vs0 = []:=by cases vs0 with
  | nil=>rfl
  | cons=>simp at r5
 subst vs0n
 obtain ⟨⟨r,hr⟩,gle⟩:=ex
 have xe:x = s.heap.objs.size:=by
  have hr':q.ρ = (p.ρ++[s.heap.objs.size])++r:=hr
  rw [hr',a.len1,List.append_assoc,List.getElem?_append_right (Nat.le_refl _)] at r1
  simpa using r1.symm
 subst xe
 refine ⟨_,n1,r3,fun h2 hd hs=>?_⟩
 have len:(ks.map nm).length = (v.map (·.2)).length:=by simpa using n4
 have fs:(((ks.map nm).zip (v.map (·.2))).map (·.1)) = ks.map nm:=List.map_fst_zip (by omega)
 rw [merged_new _ _ (by
  rw [List.map_nil,List.nil_append,fs]
  exact nm_nodup n2 (nodupB_ok nd)),List.nil_append] at hd
 have dn:DenDs c.w q.ρ q.G (ds.map (normD st')) (v.map (·.2)):=by
  have:∀ {ds:List D} {vs:List Value},DenDs c.w q.ρ q.G ds vs→DenDs c.w q.ρ q.G (ds.map (normD st')) vs:=by
   intro ds
   induction ds with
   | nil=>intro vs d; cases vs with
    | nil=>trivial
    | cons=>exact d.elim
   | cons e l ih=>intro vs d; cases vs with
    | nil=>exact d.elim
    | cons v vs=>exact ⟨normD_den a' d.1,ih d.2⟩
  exact this n3
 have a2:=a'.updM (h':=h2) (m:=.dic ks (ds.map (normD st'))) (fp':=[s.heap.objs.size]) r1 r2 (fun b o hb e=>(hs.2 b (by simpa using hb)).trans e) (fun b hb=>by rw [List.mem_singleton] at hb; subst hb; obtain ⟨o,es,ep,ho,_⟩:=hd; exact ⟨o,ho⟩)
  ⟨rfl,n2,v.map (·.2),hd,dn,by simpa using n4⟩ (fun b hb=>.inl hb)
 rw [set_self r2] at a2
 refine k _ _ _ h2 _ q kd2 a2 ⟨⟨s.heap.objs.size :: r,by rw [hr]; simp⟩,gle⟩ ⟨s.heap.objs.size,r1,rfl⟩
end
section
variable {c:Cx} {A:Around} {st:St} {p:Vw} {h:Heap}
inductive Cop2 where
 | isIn | notIn | eqL | neL
noncomputable def Cop2.op:Cop2→CmpOp
 | .isIn=>.In
 | .notIn=>.NotIn
 | .eqL=>.Eq
 | .neL=>.NotEq
inductive InD (K:Bool→Prop):D→V→Prop
 | dic {x:Nat} {ks:List Nat} {l:List F} (h:K (decide (x∈ks))):InD K (.fro (.str x)) (.fro (.dic ks l))
 | mdic {x j:Nat} {ks:List Nat} {l:List D} (h:K (decide (x∈ks))):InD K (.fro (.str x)) (.mut_ j (.dic ks l))
 | tup {z:Int} {l:List F} {ns:List Int} (hns:intsF l = some ns) (h:K (ns.any (· == z))):InD K (.fro (.int z)) (.fro (.tup l))
 | pd {x:Nat} {b:Bool} {j:Nat} {l:List (Nat × Bool)} (h:K (l.contains (x,b))):InD K (.fro (.tup [.str x,.bool b])) (.mut_ j (.pd l))
 | rd {f:F} {j i:Nat} {l:List Nat} (hi:rowIx f = some i) (h:K (l.contains i)):InD K (.fro f) (.mut_ j (.rd l))
noncomputable def inD (a b:D) (st:St) (K:Bool→Prop):Prop:=InD K a (deref st b)
noncomputable def eqL (a b:D) (st:St) (K:Bool→Prop):Prop:=E4 fun l m ns ms=>A5 (deref st a = .fro (.lst l)) (deref st b = .fro (.lst m)) (intsF l = some ns) (intsF m = some ms) (K (decide (ns = ms)))
noncomputable def cmp2 (o:Cop2) (a b:D) (st:St) (K:Bool→Prop):Prop:=match o with
 | .isIn=>inD a b st K
 | .notIn=>inD a b st fun z=>K (!z)
 | .eqL=>eqL a b st K
 | .neL=>eqL a b st fun z=>K (!z)
theorem inD_ok (room:Room A 1) {s:Shared} {neg:Bool} {a b:D} {u v:Value} {K:Bool→Prop} {Q:Value→Shared→Prop} (x:At c st p s.heap) (h:inD a b st K) (na:DenD c.w p.ρ p.G a u) (nb:DenD c.w p.ρ p.G b v)
  (k:∀ z tk,K z→Q (.bool (if neg then !z else z)) { s with toks:=tk }):wpAny (model PM c.w) A (compareOp (if neg then .NotIn else .In) u v) Q NoE s:=by
 unfold inD at h
 generalize e:deref st b = b1 at h
 have look:∀ {ks:List Nat} {vs:List Value} {xk:Nat},xk < nmL.length→(∀ k∈ks,k < nmL.length)→ks.length = vs.length→(valueAt ((ks.map nm).zip vs) (nm xk)).isSome = decide (xk∈ks):=by
  intro ks vs xk hx hk len
  rw [valueAt_zip hx vs hk,lk_none (w:=c.w) len]
 cases h with
 | @dic xk ks l h =>
  obtain ⟨hx,t,rfl⟩:=na
  have:=deref_fro x e nb
  obtain ⟨z,y,vs,rfl,⟨o,es,ep,ho,r⟩,dn,len,hsm⟩:=this
  have t':s.heap.DictOf (strKind PM c.w) y ((ks.map nm).zip vs):=⟨o,es,ep,x.sub _ _ ho,r⟩
  have kk:=look hx z len
  cases neg
  ·exact wpAny_in_of (strKind_is PM c.w _ _) hsm t'.mapOf (by rw [kk]; exact k _ _ h)
  ·exact wpAny_notIn_of (strKind_is PM c.w _ _) hsm t'.mapOf (by rw [kk]; exact k _ _ h)
 | @mdic xk j ks l h =>
  obtain ⟨hx,t,rfl⟩:=na
  obtain ⟨y,fp,rfl,y1,y2,y3,rfl,z,vs,y4,y5,len⟩:=deref_mut x e nb
  have hsm:(y == sysModules) = false:=by
   have:=(x.off j _ y3 y (by simp)).1
   obtain ⟨o,ho⟩:=x.gnd.sys
   simp only [beq_eq_false_iff_ne,ne_eq]
   intro z; rw [z,ho] at this; cases this
  have kk:=look hx z len
  cases neg
  ·exact wpAny_in_of (strKind_is PM c.w _ _) hsm y4.mapOf (by rw [kk]; exact k _ _ h)
  ·exact wpAny_notIn_of (strKind_is PM c.w _ _) hsm y4.mapOf (by rw [kk]; exact k _ _ h)
 | @tup z l ns hns h =>
  obtain ⟨t,rfl⟩:=na
  have:=deref_fro x e nb
  obtain ⟨y,vs,rfl,t1,dn⟩:=this
  have ia:IntsAre vs.toArray.toList ns:=by simpa using intsF_are hns dn
  cases neg
  ·exact in_tuple_ints (t1.keeps x.sub) ia (k _ s.toks h)
  ·exact notin_tuple_ints (t1.keeps x.sub) ia (k _ s.toks h)
 | @pd xk b j l h =>
  obtain ⟨hx,ka,rfl,key⟩:=tup_key na
  obtain ⟨y,fp,rfl,y1,y2,y3,rfl,pd⟩:=deref_mut x e nb
  have hsm:(y == sysModules) = false:=by
   have:=(x.off j _ y3 y (by simp)).1
   obtain ⟨o,ho⟩:=x.gnd.sys
   simp only [beq_eq_false_iff_ne,ne_eq]
   intro z; rw [z,ho] at this; cases this
  have hu:A.in1.units < cLine:=by
   have:=room.2.2
   show A.units + 1 < 9900
   omega
  obtain ⟨o,es,ep,xs,e1,e2,e3,e4,e5,e6,e7,e8⟩:=pd
  have hd:s.heap.DictOfH (tupleKind (kk0 c.w)) y xs:=⟨o,es,ep,e1,e2,e3,e4,fun z hz=>tupKey_mono (e5 z hz) x.sub,e6⟩
  have hat:=atKey_iff e7 e8 (p:=(xk,b)) hx
  cases neg
  ·exact wpAny_in_heap hu (tupKey_mono key x.sub) hsm hd (by rw [hat]; exact k _ _ h)
  ·exact wpAny_notIn_heap hu (tupKey_mono key x.sub) hsm hd (by rw [hat]; exact k _ _ h)
 | @rd f j i l hi h =>
  obtain ⟨ka,rfl,hx,key⟩:=row_ref hi na
  obtain ⟨y,fp,rfl,y1,y2,y3,rfl,pd⟩:=deref_mut x e nb
  have hsm:(y == sysModules) = false:=by
   have:=(x.off j _ y3 y (by simp)).1
   obtain ⟨o,ho⟩:=x.gnd.sys
   simp only [beq_eq_false_iff_ne,ne_eq]
   intro z; rw [z,ho] at this; cases this
  have hu:A.in1.units + 4 < cLine:=by
   have:=room.2.2
   show A.units + 1 + 4 < 9900
   omega
  obtain ⟨o,es,ep,xs,e1,e2,e3,e4,e5,e6,e7⟩:=pd
  have hd:s.heap.DictOfH (rowKind c.w) y xs:=⟨o,es,ep,e1,e2,e3,e4,fun z hz=>⟨(e5 z hz).1,Den.mono x.sub _ _ (e5 z hz).2⟩,e6⟩
  have hat:=atRow_iff e7 (k:=i)
  cases neg
  ·exact wpAny_in_heap (knd:=rowKind c.w) (k:=i) hu ⟨hx,Den.mono x.sub _ _ key⟩ hsm hd (by rw [hat]; exact k _ _ h)
  ·exact wpAny_notIn_heap (knd:=rowKind c.w) (k:=i) hu ⟨hx,Den.mono x.sub _ _ key⟩ hsm hd (by rw [hat]; exact k _ _ h)
theorem eqL_ok {s:Shared} {neg:Bool} {a b:D} {u v:Value} {K:Bool→Prop} {Q:Value→Shared→Prop} (room:Room A 1) (x:At c st p s.heap) (h:eqL a b st K) (na:DenD c.w p.ρ p.G a u) (nb:DenD c.w p.ρ p.G b v)
  (k:∀ z,K z→Q (.bool (if neg then !z else z)) s):wpAny (model PM c.w) A (compareOp (if neg then .NotEq else .Eq) u v) Q NoE s:=by
 obtain ⟨l,m,ns,ms,e1,e2,h1,h2,h⟩:=h
 obtain ⟨y,vs,rfl,hl,dn⟩:=listAt x na e1
 obtain ⟨z,us,rfl,hm,dm⟩:=listAt x nb e2
 have hu:A.units + 64 < cLine:=by
  have:=room.2.2
  show A.units + 64 < 9900
  omega
 cases neg
 ·exact eq_intsK hl (intsF_are h1 dn) hm (intsF_are h2 dm) hu (k _ h)
 ·exact ne_intsK hl (intsF_are h1 dn) hm (intsF_are h2 dm) hu (k _ h)
theorem cmp2_ok {s:Shared} {o:Cop2} {a b:D} {u v:Value} {K:Bool→Prop} {Q:Value→Shared→Prop} (room:Room A 1) (x:At c st p s.heap) (h:cmp2 o a b st K) (na:DenD c.w p.ρ p.G a u) (nb:DenD c.w p.ρ p.G b v)
  (k:∀ z tk,K z→Q (.bool z) { s with toks:=tk }):wpAny (model PM c.w) A (compareOp o.op u v) Q NoE s:=by
 cases o
 ·exact inD_ok room (neg:=false) x h na nb k
 ·exact inD_ok room (neg:=true) (K:=fun z=>K (!z)) x h na nb fun z tk hz=>k _ tk hz
 ·exact eqL_ok (neg:=false) room x h na nb fun z hz=>k z s.toks hz
 ·exact eqL_ok (neg:=true) (K:=fun z=>K (!z)) room x h na nb fun z hz=>k _ s.toks hz
theorem Sx.cmp2 {o:Cop2} {l r:Expr} {pos:Pos} {Wl:(D→St→Prop)→Prop} {Wr:St→(D→St→Prop)→Prop} (room:Room A 1) (hl:Sx c A (eval l c.env) st Wl) (hr:∀ st',Sx c A (eval r c.env) st' (Wr st')) (hp:plainR r = true) :
  Sx c A (eval (.Compare l [o.op] [r] pos) c.env) st fun K=>Wl fun a st1=>Wr st1 fun b st2=>cmp2 o a b st2 fun z=>K (.fro (.bool z)) st2:=by
 intro s p K Q a w k
 refine wpAny_Compare1 (hl s p _ _ a w fun d1 st1 v1 h1 tk1 q1 k1 a1 e1 n1=>?_) (marks_of hp)
 refine hr st1 _ q1 _ _ a1 k1 fun d2 st2 v2 h2 tk2 q2 k2 a2 e2 n2=>?_
 exact cmp2_ok (s:={ s with heap:=h2,toks:=tk2 }) room a2 k2 (e2.den n1) n2 fun z tk kz=>k _ _ _ h2 tk q2 kz a2 (e1.trans e2) (by show Den _ _ _ _; unfold Den; rfl)
theorem Sb.cmp2 {o:Cop2} {l r:Expr} {pos:Pos} {whole:Sem Value} {Wl:(D→St→Prop)→Prop} {Wr:St→(D→St→Prop)→Prop} (room:Room A 1) (hl:Sx c A (eval l c.env) st Wl) (hr:∀ st',Sx c A (eval r c.env) st' (Wr st')) (hp:plainR r = true) :
  Sb c A (isTrue (.Compare l [o.op] [r] pos) c.env whole) st fun K=>Wl fun a st1=>Wr st1 fun b st2=>cmp2 o a b st2 fun z=>K z st2:=by
 intro s p K Q a w k
 refine wpAny_isTrue_Compare1 (hl s p _ _ a w fun d1 st1 v1 h1 tk1 q1 k1 a1 e1 n1=>?_) (marks_of hp)
 refine hr st1 _ q1 _ _ a1 k1 fun d2 st2 v2 h2 tk2 q2 k2 a2 e2 n2=>?_
 exact cmp2_ok (s:={ s with heap:=h2,toks:=tk2 }) room a2 k2 (e2.den n1) n2 fun z tk kz=>wpAny_truthy_bool (k _ _ h2 tk q2 kz a2 (e1.trans e2))
noncomputable def truD (d:D) (st:St) (K:Bool→Prop):Prop:=(∃ b,deref st d = .fro (.bool b)∧K b)∨∃ l,A3 (deref st d = .fro (.lst l)) (l.length≤1000) (K (!l.isEmpty))
theorem Sb.truth {e:Expr} {W:(D→St→Prop)→Prop} (he:Sx c A (eval e c.env) st W) (hp:∀ whole:Sem Value,isTrue e c.env whole = (do let v ← whole; standAt e.pos; holding [v] (truthy v))) :
  Sb c A (isTrue e c.env (eval e c.env)) st fun K=>W fun d st'=>truD d st' fun b=>K b st':=by
 intro s p K Q a w k
 refine isTrue_plain (he s p _ _ a w fun d st' v h tk q kd a' ex n=>?_) (hp _)
 rcases kd with ⟨b,e,kd⟩ | ⟨l,e,k1,k2⟩
 ·have:=deref_fro a' e n
  subst this
  exact wpAny_truthy_bool (k _ _ h tk q kd a' ex)
 ·obtain ⟨y,vs,rfl,hl,dn⟩:=listAt (s:={ s with heap:=h,toks:=tk }) a' n e
  have e1:=dn.length
  refine wpAny_truthy_list hl ?_ ?_
  ·rw [List.size_toArray,← e1]
   exact Int.lt_of_le_of_lt (Int.ofNat_le.mpr k1) (by decide)
  ·have:vs.toArray.isEmpty = l.isEmpty:=by
    cases vs <;> cases l <;> first | rfl | exact Nat.noConfusion e1
   rw [this]
   exact k _ _ h _ q k2 a' ex
noncomputable def catD (a b:D) (st:St) (K:D→St→Prop):Prop:=E2 fun l m=>A4 (deref st a = .fro (.lst l)) (deref st b = .fro (.lst m)) (l.length + m.length≤1000) (K (.fro (.lst (l++m))) st)
theorem Sx.cat {l r:Expr} {pos:Pos} {Wl:(D→St→Prop)→Prop} {Wr:St→(D→St→Prop)→Prop} (hl:Sx c A (eval l c.env) st Wl) (hr:∀ st',Sx c A (eval r c.env) st' (Wr st')) :
  Sx c A (eval (.BinOp l .Add r pos) c.env) st fun K=>Wl fun a st1=>Wr st1 fun b st2=>catD a b st2 K:=by
 intro s p K Q a w k
 refine wpAny_BinOp (hl s p _ _ a w fun d1 st1 v1 h1 tk1 q1 k1 a1 e1 n1=>?_)
 refine hr st1 _ q1 _ _ a1 k1 fun d2 st2 v2 h2 tk2 q2 k2 a2 e2 n2=>?_
 obtain ⟨l,m,f1,f2,k21,k22⟩:=k2
 have g1:=deref_fro a2 f1 (e2.den n1)
 have g2:=deref_fro a2 f2 n2
 obtain ⟨y,vs,rfl,⟨ny,y1⟩,dn⟩:=g1
 obtain ⟨z,us,rfl,⟨nz,z1⟩,dm⟩:=g2
 refine PySem.P.add_list (s:={ s with heap:=h2,toks:=tk2 }) (items:=vs.toArray) (items2:=us.toArray) (a2.sub _ _ y1) (a2.sub _ _ z1) ?_ ?_
 ·obtain ⟨G',l1,l2,l3⟩:=a2.alloc { cls:=.type "list",data:=.seq (vs.toArray++us.toArray) } rfl
  refine k _ _ _ _ tk2 { q2 with G:=G' } k22 l3 ((e1.trans e2).trans ⟨⟨[],by simp⟩,l1⟩) ?_
  refine lstFro (n:=0) (vs:=vs++us) ?_ (Dens.mono l1 _ _ (dn.append dm))
  rw [l2]; simp [lobj]
 ·have:=dn.length
  have:=dm.length
  have:=k21
  simp only [List.size_toArray]
  rw [sizeLine_eq]; omega
end
section
variable {c:Cx} {A:Around} {st:St} {p:Vw} {h:Heap}
noncomputable def pickD (x:Str) (l:List Nat) (d:D) (K:D→Prop):Prop:=E2 fun z k=>A3 (d = .fro (.int z)) (idxL l z = some k) (K (.fro (.str k)))
theorem Sx.pick {x:Str} {n:Nat} {kp pos:Pos} {i:Expr} {l:List Nat} {W:(D→St→Prop)→Prop} (hl:l.all (fun k=>Nat.blt k nmL.length && ((nm k) == (⟨#[(nm k).cps.getD 0 0]⟩:Str))) = true) (hx:x == (⟨(l.map fun k=>(nm k).cps.getD 0 0).toArray⟩:Str)) (hi:Sx c A (eval i c.env) st W) (hs:noSlice i = true) :
  Sx c A (eval (.Subscript (.Constant (.str x) n kp) i pos) c.env) st fun K=>W fun d st'=>pickD x l d fun r=>K r st':=by
 intro s p K Q a w k
 refine Subscript_ (by
  show wpAny _ _ (mkText x) _ _ _
  refine wpAny_mkText ?_
  refine hi { s with toks:=s.toks + 1 } p _ _ a w fun d st' v h' tk q kd a' ex n=>?_
  obtain ⟨z,k',rfl,hk,kd⟩:=kd
  obtain ⟨t,rfl⟩:=n
  obtain ⟨z0,z1,z2⟩:=idxL_some hk
  have hx':=eq_of_beq hx
  have hk2:=List.all_eq_true.mp hl k' (List.mem_of_getElem? z2)
  obtain ⟨hk3,hk4⟩:=Bool.and_eq_true_iff.mp hk2
  have hlt:=(List.getElem?_eq_some_iff.mp z2).1
  have hlen:x.length = l.length:=by rw [hx']; simp [Str.length]
  refine tail_any (typeIs_str _ _ _) PySem.F.slot_str_getitem.lookup (getItem_str (c:=(nm k').cps.getD 0 0) ?_ ?_ ?_) (subscripted_of hs)
  ·rw [Bool.or_eq_false_iff]; exact ⟨decide_eq_false (by omega),decide_eq_false (by omega)⟩
  ·rw [hlen]
   have hz:¬ z < 0:=by omega
   have hl':0≤z∧z < (l.length:Int):=⟨z0,by omega⟩
   simp only [seqIndex?,hz,if_false,hl',and_self,if_true,Option.bind_some]
   rw [hx']
   simp [z2]
  ·refine k _ _ _ h' _ q kd a' ex ?_
   show Den _ _ _ _
   unfold Den
   exact ⟨Nat.le_of_ble_eq_true hk3,tk,congrArg (fun y=>Value.str y tk) (eq_of_beq hk4).symm⟩)
noncomputable def uptoD (n:Nat) (d:D) (st:St) (K:D→St→Prop):Prop:=E2 fun l ns=>A4 (deref st d = .fro (.lst l)) (l.length≤1048576) (intsF l = some ns) (K (.fro (.lst ((ns.take n).map .int))) st)
theorem Sx.upto {x:Str} {px kp sp pos:Pos} {kn:Nat} {n:Nat} {W:(D→St→Prop)→Prop} (he:Sx c A (eval (.Name x px) c.env) st W) :
  Sx c A (eval (.Subscript (.Name x px) (.Slice none (some (.Constant (.int n) kn kp)) none sp) pos) c.env) st fun K=>W fun d st'=>uptoD n d st' K:=by
 intro s p K Q a w k
 refine Subscript_ (he s p _ _ a w fun d st' v h tk q kd a' ex nd=>?_)
 refine wpAny_Slice (wpAny_pure (wpAny_Constant_int (k:=kn) (pos:=kp) (wpAny_pure ?_)))
 obtain ⟨l,ns,e,k1,hns,k2⟩:=kd
 obtain ⟨y,vs,rfl,hl,dn⟩:=listAt (s:={ s with heap:=h,toks:=tk }) a' nd e
 have ia:=intsF_are hns dn
 refine slice_listK (s:={ s with heap:=h,toks:=tk + 1 }) (lo:=none) (hi:=some n) hl .none (.int _ _) ?_ (ht:=fun _=>rfl) (hs:=rfl) (hsz:=?_)
 ·have hI:=slice_ints_uptoW ia (y:=(n:Int)) (Int.natCast_nonneg n)
  have a2:=a'.push { cls:=.type "slice",data:=.fields #[.none,.int n tk,.none] }
  obtain ⟨G',l1,l2,l3⟩:=a2.alloc { cls:=.type "list",data:=.seq (slicePick vs.toArray none (some n) none) } rfl
  have sz:(h.push { cls:=.type "slice",data:=.fields #[.none,.int n tk,.none] }).objs.size = h.objs.size + 1:=Heap.size_push ..
  rw [sz] at l2
  refine k _ _ _ _ _ { q with G:=G' } k2 l3 (ex.trans ⟨⟨[],by simp⟩,l1⟩) ?_
  refine lstFro (n:=0) (vs:=(slicePick vs.toArray none (some n) none).toList) (by rw [l2]; simp [lobj]) ?_
  rw [Int.toNat_natCast] at hI
  exact ints_dens hI
 ·have:=dn.length
  simp only [List.size_toArray]
  rw [sizeLine_eq]; omega
end
section
variable {prog:Program} {w:World} {A:Around} {E:Value→Shared→Prop} {s:Shared}
noncomputable def testsOf (ifs:List Expr) (env:Env):Sem Bool:=forIn ifs true fun c r=>if r = true then do let ok ← isTrue c env (eval c env); pure (ForInStep.yield ok) else pure (ForInStep.yield r)
theorem comp_loop {elt target iter:Expr} {ifs:List Expr} {scope:Scope} {pos:Pos} {it acc:Value} {env:Env} {R:Result→Shared→Prop} (I:Nat→Shared→Prop)
  (turn:∀ n s,I n s→wpAny (model prog w) A (pyNext it) (fun r s₁=>match r with
   | none=>R (.ok .next) s₁
   | some v=>wpAny (model prog w) A (letOwnedTupleGo target it v) (fun _ s₀=>wpAny (model prog w) A (assign target env v) (fun _ s₂ =>
     wpAny (model prog w) A (testsOf ifs env) (fun ok s₃=>if ok = true then wpAny (model prog w) A (eval elt env) (fun x s₄ =>
      wpAny (model prog w) A (call (.builtin "list.append") [acc,x]) (fun _ s₅=>∃ m,m < n∧I m s₅) (notedBy (model prog w) A env fun e s'=>R (.error e) s') s₄) (notedBy (model prog w) A env fun e s'=>R (.error e) s') s₃
      else ∃ m,m < n∧I m s₃) (notedBy (model prog w) A env fun e s'=>R (.error e) s') s₂)
     (notedBy (model prog w) A env fun e s'=>R (.error e) s') s₀) (notedBy (model prog w) A env fun e s'=>R (.error e) s') s₁) (notedBy (model prog w) A env fun e s'=>R (.error e) s') s)
  (n:Nat) (h:I n s):codeAny (model prog w) A (.compLoop (.ListComp elt [⟨target,iter,ifs,0⟩] scope pos) 0 it acc env) R s:=by
 refine codeAny_loop rfl I (fun n s hI=>?_) n h
 show wpAny _ A ((compTurn (.ListComp elt [⟨target,iter,ifs,0⟩] scope pos) 0 it acc env).onRaise (fun x=>do noteFrame x env; theTreesLotGoes x)) _ _ s
 refine wpAny_noted ?_
 rw [compTurn_list]
 refine wpAny_bind (wpAny_standAt (wpAny_bind (wpAny_mono (turn n s hI) (fun r s₁ h₁=>?_) fun _ _ h'=>h')))
 cases r with
 | none=>exact wpAny_pure h₁
 | some v =>
  refine wpAny_bind (wpAny_mono h₁ (fun _ s₀ h₀'=>?_) fun _ _ h'=>h')
  refine wpAny_bind (wpAny_mono h₀' (fun _ s₂ h₂=>?_) fun _ _ h'=>h')
  refine wpAny_bind (wpAny_mono h₂ (fun okb s₃ h₃=>?_) fun _ _ h'=>h')
  cases okb with
  | false=>exact wpAny_pure ⟨rfl,h₃⟩
  | true=>exact wpAny_bind (wpAny_bind (wpAny_mono h₃ (fun x s₄ h₄=>wpAny_bind (wpAny_mono h₄ (fun _ s₅ h₅=>wpAny_pure (wpAny_pure ⟨rfl,h₅⟩)) fun _ _ h'=>h')) fun _ _ h'=>h'))
end
section
variable {c c':Cx} {A:Around} {st st':St} {p q:Vw} {h h₁ h' h'':Heap}
theorem At.enter (x:At c st p h) {C:Addr} {names:List Str} {cl:List (Str × Nat)} {env:Env} (k:Le h h₁) (hn:h.get? C = none) (hC:h₁.Ns C fun _=>none) (e1:env.locals = C) (e2:env.scope.kind = .function) (e3:env.globals = mainGlobals) (e4:env.builtins = builtinsNs)
  (nms:∀ (i:Nat) y,names[i]? = some y→env.kindOf y = some .local) (nod:names.Nodup) (hcl:∀ (y:Str) (i:Nat),(y,i)∈cl→∃ b,A3 (p.ρ[i]? = some b) (env.cells.lookup y = some b) (env.kindOf y = some .cell∨env.kindOf y = some .free)) {loc:List (Option D)} (hloc:∀ (i:Nat),∀ d:D,loc[i]? ≠ some (some d)) :
  At ⟨c.w,env,names,p.G,h,p.fps,cl⟩ ⟨loc,st.mu⟩ p h₁ where
 gnd:=x.gnd
 sub:=x.sub.trans k
 new:=fun b o e=>.inl e
 g0:=Le.refl _
 keep:=fun b o e _ _=>k b o e
 live:=fun b o e=>⟨o,k b o e⟩
 kind:=e2
 glob:=e3
 bi:=e4
 ns:=⟨_,by show h₁.Ns env.locals _; rw [e1]; exact hC,fun i y d _ e=>absurd e (hloc i d)⟩
 nms:=nms
 nod:=nod
 frG:=by
  show p.G.get? env.locals = none
  rw [e1]
  cases z:p.G.get? C with
  | none=>rfl
  | some o=>exact absurd ⟨o,x.sub _ _ z⟩ (not_live hn)
 frF:=fun i fi e hb=>not_live hn (x.off i fi e C (by rw [← e1]; exact hb)).2
 len1:=x.len1
 len2:=x.len2
 mus:=fun i m e=>by obtain ⟨a,fp,e1,e2,y⟩:=x.mus i m e; exact ⟨a,fp,e1,e2,by simpa using y.frame (r:=[]) (Le.refl _) fun b _ o q=>k _ _ q⟩
 sep:=x.sep
 off:=fun i fi e b hb=>by obtain ⟨a,o,q⟩:=x.off i fi e b hb; exact ⟨a,o,k _ _ q⟩
 own:=fun i fi e b hb=>.inl (by rw [List.getD_eq_getElem?_getD]; show b∈(p.fps[i]?).getD []; rw [e]; exact hb)
 lenF:=Nat.le_of_eq x.len2
 cl:=hcl
theorem At.leave {env:Env} {names:List Str} {cl:List (Str × Nat)} (x:At c st p h) (y:At ⟨c.w,env,names,p.G,h,p.fps,cl⟩ st' q h') (hn:h.get? env.locals = none) (ex:Ext p q) (hs:Heap.SameBut env.locals h' h'') :
  At c ⟨st.loc,st'.mu⟩ q h'':=by
 have k:∀ b o,b ≠ env.locals→h'.get? b = some o→h''.get? b = some o:=fun b o hb e=>(hs.2 b hb).trans e
 have nf:c.env.locals ∉ p.fps.flatten:=fun z=>by
  obtain ⟨fi,hfi,hb⟩:=List.mem_flatten.mp z
  obtain ⟨i,hi⟩:=List.mem_iff_getElem?.mp hfi
  exact x.frF i fi hi hb
 have nl:c.env.locals ≠ env.locals:=fun z=>not_live hn (z ▸ x.locals_live)
 have kp:∀ b o,h.get? b = some o→b ∉ p.fps.flatten→h''.get? b = some o:=fun b o e n=>by
  have ne:b ≠ env.locals:=fun z=>by rw [z,hn] at e; cases e
  exact k b o ne (y.keep b o e n ne)
 exact { x with
  gnd:=y.gnd
  sub:=fun b o e=>k b o (fun z=>by rw [z,show q.G.get? env.locals = none from y.frG] at e; cases e) (y.sub b o e)
  new:=fun b o e=>by
   rcases y.new b o e with z | z | z
   ·exact x.new b o z
   ·exact .inr (.inl (x.fresh z))
   ·obtain ⟨fi,hfi,hb⟩:=List.mem_flatten.mp z
    obtain ⟨i,hi⟩:=List.mem_iff_getElem?.mp hfi
    rcases x.own i fi hi b hb with r | r
    ·exact .inr (.inr (getD_flatten r))
    ·exact .inr (.inl r)
  g0:=x.g0.trans y.g0
  keep:=fun b o e n l=>by
   refine kp b o (x.keep b o e n l) fun z=>?_
   obtain ⟨fi,hfi,hb⟩:=List.mem_flatten.mp z
   obtain ⟨i,hi⟩:=List.mem_iff_getElem?.mp hfi
   rcases x.own i fi hi b hb with r | r
   ·exact n (getD_flatten r)
   ·rw [r] at e; cases e
  live:=fun b o e=>by
   obtain ⟨o1,e1⟩:=x.live b o e
   obtain ⟨o2,e2⟩:=y.live b o1 e1
   exact ⟨o2,k b o2 (fun z=>by rw [z,hn] at e1; cases e1) e2⟩
  ns:=by
   obtain ⟨m,⟨o,es,ep,ho,r⟩,b1⟩:=x.ns
   exact ⟨m,⟨o,es,ep,kp _ _ ho nf,r⟩,fun i z d e1 e2=>by obtain ⟨v,q1,q2⟩:=b1 i z d e1 e2; exact ⟨v,q1,ex.den q2⟩⟩
  frG:=by
   cases z:q.G.get? c.env.locals with
   | none=>rfl
   | some o =>
    rcases y.new _ o z with w | w | w
    ·have w':p.G.get? c.env.locals = some o:=w
     rw [x.frG] at w'; cases w'
    ·exact absurd x.locals_live (not_live w)
    ·exact absurd w nf
  frF:=fun i fi e hb=>by
   rcases y.own i fi e _ hb with z | z
   ·exact nf (getD_flatten z)
   ·exact not_live z x.locals_live
  len1:=y.len1
  len2:=y.len2
  mus:=fun i m e=>by obtain ⟨a,fp,e1,e2,z⟩:=y.mus i m e; exact ⟨a,fp,e1,e2,by simpa using z.frame (r:=[]) (Le.refl _) fun b hb o w=>k _ _ (fun u=>y.frF i fp e2 (u ▸ hb)) w⟩
  sep:=y.sep
  off:=fun i fi e b hb=>by obtain ⟨a,o,w⟩:=y.off i fi e b hb; exact ⟨a,o,k _ _ (fun u=>y.frF i fi e (u ▸ hb)) w⟩
  own:=fun i fi e b hb=>by
   rcases y.own i fi e b hb with z | z
   ·have z':b∈p.fps.getD i []:=z
    rw [List.getD_eq_getElem?_getD] at z'
    cases w:p.fps[i]? with
    | none=>rw [w] at z'; cases z'
    | some fo=>rw [w] at z'; exact x.own i fo w b z'
   ·exact .inr (x.fresh z)
  lenF:=by
   have:=x.lenF
   have h2:p.fps.length≤q.ρ.length:=y.lenF
   have:=x.len2
   omega
  cl:=fun z i e=>by
   obtain ⟨b,e1,e2,e3⟩:=x.cl z i e
   obtain ⟨⟨r,hr⟩,_⟩:=ex
   refine ⟨b,?_,e2,e3⟩
   rw [hr,List.getElem?_append_left (List.getElem?_eq_some_iff.mp e1).1]; exact e1 }
end
section
variable {c:Cx} {A:Around} {st:St} {p:Vw} {h:Heap}
noncomputable def accD (N:Nat) (d:D) (st:St) (K:St→Prop):Prop:=∃ xs,A3 (st.mu[N]? = some (some (.lst xs))) (Nat.ble xs.length 1000 = true) (K { st with mu:=st.mu.set N (some (.lst (xs++[normD st d]))) })
noncomputable def compW (t:Tg) (Wt:St→(Bool→St→Prop)→Prop) (We:St→(D→St→Prop)→Prop) (N:Nat):List F→St→(St→Prop)→Prop
 | [],st,K=>K st
 | f :: l,st,K=>setT t f st fun st1=>Wt st1 fun ok st2=>if ok = true then We st2 fun d st3=>accD N d st3 fun st4=>compW t Wt We N l st4 K else compW t Wt We N l st2 K
theorem comp_ok {t:Tg} {te elt iter:Expr} {ifs:List Expr} {scope:Scope} {pos:Pos} {I D:Addr} {N:Nat} {fp:List Addr} {items:List F} {G:Heap} {P:Nat→Value→Prop} {S:Nat→Heap→Prop} {s:Shared} {p:Vw} {Wt:St→(Bool→St→Prop)→Prop} {We:St→(Mine.D→St→Prop)→Prop} {K:St→Prop} {Q:Shared→Prop} {E:Value→Shared→Prop}
  (hh:A.handled = none) (it:ItAt c A te I fp items G P S) (ht:TgOK c t te) (hnc:∀ i,t ≠ .cell i)
  (hT:∀ c':Cx,c'.w = c.w→c'.env = c.env→c'.names = c.names→c'.cl = c.cl→∀ st',Sb c' A (testsOf ifs c'.env) st' (Wt st'))
  (hW:∀ c':Cx,c'.w = c.w→c'.env = c.env→c'.names = c.names→c'.cl = c.cl→∀ st',Sx c' A (eval elt c'.env) st' (We st'))
  (a:At c st p s.heap) (hG:Le G p.G) (h0:S 0 s.heap) (i1:p.G.get? I = none) (i2:I ≠ c.env.locals) (i3:∀ (i:Nat) fi,p.fps[i]? = some fi→I ∉ fi) (i4:c.h₀.get? I = none) (hD:p.ρ[N]? = some D) (hw:compW t Wt We N items st K)
  (k:∀ st' h' tk q,K st'→At c st' q h'→Ext p q→Q { s with heap:=h',toks:=tk }) :
  codeAny (model PM c.w) A (.compLoop (.ListComp elt [⟨te,iter,ifs,0⟩] scope pos) 0 (.ref I) (.ref D) c.env) (fun r s'=>match r with | .ok f=>Q s' | .error e=>E e s') s:=by
 refine comp_loop (fun n s'=>E5 fun i st' q h' tk=>A9 (s' = { s with heap:=h',toks:=tk }) (i≤items.length) (n = items.length - i) (At c st' q h') (Ext p q) (S i h') (q.G.get? I = none) (∀ (i:Nat) fi,q.fps[i]? = some fi→I ∉ fi) (compW t Wt We N (items.drop i) st' K)) ?_ items.length
  ⟨0,st,p,s.heap,s.toks,rfl,Nat.zero_le _,rfl,a,.refl p,h0,i1,i3,hw⟩
 rintro n s' ⟨i,st',q,h',tk,rfl,hi,rfl,a',ex,hS,j1,j3,hw'⟩
 rcases Nat.lt_or_ge i items.length with lt | ge
 ·refine it.W.item i _ _ _ lt hS fun v h2 tk2 hP hS2 kp=>?_
  obtain ⟨f,ef,df⟩:=it.item i v lt hP
  have a2:At c st' q h2:=a'.touch (fun b o hb e=>kp b o (by simpa using hb) e) j1 i2 j3 i4
  have dq:Den c.w q.G f v:=Den.mono (hG.trans ex.2) f v df
  refine wpAny_mono (it.own (i + 1) v { s with heap:=h2,toks:=tk2 } _ hS2 ⟨_,f,df⟩ ?_) (fun _ _ x=>x) (fun _ _ x=>x.elim)
  have hd:items.drop i = f :: items.drop (i + 1):=by
   obtain ⟨l1,l2⟩:=List.getElem?_eq_some_iff.mp ef
   rw [List.drop_eq_getElem_cons l1,l2]
  rw [hd] at hw'
  unfold compW at hw'
  refine wpAny_mono (setT_ok (s:={ s with heap:=h2,toks:=tk2 }) (Q:=fun _ s₂=>wpAny (model PM c.w) A (testsOf ifs c.env) _ _ s₂) hh ht a2 hw' dq fun st1 h3 tk3 hw3 a3 kp30=>?_) (fun _ _ x=>x) (fun _ _ x=>x.elim)
  have kp3:∀ b o,b ≠ c.env.locals→h2.get? b = some o→h3.get? b = some o:=fun b o hb e=>kp30 b o hb (fun ci fi z=>absurd z (hnc ci)) e
  have hS3:S (i + 1) h3:=it.W.frame _ _ _ hS2 fun b hb o e=>kp3 b o (fun z=>by
   by_cases y:b = I
   ·exact i2 (y ▸ z)
   ·obtain ⟨o',ho'⟩:=it.fp b hb y
    have:=(hG.trans ex.2) b o' ho'
    rw [z,a3.frG] at this; cases this) e
  have step:∀ {st1 st2:St} {q1 q2:Vw} {h1 h2:Heap},At c st1 q1 h1→At (c.at_ q1.G h1 q1.fps) st2 q2 h2→Ext p q1→Ext q1 q2→S (i + 1) h1→q1.G.get? I = none→(∀ (i:Nat) fi,q1.fps[i]? = some fi→I ∉ fi) →
    At c st2 q2 h2∧S (i + 1) h2∧q2.G.get? I = none∧(∀ (i:Nat) fi,q2.fps[i]? = some fi→I ∉ fi):=by
   intro st1 st2 q1 q2 h1 h2 b1 b2 ex1 ex2 hS k1 k3
   have notIn:I ∉ q1.fps.flatten:=fun z=>by
    obtain ⟨fi,hfi,hb⟩:=List.mem_flatten.mp z
    obtain ⟨i',hi'⟩:=List.mem_iff_getElem?.mp hfi
    exact k3 i' fi hi' hb
   obtain ⟨oI,hoI⟩:=it.live _ _ hS
   refine ⟨b1.unbase b2,it.W.frame _ _ _ hS fun b hb o e=>?_,?_,?_⟩
   ·by_cases y:b = I
    ·subst y
     exact b2.keep b o e notIn i2
    ·obtain ⟨o',ho'⟩:=it.fp b hb y
     have e1:=b1.sub _ _ ((hG.trans ex1.2) b o' ho')
     rw [e] at e1
     cases e1
     exact b2.sub _ _ (ex2.2 _ _ ((hG.trans ex1.2) b _ ho'))
   ·cases z:q2.G.get? I with
    | none=>rfl
    | some o =>
     rcases b2.new I o z with y | y | y
     ·have y':q1.G.get? I = some o:=y
      rw [k1] at y'; cases y'
     ·have y':h1.get? I = none:=y
      rw [hoI] at y'; cases y'
     ·exact absurd y notIn
   ·intro i' fi e hb
    rcases b2.own i' fi e I hb with y | y
    ·exact notIn (getD_flatten y)
    ·have y':h1.get? I = none:=y
     rw [hoI] at y'; cases y'
  refine wpAny_mono (hT (c.at_ q.G h3 q.fps) rfl rfl rfl rfl st1 { s with heap:=h3,toks:=tk3 } q _ (fun ok s₃=>if ok = true then wpAny (model PM c.w) A (eval elt c.env) (fun x s₄=>wpAny (model PM c.w) A (PySem.call (.builtin "list.append") [.ref D,x]) (fun _ s₅=>∃ m,m < items.length - i∧E5 fun i st' q h' tk=>A9 (s₅ = { s with heap:=h',toks:=tk }) (i≤items.length) (m = items.length - i) (At c st' q h') (Ext p q) (S i h') (q.G.get? I = none) (∀ (i:Nat) fi,q.fps[i]? = some fi→I ∉ fi) (compW t Wt We N (items.drop i) st' K)) _ s₄) _ s₃
    else ∃ m,m < items.length - i∧E5 fun i st' q h' tk=>A9 (s₃ = { s with heap:=h',toks:=tk }) (i≤items.length) (m = items.length - i) (At c st' q h') (Ext p q) (S i h') (q.G.get? I = none) (∀ (i:Nat) fi,q.fps[i]? = some fi→I ∉ fi) (compW t Wt We N (items.drop i) st' K)) a3.rebase hw3 fun ok st4 h4 tk4 q4 k4 a4 ex4=>?_) (fun _ _ x=>x) (fun _ _ x=>x.elim)
  obtain ⟨a5,hS4,j1',j3'⟩:=step a3 a4 ex ex4 hS3 j1 j3
  cases ok with
  | false =>
   simp only [Bool.false_eq_true,if_false] at k4 ⊢
   exact ⟨_,by omega,i + 1,st4,q4,h4,tk4,rfl,lt,rfl,a5,ex.trans ex4,hS4,j1',j3',k4⟩
  | true =>
   simp only [if_true] at k4 ⊢
   refine wpAny_mono (hW (c.at_ q4.G h4 q4.fps) rfl rfl rfl rfl st4 { s with heap:=h4,toks:=tk4 } q4 _ _ a5.rebase k4 fun d st6 x h6 tk6 q6 k6 a6 ex6 n6=>?_) (fun _ _ x=>x) (fun _ _ x=>x.elim)
   obtain ⟨a7,hS6,m1,m3⟩:=step a5 a6 (ex.trans ex4) ex6 hS4 j1' j3'
   obtain ⟨xs,hxs,k61,k62⟩:=k6
   obtain ⟨D',fpD,r1,r2,rfl,vs,nn,r4,r5⟩:=a7.mus _ _ hxs
   have:D' = D:=by
    obtain ⟨⟨r,hr⟩,_⟩:=(ex.trans ex4).trans ex6
    rw [hr,List.getElem?_append_left (List.getElem?_eq_some_iff.mp hD).1,hD] at r1
    exact (Option.some.inj r1).symm
   subst this
   refine call_meets PySem.F.slot_list_append ⟨_,r4,rfl⟩ PySem.F.entry_list_append (PySem.F.args_list_append_2 _ _) (PySem.list_append D' vs.toArray nn x (by rw [List.size_toArray,← r5.length]; exact small k61)) ⟨r4,?_⟩
   have hn:=get?_update_seq (c:="list") (xs:=vs.toArray) (n:=nn) r4 (fun xs=>xs.push x)
   have a8:=a7.grow (h':=h6.update D' (Obj.mapSeq fun xs=>xs.push x)) (us:=[x]) (m:=[normD st6 d]) hxs r1 r2 r5 r4 (n':=if (vs.toArray.push x).size == vs.toArray.size then nn else nn + 1) (by rw [hn]; simp [lobj,seqObj]) (fun b o hb e=>by rw [Heap.get?_update_ne _ _ _ _ hb]; exact e) ⟨normD_den a7 n6,trivial⟩
   have hDI:D' ≠ I:=fun z=>m3 N _ r2 (by simp [z])
   refine ⟨_,?_,i + 1,_,q6,_,tk6,rfl,lt,rfl,a8,(ex.trans ex4).trans ex6,?_,m1,m3,k62⟩
   ·omega
   ·refine it.W.frame _ _ _ hS6 fun b hb o e=>?_
    rw [Heap.get?_update_ne _ _ _ _ ?_]
    ·exact e
    ·intro z
     by_cases y:b = I
     ·exact hDI (z ▸ y)
     ·obtain ⟨o',ho'⟩:=it.fp b hb y
      have:=(a7.off N _ r2 D' (by simp)).1
      rw [← z,((hG.trans ((ex.trans ex4).trans ex6).2) b o' ho')] at this
      cases this
 ·have:i = items.length:=Nat.le_antisymm hi ge
  subst this
  refine it.W.done _ _ _ hS fun h2 tk2 kp=>?_
  have a2:At c st' q h2:=a'.touch (fun b o hb e=>kp b o (by simpa using hb) e) j1 i2 j3 i4
  rw [List.drop_length] at hw'
  unfold compW at hw'
  exact k st' h2 tk2 q hw' a2 ex
end
noncomputable def cloOf (env:Env):List (Str × NameKind)→List (Str × Addr)→Option (List (Str × Addr))
 | [],acc=>some acc
 | (n,k) :: l,acc=>if k == .free then (match env.cells.lookup n with
  | some b=>cloOf env l ((n,b) :: acc)
  | none=>none) else cloOf env l acc
theorem cellOf_some {env:Env} {n:Str} {b:Addr} (h:env.cells.lookup n = some b):cellOf env n = pure b:=by unfold cellOf; rw [h]
theorem closureFor_of {scope:Scope} {env:Env} {cs:List (Str × Addr)} (h:cloOf env scope.names [] = some cs):closureFor scope env = pure cs:=by
 unfold closureFor
 dsimp only
 revert h
 generalize ([]:List (Str × Addr)) = acc
 generalize scope.names = l
 intro h
 induction l generalizing acc with
 | nil=>unfold cloOf at h; cases h; rfl
 | cons x l ih =>
  obtain ⟨n,k⟩:=x
  unfold cloOf at h
  rw [List.forIn_cons]
  by_cases q:(k == NameKind.free) = true
  ·rw [if_pos q] at h
   split at h
   ·rename_i b hb
    simp only [q,if_true,cellOf_some hb]
    exact ih _ h
   ·cases h
  ·rw [if_neg q] at h
   simp only [q,if_false]
   exact ih _ h
section
variable {c:Cx} {A:Around} {st:St} {p:Vw} {h:Heap}
noncomputable def cloL:List (Str × NameKind)→List (Str × Nat)→Option (List (Str × Nat))
 | [],_=>some []
 | (n,k) :: l,cl=>if k == .free then (match cl.lookup n,cloL l cl with
  | some i,some r=>some ((n,i) :: r)
  | _,_=>none) else cloL l cl
theorem lookup_mem {α:Type}:∀ {l:List (Str × α)} {n:Str} {a:α},l.lookup n = some a→(n,a)∈l
 | [],_,_,h=>by cases h
 | (m,b) :: l,n,a,h=>by
  rw [List.lookup_cons] at h
  cases q:n == m with
  | true=>rw [q] at h; cases h; rw [eq_of_beq q]; simp
  | false=>rw [q] at h; exact List.mem_cons_of_mem _ (lookup_mem h)
theorem cloL_ok (a:At c st p h) {cl':List (Str × Nat)}:∀ {l:List (Str × NameKind)} {acc:List (Str × Addr)},cloL l c.cl = some cl' →
  ∃ cs,A3 (cloOf c.env l acc = some cs) (∀ y b,(y,b)∈acc→(y,b)∈cs) (∀ y i,(y,i)∈cl'→∃ b,A3 (p.ρ[i]? = some b) ((y,b)∈cs) ((y,NameKind.free)∈l)):=by
 intro l
 induction l generalizing cl' with
 | nil=>intro acc e; unfold cloL at e; cases e; exact ⟨acc,rfl,fun _ _ x=>x,fun y i x=>by cases x⟩
 | cons x l ih =>
  intro acc e
  obtain ⟨n,k⟩:=x
  unfold cloL at e
  unfold cloOf
  by_cases q:(k == NameKind.free) = true
  ·rw [if_pos q] at e ⊢
   split at e
   ·rename_i i r h1 h2
    cases e
    obtain ⟨b,b1,b2,b3⟩:=a.cl n i (lookup_mem h1)
    rw [b2]
    obtain ⟨cs,c1,c2,c3⟩:=ih (acc:=(n,b) :: acc) h2
    refine ⟨cs,c1,fun y b' hy=>c2 y b' (List.mem_cons_of_mem _ hy),fun y i' hy=>?_⟩
    rcases List.mem_cons.mp hy with z | z
    ·cases z
     have hk:k = NameKind.free:=eq_of_beq q
     exact ⟨b,b1,c2 n b (by simp),by rw [hk]; simp⟩
    ·obtain ⟨b',d1,d2,d3⟩:=c3 y i' z
     exact ⟨b',d1,d2,List.mem_cons_of_mem _ d3⟩
   ·cases e
  ·rw [if_neg q] at e ⊢
   obtain ⟨cs,c1,c2,c3⟩:=ih (acc:=acc) e
   exact ⟨cs,c1,c2,fun y i hy=>by obtain ⟨b,d1,d2,d3⟩:=c3 y i hy; exact ⟨b,d1,d2,List.mem_cons_of_mem _ d3⟩⟩
theorem compEnvC_eq {scope:Scope} {C:Addr} {cs:List (Str × Addr)} {env:Env}:{ newEnv scope C env.globals cs env.qual none .none (some env) builtinsNs with scope:=relabel scope env } = compEnvC scope cs C env:=by
 first | rfl | (unfold newEnv compEnvC; rfl)
theorem compCore {use:Option (Value→Sem Unit)} {te elt iter:Expr} {ifs:List Expr} {scope:Scope} {pos:Pos} {t:Tg} {names':List Str} {cl':List (Str × Nat)} {Wi:(D→St→Prop)→Prop} {Wt:St→(Bool→St→Prop)→Prop} {We:St→(D→St→Prop)→Prop}
  (hh:A.handled = none) (he:Sx c A (eval iter c.env) st Wi) (hp:plainR iter = true) (hk:scope.kind = .function) (hnames:∀ x∈scope.names,x.2 = .local→scope.names.lookup x.1 = some .local) (hcell:∀ x∈scope.names,x.2 ≠ .cell)
  (hloc:∀ y∈names',scope.names.lookup y = some .local) (nod:names'.Nodup) (hcl:cloL scope.names c.cl = some cl') (hone:∀ (x y:Str × Nat),x∈cl'→y∈cl'→x = y) (hcs:∀ cs,cloOf c.env scope.names [] = some cs→∀ y b,(y,b)∈cs→cs.lookup y = some b)
  (hkf:∀ y i,(y,i)∈cl'→(relabel scope c.env).names.lookup y = some .cell∨(relabel scope c.env).names.lookup y = some .free)
  (ht:∀ c':Cx,c'.names = names'→TgOK c' t te) (hnc:∀ i,t ≠ .cell i)
  (hT:∀ c':Cx,c'.w = c.w→c'.names = names'→c'.cl = cl'→c'.env.scope = relabel scope c.env→∀ st',Sb c' A (testsOf ifs c'.env) st' (Wt st'))
  (hW:∀ c':Cx,c'.w = c.w→c'.names = names'→c'.cl = cl'→c'.env.scope = relabel scope c.env→∀ st',Sx c' A (eval elt c'.env) st' (We st'))
  {s:Shared} {p:Vw} {K:Nat→St→Prop} {Q:Value→Shared→Prop} (a:At c st p s.heap)
  (w:Wi fun d st'=>match deref st' d with
   | .fro (.lst l)=>compW t Wt We st'.mu.length l ⟨List.replicate names'.length none,st'.mu++[some (.lst [])]⟩ fun st2=>K st'.mu.length ⟨st'.loc,st2.mu⟩
   | _=>False)
  (k:∀ (N:Nat) (D C:Addr) st' h' tk q m,K N st'→At c st' q h'→Ext p q→q.ρ[N]? = some D→h'.Ns C m→C ≠ c.env.locals→q.G.get? C = none→(∀ (i:Nat) fi,q.fps[i]? = some fi→C ∉ fi)→c.h₀.get? C = none→compPost (model PM c.w) A NoE use Q (.ref D) C (.ok .next) { s with heap:=h',toks:=tk }) :
  wpAny (model PM c.w) A (comprehension (.ListComp elt [⟨te,iter,ifs,0⟩] scope pos) scope c.env (firstIterPos [⟨te,iter,ifs,0⟩] pos) (newList []) (firstAsync [⟨te,iter,ifs,0⟩]) (firstIter [⟨te,iter,ifs,0⟩] c.env) use) Q NoE s:=by
 obtain ⟨cs,cs1,_,cs3⟩:=cloL_ok (acc:=[]) a hcl
 refine wpAny_comprehension_free rfl (notSet hp) (closureFor_of cs1) hk hnames (he s p _ _ a w fun d st' v h tk q kd a' ex n=>?_)
 split at kd
 ·rename_i l e1
  have:=deref_fro a' e1 n
  obtain ⟨x,vs,rfl,⟨tn,t1⟩,dn⟩:=this
  have hl:h.IsList x vs.toArray:=list_of_lobj (a'.sub _ _ t1)
  refine wpAny_pyIter_list (s:={ s with heap:=h,toks:=tk }) hl (wpAny_newObj_type (hd:=by size_fits) (wpAny_newFunctionEnv hcell (by intro y hy; simp at hy) (fun h₁ hns₁ hsb₁=>?_) hk))
  dsimp only at hns₁ hsb₁ ⊢
  generalize hH1:h.push { cls:=.type "list_iterator",data:=.fields #[.ref x,.int 0 0] } = H1 at hns₁ hsb₁ ⊢
  have sz1:H1.objs.size = h.objs.size + 1:=by rw [← hH1,Heap.size_push]
  generalize hH2:H1.push { cls:=.type "list",dict:=none,data:=.seq ([]:List Value).toArray } = H2 at hns₁ hsb₁ ⊢
  have sz2:H2.objs.size = h.objs.size + 2:=by rw [← hH2,Heap.size_push,sz1]
  have le1:Le h H1:=fun b o e=>by rw [← hH1]; exact Heap.get?_push_of_some _ e
  have le2:Le H1 H2:=fun b o e=>by rw [← hH2]; exact Heap.get?_push_of_some _ e
  have nz:∀ n,h.get? (h.objs.size + n) = none:=fun n=>by
   cases z:h.get? (h.objs.size + n) with
   | none=>rfl
   | some o=>exact absurd (Heap.lt_size z) (Nat.not_lt.mpr (Nat.le_add_right _ _))
  have hC:h.get? H2.objs.size = none:=by rw [sz2]; exact nz 2
  have le3:Le H2 h₁:=fun b o e=>hsb₁.extBut b o (Nat.ne_of_lt (Heap.lt_size e)) (Heap.get?_push_of_some _ e)
  have hI1:H1.get? h.objs.size = some { cls:=.type "list_iterator",data:=.fields #[.ref x,.int 0 0] }:=by rw [← hH1]; exact Heap.get?_push_size _ rfl
  have hD2:H2.get? H1.objs.size = some (lobj [] 0):=by rw [← hH2]; exact Heap.get?_push_size _ rfl
  have hI:h₁.get? h.objs.size = some { cls:=.type "list_iterator",data:=.fields #[.ref x,.int 0 0] }:=le3 _ _ (le2 _ _ hI1)
  have hD:h₁.get? H1.objs.size = some (lobj [] 0):=le3 _ _ hD2
  have le:Le h h₁:=(le1.trans le2).trans le3
  have hx:x ≠ h.objs.size:=fun z=>by
   have:=a'.sub _ _ t1
   rw [z,show h.get? h.objs.size = none from nz 0] at this; cases this
  have E:At ⟨c.w,compEnvC scope cs H2.objs.size c.env,names',q.G,h,q.fps,cl'⟩ ⟨List.replicate names'.length none,st'.mu⟩ q h₁ :=
   a'.enter (env:=compEnvC scope cs H2.objs.size c.env) (names:=names') (cl:=cl') le hC hns₁ rfl hk a'.glob a'.bi (fun i y e=>lookup_relabel_local (hloc y (List.mem_of_getElem? e))) nod (fun y i e=>by
     obtain ⟨b,b1,b2,b3⟩:=cs3 y i e
     obtain ⟨⟨r,hr⟩,_⟩:=ex
     refine ⟨b,?_,hcs cs cs1 y b b2,hkf y i e⟩
     rw [hr,List.getElem?_append_left (List.getElem?_eq_some_iff.mp b1).1]; exact b1)
    (fun i d e=>by rw [List.getElem?_replicate] at e; split at e <;> cases e)
  have ne1:H1.objs.size ≠ H2.objs.size:=by rw [sz1,sz2]; omega
  have E2:=E.addM (m:=.lst []) (a:=H1.objs.size) (fp:=[H1.objs.size]) ⟨rfl,[],0,hD,trivial⟩ (by
   intro b hb
   rw [List.mem_singleton] at hb
   subst hb
   have hn:h.get? H1.objs.size = none:=by rw [sz1]; exact nz 1
   refine ⟨hn,⟨_,hD⟩,?_,ne1,fun i fi e hb=>not_live hn (a'.off i fi e _ hb).2⟩
   cases z:q.G.get? H1.objs.size with
   | none=>rfl
   | some o=>exact absurd ⟨o,a'.sub _ _ z⟩ (not_live hn))
  have i1:q.G.get? h.objs.size = none:=by
   cases z:q.G.get? h.objs.size with
   | none=>rfl
   | some o=>exact absurd ⟨o,a'.sub _ _ z⟩ (not_live (nz 0))
  have i3:∀ (i:Nat) fi,(q.fps++[[H1.objs.size]])[i]? = some fi→h.objs.size ∉ fi:=by
   intro i fi e hb
   rw [List.getElem?_append] at e
   split at e
   ·exact not_live (nz 0) (a'.off i fi e _ hb).2
   ·have:=List.mem_of_getElem? e
    rw [List.mem_singleton] at this
    subst this
    rw [List.mem_singleton] at hb
    rw [sz1] at hb; omega
  have env_eq:({ newEnv scope H2.objs.size c.env.globals cs c.env.qual none .none (some c.env) builtinsNs with scope:=relabel scope c.env }:Env) = compEnvC scope cs H2.objs.size c.env:=compEnvC_eq
  rw [env_eq]
  have loop:codeAny (model PM c.w) A (.compLoop (.ListComp elt [⟨te,iter,ifs,0⟩] scope pos) 0 (.ref h.objs.size) (.ref H1.objs.size) (compEnvC scope cs H2.objs.size c.env))
    (compPost (model PM c.w) A NoE use Q (.ref H1.objs.size) H2.objs.size) { s with heap:=h₁,toks:=tk + ([]:List (Str × Value)).length }:=by
   refine codeAny_mono (comp_ok (c:=⟨c.w,compEnvC scope cs H2.objs.size c.env,names',q.G,h,q.fps,cl'⟩) (s:={ s with heap:=h₁,toks:=tk + ([]:List (Str × Value)).length }) (E:=fun _ _=>False) (N:=st'.mu.length) (Q:=fun s'=>compPost (model PM c.w) A NoE use Q (.ref H1.objs.size) H2.objs.size (.ok .next) s') (D:=H1.objs.size) (I:=h.objs.size) (G:=q.G) (fp:=[h.objs.size,x]) (items:=l) (P:=fun i v=>vs.toArray[i]? = some v) (S:=fun i g=>g.IsListIter h.objs.size x i∧g.IsList x vs.toArray) hh
    ⟨?_,?_,?_,?_,?_⟩ (ht _ rfl) hnc (fun c' e1 e2 e3 e4=>hT c' e1 e3 e4 (by rw [e2]; rfl)) (fun c' e1 e2 e3 e4=>hW c' e1 e3 e4 (by rw [e2]; rfl)) E2 (Le.refl _) ⟨⟨_,hI,rfl,rfl⟩,hl.at fun o e=>le _ _ e⟩ i1 (by show h.objs.size ≠ H2.objs.size; rw [sz2]; omega) i3 (nz 0) ?_ kd fun st2 h2 tk2 q2 k2 a2 ex2=>?_) fun r s' z=>?_
   ·have:=Walks.list (prog:=PM) (w:=c.w) hh h.objs.size x hx vs.toArray
    rw [show vs.toArray.size = l.length from by simp [dn.length]] at this
    exact this
   ·intro i v hi hv
    obtain ⟨u,y1,y2⟩:=dn.get (List.getElem?_eq_getElem hi)
    rw [List.getElem?_toArray] at hv
    rw [y1] at hv; cases hv
    exact ⟨_,List.getElem?_eq_getElem hi,y2⟩
   ·intro b hb hne
    simp only [List.mem_cons,List.not_mem_nil,or_false] at hb
    rcases hb with rfl | rfl
    ·exact absurd rfl hne
    ·exact ⟨_,t1⟩
   ·rintro i g ⟨⟨o,ho,_⟩,_⟩; exact ⟨o,ho⟩
   ·rintro i v s' Q' ⟨z,_⟩ _ hQ
    have ht':=ht ⟨c.w,compEnvC scope cs H2.objs.size c.env,names',q.G,h,q.fps,cl'⟩ rfl
    cases ht' with
    | one=>exact wpAny_pure hQ
    | cell=>exact wpAny_pure hQ
    | many=>cases v <;> first | exact wpAny_pure hQ | exact wpAny_letOwnedTupleGo_listiter z hQ
   ·show (q.ρ++[H1.objs.size])[st'.mu.length]? = some H1.objs.size
    rw [a'.len1]; simp
   ·obtain ⟨m,hm,_⟩:=a2.ns
    have gle:Ext q q2:=by
     obtain ⟨⟨r,hr⟩,g⟩:=ex2
     exact ⟨⟨H1.objs.size :: r,by rw [hr]; simp⟩,g⟩
    have a3:=a'.leave (env:=compEnvC scope cs H2.objs.size c.env) (names:=names') (cl:=cl') a2 hC gle (Heap.SameBut.refl ..)
    refine k st'.mu.length H1.objs.size H2.objs.size _ h2 tk2 q2 m k2 a3 (ex.trans gle) ?_ hm (fun z=>not_live hC (z ▸ a'.locals_live)) a2.frG a2.frF (a'.fresh hC)
    obtain ⟨⟨r,hr⟩,g⟩:=ex2
    have hr':q2.ρ = (q.ρ++[H1.objs.size])++r:=hr
    rw [hr',a'.len1,List.append_assoc,List.getElem?_append_right (Nat.le_refl _)]; simp
   ·rcases r with e | f
    ·exact z.elim
    ·cases use <;> exact z
  exact codeAny_compStart_list loop (wpAny_pyIter_listiter ⟨_,hI,rfl,rfl⟩ loop)
 ·exact kd.elim
section
variable {te elt iter:Expr} {ifs:List Expr} {scope:Scope} {pos:Pos} {t:Tg} {names':List Str} {cl':List (Str × Nat)} {Wi:(D→St→Prop)→Prop} {Wt:St→(Bool→St→Prop)→Prop} {We:St→(D→St→Prop)→Prop}
  (hh:A.handled = none) (he:Sx c A (eval iter c.env) st Wi) (hp:plainR iter = true) (hk:scope.kind = .function) (hnames:∀ x∈scope.names,x.2 = .local→scope.names.lookup x.1 = some .local) (hcell:∀ x∈scope.names,x.2 ≠ .cell)
  (hloc:∀ y∈names',scope.names.lookup y = some .local) (nod:names'.Nodup) (hcl:cloL scope.names c.cl = some cl') (hone:∀ (x y:Str × Nat),x∈cl'→y∈cl'→x = y) (hcs:∀ cs,cloOf c.env scope.names [] = some cs→∀ y b,(y,b)∈cs→cs.lookup y = some b)
  (hkf:∀ y i,(y,i)∈cl'→(relabel scope c.env).names.lookup y = some .cell∨(relabel scope c.env).names.lookup y = some .free)
  (ht:∀ c':Cx,c'.names = names'→TgOK c' t te) (hnc:∀ i,t ≠ .cell i)
  (hT:∀ c':Cx,c'.w = c.w→c'.names = names'→c'.cl = cl'→c'.env.scope = relabel scope c.env→∀ st',Sb c' A (testsOf ifs c'.env) st' (Wt st'))
  (hW:∀ c':Cx,c'.w = c.w→c'.names = names'→c'.cl = cl'→c'.env.scope = relabel scope c.env→∀ st',Sx c' A (eval elt c'.env) st' (We st'))
include hh he hp hk hnames hcell hloc nod hcl hone hcs hkf ht hnc hT hW
theorem Sx.comp:Sx c A (eval (.ListComp elt [⟨te,iter,ifs,0⟩] scope pos) c.env) st fun K=>Wi fun d st'=>match deref st' d with
   | .fro (.lst l)=>compW t Wt We st'.mu.length l ⟨List.replicate names'.length none,st'.mu++[some (.lst [])]⟩ fun st2=>K (.ref st'.mu.length) ⟨st'.loc,st2.mu⟩
   | _=>False:=by
 intro s p K Q a w k
 rw [eval_ListComp]
 refine compCore (K:=fun N st2=>K (.ref N) st2) hh he hp hk hnames hcell hloc nod hcl hone hcs hkf ht hnc hT hW a w fun N D C st' h' tk q m kd a' ex hD hn c1 c2 c3 c4=>⟨m,hn,fun h2 hs=>?_⟩
 exact k (.ref N) st' (.ref D) h2 tk q kd (a'.touch (fun b o hb e=>(hs.2 b hb).trans e) c2 c1 c3 c4) ex ⟨D,hD,rfl⟩
theorem Sf.assignComp {x:Str} {px spos:Pos} {i:Nat} (hi:c.names[i]? = some x) (hsw:swapsWith (Expr.ListComp elt [⟨te,iter,ifs,0⟩] scope pos) (some (Expr.Name x px)) spos.line c.env = pure true) :
  Sf c A (exec (Stmt.Assign [Expr.Name x px] (Expr.ListComp elt [⟨te,iter,ifs,0⟩] scope pos) spos) c.env) st fun K=>Wi fun d st'=>match deref st' d with
   | .fro (.lst l)=>compW t Wt We st'.mu.length l ⟨List.replicate names'.length none,st'.mu++[some (.lst [])]⟩ fun st2=>K .next ⟨st'.loc.set i (some (.ref st'.mu.length)),st2.mu⟩
   | _=>False:=by
 intro s p K Q a w k
 rw [exec_Assign_Name_used _ _ _ _ hsw]
 refine wpAny_bind (wpAny_standAt (wpAny_bind ?_))
 show wpAny _ _ (evalThenUse (Expr.ListComp elt [⟨te,iter,ifs,0⟩] scope pos) c.env (PySem.assign (Expr.Name x px) c.env)) _ _ _
 unfold evalThenUse
 refine wpAny_bind ?_
 refine compCore (K:=fun N st2=>K .next ⟨st2.loc.set i (some (.ref N)),st2.mu⟩) hh he hp hk hnames hcell hloc nod hcl hone hcs hkf ht hnc hT hW a w fun N D C st' h' tk q m kd a' ex hD hn c1 c2 c3 c4=>?_
 refine wpAny_assign_Name (a'.bind (s:={ s with heap:=h',toks:=tk }) (d:=.ref N) hi ⟨D,hD,rfl⟩ fun h3 tk3 a3 kp3=>?_)
 refine ⟨m,hn.at' fun o e=>kp3 C o c1 e,fun h4 hs=>?_⟩
 exact wpAny_pure (wpAny_pure (k .next _ .next h4 tk3 q kd (a3.touch (fun b o hb e=>(hs.2 b hb).trans e) c2 c1 c3 c4) ex rfl))
end
end
section
variable {c:Cx} {A:Around} {st:St} {p:Vw} {h:Heap}
theorem Sx.cell {x:Str} {pos:Pos} {i:Nat} {d:D} (hi:c.cl.lookup x = some i) (hd:st.mu[i]? = some (some (.cell (some d)))) (hdb:(x == ("__debug__":Str)) = false) (hcd:(x == ("__classdict__":Str)) = false) :
  Sx c A (eval (.Name x pos) c.env) st fun K=>K d st:=by
 intro s p K Q a w k
 obtain ⟨b,e1,e2,e3⟩:=a.cl x i (lookup_mem hi)
 obtain ⟨b',fp,r1,r2,rfl,v,hv,dv⟩:=a.mus i _ hd
 rw [e1] at r1
 cases r1
 cases v with
 | none=>exact dv.elim
 | some v =>
  have fin:=k d st v s.heap s.toks p w a (.refl p) dv
  rcases e3 with e3 | e3
  ·exact wpAny_Name (wpAny_loadName_cell a.kind e3 e2 hv fin) hdb
  ·exact wpAny_Name (wpAny_loadName_free a.kind e3 e2 hv fin hcd) hdb
noncomputable def cellD (i:Nat) (d:D) (st:St) (K:St→Prop):Prop:=match st.mu[i]? with
 | some (some (.cell _))=>K { st with mu:=st.mu.set i (some (.cell (some (normD st d)))) }
 | _=>False
theorem At.bindC {p:Vw} {s:Shared} {x:Str} {i:Nat} {d:D} {v:Value} {K:St→Prop} {Q:Unit→Shared→Prop} (a:At c st p s.heap) (hi:c.cl.lookup x = some i) (hk:c.env.kindOf x = some .cell) (n:DenD c.w p.ρ p.G d v) (h:cellD i d st K)
  (k:∀ st' h' tk,K st'→At c st' p h'→Q () { s with heap:=h',toks:=tk }):wpAny (model PM c.w) A (storeName c.env x v) Q NoE s:=by
 obtain ⟨b,e1,e2,e3⟩:=a.cl x i (lookup_mem hi)
 unfold cellD at h
 split at h
 ·rename_i d0 hd
  obtain ⟨b',fp,r1,r2,rfl,v0,hv,dv⟩:=a.mus i _ hd
  rw [e1] at r1
  cases r1
  refine wpAny_storeName_cell a.kind hk e2 hv fun h' hc hs=>?_
  have a2:=a.updM (h':=h') (m:=.cell (some (normD st d))) (fp':=[b]) e1 r2 (fun b o hb e=>(hs.2 b (by simpa using hb)).trans e) (fun b hb=>by rw [List.mem_singleton] at hb; subst hb; obtain ⟨o,ho,_⟩:=hc; exact ⟨o,ho⟩)
   ⟨rfl,some v,hc,normD_den a n⟩ (fun b hb=>.inl hb)
  rw [set_self r2] at a2
  exact k _ h' s.toks h a2
 ·exact h.elim
theorem Sf.assignC {x:Str} {p' pos:Pos} {value:Expr} {i:Nat} {W:(D→St→Prop)→Prop} (hi:c.cl.lookup x = some i) (hk:c.env.kindOf x = some .cell) (he:Sx c A (eval value c.env) st W) (hv:plainV value = true) :
  Sf c A (exec (.Assign [.Name x p'] value pos) c.env) st fun K=>W fun d st'=>cellD i d st' fun st2=>K .next st2:=by
 intro s p K Q a w k
 refine wpAny_Assign_Name (he s p _ _ a w fun d st' v h' tk q kd a' ex n=>?_) (swaps_of hv)
 exact a'.bindC (s:={ s with heap:=h',toks:=tk }) hi hk n kd fun st2 h2 tk2 k2 a2=>k .next _ .next h2 tk2 q k2 a2 ex rfl
theorem Sx.both {x y:Expr} {pos:Pos} {Wx:(D→St→Prop)→Prop} {Wy:St→(D→St→Prop)→Prop} (hx:Sx c A (eval x c.env) st Wx) (hy:∀ st',Sx c A (eval y c.env) st' (Wy st')) :
  Sx c A (eval (.BoolOp .And [x,y] pos) c.env) st fun K=>Wx fun d st'=>match d with
   | .fro (.bool b)=>if b = true then Wy st' K else K (.fro (.bool false)) st'
   | _=>False:=by
 intro s p K Q a w k
 refine BoolOp_and (hx s p _ _ a w fun d st' v h tk q kd a' ex n=>?_)
 split at kd
 ·rename_i b
  have n':Den c.w q.G (.bool b) v:=n
  unfold Den at n'
  subst n'
  refine wpAny_truthy_bool ?_
  cases b with
  | true =>
   simp only [if_true] at kd ⊢
   exact BoolOp_one (hy st' { s with heap:=h,toks:=tk } q _ _ a' kd fun d2 st2 v2 h2 tk2 q2 k2 a2 ex2 n2=>k _ _ _ h2 tk2 q2 k2 a2 (ex.trans ex2) n2)
  | false =>
   simp only [Bool.false_eq_true,if_false] at kd ⊢
   exact k _ _ _ h tk q kd a' ex n
 ·exact kd.elim
theorem Sf.run {e:Expr} {pos:Pos} {W:(D→St→Prop)→Prop} (he:Sx c A (eval e c.env) st W) (pv:plainV e = true) :
  Sf c A (exec (.Expr e pos) c.env) st fun K=>W fun d st'=>match d with
   | .fro .none=>K .next st'
   | _=>False:=by
 intro s p K Q a w k
 refine wpAny_Expr (he s p _ _ a w fun d st' v h tk q kd a' ex n=>?_) (interactive_of a.kind) (swaps_of pv)
 split at kd
 ·have n':Den c.w q.G .none v:=n
  unfold Den at n'
  subst n'
  exact k _ _ _ h tk q kd a' ex rfl
 ·exact kd.elim
noncomputable def rangeF (n:Int):List F:=(List.range n.toNat).map fun (i:Nat)=>F.int (i:Int)
theorem Sf.forR {t:Tg} {te e:Expr} {x:Str} {p0 cp:Pos} {body:List Stmt} {pos:Pos} {We:(D→St→Prop)→Prop} {W:St→(FD→St→Prop)→Prop} (hh:A.handled = none) (hn:nsIn (KF c.w.params) mainGlobals x = some none) (hb:bootBuiltins x = some (.type "range")) (hx:x ≠ "__name__") (hk:c.env.kindOf x = some .globalImplicit) (hdb:(x == ("__debug__":Str)) = false)
  (he:Sx c A (eval e c.env) st We) (hs:notStar e = true) (ht:TgOK c t te) (h1:oneT t = true)
  (hW:∀ c':Cx,c'.w = c.w→c'.env = c.env→c'.names = c.names→c'.cl = c.cl→∀ st',Sf c' A (execs body c'.env) st' (W st')) :
  Sf c A (exec (.For te (.Call (.Name x p0) [e] [] cp) body [] pos) c.env) st fun K=>We fun d st'=>match d with
   | .fro (.int n)=>(0≤n∧n≤1000)∧forW t W (rangeF n) st' K
   | _=>False:=by
 intro s p K Q a w k
 obtain ⟨mg,mb,g1,g2,g3⟩:=a.gnd.T
 have hse:starEach [e] c.env = [(false,eval e c.env)]:=by rw [starEach_cons hs]; rfl
 refine wpAny_For (Call_Name1 (Name_function_global a.kind hk (loadGlobal_builtin (by rw [a.glob]; exact g1.keeps a.sub) (mg_none_of a.gnd.K g1 hn) (by rw [a.bi]; exact g2.keeps a.sub) (by rw [g3 x hx]; exact hb) ?_) hdb) hse) (fun _=>rfl)
 refine PySem.callWith_type1 (he s p _ _ a w fun d st' v h tk q kd a' ex nd=>?_)
 split at kd
 ·rename_i n
  obtain ⟨⟨n0,n1⟩,kd⟩:=kd
  obtain ⟨u,rfl⟩:=nd
  refine call_range_1 ?_
  have rs:Builtin.Range.rangeSize 0 n 1 = n:=by
   unfold Builtin.Range.rangeSize
   by_cases z:n = 0
   ·subst z; rfl
   ·rw [if_pos (by decide),if_pos (by omega)]
    rw [Int.ediv_one]; omega
  have sm:Builtin.Range.small 0 n 1 = true:=by
   unfold Builtin.Range.small
   rw [rs]
   have f:∀ z:Int,0≤z→z≤1001→Builtin.Range.rangeFitsLong z = true:=by
    intro z z0 z1
    unfold Builtin.Range.rangeFitsLong
    simp only [Bool.and_eq_true,decide_eq_true_eq]
    have:(1001:Int) < 2 ^ 63:=by decide
    constructor <;> omega
   rw [f 0 (by omega) (by omega),f n n0 (by omega),f 1 (by omega) (by omega)]
   simp only [Bool.true_and]
   rw [show (if (1:Int) > 0 then Builtin.Range.rangeFitsLong (n + (1 - 1)) else Builtin.Range.rangeFitsLong (n + (1 + 1))) = true from by rw [if_pos (by decide)]; exact f _ (by omega) (by omega)]
   simp
  generalize hH1:h.push { cls:=.type "range",data:=.fields #[.int 0 tk,.int n u,.int 1 (tk + 1)] } = H1
  have le1:Le h H1:=fun b o e=>by rw [← hH1]; exact Heap.get?_push_of_some _ e
  have isR:IsRange H1 h.objs.size 0 n 1 tk u (tk + 1):=by rw [← hH1]; exact IsRange.new ..
  refine wpAny_pyIter_range (s:={ s with heap:=H1,toks:=tk + 1 + 1 }) isR sm ?_
  rw [rs]
  have a1:At c st' q H1:=a'.grown le1
  have nz:H1.get? H1.objs.size = none:=get_size
  have i1:q.G.get? H1.objs.size = none:=by
   cases z:q.G.get? H1.objs.size with
   | none=>rfl
   | some o=>exact absurd ⟨o,a1.sub _ _ z⟩ (not_live nz)
  have i2:H1.objs.size ≠ c.env.locals:=fun z=>not_live nz (z ▸ a1.locals_live)
  have i3:∀ (i:Nat) fi,q.fps[i]? = some fi→H1.objs.size ∉ fi:=fun i fi e hb=>not_live nz (a1.off i fi e _ hb).2
  have i4:=a1.fresh nz
  refine loop_ok (s:={ s with heap:=H1.push { cls:=.type "range_iterator",data:=.fields #[rawInt 0,rawInt n,rawInt 1] },toks:=tk + 1 + 1 }) (p:=q) (G:=q.G) (fp:=[H1.objs.size]) (items:=rangeF n) (P:=fun i v=>∃ t,v = .int (0 + i * 1) t) (S:=fun i g=>IsRangeIter g H1.objs.size (0 + (i:Nat) * 1) ((n.toNat:Int) - (i:Nat)) 1) hh ⟨?_,?_,?_,?_,?_⟩ ht hW (a1.push _) (Le.refl _) ?_ i1 i2 i3 i4 kd ?_
  ·have:=Walks.range (prog:=PM) (w:=c.w) hh H1.objs.size 0 1 n.toNat
   simpa [rangeF] using this
  ·rintro i v hi ⟨t,rfl⟩
   refine ⟨.int i,?_,?_⟩
   ·unfold rangeF at hi ⊢
    rw [List.length_map,List.length_range] at hi
    rw [List.getElem?_map,List.getElem?_range hi]; rfl
   ·unfold Den; exact ⟨t,by simp⟩
  ·intro b hb hne
   simp only [List.mem_cons,List.not_mem_nil,or_false] at hb
   exact absurd hb hne
  ·intro i g hg; exact ⟨_,hg⟩
  ·intro i v s' Q' _ _ hQ
   rw [letOwned_one ht h1]; exact wpAny_pure hQ
  ·show IsRangeIter _ _ _ _ _
   have:((n.toNat:Int) - ((0:Nat):Int)) = n:=by omega
   rw [this]
   have e2:(0 + ((0:Nat):Int) * 1) = 0:=by simp
   rw [e2]
   exact Heap.get?_push_size _ rfl
  ·exact fun fd st2 f h2 tk2 q2 k2 a2 ex2 n2=>k fd st2 f h2 tk2 q2 k2 a2 (ex.trans ex2) n2
 ·exact kd.elim
end
mutual
inductive X where
 | loc (i:Nat)
 | cell (i:Nat)
 | glob (j:Nat)
 | cint (z:Int)
 | cbool (b:Bool)
 | cnone
 | cstr (k:Nat)
 | bin (o:Bop) (a b:X)
 | cat (a b:X)
 | ite (t:B) (a b:X)
 | cmp (o:Cop) (a b:X)
 | cmp2 (o:Cop2) (a b:X)
 | attr (e:X) (k:Nat)
 | idx (e i:X)
 | pick (l:List Nat) (i:X)
 | upto (n:Nat) (e:X)
 | tup (l:Xs)
 | lst (l:Xs)
 | mlst (l:Xs)
 | dict0 (e:Em)
 | dict (ks:List Nat) (l:Xs)
 | call (j:Nat) (σ:List Nat) (l:Xs)
 | len (e:X)
 | sorted (e:X)
 | comp (ns:List Nat) (cl:List (Nat × Nat)) (t:Tg) (it:X) (te:Bs) (elt:X)
 | frz (e:X)
 | both (a b:X)
inductive B where
 | cmp (o:Cop) (a b:X)
 | cmp2 (o:Cop2) (a b:X)
 | not (b:B)
 | and (l:Bs)
 | or (l:Bs)
 | tru (e:X)
inductive Xs where
 | nil
 | cons (x:X) (l:Xs)
inductive Bs where
 | nil
 | cons (x:B) (l:Bs)
end
mutual
inductive Y where
 | assign (i:Nat) (e:X)
 | assignC (i:Nat) (e:X)
 | ite (b:B) (x y:Ys)
 | ret (e:X)
 | for_ (t:Tg) (e:X) (b:Ys)
 | forR (t:Tg) (e:X) (b:Ys)
 | app (o e:X)
 | ext (o e:X)
 | setI (o i v:X)
 | setA (o:X) (k:Nat) (v:X)
 | aug (o i v:X)
 | run (e:X)
 | assignK (i:Nat) (ns:List Nat) (cl:List (Nat × Nat)) (t:Tg) (it:X) (te:Bs) (elt:X)
inductive Ys where
 | nil
 | cons (y:Y) (l:Ys)
 | ghost (k:Nat) (l:Ys)
end
structure Tb where
 glob:List (Nat × F)
 call:List (Nat × Nat)
 Γ:Nat→PT
mutual
noncomputable def wpX (T:Tb):X→St→(D→St→Prop)→Prop
 | .loc i,st,K=>match st.loc[i]? with
  | some (some d)=>K (normD st d) st
  | _=>False
 | .cell i,st,K=>match st.mu[i]? with
  | some (some (.cell (some d)))=>K d st
  | _=>False
 | .glob j,st,K=>match T.glob[j]? with
  | some y=>K (.fro y.2) st
  | none=>False
 | .cint z,st,K=>K (.fro (.int z)) st
 | .cbool b,st,K=>K (.fro (.bool b)) st
 | .cnone,st,K=>K (.fro .none) st
 | .cstr k,st,K=>K (.fro (.str k)) st
 | .bin o a b,st,K=>wpX T a st fun x st1=>wpX T b st1 fun y st2=>binD o x y st2 K
 | .cat a b,st,K=>wpX T a st fun x st1=>wpX T b st1 fun y st2=>catD x y st2 K
 | .ite t a b,st,K=>wpB T t st fun v st'=>if v = true then wpX T a st' K else wpX T b st' K
 | .cmp o a b,st,K=>wpX T a st fun x st1=>wpX T b st1 fun y st2=>cmpD o x y fun z=>K (.fro (.bool z)) st2
 | .cmp2 o a b,st,K=>wpX T a st fun x st1=>wpX T b st1 fun y st2=>cmp2 o x y st2 fun z=>K (.fro (.bool z)) st2
 | .attr e k,st,K=>wpX T e st fun d st'=>attrD d k st' fun d'=>K d' st'
 | .idx e i,st,K=>wpX T e st fun d st1=>wpX T i st1 fun j st2=>idxD d j st2 fun r=>K r st2
 | .pick l i,st,K=>wpX T i st fun d st'=>pickD ⟨#[]⟩ l d fun r=>K r st'
 | .upto n e,st,K=>wpX T e st fun d st'=>uptoD n d st' K
 | .tup l,st,K=>wpXs T l st fun ds st'=>match fros st' ds with
  | some fs=>Nat.ble fs.length 1000 = true∧K (.fro (.tup fs)) st'
  | none=>False
 | .lst l,st,K=>wpXs T l st fun ds st'=>match fros st' ds with
  | some fs=>Nat.ble fs.length 1000 = true∧K (.fro (.lst fs)) st'
  | none=>False
 | .mlst l,st,K=>wpXs T l st fun ds st'=>Nat.ble ds.length 1000 = true∧K (.ref st'.mu.length) { st' with mu:=st'.mu++[some (.lst ds)] }
 | .dict0 e,st,K=>K (.ref st.mu.length) { st with mu:=st.mu++[some (emptyM e)] }
 | .dict ks l,st,K=>wpXs T l { st with mu:=st.mu++[some (.dic [] [])] } fun ds st'=>st'.mu[st.mu.length]? = some (some (.dic [] []))∧K (.ref st.mu.length) { st' with mu:=st'.mu.set st.mu.length (some (.dic ks (ds.map (normD st')))) }
 | .call j σ l,st,K=>match T.call[j]? with
  | some y=>wpXs T l st fun ds st'=>callD σ (T.Γ y.2) ds st' K
  | none=>False
 | .len e,st,K=>wpX T e st fun d st'=>lenU d st' K
 | .sorted e,st,K=>wpX T e st fun d st'=>sortU d st' K
 | .comp ns cl t it te elt,st,K=>wpX T it st fun d st'=>match deref st' d with
  | .fro (.lst l)=>compW t (fun st K=>wpT T te st K) (fun st K=>wpX T elt st K) st'.mu.length l ⟨List.replicate ns.length none,st'.mu++[some (.lst [])]⟩ fun st2=>K (.ref st'.mu.length) ⟨st'.loc,st2.mu⟩
  | _=>False
 | .frz e,st,K=>wpX T e st fun d st'=>frzD d st' K
 | .both a b,st,K=>wpX T a st fun d st'=>match d with
  | .fro (.bool z)=>if z = true then wpX T b st' K else K (.fro (.bool false)) st'
  | _=>False
noncomputable def wpB (T:Tb):B→St→(Bool→St→Prop)→Prop
 | .cmp o a b,st,K=>wpX T a st fun x st1=>wpX T b st1 fun y st2=>cmpD o x y fun z=>K z st2
 | .cmp2 o a b,st,K=>wpX T a st fun x st1=>wpX T b st1 fun y st2=>cmp2 o x y st2 fun z=>K z st2
 | .not b,st,K=>wpB T b st fun z=>K (!z)
 | .and l,st,K=>wpA T l st K
 | .or l,st,K=>wpO T l st K
 | .tru e,st,K=>wpX T e st fun d st'=>truD d st' fun z=>K z st'
noncomputable def wpXs (T:Tb):Xs→St→(List D→St→Prop)→Prop
 | .nil,st,K=>K [] st
 | .cons x l,st,K=>wpX T x st fun d st1=>wpXs T l st1 fun ds st2=>K (d :: ds) st2
noncomputable def wpA (T:Tb):Bs→St→(Bool→St→Prop)→Prop
 | .nil,st,K=>K true st
 | .cons b l,st,K=>wpB T b st fun z st'=>if z = true then wpA T l st' K else K false st'
noncomputable def wpO (T:Tb):Bs→St→(Bool→St→Prop)→Prop
 | .nil,st,K=>K false st
 | .cons b l,st,K=>wpB T b st fun z st'=>if z = true then K true st' else wpO T l st' K
noncomputable def wpT (T:Tb):Bs→St→(Bool→St→Prop)→Prop
 | .nil,st,K=>K true st
 | .cons b .nil,st,K=>wpB T b st K
 | .cons _ _,_,_=>False
end
mutual
noncomputable def wpY (T:Tb) (ok:Nat→Nat→Bool):Y→St→(FD→St→Prop)→Prop
 | .assign i e,st,K=>wpX T e st fun d st'=>K .next { st' with loc:=st'.loc.set i (some d) }
 | .assignC i e,st,K=>wpX T e st fun d st'=>cellD i d st' fun st2=>K .next st2
 | .ite b x y,st,K=>wpB T b st fun z st'=>if z = true then wpYs T ok x st' K else wpYs T ok y st' K
 | .ret e,st,K=>wpX T e st fun d st'=>K (.ret d) st'
 | .for_ t e b,st,K=>wpX T e st fun d st'=>match deref st' d with
  | .fro (.lst l)=>forW t (fun st K=>wpYs T ok b st K) l st' K
  | .fro (.tup l)=>oneT t = true∧forW t (fun st K=>wpYs T ok b st K) l st' K
  | .fro (.dic ks _)=>oneT t = true∧forW t (fun st K=>wpYs T ok b st K) (ks.map .str) st' K
  | _=>False
 | .forR t e b,st,K=>wpX T e st fun d st'=>match d with
  | .fro (.int n)=>(0≤n∧n≤1000)∧forW t (fun st K=>wpYs T ok b st K) (rangeF n) st' K
  | _=>False
 | .app o e,st,K=>wpX T o st fun d st1=>isLst d st1∧wpX T e st1 fun x st2=>appD d x st2 K
 | .ext o e,st,K=>wpX T o st fun d st1=>isLst d st1∧wpX T e st1 fun x st2=>extD d x st2 K
 | .setI o i v,st,K=>wpX T v st fun x st1=>wpX T o st1 fun y st2=>wpX T i st2 fun z st3=>setD y z x st3 fun st'=>K .next st'
 | .setA o k v,st,K=>wpX T v st fun d st1=>wpX T o st1 fun y st2=>setAD ok y k d st2 fun st'=>K .next st'
 | .aug o i v,st,K=>wpX T o st fun y st1=>wpX T i st1 fun z st2=>idxD y z st2 fun old=>wpX T v st2 fun x st3=>match old,x with
  | .fro (.int a),.fro (.int b)=>setD y z (.fro (.int (a + b))) st3 fun st'=>K .next st'
  | _,_=>False
 | .run e,st,K=>wpX T e st fun d st'=>match d with
  | .fro .none=>K .next st'
  | _=>False
 | .assignK i ns cl t it te elt,st,K=>wpX T it st fun d st'=>match deref st' d with
  | .fro (.lst l)=>compW t (fun st K=>wpT T te st K) (fun st K=>wpX T elt st K) st'.mu.length l ⟨List.replicate ns.length none,st'.mu++[some (.lst [])]⟩ fun st2=>K .next ⟨st'.loc.set i (some (.ref st'.mu.length)),st2.mu⟩
  | _=>False
noncomputable def wpYs (T:Tb) (ok:Nat→Nat→Bool):Ys→St→(FD→St→Prop)→Prop
 | .nil,st,K=>K .next st
 | .cons y l,st,K=>wpY T ok y st fun fd st'=>match fd with
  | .next=>wpYs T ok l st' K
  | fd=>K fd st'
 | .ghost k l,st,K=>fzK k st fun st'=>wpYs T ok l st' K
end
structure Cf where
 names:List Nat
 cl:List (Nat × Nat)
 scope:Scope
theorem dite_no {c:Prop} [Decidable c] {f:c→Bool} (h:dite c f (fun _=>false) = true):c:=by
 by_cases q:c
 ·exact q
 ·rw [dif_neg q] at h; exact Bool.noConfusion h
noncomputable def onName (e:Expr) (f:Str→Pos→Bool):Bool:=if h:e.ctorIdx = 23 then Expr.Name.elim (motive_1:=fun _=>Bool) e h f else false
theorem onName_el {M:Expr→Prop} {e:Expr} {f:Str→Pos→Bool} (h:onName e f = true) (z:∀ a b,f a b = true→M (.Name a b)):M e:=Expr.Name.elim (motive_1:=fun e=>onName e f = true→M e) e (dite_no h) z h
noncomputable def onConst (e:Expr) (f:Const→Nat→Pos→Bool):Bool:=if h:e.ctorIdx = 19 then Expr.Constant.elim (motive_1:=fun _=>Bool) e h f else false
theorem onConst_el {M:Expr→Prop} {e:Expr} {f:Const→Nat→Pos→Bool} (h:onConst e f = true) (z:∀ a b c,f a b c = true→M (.Constant a b c)):M e:=Expr.Constant.elim (motive_1:=fun e=>onConst e f = true→M e) e (dite_no h) z h
noncomputable def onBin (e:Expr) (f:Expr→Operator→Expr→Pos→Bool):Bool:=if h:e.ctorIdx = 2 then Expr.BinOp.elim (motive_1:=fun _=>Bool) e h f else false
theorem onBin_el {M:Expr→Prop} {e:Expr} {f:Expr→Operator→Expr→Pos→Bool} (h:onBin e f = true) (z:∀ a b c d,f a b c d = true→M (.BinOp a b c d)):M e:=Expr.BinOp.elim (motive_1:=fun e=>onBin e f = true→M e) e (dite_no h) z h
noncomputable def onIf (e:Expr) (f:Expr→Expr→Expr→Pos→Bool):Bool:=if h:e.ctorIdx = 5 then Expr.IfExp.elim (motive_1:=fun _=>Bool) e h f else false
theorem onIf_el {M:Expr→Prop} {e:Expr} {f:Expr→Expr→Expr→Pos→Bool} (h:onIf e f = true) (z:∀ a b c d,f a b c d = true→M (.IfExp a b c d)):M e:=Expr.IfExp.elim (motive_1:=fun e=>onIf e f = true→M e) e (dite_no h) z h
noncomputable def onCmp (e:Expr) (f:Expr→List CmpOp→List Expr→Pos→Bool):Bool:=if h:e.ctorIdx = 15 then Expr.Compare.elim (motive_1:=fun _=>Bool) e h f else false
theorem onCmp_el {M:Expr→Prop} {e:Expr} {f:Expr→List CmpOp→List Expr→Pos→Bool} (h:onCmp e f = true) (z:∀ a b c d,f a b c d = true→M (.Compare a b c d)):M e:=Expr.Compare.elim (motive_1:=fun e=>onCmp e f = true→M e) e (dite_no h) z h
noncomputable def onAttr (e:Expr) (f:Expr→Str→Pos→Bool):Bool:=if h:e.ctorIdx = 20 then Expr.Attribute.elim (motive_1:=fun _=>Bool) e h f else false
theorem onAttr_el {M:Expr→Prop} {e:Expr} {f:Expr→Str→Pos→Bool} (h:onAttr e f = true) (z:∀ a b c,f a b c = true→M (.Attribute a b c)):M e:=Expr.Attribute.elim (motive_1:=fun e=>onAttr e f = true→M e) e (dite_no h) z h
noncomputable def onSub (e:Expr) (f:Expr→Expr→Pos→Bool):Bool:=if h:e.ctorIdx = 21 then Expr.Subscript.elim (motive_1:=fun _=>Bool) e h f else false
theorem onSub_el {M:Expr→Prop} {e:Expr} {f:Expr→Expr→Pos→Bool} (h:onSub e f = true) (z:∀ a b c,f a b c = true→M (.Subscript a b c)):M e:=Expr.Subscript.elim (motive_1:=fun e=>onSub e f = true→M e) e (dite_no h) z h
noncomputable def onSlice (e:Expr) (f:Option Expr→Option Expr→Option Expr→Pos→Bool):Bool:=if h:e.ctorIdx = 26 then Expr.Slice.elim (motive_1:=fun _=>Bool) e h f else false
theorem onSlice_el {M:Expr→Prop} {e:Expr} {f:Option Expr→Option Expr→Option Expr→Pos→Bool} (h:onSlice e f = true) (z:∀ a b c d,f a b c d = true→M (.Slice a b c d)):M e:=Expr.Slice.elim (motive_1:=fun e=>onSlice e f = true→M e) e (dite_no h) z h
noncomputable def onTup (e:Expr) (f:List Expr→Nat→Pos→Bool):Bool:=if h:e.ctorIdx = 25 then Expr.Tuple.elim (motive_1:=fun _=>Bool) e h f else false
theorem onTup_el {M:Expr→Prop} {e:Expr} {f:List Expr→Nat→Pos→Bool} (h:onTup e f = true) (z:∀ a b c,f a b c = true→M (.Tuple a b c)):M e:=Expr.Tuple.elim (motive_1:=fun e=>onTup e f = true→M e) e (dite_no h) z h
noncomputable def onList (e:Expr) (f:List Expr→Pos→Bool):Bool:=if h:e.ctorIdx = 24 then Expr.List.elim (motive_1:=fun _=>Bool) e h f else false
theorem onList_el {M:Expr→Prop} {e:Expr} {f:List Expr→Pos→Bool} (h:onList e f = true) (z:∀ a b,f a b = true→M (.List a b)):M e:=Expr.List.elim (motive_1:=fun e=>onList e f = true→M e) e (dite_no h) z h
noncomputable def onDict (e:Expr) (f:List (Option Expr)→List Expr→Pos→Bool):Bool:=if h:e.ctorIdx = 6 then Expr.Dict.elim (motive_1:=fun _=>Bool) e h f else false
theorem onDict_el {M:Expr→Prop} {e:Expr} {f:List (Option Expr)→List Expr→Pos→Bool} (h:onDict e f = true) (z:∀ a b c,f a b c = true→M (.Dict a b c)):M e:=Expr.Dict.elim (motive_1:=fun e=>onDict e f = true→M e) e (dite_no h) z h
noncomputable def onCall (e:Expr) (f:Expr→List Expr→List Keyword→Pos→Bool):Bool:=if h:e.ctorIdx = 16 then Expr.Call.elim (motive_1:=fun _=>Bool) e h f else false
theorem onCall_el {M:Expr→Prop} {e:Expr} {f:Expr→List Expr→List Keyword→Pos→Bool} (h:onCall e f = true) (z:∀ a b c d,f a b c d = true→M (.Call a b c d)):M e:=Expr.Call.elim (motive_1:=fun e=>onCall e f = true→M e) e (dite_no h) z h
noncomputable def onComp (e:Expr) (f:Expr→List Comprehension→Scope→Pos→Bool):Bool:=if h:e.ctorIdx = 8 then Expr.ListComp.elim (motive_1:=fun _=>Bool) e h f else false
theorem onComp_el {M:Expr→Prop} {e:Expr} {f:Expr→List Comprehension→Scope→Pos→Bool} (h:onComp e f = true) (z:∀ a b c d,f a b c d = true→M (.ListComp a b c d)):M e:=Expr.ListComp.elim (motive_1:=fun e=>onComp e f = true→M e) e (dite_no h) z h
noncomputable def onBool (e:Expr) (f:BoolOp→List Expr→Pos→Bool):Bool:=if h:e.ctorIdx = 0 then Expr.BoolOp.elim (motive_1:=fun _=>Bool) e h f else false
theorem onBool_el {M:Expr→Prop} {e:Expr} {f:BoolOp→List Expr→Pos→Bool} (h:onBool e f = true) (z:∀ a b c,f a b c = true→M (.BoolOp a b c)):M e:=Expr.BoolOp.elim (motive_1:=fun e=>onBool e f = true→M e) e (dite_no h) z h
noncomputable def onUn (e:Expr) (f:UnaryOp→Expr→Pos→Bool):Bool:=if h:e.ctorIdx = 3 then Expr.UnaryOp.elim (motive_1:=fun _=>Bool) e h f else false
theorem onUn_el {M:Expr→Prop} {e:Expr} {f:UnaryOp→Expr→Pos→Bool} (h:onUn e f = true) (z:∀ a b c,f a b c = true→M (.UnaryOp a b c)):M e:=Expr.UnaryOp.elim (motive_1:=fun e=>onUn e f = true→M e) e (dite_no h) z h
noncomputable def onAssign (e:Stmt) (f:List Expr→Expr→Pos→Bool):Bool:=if h:e.ctorIdx = 5 then Stmt.Assign.elim (motive_2:=fun _=>Bool) e h f else false
theorem onAssign_el {M:Stmt→Prop} {e:Stmt} {f:List Expr→Expr→Pos→Bool} (h:onAssign e f = true) (z:∀ a b c,f a b c = true→M (.Assign a b c)):M e:=Stmt.Assign.elim (motive_2:=fun e=>onAssign e f = true→M e) e (dite_no h) z h
noncomputable def onIfS (e:Stmt) (f:Expr→List Stmt→List Stmt→Pos→Bool):Bool:=if h:e.ctorIdx = 12 then Stmt.If.elim (motive_2:=fun _=>Bool) e h f else false
theorem onIfS_el {M:Stmt→Prop} {e:Stmt} {f:Expr→List Stmt→List Stmt→Pos→Bool} (h:onIfS e f = true) (z:∀ a b c d,f a b c d = true→M (.If a b c d)):M e:=Stmt.If.elim (motive_2:=fun e=>onIfS e f = true→M e) e (dite_no h) z h
noncomputable def onRet (e:Stmt) (f:Option Expr→Pos→Bool):Bool:=if h:e.ctorIdx = 3 then Stmt.Return.elim (motive_2:=fun _=>Bool) e h f else false
theorem onRet_el {M:Stmt→Prop} {e:Stmt} {f:Option Expr→Pos→Bool} (h:onRet e f = true) (z:∀ a b,f a b = true→M (.Return a b)):M e:=Stmt.Return.elim (motive_2:=fun e=>onRet e f = true→M e) e (dite_no h) z h
noncomputable def onFor (e:Stmt) (f:Expr→Expr→List Stmt→List Stmt→Pos→Bool):Bool:=if h:e.ctorIdx = 9 then Stmt.For.elim (motive_2:=fun _=>Bool) e h f else false
theorem onFor_el {M:Stmt→Prop} {e:Stmt} {f:Expr→Expr→List Stmt→List Stmt→Pos→Bool} (h:onFor e f = true) (z:∀ a b c d k,f a b c d k = true→M (.For a b c d k)):M e:=Stmt.For.elim (motive_2:=fun e=>onFor e f = true→M e) e (dite_no h) z h
noncomputable def onExpr (e:Stmt) (f:Expr→Pos→Bool):Bool:=if h:e.ctorIdx = 24 then Stmt.Expr.elim (motive_2:=fun _=>Bool) e h f else false
theorem onExpr_el {M:Stmt→Prop} {e:Stmt} {f:Expr→Pos→Bool} (h:onExpr e f = true) (z:∀ a b,f a b = true→M (.Expr a b)):M e:=Stmt.Expr.elim (motive_2:=fun e=>onExpr e f = true→M e) e (dite_no h) z h
noncomputable def onAug (e:Stmt) (f:Expr→Operator→Expr→Pos→Bool):Bool:=if h:e.ctorIdx = 7 then Stmt.AugAssign.elim (motive_2:=fun _=>Bool) e h f else false
theorem onAug_el {M:Stmt→Prop} {e:Stmt} {f:Expr→Operator→Expr→Pos→Bool} (h:onAug e f = true) (z:∀ a b c d,f a b c d = true→M (.AugAssign a b c d)):M e:=Stmt.AugAssign.elim (motive_2:=fun e=>onAug e f = true→M e) e (dite_no h) z h
noncomputable def one {α:Type} (l:List α) (f:α→Bool):Bool:=match l with
 | []=>false
 | a :: t=>t.isEmpty && f a
theorem one_el {α:Type} {M:List α→Prop} {l:List α} {f:α→Bool} (h:one l f = true) (z:∀ a,f a = true→M [a]):M l:=by
 cases l with
 | nil=>exact Bool.noConfusion h
 | cons a t =>
  cases t with
  | nil=>exact z a h
  | cons=>exact Bool.noConfusion h
noncomputable def any1 {α:Type} (o:Option α) (f:α→Bool):Bool:=match o with
 | none=>false
 | some a=>f a
theorem any1_ok {α:Type} {o:Option α} {f:α→Bool} (h:any1 o f = true):∃ a,o = some a∧f a = true:=by
 cases o with
 | none=>exact Bool.noConfusion h
 | some a=>exact ⟨a,rfl,h⟩
theorem any1_el {α:Type} {M:Option α→Prop} {o:Option α} {f:α→Bool} (h:any1 o f = true) (z:∀ a,f a = true→M (some a)):M o:=by
 cases o with
 | none=>exact Bool.noConfusion h
 | some a=>exact z a h
theorem isEmpty_el {α:Type} {M:List α→Prop} {l:List α} (h:l.isEmpty = true) (z:M []):M l:=by
 cases l with
 | nil=>exact z
 | cons=>exact Bool.noConfusion h
theorem isEmpty_ok {α:Type} {l:List α} (h:l.isEmpty = true):l = []:=isEmpty_el (M:=fun l=>l = []) h rfl
theorem isNone_el {α:Type} {M:Option α→Prop} {o:Option α} (h:o.isNone = true) (z:M none):M o:=by
 cases o with
 | none=>exact z
 | some=>exact Bool.noConfusion h
theorem dec_el {α:Type} {M:α→Prop} {a b:α} [Decidable (a = b)] (h:decide (a = b) = true) (z:M b):M a:=of_decide_eq_true h ▸ z
theorem beq_el {α:Type} [BEq α] [LawfulBEq α] {M:α→Prop} {a b:α} (h:(a == b) = true) (z:M b):M a:=eq_of_beq h ▸ z
theorem and_el {a b:Bool} {G:Prop} (h:(a && b) = true) (z:a = true→b = true→G):G:=z (Bool.and_eq_true_iff.mp h).1 (Bool.and_eq_true_iff.mp h).2
theorem and_el3 {a b c:Bool} {G:Prop} (h:(a && b && c) = true) (z:a = true→b = true→c = true→G):G:=and_el h fun h h3=>and_el h fun h1 h2=>z h1 h2 h3
theorem and4 {a b:Bool} (h:(a && b) = true):a = true∧b = true:=Bool.and_eq_true_iff.mp h
noncomputable def plainT (e:Expr):Bool:=!(Nat.beq e.ctorIdx 15 || Nat.beq e.ctorIdx 0 || Nat.beq e.ctorIdx 3 || Nat.beq e.ctorIdx 5)
noncomputable def okName (x:Str):Bool:=!(x == ("__debug__":Str)) && !(x == ("__classdict__":Str)) && !(x == ("__name__":Str))
noncomputable def isNm (x:Str) (k:Nat):Bool:=Nat.blt k nmL.length && x == nm k
noncomputable def nameAt (cf:Cf) (i:Nat) (x:Str):Bool:=any1 cf.names[i]? (fun k=>isNm x k) && okName x
noncomputable def globOK (cf:Cf) (x:Str):Bool:=okName x && (cf.scope.names.lookup x == some .globalImplicit)
noncomputable def relabelS (scope outer:Scope):Scope :=
 { scope with names:=scope.names.map fun (n,k)=>if (k == .free && outer.kind == .function && outer.names.lookup n == some .cell) then (n,.cell) else (n,k) }
noncomputable def chkT (cf:Cf):Tg→Expr→Bool
 | .one i,e=>onName e fun x _=>nameAt cf i x
 | .cell i,e=>onName e fun x _=>((cf.cl.map fun y=>(nm y.1,y.2)).lookup x == some i) && (cf.scope.names.lookup x == some .cell)
 | .many l,e=>onTup e fun es _ _=>l.length == es.length && ((l.zip es).all fun y=>onName y.2 fun x _=>nameAt cf y.1 x)
noncomputable def noCell:Tg→Bool
 | .cell _=>false
 | _=>true
noncomputable def chkComp (cf:Cf) (ns:List Nat) (cl:List (Nat × Nat)) (scope:Scope):Bool :=
 scope.kind == .function && scope.names.all (fun y=>!(y.2 == .local) || scope.names.lookup y.1 == some .local) && scope.names.all (fun y=>!(y.2 == .cell)) &&
 ns.all (fun k=>Nat.blt k nmL.length && scope.names.lookup (nm k) == some .local) && nodupB ns &&
 (cloL scope.names (cf.cl.map fun y=>(nm y.1,y.2)) == some (cl.map fun y=>(nm y.1,y.2))) && Nat.ble cl.length 1 && ((scope.names.filter fun y=>y.2 == .free).length == cl.length) &&
 cl.all fun y=>(relabelS scope cf.scope).names.lookup (nm y.1) == some .cell || (relabelS scope cf.scope).names.lookup (nm y.1) == some .free
noncomputable def keysOK:List Nat→List (Option Expr)→Bool
 | [],keys=>keys.isEmpty
 | k :: ks,keys=>match keys with
  | []=>false
  | o :: keys=>any1 o (fun e=>onConst e fun c _ _=>Nat.blt k nmL.length && decide (c = .str (nm k))) && keysOK ks keys
noncomputable def pickOK (l:List Nat):Bool:=l.all (fun k=>Nat.blt k nmL.length && ((nm k) == (⟨#[(nm k).cps.getD 0 0]⟩:Str)))
noncomputable def pickS (l:List Nat):Str:=⟨(l.map fun k=>(nm k).cps.getD 0 0).toArray⟩
noncomputable def nmOf (cl:List (Nat × Nat)):List (Str × Nat):=cl.map fun y=>(nm y.1,y.2)
mutual
noncomputable def chkX (T:Tb):X→Cf→Expr→Bool
 | .loc i,cf,e=>onName e fun x _=>nameAt cf i x
 | .cell i,cf,e=>onName e fun x _=>okName x && ((nmOf cf.cl).lookup x == some i)
 | .glob j,cf,e=>onName e fun x _=>any1 T.glob[j]? (fun y=>isNm x y.1) && globOK cf x
 | .cint z,cf,e=>onConst e fun c _ _=>decide (c = .int z)
 | .cbool b,cf,e=>onConst e fun c _ _=>decide (c = .bool b)
 | .cnone,cf,e=>onConst e fun c _ _=>decide (c = .none)
 | .cstr k,cf,e=>onConst e fun c _ _=>Nat.blt k nmL.length && decide (c = .str (nm k))
 | .bin o a b,cf,e=>onBin e fun l op r _=>decide (op = o.op) && chkX T a cf l && chkX T b cf r
 | .cat a b,cf,e=>onBin e fun l op r _=>decide (op = .Add) && chkX T a cf l && chkX T b cf r
 | .ite t a b,cf,e=>onIf e fun te x y _=>chkB T t cf te && chkX T a cf x && chkX T b cf y
 | .cmp o a b,cf,e=>onCmp e fun l ops rs _=>decide (ops = [o.op]) && one rs fun r=>plainR r && chkX T a cf l && chkX T b cf r
 | .cmp2 o a b,cf,e=>onCmp e fun l ops rs _=>decide (ops = [o.op]) && one rs fun r=>plainR r && chkX T a cf l && chkX T b cf r
 | .attr a k,cf,e=>onAttr e fun v x _=>isNm x k && plainBase v && chkX T a cf v
 | .idx a i,cf,e=>onSub e fun v s _=>noSlice s && chkX T a cf v && chkX T i cf s
 | .pick l i,cf,e=>onSub e fun v s _=>onConst v fun c _ _=>decide (c = .str (pickS l)) && pickOK l && noSlice s && chkX T i cf s
 | .upto n a,cf,e=>onSub e fun v s _=>onName v fun x px=>onSlice s fun lo up stp _=>lo.isNone && stp.isNone && any1 up (fun u=>onConst u fun c _ _=>decide (c = .int n)) && chkX T a cf (.Name x px)
 | .tup l,cf,e=>onTup e fun es _ _=>es.all notStar && chkXs T l cf es
 | .lst l,cf,e=>onList e fun es _=>es.all notStar && chkXs T l cf es
 | .mlst l,cf,e=>onList e fun es _=>es.all notStar && chkXs T l cf es
 | .dict0 m,cf,e=>onDict e fun ks vs _=>ks.isEmpty && vs.isEmpty
 | .dict ks l,cf,e=>onDict e fun keys values _=>keysOK ks keys && (nodupB ks && Nat.ble keys.length 15 && !keys.isEmpty) && (keys.length == values.length && chkXs T l cf values)
 | .call j σ l,cf,e=>onCall e fun g args kw _=>kw.isEmpty && onName g fun x _=>any1 T.call[j]? (fun y=>isNm x y.1) && (globOK cf x && args.all notStar && nodupB σ) && chkXs T l cf args
 | .len a,cf,e=>onCall e fun g args kw _=>kw.isEmpty && onName g fun x _=>one args fun y=>(x == ("len":Str)) && (globOK cf x && notStar y) && chkX T a cf y
 | .sorted a,cf,e=>onCall e fun g args kw _=>kw.isEmpty && onName g fun x _=>one args fun y=>(x == ("sorted":Str)) && (globOK cf x && notStar y) && chkX T a cf y
 | .comp ns cl t it te elt,cf,e=>onComp e fun el gens scope _=>one gens fun g=>(decide (g.is_async = 0) && noCell t && chkComp cf ns cl scope) && (chkT ⟨ns,cl,relabelS scope cf.scope⟩ t g.target && plainR g.iter && chkX T it cf g.iter) && (chkBs T te ⟨ns,cl,relabelS scope cf.scope⟩ g.ifs && Nat.ble g.ifs.length 1 && chkX T elt ⟨ns,cl,relabelS scope cf.scope⟩ el)
 | .frz a,cf,e=>chkX T a cf e
 | .both a b,cf,e=>onBool e fun op vs _=>match vs with
  | []=>false
  | x :: t=>one t fun y=>decide (op = .And) && chkX T a cf x && chkX T b cf y
noncomputable def chkB (T:Tb):B→Cf→Expr→Bool
 | .cmp o a b,cf,e=>onCmp e fun l ops rs _=>decide (ops = [o.op]) && one rs fun r=>plainR r && chkX T a cf l && chkX T b cf r
 | .cmp2 o a b,cf,e=>onCmp e fun l ops rs _=>decide (ops = [o.op]) && one rs fun r=>plainR r && chkX T a cf l && chkX T b cf r
 | .not b,cf,e=>onUn e fun op x _=>decide (op = .Not) && chkB T b cf x
 | .and l,cf,e=>onBool e fun op es _=>decide (op = .And) && chkBs T l cf es
 | .or l,cf,e=>onBool e fun op es _=>decide (op = .Or) && chkBs T l cf es
 | .tru a,cf,e=>plainT e && chkX T a cf e
noncomputable def chkXs (T:Tb):Xs→Cf→List Expr→Bool
 | .nil,cf,es=>es.isEmpty
 | .cons x l,cf,es=>match es with
  | []=>false
  | e :: es=>chkX T x cf e && chkXs T l cf es
noncomputable def chkBs (T:Tb):Bs→Cf→List Expr→Bool
 | .nil,cf,es=>es.isEmpty
 | .cons x l,cf,es=>match es with
  | []=>false
  | e :: es=>chkB T x cf e && chkBs T l cf es
end
structure TbOK (T:Tb) (w:World) (L:Nat):Prop where
 glob:∀ (j:Nat) (y:Nat × F),T.glob[j]? = some y→∃ v,nsIn (KF w.params) mainGlobals (nm y.1) = some (some v)∧∀ G,(KF w.params).In G→Den w G y.2 v
 call:∀ (j:Nat) (y:Nat × Nat),T.call[j]? = some y→nsIn (KF w.params) mainGlobals (nm y.1) = some (some (.ref y.2))∧keepIn (KF w.params) (.ref y.2) = true∧CallOK w L (.ref y.2) (T.Γ y.2)
 pos:1≤L
structure Fits (w:World) (cf:Cf) (c:Cx):Prop where
 w:c.w = w
 names:c.names = cf.names.map nm
 cl:c.cl = nmOf cf.cl
 scope:c.env.scope = cf.scope
theorem isNm_ok {x:Str} {k:Nat} (h:isNm x k = true):k < nmL.length∧x = nm k:=by obtain ⟨a,b⟩:=and4 h; exact ⟨Nat.le_of_ble_eq_true a,eq_of_beq b⟩
theorem okName_ok {x:Str} (h:okName x = true):(x == ("__debug__":Str)) = false∧(x == ("__classdict__":Str)) = false∧x ≠ "__name__":=by
 unfold okName at h
 refine and_el h fun h1 h3=>?_
 refine and_el h1 fun h1 h2=>?_
 refine ⟨by simpa using h1,by simpa using h2,?_⟩
 simpa using h3
theorem nameAt_ok {w:World} {cf:Cf} {c:Cx} {i:Nat} {x:Str} (f:Fits w cf c) (h:nameAt cf i x = true):c.names[i]? = some x∧okName x = true:=by
 refine and_el h fun h1 h2=>?_
 obtain ⟨k,hk,h1⟩:=any1_ok h1
 exact ⟨by rw [f.names,List.getElem?_map,hk,(isNm_ok h1).2]; rfl,h2⟩
theorem globOK_ok {w:World} {cf:Cf} {c:Cx} {x:Str} (f:Fits w cf c) (h:globOK cf x = true):c.env.kindOf x = some .globalImplicit∧okName x = true:=by
 unfold globOK at h
 refine and_el h fun h1 h2=>?_
 refine ⟨?_,h1⟩
 show c.env.scope.names.lookup x = _
 rw [f.scope]; exact eq_of_beq h2
theorem chkMany {w:World} {cf:Cf} {c:Cx} (f:Fits w cf c):∀ (l:List Nat) (es:List Expr),l.length = es.length→((l.zip es).all fun y=>onName y.2 fun x _=>nameAt cf y.1 x) = true→NmsOK c.names l es
 | [],[],_,_=>.nil
 | [],_ :: _,e,_=>Nat.noConfusion e
 | _ :: _,[],e,_=>Nat.noConfusion e
 | i :: l,e0 :: es,e,h=>by
  refine and_el h fun h1 h2=>?_
  apply onName_el (e:=e0) h1
  intro x p h3
  exact .cons (nameAt_ok f h3).1 (chkMany f l es (Nat.succ.inj e) h2)
theorem chkT_ok {w:World} {cf:Cf} {c:Cx} {t:Tg} {e:Expr} (f:Fits w cf c) (h:chkT cf t e = true):TgOK c t e:=by
 cases t with
 | one i =>
  apply onName_el h
  intro x p h
  exact .one (nameAt_ok f h).1
 | cell i =>
  apply onName_el h
  intro x p h
  refine and_el h fun h1 h2=>?_
  refine .cell (by rw [f.cl]; exact eq_of_beq h1) ?_
  show c.env.scope.names.lookup _ = _
  rw [f.scope]; exact eq_of_beq h2
 | many l =>
  apply onTup_el h
  intro es k p h
  refine and_el h fun h1 h2=>?_
  exact .many (chkMany f l es (eq_of_beq h1) h2)
theorem boot_len:bootBuiltins "len" = some (.builtin "len"):=by kernel_rfl
theorem boot_sorted:bootBuiltins "sorted" = some (.builtin "sorted"):=by kernel_rfl
theorem boot_range:bootBuiltins "range" = some (.type "range"):=by kernel_rfl
theorem no_len (P:Params):nsIn (KF P) mainGlobals "len" = some none:=by kernel_rfl
theorem no_sorted (P:Params):nsIn (KF P) mainGlobals "sorted" = some none:=by kernel_rfl
theorem no_range (P:Params):nsIn (KF P) mainGlobals "range" = some none:=by kernel_rfl
theorem plainT_ok {e:Expr} (h:plainT e = true) {env:Env} (whole:Sem Value):isTrue e env whole = (do let v ← whole; standAt e.pos; holding [v] (truthy v)):=by
 cases e <;> first | rfl | exact Bool.noConfusion h
section
variable {c:Cx} {A:Around} {st:St}
theorem Sx.of {t:Sem Value} {W W':(D→St→Prop)→Prop} (h:Sx c A t st W) (e:∀ K,W' K→W K):Sx c A t st W':=fun s p K Q a w k=>h s p K Q a (e K w) k
theorem Sb.of {t:Sem Bool} {W W':(Bool→St→Prop)→Prop} (h:Sb c A t st W) (e:∀ K,W' K→W K):Sb c A t st W':=fun s p K Q a w k=>h s p K Q a (e K w) k
theorem Sxs.of {t:Sem (List Value)} {W W':(List D→St→Prop)→Prop} (h:Sxs c A t st W) (e:∀ K,W' K→W K):Sxs c A t st W':=fun s p K Q a w k=>h s p K Q a (e K w) k
theorem Sf.of {t:Sem Flow} {W W':(FD→St→Prop)→Prop} (h:Sf c A t st W) (e:∀ K,W' K→W K):Sf c A t st W':=fun s p K Q a w k=>h s p K Q a (e K w) k
theorem Sp.of {t:Sem (List (Value × Value))} {ks:List Nat} {W W':(List D→St→Prop)→Prop} (h:Sp c A t st ks W) (e:∀ K,W' K→W K):Sp c A t st ks W':=fun s p K Q a w k=>h s p K Q a (e K w) k
theorem Sx.no {t:Sem Value} {W:(D→St→Prop)→Prop} (e:∀ K,¬ W K):Sx c A t st W:=fun s p K Q a w k=>(e K w).elim
theorem Sp.no {t:Sem (List (Value × Value))} {ks:List Nat} {W:(List D→St→Prop)→Prop} (e:∀ K,¬ W K):Sp c A t st ks W:=fun s p K Q a w k=>(e K w).elim
end
theorem Sx.nameN {c:Cx} {A:Around} {st:St} {x:Str} {pos:Pos} {i:Nat} {d:D} (hi:c.names[i]? = some x) (hd:st.loc[i]? = some (some d)) (hdb:(x == ("__debug__":Str)) = false) :
  Sx c A (eval (.Name x pos) c.env) st fun K=>K (normD st d) st:=by
 intro s p K Q a w k
 obtain ⟨m,n,r⟩:=a.ns
 obtain ⟨v,e,q⟩:=r i x d hi hd
 exact wpAny_Name (wpAny_loadName_local a.kind (a.nms i x hi) n e (k _ st v s.heap s.toks p w a (.refl p) (normD_den a q))) hdb
theorem keysOK_some:∀ {ks:List Nat} {keys:List (Option Expr)},keysOK ks keys = true→keys.all (·.isSome) = true
 | [],keys,h=>isEmpty_el (M:=fun keys=>keys.all (·.isSome) = true) h rfl
 | k :: ks,[],h=>rfl
 | k :: ks,o :: keys,h=>by
  refine and_el h fun h1 h2=>?_
  apply any1_el h1
  intro e _
  have:=keysOK_some h2
  exact this
theorem range1 {cl:List (Str × Nat)} (h:cl.length≤1):∀ (x y:Str × Nat),x∈cl→y∈cl→x = y:=by
 intro x y hx hy
 match cl,h with
 | [],_=>cases hx
 | [a],_=>simp at hx hy; rw [hx,hy]
theorem cloOf_len {env:Env}:∀ {l:List (Str × NameKind)} {acc cs:List (Str × Addr)},cloOf env l acc = some cs→cs.length = (l.filter fun y=>y.2 == .free).length + acc.length
 | [],acc,cs,h=>by unfold cloOf at h; cases h; simp
 | (n,k) :: l,acc,cs,h=>by
  unfold cloOf at h
  by_cases q:(k == NameKind.free) = true
  ·rw [if_pos q] at h
   split at h
   ·have:=cloOf_len h
    simp only [List.filter_cons,q,if_true,List.length_cons] at this ⊢
    omega
   ·cases h
  ·rw [if_neg q] at h
   have:=cloOf_len h
   simp only [List.filter_cons,q,if_false,Bool.false_eq_true] at this ⊢
   exact this
theorem compFacts {w:World} {cf:Cf} {c:Cx} {ns:List Nat} {cl:List (Nat × Nat)} {scope:Scope} {t:Tg} {tg:Expr} (f:Fits w cf c) (h2:chkComp cf ns cl scope = true) (h3:chkT ⟨ns,cl,relabelS scope cf.scope⟩ t tg = true) (h9:noCell t = true) :
  scope.kind = .function∧(∀ x∈scope.names,x.2 = .local→scope.names.lookup x.1 = some .local)∧(∀ x∈scope.names,x.2 ≠ .cell)∧(∀ y∈ns.map nm,scope.names.lookup y = some .local)∧(ns.map nm).Nodup∧cloL scope.names c.cl = some (nmOf cl)∧(∀ (x y:Str × Nat),x∈nmOf cl→y∈nmOf cl→x = y) ∧
  (∀ cs,cloOf c.env scope.names [] = some cs→∀ y b,(y,b)∈cs→cs.lookup y = some b)∧(∀ y i,(y,i)∈nmOf cl→(relabel scope c.env).names.lookup y = some .cell∨(relabel scope c.env).names.lookup y = some .free) ∧
  (∀ c':Cx,c'.names = ns.map nm→TgOK c' t tg)∧(∀ i,t ≠ .cell i)∧∀ c':Cx,c'.w = c.w→c'.names = ns.map nm→c'.cl = nmOf cl→c'.env.scope = relabel scope c.env→Fits w ⟨ns,cl,relabelS scope cf.scope⟩ c':=by
 unfold chkComp at h2
 refine and_el h2 fun g g9=>?_
 refine and_el g fun g g8=>?_
 refine and_el g fun g g7=>?_
 refine and_el g fun g g6=>?_
 refine and_el g fun g g5=>?_
 refine and_el g fun g g4=>?_
 refine and_el g fun g g3=>?_
 refine and_el g fun g1 g2=>?_
 have rel:relabel scope c.env = relabelS scope cf.scope:=by rw [← f.scope]; rfl
 have fits:∀ c':Cx,c'.w = c.w→c'.names = ns.map nm→c'.cl = nmOf cl→c'.env.scope = relabel scope c.env→Fits w ⟨ns,cl,relabelS scope cf.scope⟩ c':=fun c' e1 e2 e3 e4=>⟨e1.trans f.w,e2,e3,e4.trans rel⟩
 have nl:∀ k∈ns,k < nmL.length∧scope.names.lookup (nm k) = some .local:=fun k hk=>by
  refine and_el (List.all_eq_true.mp g4 k hk) fun y1 y2=>?_
  exact ⟨Nat.le_of_ble_eq_true y1,eq_of_beq y2⟩
 have c1:cl.length≤1:=Nat.le_of_ble_eq_true g7
 refine ⟨eq_of_beq g1,?_,?_,?_,?_,?_,?_,?_,?_,?_,?_,fits⟩
 ·intro x hx e
  have:=List.all_eq_true.mp g2 x hx
  rw [e] at this
  simpa using this
 ·intro x hx e
  have:=List.all_eq_true.mp g3 x hx
  rw [e] at this
  simp at this
 ·intro y hy
  obtain ⟨k,hk,rfl⟩:=List.mem_map.mp hy
  exact (nl k hk).2
 ·exact nm_nodup (fun k hk=>(nl k hk).1) (nodupB_ok g5)
 ·rw [f.cl]; exact eq_of_beq g6
 ·exact range1 (by simpa [nmOf] using c1)
 ·intro cs hcs y b hy
  have l1:=cloOf_len hcs
  have l2:cs.length≤1:=by
   have:=eq_of_beq g8
   simp only [List.length_nil] at l1
   omega
  match cs,l2 with
  | [],_=>cases hy
  | [a],_ =>
   simp at hy
   rw [← hy]; simp
 ·intro y i hy
  simp only [nmOf,List.mem_map] at hy
  obtain ⟨z,hz,ez⟩:=hy
  cases ez
  rw [rel]
  have:=List.all_eq_true.mp g9 z hz
  rcases Bool.or_eq_true_iff.mp this with q | q
  ·exact .inl (eq_of_beq q)
  ·exact .inr (eq_of_beq q)
 ·intro c' e2
  have:chkT ⟨ns,cl,relabelS scope cf.scope⟩ t tg = true:=h3
  cases t with
  | one i =>
   apply onName_el this
   intro x p this
   refine and_el this fun q1 q2=>?_
   obtain ⟨k,hk,q1⟩:=any1_ok q1
   have hk':ns[i]? = some k:=hk
   exact .one (by rw [e2,List.getElem?_map,hk',(isNm_ok q1).2]; rfl)
  | cell i=>exact Bool.noConfusion h9
  | many l =>
   have z:=chkT_ok (w:=w) (cf:=⟨ns,cl,relabelS scope cf.scope⟩) (c:=⟨w,{ c'.env with scope:=relabelS scope cf.scope },c'.names,c'.G₀,c'.h₀,c'.F₀,nmOf cl⟩) ⟨rfl,e2,rfl,rfl⟩ this
   cases z with
   | many m=>exact .many m
 ·intro i e; rw [e] at h9; cases h9
theorem loc_at {T:Tb} {i:Nat} {st:St} {K:D→St→Prop} (w:wpX T (.loc i) st K):∃ d,st.loc[i]? = some (some d)∧K (normD st d) st:=by
 change (match st.loc[i]? with | some (some d)=>K (normD st d) st | _=>False) at w
 cases q:st.loc[i]? with
 | none=>rw [q] at w; exact w.elim
 | some m=>cases m with
  | none=>rw [q] at w; exact w.elim
  | some d=>rw [q] at w; exact ⟨d,rfl,w⟩
theorem cell_at {T:Tb} {i:Nat} {st:St} {K:D→St→Prop} (w:wpX T (.cell i) st K):∃ d,st.mu[i]? = some (some (.cell (some d)))∧K d st:=by
 change (match st.mu[i]? with | some (some (.cell (some d)))=>K d st | _=>False) at w
 cases q:st.mu[i]? with
 | none=>rw [q] at w; exact w.elim
 | some m=>cases m with
  | none=>rw [q] at w; exact w.elim
  | some m=>cases m with
   | cell d=>cases d with
    | none=>rw [q] at w; exact w.elim
    | some d=>rw [q] at w; exact ⟨d,rfl,w⟩
   | _=>rw [q] at w; exact w.elim
theorem glob_at {T:Tb} {j:Nat} {st:St} {K:D→St→Prop} {y:Nat × F} (h:T.glob[j]? = some y) (w:wpX T (.glob j) st K):K (.fro y.2) st:=by
 change (match T.glob[j]? with | some y=>K (.fro y.2) st | none=>False) at w
 rw [h] at w; exact w
theorem call_at {T:Tb} {j:Nat} {σ:List Nat} {l:Xs} {st:St} {K:D→St→Prop} {y:Nat × Nat} (h:T.call[j]? = some y) (w:wpX T (.call j σ l) st K):wpXs T l st fun ds st'=>callD σ (T.Γ y.2) ds st' K:=by
 change (match T.call[j]? with | some y=>wpXs T l st fun ds st'=>callD σ (T.Γ y.2) ds st' K | none=>False) at w
 rw [h] at w; exact w
set_option maxHeartbeats 1000000
mutual
theorem okX (T:Tb):∀ (x:X) (cf:Cf) (e:Expr),chkX T x cf e = true→∀ {w:World} {L:Nat} {c:Cx} {A:Around},TbOK T w L→Fits w cf c→Room A L→∀ st,Sx c A (eval e c.env) st (wpX T x st)
 | .loc i=>by
  intro cf e h w L c A tb f r st
  apply onName_el h
  intro x p h
  obtain ⟨h1,h2⟩:=nameAt_ok f h
  intro s p K Q a w k
  obtain ⟨d,q,w⟩:=loc_at w
  exact Sx.nameN h1 q (okName_ok h2).1 s p K Q a w k
 | .cell i=>by
  intro cf e h w L c A tb f r st
  apply onName_el h
  intro x p h
  refine and_el h fun h1 h2=>?_
  obtain ⟨n1,n2,n3⟩:=okName_ok h1
  intro s p K Q a w k
  obtain ⟨d,q,w⟩:=cell_at w
  exact Sx.cell (by rw [f.cl]; exact eq_of_beq h2) q n1 n2 s p K Q a w k
 | .glob j=>by
  intro cf e h w L c A tb f r st
  apply onName_el h
  intro x p h
  refine and_el h fun h1 h2=>?_
  obtain ⟨g1,g2⟩:=globOK_ok f h2
  obtain ⟨y,hy,h1⟩:=any1_ok h1
  obtain ⟨v,v1,v2⟩:=tb.glob j y hy
  obtain ⟨i1,rfl⟩:=isNm_ok h1
  obtain rfl:=f.w
  exact (Sx.glob v1 g1 (okName_ok g2).1 v2).of fun K k=>glob_at hy k
 | .cint z=>by
  intro cf e h w L c A tb f r st
  apply onConst_el h
  intro x n p h
  apply dec_el h
  exact Sx.const rfl
 | .cbool z=>by
  intro cf e h w L c A tb f r st
  apply onConst_el h
  intro x n p h
  apply dec_el h
  exact Sx.const rfl
 | .cnone=>by
  intro cf e h w L c A tb f r st
  apply onConst_el h
  intro x n p h
  apply dec_el h
  exact Sx.const rfl
 | .cstr k=>by
  intro cf e h w L c A tb f r st
  apply onConst_el h
  intro x n p h
  refine and_el h fun h1 h=>?_
  apply dec_el h
  exact Sx.constS (Nat.le_of_ble_eq_true h1) rfl
 | .bin o a b=>by
  intro cf e h w L c A tb f r st
  apply onBin_el h
  intro l op rr p h
  refine and_el3 h fun h1 h2 h3=>?_
  apply dec_el h1
  exact Sx.bin (okX T a cf _ h2 tb f r st) fun st'=>okX T b cf _ h3 tb f r st'
 | .cat a b=>by
  intro cf e h w L c A tb f r st
  apply onBin_el h
  intro l op rr p h
  refine and_el3 h fun h1 h2 h3=>?_
  apply dec_el h1
  exact Sx.cat (okX T a cf _ h2 tb f r st) fun st'=>okX T b cf _ h3 tb f r st'
 | .ite t a b=>by
  intro cf e h w L c A tb f r st
  apply onIf_el h
  intro te x y p h
  refine and_el3 h fun h1 h2 h3=>?_
  exact Sx.ite (okB T t cf _ h1 tb f r st) (fun st'=>okX T a cf _ h2 tb f r st') fun st'=>okX T b cf _ h3 tb f r st'
 | .cmp o a b=>by
  intro cf e h w L c A tb f r st
  apply onCmp_el h
  intro l ops rs p h
  refine and_el h fun h1 h0=>?_
  apply dec_el h1
  apply one_el h0
  intro rr h5
  refine and_el3 h5 fun h2 h3 h4=>?_
  exact Sx.cmp (okX T a cf _ h3 tb f r st) (fun st'=>okX T b cf _ h4 tb f r st') h2
 | .cmp2 o a b=>by
  intro cf e h w L c A tb f r st
  apply onCmp_el h
  intro l ops rs p h
  refine and_el h fun h1 h0=>?_
  apply dec_el h1
  apply one_el h0
  intro rr h5
  refine and_el3 h5 fun h2 h3 h4=>?_
  exact Sx.cmp2 (r.le tb.pos) (okX T a cf _ h3 tb f r st) (fun st'=>okX T b cf _ h4 tb f r st') h2
 | .attr a k0=>by
  intro cf e h w L c A tb f r st
  apply onAttr_el h
  intro v x p h
  refine and_el3 h fun h1 h2 h3=>?_
  exact Sx.attr (okX T a cf _ h3 tb f r st) h2 (isNm_ok h1).2
 | .idx a i=>by
  intro cf e h w L c A tb f r st
  apply onSub_el h
  intro v x p h
  refine and_el3 h fun h1 h2 h3=>?_
  exact Sx.idx (okX T a cf _ h2 tb f r st) (fun st'=>okX T i cf _ h3 tb f r st') h1
 | .pick l i=>by
  intro cf e h w L c A tb f r st
  apply onSub_el h
  intro v x p h
  apply onConst_el h
  intro y n p2 h
  refine and_el h fun h1 h3=>?_
  refine and_el3 h1 fun h0 h4 h2=>?_
  apply dec_el h0
  exact Sx.pick h4 (beq_self_eq_true _) (okX T i cf _ h3 tb f r st) h2
 | .upto n a=>by
  intro cf e h w L c A tb f r st
  apply onSub_el h
  intro v x p h
  apply onName_el h
  intro y p1 h
  apply onSlice_el h
  intro lo up stp p2 h
  refine and_el h fun h1 h4=>?_
  refine and_el3 h1 fun h1 h2 h3=>?_
  apply isNone_el h1
  apply isNone_el h2
  apply any1_el h3
  intro u h3
  apply onConst_el h3
  intro q m p3 h3
  apply dec_el h3
  exact Sx.upto (okX T a cf _ h4 tb f r st)
 | .tup l=>by
  intro cf e h w L c A tb f r st
  apply onTup_el h
  intro es n p h
  refine and_el h fun h1 h2=>?_
  exact Sx.tup (okXs T l cf _ h2 h1 tb f r _ st)
 | .lst l=>by
  intro cf e h w L c A tb f r st
  apply onList_el h
  intro es p h
  refine and_el h fun h1 h2=>?_
  exact Sx.lst (okXs T l cf _ h2 h1 tb f r _ st)
 | .mlst l=>by
  intro cf e h w L c A tb f r st
  apply onList_el h
  intro es p h
  refine and_el h fun h1 h2=>?_
  exact Sx.mlst (okXs T l cf _ h2 h1 tb f r _ st)
 | .dict0 m=>by
  intro cf e h w L c A tb f r st
  apply onDict_el h
  intro ks vs p h
  refine and_el h fun h1 h2=>?_
  apply isEmpty_el h1
  apply isEmpty_el h2
  exact Sx.dict0 m
 | .dict ks l=>by
  intro cf e h w L c A tb f r st
  apply onDict_el h
  intro keys vs p h
  refine and_el3 h fun h1 h2 h3=>?_
  refine and_el3 h2 fun h4 h5 h6=>?_
  refine and_el h3 fun h7 h8=>?_
  exact Sx.dict (keysOK_some h1) (eq_of_beq h7) (by intro e; rw [e] at h6; cases h6) (Nat.le_of_ble_eq_true h5) h4 (okP T l cf _ _ ks h1 (eq_of_beq h7) h8 tb f r _ _)
 | .call j σ l=>by
  intro cf e h w L c A tb f r st
  apply onCall_el h
  intro g args kw pos h
  refine and_el h fun h0 h=>?_
  apply isEmpty_el h0
  apply onName_el h
  intro x p0 h
  refine and_el3 h fun h1 h2 h5=>?_
  refine and_el3 h2 fun h2 h3 h4=>?_
  obtain ⟨g1,g2⟩:=globOK_ok f h2
  obtain ⟨y,hy,h1⟩:=any1_ok h1
  obtain ⟨v1,v2,v3⟩:=tb.call j y hy
  obtain ⟨i1,rfl⟩:=isNm_ok h1
  obtain rfl:=f.w
  cases args with
  | nil =>
   cases l with
   | nil=>exact (Sx.call0 v1 g1 (okName_ok g2).1 v2 v3 r (nodupB_ok h4)).of fun K k=>call_at hy k
   | cons=>exact Bool.noConfusion h5
  | cons a rest=>exact (Sx.call v1 g1 (okName_ok g2).1 v2 h3 v3 r (nodupB_ok h4) (okXs T l cf _ h5 h3 tb f r _ st)).of fun K k=>call_at hy k
 | .len a=>by
  intro cf e h w L c A tb f r st
  apply onCall_el h
  intro g args kw pos h
  refine and_el h fun h0 h=>?_
  apply isEmpty_el h0
  apply onName_el h
  intro x p0 h
  apply one_el h
  intro y h
  refine and_el3 h fun h1 h2 h4=>?_
  refine and_el h2 fun h2 h3=>?_
  obtain ⟨g1,g2⟩:=globOK_ok f h2
  obtain ⟨n1,n2,n3⟩:=okName_ok g2
  obtain rfl:=eq_of_beq h1
  exact Sx.bi (U:=lenU) (no_len _) boot_len n3 g1 n1 (fun h=>callWith_builtin1 h) h3 (fun d st' s p v K Q a n u k=>lenU_ok a n u k) (okX T a cf _ h4 tb f r st)
 | .sorted a=>by
  intro cf e h w L c A tb f r st
  apply onCall_el h
  intro g args kw pos h
  refine and_el h fun h0 h=>?_
  apply isEmpty_el h0
  apply onName_el h
  intro x p0 h
  apply one_el h
  intro y h
  refine and_el3 h fun h1 h2 h4=>?_
  refine and_el h2 fun h2 h3=>?_
  obtain ⟨g1,g2⟩:=globOK_ok f h2
  obtain ⟨n1,n2,n3⟩:=okName_ok g2
  obtain rfl:=eq_of_beq h1
  exact Sx.bi (U:=sortU) (no_sorted _) boot_sorted n3 g1 n1 (fun h=>callWith_builtin1 h) h3 (fun d st' s p v K Q a n u k=>sortU_ok r.1 a n u k) (okX T a cf _ h4 tb f r st)
 | .comp ns cl t it te elt=>by
  intro cf e h w L c A tb f r st
  apply onComp_el h
  intro el gens scope pos h
  apply one_el h
  intro y0 h
  obtain ⟨tg,iter,ifs,a⟩:=y0
  refine and_el3 h fun h1 h2 h3=>?_
  refine and_el3 h1 fun h1 h9 hc=>?_
  refine and_el3 h2 fun ht h4 h5=>?_
  refine and_el3 h3 fun h6 h7 h8=>?_
  obtain rfl:=of_decide_eq_true h1
  obtain ⟨k1,k2,k3,k4,k5,k6,k7,k8,k9,k10,k11,fits⟩:=compFacts f hc ht h9
  refine (Sx.comp (t:=t) (names':=ns.map nm) (cl':=nmOf cl) (Wt:=wpT T te) (We:=wpX T elt) r.1 (okX T it cf _ h5 tb f r st) h4 k1 k2 k3 k4 k5 k6 k7 k8 k9 k10 k11
   (fun c' e1 e2 e3 e4 st'=>okT T te _ ifs h6 (Nat.le_of_ble_eq_true h7) tb (fits c' e1 e2 e3 e4) r st') (fun c' e1 e2 e3 e4 st'=>okX T elt _ el h8 tb (fits c' e1 e2 e3 e4) r st')).of fun K k=>?_
  rw [List.length_map]
  exact k
 | .frz a=>by
  intro cf e h w L c A tb f r st
  exact Sx.frz (okX T a cf e h tb f r st)
 | .both a b=>by
  intro cf e h w L c A tb f r st
  apply onBool_el h
  intro op vs p h
  cases vs with
  | nil=>exact Bool.noConfusion h
  | cons x vs =>
   apply one_el h
   intro y h
   refine and_el3 h fun h1 h2 h3=>?_
   apply dec_el h1
   exact Sx.both (okX T a cf _ h2 tb f r st) fun st'=>okX T b cf _ h3 tb f r st'
theorem okB (T:Tb):∀ (x:B) (cf:Cf) (e:Expr),chkB T x cf e = true→∀ {w:World} {L:Nat} {c:Cx} {A:Around},TbOK T w L→Fits w cf c→Room A L→∀ st,Sb c A (isTrue e c.env (eval e c.env)) st (wpB T x st)
 | .cmp o a b=>by
  intro cf e h w L c A tb f r st
  apply onCmp_el h
  intro l ops rs p h
  refine and_el h fun h1 h0=>?_
  apply dec_el h1
  apply one_el h0
  intro rr h5
  refine and_el3 h5 fun h2 h3 h4=>?_
  exact Sb.cmp (okX T a cf _ h3 tb f r st) (fun st'=>okX T b cf _ h4 tb f r st') h2
 | .cmp2 o a b=>by
  intro cf e h w L c A tb f r st
  apply onCmp_el h
  intro l ops rs p h
  refine and_el h fun h1 h0=>?_
  apply dec_el h1
  apply one_el h0
  intro rr h5
  refine and_el3 h5 fun h2 h3 h4=>?_
  exact Sb.cmp2 (r.le tb.pos) (okX T a cf _ h3 tb f r st) (fun st'=>okX T b cf _ h4 tb f r st') h2
 | .not b=>by
  intro cf e h w L c A tb f r st
  apply onUn_el h
  intro op x p h
  refine and_el h fun h1 h=>?_
  apply dec_el h1
  exact Sb.not (okB T b cf _ h tb f r st)
 | .and l=>by
  intro cf e h w L c A tb f r st
  apply onBool_el h
  intro op vs p h
  refine and_el h fun h1 h=>?_
  apply dec_el h1
  exact Sb.boolop (okA T l cf _ h tb f r st)
 | .or l=>by
  intro cf e h w L c A tb f r st
  apply onBool_el h
  intro op vs p h
  refine and_el h fun h1 h=>?_
  apply dec_el h1
  exact Sb.boolop (okO T l cf _ h tb f r st)
 | .tru a=>by
  intro cf e h w L c A tb f r st
  refine and_el h fun h1 h2=>?_
  exact Sb.truth (okX T a cf _ h2 tb f r st) (fun whole=>plainT_ok h1 whole)
theorem okXs (T:Tb):∀ (l:Xs) (cf:Cf) (es:List Expr),chkXs T l cf es = true→es.all notStar = true→∀ {w:World} {L:Nat} {c:Cx} {A:Around},TbOK T w L→Fits w cf c→Room A L→∀ pos st,Sxs c A (spliced (backTo pos (starEach es c.env))) st (wpXs T l st)
 | .nil=>by
  intro cf es h hn w L c A tb f r pos st
  apply isEmpty_el h
  exact Sxs.nil
 | .cons x l=>by
  intro cf es h hn w L c A tb f r pos st
  cases es with
  | nil=>exact Bool.noConfusion h
  | cons e es =>
   refine and_el h fun h1 h2=>?_
   refine and_el hn fun n1 n2=>?_
   exact Sxs.cons (okX T x cf _ h1 tb f r st) (fun st'=>okXs T l cf _ h2 n2 tb f r pos st') n1
theorem okA (T:Tb):∀ (l:Bs) (cf:Cf) (es:List Expr),chkBs T l cf es = true→∀ {w:World} {L:Nat} {c:Cx} {A:Around},TbOK T w L→Fits w cf c→Room A L→∀ st,Sb c A (allTrue .And es c.env) st (wpA T l st)
 | .nil=>by
  intro cf es h w L c A tb f r st
  apply isEmpty_el h
  exact Sb.nil
 | .cons x l=>by
  intro cf es h w L c A tb f r st
  cases es with
  | nil=>exact Bool.noConfusion h
  | cons e es =>
   refine and_el h fun h1 h2=>?_
   refine (Sb.cons (okB T x cf _ h1 tb f r st) fun st'=>okA T l cf _ h2 tb f r st').of fun K k=>cast (congrArg (wpB T x st) ?_) k
   funext b st'
   cases b <;> rfl
theorem okO (T:Tb):∀ (l:Bs) (cf:Cf) (es:List Expr),chkBs T l cf es = true→∀ {w:World} {L:Nat} {c:Cx} {A:Around},TbOK T w L→Fits w cf c→Room A L→∀ st,Sb c A (allTrue .Or es c.env) st (wpO T l st)
 | .nil=>by
  intro cf es h w L c A tb f r st
  apply isEmpty_el h
  exact Sb.nil
 | .cons x l=>by
  intro cf es h w L c A tb f r st
  cases es with
  | nil=>exact Bool.noConfusion h
  | cons e es =>
   refine and_el h fun h1 h2=>?_
   refine (Sb.cons (okB T x cf _ h1 tb f r st) fun st'=>okO T l cf _ h2 tb f r st').of fun K k=>cast (congrArg (wpB T x st) ?_) k
   funext b st'
   cases b <;> rfl
theorem okT (T:Tb):∀ (l:Bs) (cf:Cf) (es:List Expr),chkBs T l cf es = true→es.length≤1→∀ {w:World} {L:Nat} {c:Cx} {A:Around},TbOK T w L→Fits w cf c→Room A L→∀ st,Sb c A (testsOf es c.env) st (wpT T l st)
 | .nil=>by
  intro cf es h hl w L c A tb f r st
  apply isEmpty_el h
  intro s p K Q a w k
  exact wpAny_tests_nil (k _ _ s.heap s.toks p w a (.refl p))
 | .cons x l=>by
  intro cf es h hl w L c A tb f r st
  cases es with
  | nil=>exact Bool.noConfusion h
  | cons e es =>
   refine and_el h fun h1 h2=>?_
   cases es with
   | cons=>exact absurd hl (by rw [List.length_cons,List.length_cons]; omega)
   | nil =>
    have ih:=okB T x cf _ h1 tb f r st
    cases l with
    | cons=>exact fun s p K Q a w k=>False.elim w
    | nil=>exact fun s p K Q a w k=>wpAny_tests_one (ih s p K Q a w k)
theorem okP (T:Tb):∀ (l:Xs) (cf:Cf) (keys:List (Option Expr)) (es:List Expr) (ks:List Nat),keysOK ks keys = true→keys.length = es.length→chkXs T l cf es = true→∀ {w:World} {L:Nat} {c:Cx} {A:Around},TbOK T w L→Fits w cf c→Room A L→∀ pos st,Sp c A (evalPairs (pairTrees keys es c.env pos)) st ks (wpXs T l st)
 | .nil=>by
  intro cf keys es ks hk hl h w L c A tb f r pos st
  obtain rfl:=isEmpty_ok h
  obtain rfl:=List.eq_nil_of_length_eq_zero hl
  cases ks with
  | nil=>exact Sp.nil
  | cons k ks=>exact Bool.noConfusion hk
 | .cons x l=>by
  intro cf keys es ks hk hl h w L c A tb f r pos st
  cases es with
  | nil=>exact Bool.noConfusion h
  | cons e es =>
   refine and_el h fun h1 h2=>?_
   cases keys with
   | nil=>exact Nat.noConfusion hl
   | cons o keys =>
    cases ks with
    | nil=>exact Bool.noConfusion hk
    | cons k' ks' =>
     refine and_el hk fun k1 k2=>?_
     apply any1_el k1
     intro ke k1
     apply onConst_el k1
     intro kc n p k1
     refine and_el k1 fun i1 i2=>?_
     apply dec_el i2
     exact Sp.cons (Nat.le_of_ble_eq_true i1) rfl (okX T x cf _ h1 tb f r st) fun st'=>okP T l cf _ _ _ k2 (Nat.succ.inj hl) h2 tb f r pos st'
end
mutual
noncomputable def chkY (T:Tb):Y→Cf→Stmt→Bool
 | .assign i a,cf,y=>onAssign y fun ts v _=>one ts fun t=>onName t fun x _=>nameAt cf i x && plainV v && chkX T a cf v
 | .assignC i a,cf,y=>onAssign y fun ts v _=>one ts fun t=>onName t fun x _=>((nmOf cf.cl).lookup x == some i) && (cf.scope.names.lookup x == some .cell) && (plainV v && chkX T a cf v)
 | .ite b u v,cf,y=>onIfS y fun t l m _=>chkB T b cf t && chkYs T u cf l && chkYs T v cf m
 | .ret a,cf,y=>onRet y fun o _=>any1 o fun e=>chkX T a cf e
 | .for_ t a b,cf,y=>onFor y fun te e l m _=>m.isEmpty && plainR e && (chkT cf t te && chkX T a cf e && chkYs T b cf l)
 | .forR t a b,cf,y=>onFor y fun te c l m _=>m.isEmpty && onCall c fun g es kw _=>kw.isEmpty && onName g fun x _=>one es fun e=>((x == ("range":Str)) && globOK cf x && notStar e) && (chkT cf t te && oneT t) && (chkX T a cf e && chkYs T b cf l)
 | .app o a,cf,y=>onExpr y fun c _=>onCall c fun g es kw cp=>kw.isEmpty && onAttr g fun v x ap=>one es fun e=>((x == ("append":Str)) && plainBase v && notStar e) && (ap.endLine == cp.line) && (chkX T o cf v && chkX T a cf e)
 | .ext o a,cf,y=>onExpr y fun c _=>onCall c fun g es kw cp=>kw.isEmpty && onAttr g fun v x ap=>one es fun e=>((x == ("extend":Str)) && plainBase v && notStar e) && (ap.endLine == cp.line) && (chkX T o cf v && chkX T a cf e)
 | .setI o i v,cf,y=>onAssign y fun ts ev _=>one ts fun t=>onSub t fun eo ei _=>(plainV ev && chkX T v cf ev) && chkX T o cf eo && chkX T i cf ei
 | .setA o k v,cf,y=>onAssign y fun ts ev _=>one ts fun t=>onAttr t fun eo x _=>(isNm x k && plainV ev) && chkX T v cf ev && chkX T o cf eo
 | .aug o i v,cf,y=>onAug y fun t op ev _=>onSub t fun eo ei _=>(decide (op = .Add) && noSlice ei) && chkX T o cf eo && (chkX T i cf ei && chkX T v cf ev)
 | .run a,cf,y=>onExpr y fun e _=>plainV e && chkX T a cf e
 | .assignK i ns cl t it te elt,cf,y=>onAssign y fun ts v sp=>one ts fun tt=>onName tt fun x px=>onComp v fun el gens scope pos=>one gens fun g =>
   ((decide (g.is_async = 0) && noCell t && chkComp cf ns cl scope) && (chkT ⟨ns,cl,relabelS scope cf.scope⟩ t g.target && plainR g.iter && chkX T it cf g.iter) && (chkBs T te ⟨ns,cl,relabelS scope cf.scope⟩ g.ifs && Nat.ble g.ifs.length 1 && chkX T elt ⟨ns,cl,relabelS scope cf.scope⟩ el)) &&
   nameAt cf i x && (cf.scope.kind == .function && cf.scope.names.lookup x == some .local && px.line == pos.line && !(scope.names.any fun (n,k)=>n == x && (k == .local || k == .cell)))
noncomputable def chkYs (T:Tb):Ys→Cf→List Stmt→Bool
 | .nil,cf,l=>l.isEmpty
 | .cons y r,cf,l=>match l with
  | []=>false
  | s :: l=>chkY T y cf s && chkYs T r cf l
 | .ghost k r,cf,l=>chkYs T r cf l
end
section
variable {w:World} {L:Nat} {ok:Nat→Nat→Bool} (hok:∀ C x,ok C x = true→x < nmL.length∧okSetC w.params C = true∧okSet w.params (C,x) = true)
theorem Fits.again {cf:Cf} {c c':Cx} (f:Fits w cf c) (e1:c'.w = c.w) (e2:c'.env = c.env) (e3:c'.names = c.names) (e4:c'.cl = c.cl):Fits w cf c':=⟨e1.trans f.w,e3.trans f.names,e4.trans f.cl,by rw [e2]; exact f.scope⟩
include hok
mutual
theorem okY (T:Tb) (tb:TbOK T w L):∀ (x:Y) (cf:Cf) (y:Stmt),chkY T x cf y = true→∀ {c:Cx} {A:Around},Fits w cf c→Room A L→∀ st,Sf c A (exec y c.env) st (wpY T ok x st)
 | .assign i a=>by
  intro cf y h c A f r st
  apply onAssign_el h
  intro ts v p h1
  apply one_el h1
  intro t h2
  apply onName_el h2
  intro x p2 h3
  refine and_el3 h3 fun h1 h2 h3=>?_
  exact Sf.assign (nameAt_ok f h1).1 (okX T a cf _ h3 tb f r st) h2
 | .assignC i a=>by
  intro cf y h c A f r st
  apply onAssign_el h
  intro ts v p h1
  apply one_el h1
  intro t h2
  apply onName_el h2
  intro x p2 h3
  refine and_el3 h3 fun h1 h2 h3=>?_
  refine and_el h3 fun h3 h4=>?_
  refine Sf.assignC (i:=i) (by rw [f.cl]; exact eq_of_beq h1) ?_ (okX T a cf _ h4 tb f r st) h3
  show c.env.scope.names.lookup _ = _
  rw [f.scope]; exact eq_of_beq h2
 | .ite b u v=>by
  intro cf y h c A f r st
  apply onIfS_el h
  intro t l m p h1
  refine and_el3 h1 fun h1 h2 h3=>?_
  exact Sf.ite (okB T b cf _ h1 tb f r st) (fun st'=>okYs T tb u cf _ h2 f r st') fun st'=>okYs T tb v cf _ h3 f r st'
 | .ret a=>by
  intro cf y h c A f r st
  apply onRet_el h
  intro o p h1
  apply any1_el h1
  intro e h2
  exact Sf.ret (okX T a cf _ h2 tb f r st)
 | .for_ t a b=>by
  intro cf y h c A f r st
  apply onFor_el h
  intro te e l m p j1
  refine and_el3 j1 fun h0 h1 j2=>?_
  refine and_el3 j2 fun h2 h3 h4=>?_
  apply isEmpty_el h0
  exact Sf.forF (W:=wpYs T ok b) r.1 (okX T a cf _ h3 tb f r st) h1 (chkT_ok f h2) fun c' e1 e2 e3 e4 st'=>okYs T tb b cf _ h4 (f.again e1 e2 e3 e4) r st'
 | .forR t a b=>by
  intro cf y h c A f r st
  apply onFor_el h
  intro te e l m p j1
  refine and_el j1 fun j0 j2=>?_
  apply onCall_el j2
  intro g es kw cp j3
  refine and_el j3 fun j4 j5=>?_
  apply onName_el j5
  intro x p0 j6
  apply one_el j6
  intro e j7
  apply isEmpty_el j0
  apply isEmpty_el j4
  refine and_el3 j7 fun k1 k2 k3=>?_
  refine and_el3 k1 fun h1 h2 h3=>?_
  refine and_el k2 fun h4 h5=>?_
  refine and_el k3 fun h6 h7=>?_
  obtain ⟨g1,g2⟩:=globOK_ok f h2
  obtain ⟨n1,n2,n3⟩:=okName_ok g2
  obtain rfl:=eq_of_beq h1
  exact Sf.forR (W:=wpYs T ok b) r.1 (no_range _) boot_range n3 g1 n1 (okX T a cf _ h6 tb f r st) h3 (chkT_ok f h4) h5 fun c' e1 e2 e3 e4 st'=>okYs T tb b cf _ h7 (f.again e1 e2 e3 e4) r st'
 | .app o a=>by
  intro cf y h c A f r st
  apply onExpr_el h
  intro c0 p j1
  apply onCall_el j1
  intro g es kw cp j2
  refine and_el j2 fun j3 j4=>?_
  apply onAttr_el j4
  intro v x ap j5
  apply one_el j5
  intro e j6
  apply isEmpty_el j3
  refine and_el3 j6 fun k1 h4 k3=>?_
  refine and_el3 k1 fun h1 h2 h3=>?_
  refine and_el k3 fun h5 h6=>?_
  obtain rfl:=eq_of_beq h1
  exact Sf.append (okX T o cf _ h5 tb f r st) (fun st'=>okX T a cf _ h6 tb f r st') h2 h3 h4
 | .ext o a=>by
  intro cf y h c A f r st
  apply onExpr_el h
  intro c0 p j1
  apply onCall_el j1
  intro g es kw cp j2
  refine and_el j2 fun j3 j4=>?_
  apply onAttr_el j4
  intro v x ap j5
  apply one_el j5
  intro e j6
  apply isEmpty_el j3
  refine and_el3 j6 fun k1 h4 k3=>?_
  refine and_el3 k1 fun h1 h2 h3=>?_
  refine and_el k3 fun h5 h6=>?_
  obtain rfl:=eq_of_beq h1
  exact Sf.extend (okX T o cf _ h5 tb f r st) (fun st'=>okX T a cf _ h6 tb f r st') h2 h3 h4
 | .setI o i v=>by
  intro cf y h c A f r st
  apply onAssign_el h
  intro ts ev p h1
  apply one_el h1
  intro t h2
  apply onSub_el h2
  intro eo ei p2 h3
  refine and_el3 h3 fun k1 h3 h4=>?_
  refine and_el k1 fun h1 h2=>?_
  exact Sf.setI (okX T v cf _ h2 tb f r st) (fun st'=>okX T o cf _ h3 tb f r st') (fun st'=>okX T i cf _ h4 tb f r st') h1 (r.le tb.pos)
 | .setA o k0 v=>by
  intro cf y h c A f r st
  apply onAssign_el h
  intro ts ev p h1
  apply one_el h1
  intro t h2
  apply onAttr_el h2
  intro eo x p2 h3
  refine and_el3 h3 fun k1 h3 h4=>?_
  refine and_el k1 fun h1 h2=>?_
  exact Sf.setA (ok:=ok) (by rw [f.w]; exact hok) (okX T v cf _ h3 tb f r st) (fun st'=>okX T o cf _ h4 tb f r st') h2 (isNm_ok h1).2
 | .aug o i v=>by
  intro cf y h c A f r st
  apply onAug_el h
  intro t op ev p j1
  apply onSub_el j1
  intro eo ei p2 j3
  refine and_el3 j3 fun k1 h2 k3=>?_
  refine and_el k1 fun h0 h1=>?_
  refine and_el k3 fun h3 h4=>?_
  apply dec_el h0
  exact Sf.aug (okX T o cf _ h2 tb f r st) (fun st'=>okX T i cf _ h3 tb f r st') (fun st'=>okX T v cf _ h4 tb f r st') h1 (r.le tb.pos)
 | .run a=>by
  intro cf y h c A f r st
  apply onExpr_el h
  intro e p h1
  refine and_el h1 fun h1 h2=>?_
  exact Sf.run (okX T a cf _ h2 tb f r st) h1
 | .assignK i ns cl t it te elt=>by
  intro cf y h c A f r st
  apply onAssign_el h
  intro ts v sp h1
  apply one_el h1
  intro t' h2
  apply onName_el h2
  intro x px h3
  apply onComp_el h3
  intro el gens scope pos h4
  apply one_el h4
  intro y0 h5
  obtain ⟨tg,iter,ifs,a⟩:=y0
  refine and_el3 h5 fun k1 hA hB=>?_
  refine and_el3 k1 fun h1 h2 h3=>?_
  refine and_el3 h1 fun h1 h9 hc=>?_
  refine and_el3 h2 fun ht h4 h5=>?_
  refine and_el3 h3 fun h6 h7 h8=>?_
  obtain rfl:=of_decide_eq_true h1
  obtain ⟨k1,k2,k3,k4,k5,k6,k7,k8,k9,k10,k11,fits⟩:=compFacts f hc ht h9
  refine (Sf.assignComp (t:=t) (names':=ns.map nm) (cl':=nmOf cl) (Wt:=wpT T te) (We:=wpX T elt) r.1 (okX T it cf _ h5 tb f r st) h4 k1 k2 k3 k4 k5 k6 k7 k8 k9 k10 k11
   (fun c' e1 e2 e3 e4 st'=>okT T te _ ifs h6 (Nat.le_of_ble_eq_true h7) tb (fits c' e1 e2 e3 e4) r st') (fun c' e1 e2 e3 e4 st'=>okX T elt _ el h8 tb (fits c' e1 e2 e3 e4) r st') (nameAt_ok f hA).1 ?_).of fun K k=>?_
  ·show (pure (c.env.blockKind == .function && c.env.kindOf x == some .local && px.line == pos.line && !(scope.names.any fun (n,k)=>n == x && (k == .local || k == .cell))):Sem Bool) = pure true
   have e0:c.env.blockKind = .function:=by
    unfold Env.blockKind
    rw [f.scope,eq_of_beq (and4 (and4 (and4 hB).1).1).1]; rfl
   have e1:c.env.kindOf x = cf.scope.names.lookup x:=by show c.env.scope.names.lookup x = _; rw [f.scope]
   rw [eq_of_beq (and4 (and4 (and4 hB).1).1).1] at hB
   rw [e0,e1]
   exact congrArg pure hB
  ·rw [List.length_map]
   exact k
theorem okYs (T:Tb) (tb:TbOK T w L):∀ (x:Ys) (cf:Cf) (l:List Stmt),chkYs T x cf l = true→∀ {c:Cx} {A:Around},Fits w cf c→Room A L→∀ st,Sf c A (execs l c.env) st (wpYs T ok x st)
 | .nil=>by
  intro cf l h c A f r st
  apply isEmpty_el h
  exact Sf.nil
 | .cons y x=>by
  intro cf l h c A f r st
  cases l with
  | nil=>exact Bool.noConfusion h
  | cons s l =>
   refine and_el h fun h1 h2=>?_
   exact Sf.cons (okY T tb y cf _ h1 f r st) fun st'=>okYs T tb x cf _ h2 f r st'
 | .ghost k0 x=>by
  intro cf l h c A f r st
  exact Sf.ghost (k:=k0) fun st'=>okYs T tb x cf l h f r st'
end
end
noncomputable def globT:List (Nat × F):=[(4,.int 8),(5,.int 27),(6,.int 28),(7,.int 34),(8,.int 35),(9,.int 36),(10,.int 59),(11,.int 61),(12,.int 62),(13,.int 63),(14,.int 64),(15,.int 65),(16,.int 71),(17,.int 80),(18,.int 81),(19,.int 99),(20,.int 16),(21,.int 32),(22,.int 64),(23,.int 128),(24,.int 256),(25,.int 512),(26,.int 1024),(27,.int 4096),(28,.int 8192),(29,.int 16384),(30,.int 32768),(31,.int 65536),(32,.int 131072),(33,.int 262144),(34,.int 524288),(35,.int 1048576),(36,.int 2097152),(37,.int 4194304),(51,.int 245760),(89,.int 1),(90,.int 2),(91,.int 6),(92,.int 8),(116,.int 200),(117,.int 40),(212,.tup [.str 213,.str 214,.str 215,.str 75])]
noncomputable def callT:List (Nat × Nat):=[(49,49),(52,56),(56,63),(61,70),(63,77),(67,82),(72,89),(46,38),(87,190),(114,248),(148,395),(156,416),(161,451),(167,493),(172,528),(176,556),(210,612),(218,624),(219,631),(223,638),(229,645),(232,652),(235,659),(240,666),(243,671),(246,678),(255,685),(256,692),(261,697),(268,704),(270,711),(271,716),(273,721),(278,726)]
noncomputable def setAt:List (Nat × Nat):=[(38,39),(38,40),(38,41),(38,42),(38,43),(38,44),(190,84),(190,81),(395,118),(395,119),(395,120),(395,121),(395,122),(416,151),(416,152),(416,153),(416,154),(416,155),(416,150),(493,162),(612,118),(612,177),(612,135),(612,150),(612,178),(612,126),(612,179),(612,180),(612,181),(612,182),(612,183),(612,184),(612,185),(612,186),(612,187),(612,188),(612,55),(612,189),(612,190),(612,191),(612,192),(612,193),(612,194),(612,195),(612,196),(612,119),(612,197),(612,198),(612,199),(612,200),(612,201),(612,202),(612,203),(612,204),(612,205),(248,84),(248,103),(248,104),(248,105),(248,106),(248,107),(248,108),(248,109),(248,110),(248,111)]
noncomputable def n_has:List Nat:=[47,48]
noncomputable def y_has:Ys:=(.cons (.ret (.cmp .ne (.bin .band (.attr (.loc 0) 42) (.loc 1)) (.cint 0))) .nil)
noncomputable def n_is_ctor:List Nat:=[47]
noncomputable def y_is_ctor:Ys:=(.cons (.ret (.both (.cmp .eq (.attr (.loc 0) 39) (.glob 1)) (.call 0 [] (.cons (.loc 0) (.cons (.glob 20) .nil))))) .nil)
noncomputable def n_class_node:List Nat:=[53,54,47]
noncomputable def y_class_node:Ys:=(.cons (.for_ (.one 2) (.idx (.attr (.loc 0) 55) (.loc 1)) (.cons (.ite (.cmp .eq (.attr (.loc 2) 39) (.glob 7)) (.cons (.ret (.loc 2)) .nil) .nil) .nil)) (.cons (.ret .cnone) .nil))
noncomputable def n_class_has:List Nat:=[47,58,59,60]
noncomputable def y_class_has:Ys:=(.cons (.for_ (.one 2) (.attr (.idx (.attr (.loc 0) 41) (.cint 4)) 41) (.cons (.ite (.and (.cons (.tru (.call 1 [] (.cons (.loc 2) .nil))) (.cons (.cmp .isNot (.idx (.attr (.loc 2) 41) (.cint 3)) .cnone) .nil))) (.cons (.for_ (.one 3) (.attr (.idx (.attr (.loc 2) 41) (.cint 1)) 41) (.cons (.ite (.and (.cons (.cmp .ne (.bin .band (.attr (.loc 3) 42) (.glob 34)) (.cint 0)) (.cons (.cmp .eq (.attr (.idx (.attr (.loc 3) 41) (.cint 0)) 39) (.glob 0)) (.cons (.cmp .eq (.attr (.idx (.attr (.loc 3) 41) (.cint 0)) 40) (.loc 1)) .nil)))) (.cons (.ret (.cbool true)) .nil) .nil) .nil)) .nil) (.cons (.ite (.and (.cons (.cmp .eq (.attr (.loc 2) 40) (.loc 1)) (.cons (.cmp2 .isIn (.attr (.loc 2) 39) (.tup (.cons (.glob 8) (.cons (.glob 1) .nil)))) (.cons (.not (.tru (.call 0 [] (.cons (.loc 2) (.cons (.glob 29) .nil))))) .nil)))) (.cons (.ret (.cbool true)) .nil) .nil) .nil)) .nil)) (.cons (.ret (.cbool false)) .nil))
noncomputable def n_promises:List Nat:=[47,62,59]
noncomputable def y_promises:Ys:=(.cons (.ite (.tru (.attr (.idx (.attr (.loc 0) 41) (.cint 1)) 41)) (.cons (.ret (.cbool true)) .nil) .nil) (.cons (.for_ (.one 2) (.attr (.idx (.attr (.loc 0) 41) (.cint 2)) 41) (.cons (.ite (.and (.cons (.cmp .eq (.attr (.loc 2) 39) (.glob 1)) (.cons (.tru (.call 3 [] (.cons (.loc 1) (.cons (.attr (.loc 2) 40) .nil)))) .nil))) (.cons (.ret (.cbool true)) .nil) .nil) (.cons (.ite (.and (.cons (.not (.tru (.call 0 [] (.cons (.loc 2) (.cons (.glob 23) .nil))))) (.cons (.not (.tru (.call 3 [] (.cons (.loc 1) (.cons (.attr (.loc 2) 40) .nil))))) .nil))) (.cons (.ret (.cbool true)) .nil) .nil) .nil))) (.cons (.ret (.cbool false)) .nil)))
noncomputable def n_lone_setters:List Nat:=[62,59]
noncomputable def y_lone_setters:Ys:=(.cons (.assignC 0 (.dict0 .pair)) (.cons (.for_ (.one 1) (.attr (.idx (.attr (.loc 0) 41) (.cint 4)) 41) (.cons (.ite (.and (.cons (.cmp .eq (.attr (.loc 1) 39) (.glob 1)) (.cons (.tru (.call 0 [] (.cons (.loc 1) (.cons (.glob 18) .nil)))) .nil))) (.cons (.setI (.cell 0) (.tup (.cons (.attr (.loc 1) 40) (.cons (.call 0 [] (.cons (.loc 1) (.cons (.glob 29) .nil))) .nil))) (.cint 1)) .nil) .nil) .nil)) (.cons (.ret (.frz (.comp [59] [(64,0)] (.one 0) (.attr (.idx (.attr (.loc 0) 41) (.cint 4)) 41) (.cons (.and (.cons (.cmp .eq (.attr (.loc 0) 39) (.glob 1)) (.cons (.tru (.call 0 [] (.cons (.loc 0) (.cons (.glob 19) .nil)))) (.cons (.cmp2 .notIn (.tup (.cons (.attr (.loc 0) 40) (.cons (.call 0 [] (.cons (.loc 0) (.cons (.glob 29) .nil))) .nil))) (.cell 0)) .nil)))) .nil) (.loc 0)))) .nil)))
noncomputable def n_Node:List Nat:=[38,39,40,41,42,43]
noncomputable def y_Node:Ys:=(.cons (.setA (.loc 0) 39 (.loc 1)) (.cons (.setA (.loc 0) 40 (.loc 2)) (.cons (.setA (.loc 0) 41 (.loc 3)) (.cons (.setA (.loc 0) 42 (.loc 4)) (.cons (.setA (.loc 0) 43 (.loc 5)) (.cons (.setA (.loc 0) 44 (.cint 0)) .nil))))))
noncomputable def n_law_pull:List Nat:=[216,43,217]
noncomputable def y_law_pull:Ys:=(.cons (.assign 1 (.idx (.loc 0) (.cstr 43))) (.cons (.setI (.loc 0) (.cstr 43) (.bin .add (.loc 1) (.cint 1))) (.cons (.assign 2 (.ite (.cmp .lt (.loc 1) (.len (.idx (.loc 0) (.cstr 82)))) (.idx (.idx (.loc 0) (.cstr 82)) (.loc 1)) (.bin .add (.bin .mulR (.loc 1) (.cint 5077)) (.cint 139)))) (.cons (.ret (.bin .mod (.loc 2) (.cint 100000000))) .nil))))
noncomputable def n_law_node:List Nat:=[216,39,40,41,42,47]
noncomputable def y_law_node:Ys:=(.cons (.aug (.loc 0) (.cstr 44) (.cint 1)) (.cons (.assign 5 (.call 7 [] (.cons (.loc 1) (.cons (.loc 2) (.cons (.loc 3) (.cons (.loc 4) (.cons (.bin .mulL (.cint 3) (.idx (.loc 0) (.cstr 44))) .nil))))))) (.cons (.setA (.loc 5) 44 (.idx (.loc 0) (.cstr 44))) (.ghost 1 (.cons (.ret (.loc 5)) .nil)))))
noncomputable def n_law_func:List Nat:=[216,58,42,220,221,222]
noncomputable def y_law_func:Ys:=(.cons (.assign 5 (.ite (.tru (.loc 4)) (.call 18 [0] (.cons (.loc 0) (.cons (.glob 6) (.cons (.cstr 75) (.cons (.lst .nil) (.cons (.cint 0) .nil)))))) .cnone)) (.cons (.ret (.call 18 [0] (.cons (.loc 0) (.cons (.glob 1) (.cons (.loc 1) (.cons (.lst (.cons .cnone (.cons (.call 18 [0] (.cons (.loc 0) (.cons (.glob 12) (.cons (.cstr 75) (.cons (.loc 3) (.cons (.cint 0) .nil)))))) (.cons .cnone (.cons (.loc 5) .nil))))) (.cons (.loc 2) .nil))))))) .nil))
noncomputable def n_law_param:List Nat:=[216,214,58,225,166,124,226,227]
noncomputable def y_law_param:Ys:=(.cons (.assign 2 (.pick [213,214] (.bin .mod (.loc 1) (.cint 2)))) (.cons (.assign 3 (.bin .mod (.bin .fdiv (.loc 1) (.cint 2)) (.cint 8))) (.cons (.assign 4 (.idx (.tup (.cons (.glob 25) (.cons (.cint 0) (.cons (.glob 27) (.cons (.glob 28) (.cons (.glob 26) (.cons (.bin .add (.glob 28) (.glob 25)) (.cons (.glob 23) (.cons (.glob 24) .nil))))))))) (.loc 3))) (.cons (.assign 5 (.bin .mod (.bin .fdiv (.loc 1) (.cint 16)) (.cint 4))) (.cons (.assign 6 (.call 18 [0] (.cons (.loc 0) (.cons (.glob 0) (.cons (.loc 2) (.cons (.lst .nil) (.cons (.cint 0) .nil))))))) (.cons (.ite (.cmp .eq (.loc 5) (.cint 2)) (.cons (.assign 6 (.call 18 [0] (.cons (.loc 0) (.cons (.glob 3) (.cons (.cstr 75) (.cons (.lst (.cons (.call 18 [0] (.cons (.loc 0) (.cons (.glob 5) (.cons (.loc 2) (.cons (.lst (.cons (.loc 6) (.cons .cnone .nil))) (.cons (.cint 0) .nil)))))) .nil)) (.cons (.cint 0) .nil))))))) .nil) .nil) (.cons (.ite (.cmp .eq (.loc 5) (.cint 3)) (.cons (.assign 6 (.call 18 [0] (.cons (.loc 0) (.cons (.glob 4) (.cons (.cstr 75) (.cons (.lst (.cons (.call 18 [0] (.cons (.loc 0) (.cons (.glob 5) (.cons (.cstr 75) (.cons (.lst (.cons (.loc 6) (.cons .cnone .nil))) (.cons (.cint 0) .nil)))))) .nil)) (.cons (.cint 0) .nil))))))) .nil) .nil) (.cons (.assign 7 (.ite (.and (.cons (.cmp .lt (.loc 5) (.cint 2)) (.cons (.cmp2 .isIn (.loc 3) (.tup (.cons (.cint 0) (.cons (.cint 2) (.cons (.cint 3) (.cons (.cint 4) (.cons (.cint 5) .nil))))))) .nil))) (.loc 2) (.cstr 228))) (.cons (.ret (.tup (.cons (.call 18 [0] (.cons (.loc 0) (.cons (.glob 2) (.cons (.cstr 75) (.cons (.lst (.cons (.loc 6) (.cons .cnone (.cons .cnone .nil)))) (.cons (.loc 4) .nil)))))) (.cons (.loc 7) .nil)))) .nil)))))))))
noncomputable def n_law_half:List Nat:=[216,233,58,230,166,234,47]
noncomputable def y_law_half:Ys:=(.cons (.assign 6 (.call 19 [0] (.cons (.loc 0) (.cons (.loc 2) (.cons (.bin .add (.bin .add (.loc 4) (.bin .mulL (.glob 29) (.loc 3))) (.loc 5)) (.cons (.lst .nil) (.cons (.cmp .ne (.loc 5) (.glob 30)) .nil))))))) (.cons (.run (.call 21 [1,2] (.cons (.idx (.loc 1) (.loc 3)) (.cons (.loc 2) (.cons (.ite (.cmp .eq (.loc 4) (.glob 18)) (.cint 1) (.cint 0)) (.cons (.ite (.cmp .eq (.loc 4) (.glob 19)) (.attr (.loc 6) 44) (.cint 0)) .nil)))))) (.cons (.ret (.loc 6)) .nil)))
noncomputable def n_law_accessors:List Nat:=[216,233,58,230,236,214,234,237,238,166,239]
noncomputable def y_law_accessors:Ys:=(.cons (.assign 6 (.idx (.tup (.cons (.cint 0) (.cons (.glob 25) (.cons (.glob 30) (.cons (.glob 31) .nil))))) (.bin .mod (.bin .fdiv (.loc 5) (.cint 2)) (.cint 4)))) (.cons (.assign 7 (.idx (.tup (.cons (.tup (.cons (.glob 18) .nil)) (.cons (.tup (.cons (.glob 19) .nil)) (.cons (.tup (.cons (.glob 18) (.cons (.glob 19) .nil))) (.cons (.tup (.cons (.glob 19) (.cons (.glob 18) .nil))) (.cons (.tup .nil) (.cons (.tup (.cons (.glob 19) (.cons (.glob 19) .nil))) .nil))))))) (.bin .sub (.loc 4) (.cint 3)))) (.cons (.ite (.and (.cons (.cmp .eq (.loc 4) (.cint 5)) (.cons (.cmp .eq (.bin .mod (.loc 5) (.cint 2)) (.cint 1)) .nil))) (.cons (.assign 7 (.tup (.cons (.glob 19) (.cons (.glob 18) .nil)))) .nil) .nil) (.cons (.assign 8 (.mlst .nil)) (.cons (.for_ (.one 9) (.loc 7) (.cons (.assign 10 (.ite (.and (.cons (.cmp .eq (.loc 4) (.cint 6)) (.cons (.cmp .eq (.loc 9) (.glob 18)) .nil))) (.bin .sub (.cint 1) (.loc 3)) (.loc 3))) (.cons (.app (.loc 8) (.call 22 [0,1,2,3] (.cons (.loc 0) (.cons (.loc 1) (.cons (.loc 2) (.cons (.loc 10) (.cons (.loc 9) (.cons (.loc 6) .nil)))))))) .nil))) (.ghost 4 (.cons (.ret (.loc 8)) .nil)))))))
noncomputable def n_law_ctor:List Nat:=[216,233,214,241,238,220,84,47,58]
noncomputable def y_law_ctor:Ys:=(.cons (.assign 4 (.mlst .nil)) (.cons (.ite (.tru (.loc 3)) (.cons (.assign 5 (.lst (.cons (.idx (.call 20 [0] (.cons (.loc 0) (.cons (.bin .fdiv (.loc 2) (.cint 64)) .nil))) (.cint 0)) (.cons (.idx (.call 20 [0] (.cons (.loc 0) (.cons (.loc 2) .nil))) (.cint 0)) .nil)))) (.cons (.app (.loc 4) (.call 19 [0] (.cons (.loc 0) (.cons (.cstr 242) (.cons (.glob 20) (.cons (.loc 5) (.cons (.cbool false) .nil))))))) (.cons (.assign 2 (.bin .fdiv (.loc 2) (.cint 4096))) .nil))) .nil) (.cons (.assign 6 (.lst (.cons (.call 20 [0] (.cons (.loc 0) (.cons (.loc 2) .nil))) (.cons (.call 20 [0] (.cons (.loc 0) (.cons (.bin .fdiv (.loc 2) (.cint 64)) .nil))) .nil)))) (.cons (.for_ (.many [7,8]) (.loc 6) (.cons (.ite (.cmp .ne (.loc 8) (.cstr 228)) (.cons (.run (.call 21 [1,2] (.cons (.idx (.loc 1) (.cint 0)) (.cons (.loc 8) (.cons (.cint 0) (.cons (.cint 0) .nil)))))) .nil) .nil) .nil)) (.cons (.app (.loc 4) (.call 19 [0] (.cons (.loc 0) (.cons (.cstr 242) (.cons (.glob 20) (.cons (.frz (.comp [47,58] [] (.many [0,1]) (.loc 6) .nil (.loc 0))) (.cons (.cbool true) .nil))))))) (.ghost 4 (.cons (.ret (.loc 4)) .nil)))))))
noncomputable def n_law_deed:List Nat:=[216,233,244,58,236,230,214,245,41,234,238]
noncomputable def y_law_deed:Ys:=(.cons (.assign 2 (.call 17 [0] (.cons (.loc 0) .nil))) (.cons (.assign 3 (.idx (.glob 41) (.bin .mod (.loc 2) (.cint 4)))) (.cons (.assign 4 (.bin .mod (.bin .fdiv (.loc 2) (.cint 4)) (.cint 12))) (.cons (.assign 5 (.bin .mod (.bin .fdiv (.loc 2) (.cint 48)) (.cint 2))) (.cons (.assign 6 (.bin .fdiv (.loc 2) (.cint 96))) (.cons (.assign 7 (.bin .mulL (.glob 29) (.loc 5))) (.cons (.ite (.cmp2 .isIn (.loc 4) (.tup (.cons (.cint 3) (.cons (.cint 4) (.cons (.cint 5) (.cons (.cint 6) (.cons (.cint 8) .nil))))))) (.cons (.ret (.call 23 [0,1,2,3] (.cons (.loc 0) (.cons (.loc 1) (.cons (.loc 3) (.cons (.loc 5) (.cons (.loc 4) (.cons (.loc 6) .nil)))))))) .nil) .nil) (.cons (.ite (.or (.cons (.cmp .eq (.loc 4) (.cint 7)) (.cons (.cmp .eq (.loc 4) (.cint 11)) .nil))) (.cons (.ret (.call 24 [0,1,2,3] (.cons (.loc 0) (.cons (.loc 1) (.cons (.loc 6) (.cons (.cmp .eq (.loc 4) (.cint 11)) .nil)))))) .nil) .nil) (.cons (.ite (.cmp .eq (.loc 4) (.cint 9)) (.cons (.assign 8 (.lst (.cons (.call 18 [0] (.cons (.loc 0) (.cons (.glob 13) (.cons (.cstr 100) (.cons (.lst .nil) (.cons (.cint 0) .nil)))))) (.cons (.call 18 [0] (.cons (.loc 0) (.cons (.glob 13) (.cons (.cstr 94) (.cons (.lst .nil) (.cons (.cint 0) .nil)))))) .nil)))) (.cons (.ret (.lst (.cons (.call 18 [0] (.cons (.loc 0) (.cons (.glob 9) (.cons (.loc 3) (.cons (.loc 8) (.cons (.loc 7) .nil)))))) .nil))) .nil)) .nil) (.cons (.run (.call 21 [1,2] (.cons (.idx (.loc 1) (.loc 5)) (.cons (.loc 3) (.cons (.cint 0) (.cons (.cint 0) .nil)))))) (.cons (.ite (.cmp .eq (.loc 4) (.cint 0)) (.cons (.assign 9 (.idx (.tup (.cons (.cint 0) (.cons (.glob 23) (.cons (.glob 28) (.cons (.glob 33) (.cons (.glob 32) (.cons (.glob 30) (.cons (.glob 25) (.cons (.glob 31) .nil))))))))) (.bin .mod (.loc 6) (.cint 8)))) (.cons (.ret (.lst (.cons (.call 18 [0] (.cons (.loc 0) (.cons (.glob 8) (.cons (.loc 3) (.cons (.lst (.cons .cnone (.cons .cnone .nil))) (.cons (.bin .add (.loc 7) (.loc 9)) .nil)))))) .nil))) .nil)) .nil) (.cons (.ite (.cmp .eq (.loc 4) (.cint 10)) (.cons (.ret (.lst (.cons (.call 19 [0] (.cons (.loc 0) (.cons (.loc 3) (.cons (.bin .add (.bin .add (.glob 17) (.glob 30)) (.loc 7)) (.cons (.lst (.cons (.idx (.call 20 [0] (.cons (.loc 0) (.cons (.loc 6) .nil))) (.cint 0)) .nil)) (.cons (.cbool false) .nil)))))) .nil))) .nil) .nil) (.cons (.assign 10 (.lst (.cons (.call 19 [0] (.cons (.loc 0) (.cons (.loc 3) (.cons (.bin .add (.glob 17) (.loc 7)) (.cons (.lst (.cons (.idx (.call 20 [0] (.cons (.loc 0) (.cons (.loc 6) .nil))) (.cint 0)) .nil)) (.cons (.cbool true) .nil)))))) .nil))) (.cons (.ite (.cmp .eq (.loc 4) (.cint 2)) (.cons (.assign 10 (.cat (.lst (.cons (.call 19 [0] (.cons (.loc 0) (.cons (.loc 3) (.cons (.bin .add (.glob 17) (.loc 7)) (.cons (.lst .nil) (.cons (.cbool false) .nil)))))) .nil)) (.loc 10))) .nil) .nil) (.cons (.ret (.loc 10)) .nil)))))))))))))))
noncomputable def n_law_class:List Nat:=[216,58,244,233,165,247,225,42,249,251,47,252,230,166]
noncomputable def y_law_class:Ys:=(.cons (.assign 3 (.mlst (.cons (.dict0 .side) (.cons (.dict0 .side) .nil)))) (.cons (.assign 4 (.mlst .nil)) (.cons (.forR (.one 5) (.bin .add (.cint 1) (.bin .mod (.bin .fdiv (.loc 2) (.cint 24)) (.cint 4))) (.cons (.ext (.loc 4) (.call 25 [0,1,2,3] (.cons (.loc 0) (.cons (.loc 3) .nil)))) .nil)) (.cons (.assign 6 (.bin .mod (.bin .fdiv (.loc 2) (.cint 96)) (.cint 6))) (.cons (.assign 7 (.idx (.tup (.cons (.cint 0) (.cons (.glob 30) (.cons (.glob 16) (.cons (.glob 33) (.cons (.cint 0) (.cons (.bin .add (.glob 33) (.glob 30)) .nil))))))) (.loc 6))) (.cons (.assign 8 (.ite (.cmp .eq (.bin .mod (.bin .fdiv (.loc 2) (.cint 576)) (.cint 3)) (.cint 0)) (.call 18 [0] (.cons (.loc 0) (.cons (.glob 0) (.cons (.cstr 250) (.cons (.lst .nil) (.cons (.cint 0) .nil)))))) .cnone)) (.ghost 4 (.cons (.assign 9 (.lst (.cons (.call 18 [0] (.cons (.loc 0) (.cons (.glob 12) (.cons (.cstr 75) (.cons (.lst .nil) (.cons (.cint 0) .nil)))))) (.cons (.call 18 [0] (.cons (.loc 0) (.cons (.glob 12) (.cons (.cstr 75) (.cons (.loc 4) (.cons (.cint 0) .nil)))))) .nil)))) (.cons (.assign 10 (.call 18 [0] (.cons (.loc 0) (.cons (.glob 7) (.cons (.loc 1) (.cons (.cat (.lst (.cons .cnone (.cons (.loc 8) (.cons .cnone .nil)))) (.loc 9)) (.cons (.loc 7) .nil))))))) (.cons (.assign 11 (.mlst .nil)) (.ghost 1 (.ghost 2 (.ghost 3 (.cons (.for_ (.one 12) (.loc 3) (.cons (.for_ (.one 13) (.loc 12) (.cons (.ite (.cmp .eq (.idx (.idx (.loc 12) (.loc 13)) (.cint 0)) (.cint 0)) (.cons (.ext (.loc 11) (.idx (.idx (.loc 12) (.loc 13)) (.cint 1))) .nil) .nil) .nil)) .nil)) (.ghost 5 (.cons (.ret (.frz (.dict [47,253,252,254] (.cons (.loc 10) (.cons (.idx (.loc 3) (.cint 0)) (.cons (.sorted (.loc 11)) (.cons (.cmp2 .notIn (.loc 6) (.tup (.cons (.cint 3) (.cons (.cint 5) .nil)))) .nil))))))) .nil))))))))))))))))
noncomputable def n_law_said:List Nat:=[216,244,58,236,41]
noncomputable def y_law_said:Ys:=(.cons (.assign 2 (.idx (.glob 41) (.bin .mod (.bin .fdiv (.loc 1) (.cint 16)) (.cint 4)))) (.cons (.assign 3 (.bin .mod (.loc 1) (.cint 16))) (.cons (.ite (.or (.cons (.cmp .lt (.loc 3) (.cint 5)) (.cons (.cmp .eq (.loc 3) (.cint 15)) .nil))) (.cons (.ret (.tup (.cons (.call 18 [0] (.cons (.loc 0) (.cons (.glob 15) (.cons (.loc 2) (.cons (.lst (.cons .cnone .nil)) (.cons (.ite (.cmp .eq (.loc 3) (.cint 15)) (.glob 28) (.cint 0)) .nil)))))) (.cons (.loc 2) (.cons (.cint 0) .nil))))) .nil) .nil) (.cons (.ite (.cmp .lt (.loc 3) (.cint 9)) (.cons (.ret (.tup (.cons (.call 19 [0] (.cons (.loc 0) (.cons (.loc 2) (.cons (.bin .add (.glob 17) (.glob 23)) (.cons (.lst .nil) (.cons (.cbool false) .nil)))))) (.cons (.loc 2) (.cons (.cint 1) .nil))))) .nil) .nil) (.cons (.ite (.cmp .lt (.loc 3) (.cint 11)) (.cons (.ret (.tup (.cons (.call 18 [0] (.cons (.loc 0) (.cons (.glob 15) (.cons (.loc 2) (.cons (.lst (.cons .cnone .nil)) (.cons (.glob 23) .nil)))))) (.cons (.loc 2) (.cons (.cint 2) .nil))))) .nil) .nil) (.cons (.ite (.cmp .eq (.loc 3) (.cint 11)) (.cons (.ret (.tup (.cons (.call 19 [0] (.cons (.loc 0) (.cons (.loc 2) (.cons (.glob 17) (.cons (.lst .nil) (.cons (.cbool false) .nil)))))) (.cons (.loc 2) (.cons (.cint 3) .nil))))) .nil) .nil) (.cons (.ite (.cmp .eq (.loc 3) (.cint 13)) (.cons (.assign 4 (.lst (.cons (.call 18 [0] (.cons (.loc 0) (.cons (.glob 13) (.cons (.cstr 100) (.cons (.lst .nil) (.cons (.cint 0) .nil)))))) (.cons (.call 18 [0] (.cons (.loc 0) (.cons (.glob 13) (.cons (.cstr 94) (.cons (.lst .nil) (.cons (.cint 0) .nil)))))) .nil)))) (.cons (.ret (.tup (.cons (.call 18 [0] (.cons (.loc 0) (.cons (.glob 9) (.cons (.cstr 0) (.cons (.loc 4) (.cons (.cint 0) .nil)))))) (.cons (.cstr 0) (.cons (.cint 3) .nil))))) .nil)) .nil) (.cons (.ret (.tup (.cons (.call 19 [0] (.cons (.loc 0) (.cons (.cstr 75) (.cons (.ite (.cmp .eq (.loc 3) (.cint 12)) (.glob 21) (.glob 22)) (.cons (.lst .nil) (.cons (.cbool false) .nil)))))) (.cons (.cstr 75) (.cons (.cint 3) .nil))))) .nil))))))))
noncomputable def n_law_face:List Nat:=[216,58,244,84,257,249,165,41,47]
noncomputable def y_law_face:Ys:=(.cons (.assign 2 (.call 17 [0] (.cons (.loc 0) .nil))) (.cons (.assign 3 (.mlst (.cons (.call 27 [0] (.cons (.loc 0) (.cons (.bin .mod (.loc 2) (.cint 64)) .nil))) .nil))) (.cons (.ite (.cmp .eq (.bin .mod (.bin .fdiv (.loc 2) (.cint 20480)) (.cint 2)) (.cint 1)) (.cons (.app (.loc 3) (.call 27 [0] (.cons (.loc 0) (.cons (.bin .mod (.bin .fdiv (.loc 2) (.cint 64)) (.cint 64)) .nil)))) .nil) .nil) (.cons (.assign 4 (.cmp .eq (.bin .mod (.bin .fdiv (.loc 2) (.cint 4096)) (.cint 5)) (.cint 2))) (.cons (.assign 5 (.ite (.tru (.loc 4)) (.lst (.cons (.call 18 [0] (.cons (.loc 0) (.cons (.glob 14) (.cons (.cstr 258) (.cons (.lst .nil) (.cons (.cint 0) .nil)))))) .nil)) (.lst .nil))) (.ghost 1 (.cons (.assignK 6 [47,166,225] [] (.many [0,1,2]) (.loc 3) .nil (.loc 0)) (.ghost 2 (.cons (.assign 7 (.lst (.cons .cnone (.cons (.call 18 [0] (.cons (.loc 0) (.cons (.glob 12) (.cons (.cstr 75) (.cons (.loc 5) (.cons (.cint 0) .nil)))))) (.cons (.call 18 [0] (.cons (.loc 0) (.cons (.glob 12) (.cons (.cstr 75) (.cons (.loc 6) (.cons (.cint 0) .nil)))))) .nil))))) (.cons (.assign 8 (.call 18 [0] (.cons (.loc 0) (.cons (.glob 10) (.cons (.loc 1) (.cons (.loc 7) (.cons (.ite (.cmp .eq (.bin .mod (.bin .fdiv (.loc 2) (.cint 40960)) (.cint 2)) (.cint 1)) (.glob 33) (.cint 0)) .nil))))))) (.cons (.ret (.frz (.dict [47,259,257] (.cons (.loc 8) (.cons (.frz (.comp [260,166,225] [] (.many [0,1,2]) (.loc 3) .nil (.tup (.cons (.loc 1) (.cons (.loc 2) .nil))))) (.cons (.loc 4) .nil)))))) .nil)))))))))))
noncomputable def n_law_group:List Nat:=[216,58,244,262,263,264,267]
noncomputable def y_law_group:Ys:=(.cons (.assign 2 (.call 17 [0] (.cons (.loc 0) .nil))) (.cons (.assign 3 (.bin .mod (.bin .add (.loc 2) (.cint 1)) (.cint 4))) (.cons (.assign 4 (.bin .mod (.bin .fdiv (.loc 2) (.cint 4)) (.cint 6))) (.cons (.assign 5 (.dict [265,266,227] (.cons (.mlst .nil) (.cons (.mlst .nil) (.cons (.mlst .nil) .nil))))) (.cons (.ite (.and (.cons (.cmp .eq (.loc 4) (.cint 5)) (.cons (.cmp .eq (.loc 3) (.cint 0)) .nil))) (.cons (.app (.idx (.loc 5) (.cstr 265)) (.call 18 [0] (.cons (.loc 0) (.cons (.glob 11) (.cons (.loc 1) (.cons (.lst (.cons .cnone (.cons (.call 18 [0] (.cons (.loc 0) (.cons (.glob 13) (.cons (.cstr 94) (.cons (.lst .nil) (.cons (.cint 0) .nil)))))) .nil))) (.cons (.cint 0) .nil))))))) .nil) .nil) (.cons (.forR (.one 6) (.bin .add (.loc 3) (.cint 1)) (.cons (.ite (.and (.cons (.cmp .lt (.loc 4) (.cint 5)) (.cons (.cmp .eq (.loc 6) (.bin .mod (.loc 4) (.bin .add (.loc 3) (.cint 1)))) .nil))) (.cons (.app (.idx (.loc 5) (.cstr 227)) (.call 26 [0] (.cons (.loc 0) (.cons (.loc 1) (.cons (.loc 2) .nil))))) (.cons (.app (.idx (.loc 5) (.cstr 265)) (.idx (.idx (.idx (.loc 5) (.cstr 227)) (.cint 0)) (.cstr 47))) .nil)) .nil) (.cons (.ite (.cmp .lt (.loc 6) (.loc 3)) (.cons (.app (.idx (.loc 5) (.cstr 266)) (.call 28 [0] (.cons (.loc 0) (.cons (.loc 1) .nil)))) (.cons (.app (.idx (.loc 5) (.cstr 265)) (.idx (.idx (.idx (.loc 5) (.cstr 266)) (.loc 6)) (.cstr 47))) .nil)) .nil) .nil))) (.ghost 2 (.ghost 3 (.ghost 4 (.cons (.ret (.loc 5)) .nil))))))))))
noncomputable def n_law_promised:List Nat:=[269,227,166,225,198]
noncomputable def y_law_promised:Ys:=(.cons (.ite (.tru (.idx (.loc 0) (.cstr 257))) (.cons (.ret (.cbool true)) .nil) .nil) (.cons (.for_ (.many [2,3]) (.idx (.loc 0) (.cstr 259)) (.cons (.assign 4 (.cmp2 .isIn (.loc 2) (.idx (.loc 1) (.cstr 253)))) (.cons (.ite (.or (.cons (.cmp .eq (.loc 3) (.cint 3)) (.cons (.and (.cons (.cmp .eq (.loc 3) (.cint 0)) (.cons (.not (.tru (.loc 4))) .nil))) (.cons (.and (.cons (.cmp .eq (.loc 3) (.cint 1)) (.cons (.tru (.loc 4)) .nil))) .nil)))) (.cons (.ret (.cbool true)) .nil) .nil) .nil))) (.cons (.ret (.cbool false)) .nil)))
noncomputable def n_law_class_sound:List Nat:=[227,266,47,166,269]
noncomputable def y_law_class_sound:Ys:=(.cons (.assign 2 (.idx (.loc 0) (.cstr 47))) (.cons (.for_ (.one 3) (.glob 41) (.cons (.ite (.cmp .ne (.call 3 [] (.cons (.loc 2) (.cons (.loc 3) .nil))) (.cmp2 .isIn (.loc 3) (.idx (.loc 0) (.cstr 253)))) (.cons (.ret (.cbool false)) .nil) .nil) .nil)) (.cons (.ite (.or (.cons (.tru (.call 3 [] (.cons (.loc 2) (.cons (.cstr 0) .nil)))) (.cons (.cmp2 .neL (.frz (.comp [59] [] (.one 0) (.call 5 [] (.cons (.loc 2) .nil)) .nil (.attr (.loc 0) 44))) (.idx (.loc 0) (.cstr 252))) .nil))) (.cons (.ret (.cbool false)) .nil) .nil) (.cons (.for_ (.one 4) (.loc 1) (.cons (.ite (.cmp .ne (.call 4 [] (.cons (.idx (.loc 4) (.cstr 47)) (.cons (.loc 2) .nil))) (.call 30 [] (.cons (.loc 4) (.cons (.loc 0) .nil)))) (.cons (.ret (.cbool false)) .nil) .nil) .nil)) (.cons (.ret (.cbool true)) .nil)))))
noncomputable def n_law_due:List Nat:=[272,238,54,264]
noncomputable def y_law_due:Ys:=(.cons (.assign 1 (.lst .nil)) (.cons (.forR (.one 2) (.cint 10) (.cons (.for_ (.one 3) (.loc 0) (.cons (.for_ (.cell 0) (.idx (.loc 3) (.cstr 227)) (.cons (.ite (.and (.cons (.cmp .eq (.idx (.loc 3) (.cstr 54)) (.loc 2)) (.cons (.tru (.idx (.cell 0) (.cstr 254))) .nil))) (.cons (.assign 1 (.cat (.loc 1) (.idx (.cell 0) (.cstr 252)))) (.cons (.assign 1 (.cat (.loc 1) (.frz (.comp [269] [(227,0)] (.one 0) (.idx (.loc 3) (.cstr 266)) (.cons (.tru (.call 30 [] (.cons (.loc 0) (.cons (.cell 0) .nil)))) .nil) (.attr (.idx (.loc 0) (.cstr 47)) 44))))) .nil)) .nil) .nil)) .nil)) .nil)) (.cons (.ret (.loc 1)) .nil)))
noncomputable def n_merged_promises:List Nat:=[53,68,54,62,47]
noncomputable def y_merged_promises:Ys:=(.cons (.assign 1 (.mlst .nil)) (.cons (.for_ (.one 2) (.sorted (.attr (.loc 0) 55)) (.cons (.assign 3 (.call 2 [] (.cons (.loc 0) (.cons (.loc 2) .nil)))) (.cons (.ite (.and (.cons (.cmp .isNot (.loc 3) .cnone) (.cons (.not (.tru (.call 0 [] (.cons (.loc 3) (.cons (.glob 33) .nil))))) .nil))) (.cons (.ext (.loc 1) (.call 5 [] (.cons (.loc 3) .nil))) (.cons (.for_ (.one 4) (.idx (.attr (.loc 0) 55) (.loc 2)) (.cons (.ite (.and (.cons (.cmp .eq (.attr (.loc 4) 39) (.glob 10)) (.cons (.tru (.call 4 [] (.cons (.loc 4) (.cons (.loc 3) .nil)))) .nil))) (.cons (.app (.loc 1) (.loc 4)) .nil) .nil) .nil)) .nil)) .nil) .nil))) (.ghost 0 (.cons (.ret (.loc 1)) .nil))))
noncomputable def n_Thin:List Nat:=[38,118]
noncomputable def y_Thin:Ys:=(.cons (.setA (.loc 0) 118 (.loc 1)) (.cons (.setA (.loc 0) 119 (.cint 0)) (.cons (.setA (.loc 0) 120 (.glob 39)) (.cons (.setA (.loc 0) 121 (.glob 40)) (.cons (.setA (.loc 0) 122 .cnone) .nil)))))
noncomputable def n_Bound:List Nat:=[38,150]
noncomputable def y_Bound:Ys:=(.cons (.setA (.loc 0) 151 (.lst (.cons .cnone .nil))) (.cons (.setA (.loc 0) 152 (.frz (.mlst .nil))) (.cons (.setA (.loc 0) 153 (.frz (.dict0 .str))) (.cons (.setA (.loc 0) 154 (.frz (.dict0 .str))) (.cons (.setA (.loc 0) 155 (.frz (.dict0 .str))) (.cons (.setA (.loc 0) 150 (.loc 1)) .nil))))))
noncomputable def n_Shaper:List Nat:=[38]
noncomputable def y_Shaper:Ys:=(.cons (.setA (.loc 0) 162 (.frz (.dict0 .str))) .nil)
noncomputable def n_Namer:List Nat:=[38,177,135,150]
noncomputable def y_Namer:Ys:=(.cons (.setA (.loc 0) 118 (.attr (.loc 1) 118)) (.cons (.setA (.loc 0) 177 (.loc 1)) (.cons (.setA (.loc 0) 135 (.loc 2)) (.cons (.setA (.loc 0) 150 (.loc 3)) (.cons (.setA (.loc 0) 178 (.frz (.dict0 .str))) (.cons (.setA (.loc 0) 126 (.frz (.dict0 .str))) (.cons (.setA (.loc 0) 179 (.frz (.dict0 .str))) (.cons (.setA (.loc 0) 180 (.frz (.call 12 [] .nil))) (.cons (.setA (.loc 0) 181 (.frz (.dict0 .str))) (.cons (.setA (.loc 0) 182 (.frz (.dict0 .str))) (.cons (.setA (.loc 0) 183 (.frz (.call 13 [] .nil))) (.cons (.setA (.loc 0) 184 (.frz (.call 14 [] .nil))) (.cons (.setA (.loc 0) 185 (.frz (.call 15 [] .nil))) (.cons (.setA (.loc 0) 186 (.frz (.mlst .nil))) (.cons (.setA (.loc 0) 187 (.frz (.mlst .nil))) (.cons (.setA (.loc 0) 188 (.frz (.dict0 .str))) (.cons (.setA (.loc 0) 55 (.dict0 .int)) (.cons (.setA (.loc 0) 189 (.frz (.dict0 .str))) (.cons (.setA (.loc 0) 190 (.frz (.dict0 .str))) (.cons (.setA (.loc 0) 191 (.frz (.dict0 .str))) (.cons (.setA (.loc 0) 192 (.frz (.mlst .nil))) (.cons (.setA (.loc 0) 193 (.frz (.dict0 .str))) (.cons (.setA (.loc 0) 194 (.frz (.mlst .nil))) (.cons (.setA (.loc 0) 195 (.frz (.mlst .nil))) (.cons (.setA (.loc 0) 196 (.frz (.mlst .nil))) (.cons (.setA (.loc 0) 119 (.cint 0)) (.cons (.setA (.loc 0) 197 (.frz (.dict0 .str))) (.cons (.setA (.loc 0) 198 (.frz (.dict0 .str))) (.cons (.setA (.loc 0) 199 (.frz (.dict0 .str))) (.cons (.setA (.loc 0) 200 (.frz (.dict0 .str))) (.cons (.setA (.loc 0) 201 (.frz (.mlst .nil))) (.cons (.setA (.loc 0) 202 (.frz (.mlst .nil))) (.cons (.setA (.loc 0) 203 (.cint 0)) (.cons (.setA (.loc 0) 204 (.frz (.dict0 .str))) (.cons (.setA (.loc 0) 205 (.frz (.dict0 .str))) .nil)))))))))))))))))))))))))))))))))))
noncomputable def n_Diags:List Nat:=[38,81]
noncomputable def y_Diags:Ys:=(.cons (.setA (.loc 0) 84 (.frz (.mlst .nil))) (.cons (.setA (.loc 0) 81 (.loc 1)) .nil))
noncomputable def n_law:List Nat:=[274,216,244,118,150,53,272,266,267,264,227,277,247]
noncomputable def y_law:Ys:=(.cons (.assign 0 (.upto 40 (.loc 0))) (.cons (.assign 1 (.dict [43,82,44] (.cons (.cint 0) (.cons (.loc 0) (.cons (.cint 0) .nil))))) (.cons (.assign 2 (.call 17 [0] (.cons (.loc 1) .nil))) (.cons (.assign 3 (.frz (.call 9 [] .nil))) (.cons (.assign 4 (.frz (.call 8 [] (.cons (.cstr 275) .nil)))) (.cons (.assign 5 (.call 16 [] (.cons (.frz (.call 10 [] (.cons (.loc 3) .nil))) (.cons (.frz (.call 11 [] (.cons (.loc 4) .nil))) (.cons (.loc 4) .nil))))) (.cons (.assign 6 (.mlst .nil)) (.cons (.assign 7 (.mlst .nil)) (.cons (.forR (.one 8) (.bin .add (.cint 1) (.bin .mod (.loc 2) (.cint 3))) (.cons (.assign 9 (.call 29 [0] (.cons (.loc 1) (.cons (.pick [279,280,281] (.loc 8)) .nil)))) (.cons (.setI (.loc 9) (.cstr 54) (.idx (.tup (.cons (.cint 5) (.cons (.cint 2) (.cons (.cint 9) .nil)))) (.bin .mod (.bin .add (.loc 8) (.bin .fdiv (.loc 2) (.cint 3))) (.cint 3)))) (.cons (.setI (.attr (.loc 5) 55) (.idx (.loc 9) (.cstr 54)) (.idx (.loc 9) (.cstr 265))) (.cons (.app (.loc 6) (.frz (.loc 9))) (.cons (.ext (.loc 7) (.idx (.loc 9) (.cstr 266))) .nil)))))) (.ghost 6 (.ghost 7 (.ghost 5 (.ghost 4 (.cons (.for_ (.one 9) (.loc 6) (.cons (.for_ (.one 10) (.idx (.loc 9) (.cstr 227)) (.cons (.ite (.not (.tru (.call 31 [] (.cons (.loc 10) (.cons (.loc 7) .nil))))) (.cons (.ret (.cbool false)) .nil) .nil) .nil)) .nil)) (.cons (.assign 11 (.call 32 [] (.cons (.loc 6) .nil))) (.cons (.forR (.one 12) (.cint 2) (.cons (.ite (.cmp2 .neL (.frz (.comp [59] [] (.one 0) (.call 6 [] (.cons (.loc 5) .nil)) .nil (.attr (.loc 0) 44))) (.loc 11)) (.cons (.ret (.cbool false)) .nil) .nil) .nil)) (.cons (.ret (.cmp2 .eqL (.attr (.loc 4) 84) (.lst .nil))) .nil)))))))))))))))))
noncomputable def globI (P:Params) (y:Nat × F):Bool:=match y.2 with
 | .int i=>(match nsIn (KF P) mainGlobals (nm y.1) with
  | some (some (.int j _))=>decide (i = j)
  | _=>false)
 | .tup _=>nsIn (KF P) mainGlobals (nm y.1) == some (some (.ref 617))
 | _=>false
theorem globI_ok (P:Params):globT.all (globI P) = true:=by kernel_rfl
noncomputable def callI (P:Params) (y:Nat × Nat):Bool:=nsIn (KF P) mainGlobals (nm y.1) == some (some (.ref y.2)) && keepIn (KF P) (.ref y.2)
theorem callI_ok (P:Params):callT.all (callI P) = true:=by kernel_rfl
noncomputable def mkTb (Γ:Nat→PT):Tb:=⟨globT,callT,Γ⟩
theorem names_den {w:World} {G:Heap} (X:(KF w.params).In G):Den w G (.tup [.str 213,.str 214,.str 215,.str 75]) (.ref 617):=by
 have h:=X 617 (o617 w.params) (by rfl)
 unfold Den
 refine ⟨617,[.str s213 1126,.str s214 1127,.str s215 1128,.str s75 1129],rfl,⟨_,h,rfl,0,rfl⟩,?_⟩
 have st:∀ (i:Nat) (t:Tok),i < 282→Den w G (.str i) (.str (nm i) t):=fun i t hi=>by unfold Den; exact ⟨by rw [nmL_len]; exact hi,t,rfl⟩
 unfold Dens; refine ⟨st 213 1126 (by decide),?_⟩
 unfold Dens; refine ⟨st 214 1127 (by decide),?_⟩
 unfold Dens; refine ⟨st 215 1128 (by decide),?_⟩
 unfold Dens; refine ⟨st 75 1129 (by decide),?_⟩
 unfold Dens; trivial
theorem globT_tups:∀ y∈globT,∀ l,y.2 = .tup l→l = [.str 213,.str 214,.str 215,.str 75]:=by
 intro y hy l e
 have h:=List.all_eq_true.mp (rfl:globT.all (fun y=>!Nat.beq y.2.ctorIdx 4 || eqF y.2 (.tup [.str 213,.str 214,.str 215,.str 75]) == some true) = true) y hy
 rw [e] at h
 have:=eqF_eq _ _ (eq_of_beq (h:(eqF (.tup l) (.tup [.str 213,.str 214,.str 215,.str 75]) == some true) = true))
 injection this
theorem mkOK {w:World} {L:Nat} {Γ:Nat→PT} (h1:1≤L) (hΓ:∀ y∈callT,CallOK w L (.ref y.2) (Γ y.2)):TbOK (mkTb Γ) w L where
 pos:=h1
 glob:=fun j y hy=>by
  have hm:y∈globT:=List.mem_of_getElem? hy
  have:=List.all_eq_true.mp (globI_ok w.params) y hm
  unfold globI at this
  split at this
  ·rename_i i e
   split at this
   ·rename_i j' t hn
    obtain rfl:=of_decide_eq_true this
    exact ⟨_,hn,fun G _=>by rw [e]; unfold Den; exact ⟨t,rfl⟩⟩
   ·cases this
  ·rename_i l e
   have el:=globT_tups y hm l e
   exact ⟨_,eq_of_beq this,fun G X=>by rw [e,el]; exact names_den X⟩
  ·cases this
 call:=fun j y hy=>by
  have hm:y∈callT:=List.mem_of_getElem? hy
  refine and_el (List.all_eq_true.mp (callI_ok w.params) y hm) fun a b=>?_
  exact ⟨eq_of_beq a,b,hΓ y hm⟩
noncomputable def okS (C x:Nat):Bool:=setAt.any fun y=>Nat.beq y.1 C && Nat.beq y.2 x
noncomputable def setI (P:Params) (y:Nat × Nat):Bool:=Nat.blt y.2 282 && okSetC P y.1 && okSet P y
theorem setI_ok (P:Params):setAt.all (setI P) = true:=by kernel_rfl
theorem okS_ok {w:World}:∀ C x,okS C x = true→x < nmL.length∧okSetC w.params C = true∧okSet w.params (C,x) = true:=by
 intro C x h
 obtain ⟨y,hy,e⟩:=List.any_eq_true.mp h
 refine and_el e fun e1 e2=>?_
 have e1:=Nat.eq_of_beq_eq_true e1
 have e2:=Nat.eq_of_beq_eq_true e2
 obtain ⟨y1,y2⟩:=y
 dsimp only at e1 e2
 subst e1; subst e2
 refine and_el (List.all_eq_true.mp (setI_ok w.params) _ hy) fun a b=>?_
 refine and_el a fun a a2=>?_
 exact ⟨by rw [nmL_len]; exact Nat.le_of_ble_eq_true a,a2,b⟩
noncomputable def chkFn (fd:FuncData) (ns:List Nat) (n:Nat):Bool :=
 fd.scope.names.all (fun y=>!(y.2 == .cell)) && !fd.scope.isCoroutine && !fd.scope.isGenerator && fd.scope.kind == .function && ns.all (fun k=>Nat.blt k 282 && fd.scope.names.lookup (nm k) == some .local) && nodupB ns && Nat.ble n ns.length && fd.globals == mainGlobals && fd.builtins == builtinsNs
noncomputable def Hpt (Γ:Nat→PT) (ns:List Nat) (n:Nat) (ys:Ys) (pt:PT):Prop:=∀ ds mu K,pt ds mu K→ds.length = n∧∃ ex:List Nat,A3 ((List.range mu.length++ex).Nodup) (∀ i∈ex,mu.length≤i) (wpYs (mkTb Γ) okS ys ⟨ds.map some++List.replicate (ns.length - n) none,mu⟩ (endK mu.length ex K))
theorem fn_run {w:World} {L:Nat} {Γ:Nat→PT} (h1:1≤L) (hΓ:∀ y∈callT,CallOK w L (.ref y.2) (Γ y.2)) {f:Addr} {fd:FuncData} {body:List Stmt} (ns:List Nat) (n:Nat) (ys:Ys) {pt:PT}
  (ho:∃ o,(KF w.params).lookup f = some o∧o.data = .func fd) (hcd:codeIn (KF w.params) fd.code fd.qualname = true) (hb:fd.body = .stmts body)
  (hbind:∀ vs:List Value,vs.length = n→bindArgs fd ⟨vs,[]⟩ = pure (((ns.map nm).take n).zip vs)) (hf:chkFn fd ns n = true) (hc:chkYs (mkTb Γ) ys ⟨ns,[],fd.scope⟩ body = true)
  (hpt:Hpt Γ ns n ys pt):CallOK w (L + 1) (.ref f) pt:=by
 unfold chkFn at hf
 refine and_el hf fun g g9=>?_
 refine and_el g fun g g8=>?_
 refine and_el g fun g g7=>?_
 refine and_el g fun g g6=>?_
 refine and_el g fun g g5=>?_
 refine and_el g fun g g4=>?_
 refine and_el g fun g g3=>?_
 refine and_el g fun g1 g2=>?_
 have nl:∀ k∈ns,k < nmL.length∧fd.scope.names.lookup (nm k) = some .local:=fun k hk=>by
  refine and_el (List.all_eq_true.mp g5 k hk) fun y1 y2=>?_
  exact ⟨by rw [nmL_len]; exact Nat.le_of_ble_eq_true y1,eq_of_beq y2⟩
 refine fn_ok (names:=ns.map nm) (n:=n) (wpYs (mkTb Γ) okS ys) ho hcd hb hbind ?_ (by simpa using g2) (by simpa using g3) (eq_of_beq g4) ?_ (nm_nodup (fun k hk=>(nl k hk).1) (nodupB_ok g6)) (by rw [List.length_map]; exact Nat.le_of_ble_eq_true g7) (eq_of_beq g8) (eq_of_beq g9) ?_ ?_
 ·intro x hx e
  have:=List.all_eq_true.mp g1 x hx
  rw [e] at this
  simp at this
 ·intro y hy
  obtain ⟨k,hk,rfl⟩:=List.mem_map.mp hy
  exact (nl k hk).2
 ·intro c A e1 e2 e3 e4 r st
  exact okYs okS_ok (mkTb Γ) (mkOK h1 hΓ) ys ⟨ns,[],fd.scope⟩ body hc ⟨e1,e2,e3,e4⟩ r st
 ·intro ds mu K h
  obtain ⟨a,ex,b,c,d⟩:=hpt ds mu K h
  exact ⟨a,ex,b,c,by rw [List.length_map]; exact d⟩
noncomputable def fd_has:FuncData:=⟨s49,s49,a37,(.stmts b37),c37,3,[],.none,.none,.none,(.str s3 194),none,(.ref 48),.none,0⟩
theorem run_has {w:World} {L:Nat} {Γ:Nat→PT} (h1:1≤L) (hΓ:∀ y∈callT,CallOK w L (.ref y.2) (Γ y.2)) {pt:PT}
  (hpt:Hpt Γ n_has 2 y_has pt):CallOK w (L + 1) (.ref 49) pt :=
 fn_run h1 hΓ (fd:=fd_has) (body:=b37) n_has 2 y_has ⟨o49 w.params,by kernel_rfl,rfl⟩ (by kernel_rfl) rfl (len2 fun _ _=>by kernel_rfl) (by kernel_rfl) (by kernel_rfl) hpt
noncomputable def fd_is_ctor:FuncData:=⟨s52,s52,a40,(.stmts b40),c40,3,[],.none,.none,.none,(.str s50 310),none,(.ref 55),.none,0⟩
theorem run_is_ctor {w:World} {L:Nat} {Γ:Nat→PT} (h1:1≤L) (hΓ:∀ y∈callT,CallOK w L (.ref y.2) (Γ y.2)) {pt:PT}
  (hpt:Hpt Γ n_is_ctor 1 y_is_ctor pt):CallOK w (L + 1) (.ref 56) pt :=
 fn_run h1 hΓ (fd:=fd_is_ctor) (body:=b40) n_is_ctor 1 y_is_ctor ⟨o56 w.params,by kernel_rfl,rfl⟩ (by kernel_rfl) rfl (len1 fun _=>by kernel_rfl) (by kernel_rfl) (by kernel_rfl) hpt
noncomputable def fd_class_node:FuncData:=⟨s56,s56,a41,(.stmts b41),c41,3,[],.none,.none,.none,(.str s50 310),none,(.ref 62),.none,0⟩
theorem run_class_node {w:World} {L:Nat} {Γ:Nat→PT} (h1:1≤L) (hΓ:∀ y∈callT,CallOK w L (.ref y.2) (Γ y.2)) {pt:PT}
  (hpt:Hpt Γ n_class_node 2 y_class_node pt):CallOK w (L + 1) (.ref 63) pt :=
 fn_run h1 hΓ (fd:=fd_class_node) (body:=b41) n_class_node 2 y_class_node ⟨o63 w.params,by kernel_rfl,rfl⟩ (by kernel_rfl) rfl (len2 fun _ _=>by kernel_rfl) (by kernel_rfl) (by kernel_rfl) hpt
noncomputable def fd_class_has:FuncData:=⟨s61,s61,a43,(.stmts b43),c43,3,[],.none,.none,.none,(.str s57 330),none,(.ref 69),.none,0⟩
theorem run_class_has {w:World} {L:Nat} {Γ:Nat→PT} (h1:1≤L) (hΓ:∀ y∈callT,CallOK w L (.ref y.2) (Γ y.2)) {pt:PT}
  (hpt:Hpt Γ n_class_has 2 y_class_has pt):CallOK w (L + 1) (.ref 70) pt :=
 fn_run h1 hΓ (fd:=fd_class_has) (body:=b43) n_class_has 2 y_class_has ⟨o70 w.params,by kernel_rfl,rfl⟩ (by kernel_rfl) rfl (len2 fun _ _=>by kernel_rfl) (by kernel_rfl) (by kernel_rfl) hpt
noncomputable def fd_promises:FuncData:=⟨s63,s63,a44,(.stmts b44),c44,3,[],.none,.none,.none,(.str s57 330),none,(.ref 76),.none,0⟩
theorem run_promises {w:World} {L:Nat} {Γ:Nat→PT} (h1:1≤L) (hΓ:∀ y∈callT,CallOK w L (.ref y.2) (Γ y.2)) {pt:PT}
  (hpt:Hpt Γ n_promises 2 y_promises pt):CallOK w (L + 1) (.ref 77) pt :=
 fn_run h1 hΓ (fd:=fd_promises) (body:=b44) n_promises 2 y_promises ⟨o77 w.params,by kernel_rfl,rfl⟩ (by kernel_rfl) rfl (len2 fun _ _=>by kernel_rfl) (by kernel_rfl) (by kernel_rfl) hpt
noncomputable def fd_Node:FuncData:=⟨s45,s442,a36_0,(.stmts b36_0),c36_0,3,[],.none,.none,.none,(.str s3 194),none,(.ref 34),.none,0⟩
theorem run_Node {w:World} {L:Nat} {Γ:Nat→PT} (h1:1≤L) (hΓ:∀ y∈callT,CallOK w L (.ref y.2) (Γ y.2)) {pt:PT}
  (hpt:Hpt Γ n_Node 6 y_Node pt):CallOK w (L + 1) (.ref 35) pt :=
 fn_run h1 hΓ (fd:=fd_Node) (body:=b36_0) n_Node 6 y_Node ⟨o35 w.params,by kernel_rfl,rfl⟩ (by kernel_rfl) rfl (len6 fun _ _ _ _ _ _=>by kernel_rfl) (by kernel_rfl) (by kernel_rfl) hpt
noncomputable def fd_law_pull:FuncData:=⟨s218,s218,a73,(.stmts b73),c73,3,[],.none,.none,.none,(.str s211 1124),none,(.ref 623),.none,0⟩
theorem run_law_pull {w:World} {L:Nat} {Γ:Nat→PT} (h1:1≤L) (hΓ:∀ y∈callT,CallOK w L (.ref y.2) (Γ y.2)) {pt:PT}
  (hpt:Hpt Γ n_law_pull 1 y_law_pull pt):CallOK w (L + 1) (.ref 624) pt :=
 fn_run h1 hΓ (fd:=fd_law_pull) (body:=b73) n_law_pull 1 y_law_pull ⟨o624 w.params,by kernel_rfl,rfl⟩ (by kernel_rfl) rfl (len1 fun _=>by kernel_rfl) (by kernel_rfl) (by kernel_rfl) hpt
noncomputable def fd_law_node:FuncData:=⟨s219,s219,a74,(.stmts b74),c74,3,[],.none,.none,.none,(.str s211 1124),none,(.ref 630),.none,0⟩
theorem run_law_node {w:World} {L:Nat} {Γ:Nat→PT} (h1:1≤L) (hΓ:∀ y∈callT,CallOK w L (.ref y.2) (Γ y.2)) {pt:PT}
  (hpt:Hpt Γ n_law_node 5 y_law_node pt):CallOK w (L + 1) (.ref 631) pt :=
 fn_run h1 hΓ (fd:=fd_law_node) (body:=b74) n_law_node 5 y_law_node ⟨o631 w.params,by kernel_rfl,rfl⟩ (by kernel_rfl) rfl (len5 fun _ _ _ _ _=>by kernel_rfl) (by kernel_rfl) (by kernel_rfl) hpt
noncomputable def fd_law_func:FuncData:=⟨s223,s223,a75,(.stmts b75),c75,3,[],.none,.none,.none,(.str s211 1124),none,(.ref 637),.none,0⟩
theorem run_law_func {w:World} {L:Nat} {Γ:Nat→PT} (h1:1≤L) (hΓ:∀ y∈callT,CallOK w L (.ref y.2) (Γ y.2)) {pt:PT}
  (hpt:Hpt Γ n_law_func 5 y_law_func pt):CallOK w (L + 1) (.ref 638) pt :=
 fn_run h1 hΓ (fd:=fd_law_func) (body:=b75) n_law_func 5 y_law_func ⟨o638 w.params,by kernel_rfl,rfl⟩ (by kernel_rfl) rfl (len5 fun _ _ _ _ _=>by kernel_rfl) (by kernel_rfl) (by kernel_rfl) hpt
noncomputable def fd_law_param:FuncData:=⟨s229,s229,a76,(.stmts b76),c76,3,[],.none,.none,.none,(.str s211 1124),none,(.ref 644),.none,0⟩
theorem run_law_param {w:World} {L:Nat} {Γ:Nat→PT} (h1:1≤L) (hΓ:∀ y∈callT,CallOK w L (.ref y.2) (Γ y.2)) {pt:PT}
  (hpt:Hpt Γ n_law_param 2 y_law_param pt):CallOK w (L + 1) (.ref 645) pt :=
 fn_run h1 hΓ (fd:=fd_law_param) (body:=b76) n_law_param 2 y_law_param ⟨o645 w.params,by kernel_rfl,rfl⟩ (by kernel_rfl) rfl (len2 fun _ _=>by kernel_rfl) (by kernel_rfl) (by kernel_rfl) hpt
noncomputable def fd_law_half:FuncData:=⟨s235,s235,a78,(.stmts b78),c78,3,[],.none,.none,.none,(.str s211 1124),none,(.ref 658),.none,0⟩
theorem run_law_half {w:World} {L:Nat} {Γ:Nat→PT} (h1:1≤L) (hΓ:∀ y∈callT,CallOK w L (.ref y.2) (Γ y.2)) {pt:PT}
  (hpt:Hpt Γ n_law_half 6 y_law_half pt):CallOK w (L + 1) (.ref 659) pt :=
 fn_run h1 hΓ (fd:=fd_law_half) (body:=b78) n_law_half 6 y_law_half ⟨o659 w.params,by kernel_rfl,rfl⟩ (by kernel_rfl) rfl (len6 fun _ _ _ _ _ _=>by kernel_rfl) (by kernel_rfl) (by kernel_rfl) hpt
noncomputable def fd_law_accessors:FuncData:=⟨s240,s240,a79,(.stmts b79),c79,3,[],.none,.none,.none,(.str s211 1124),none,(.ref 665),.none,0⟩
theorem run_law_accessors {w:World} {L:Nat} {Γ:Nat→PT} (h1:1≤L) (hΓ:∀ y∈callT,CallOK w L (.ref y.2) (Γ y.2)) {pt:PT}
  (hpt:Hpt Γ n_law_accessors 6 y_law_accessors pt):CallOK w (L + 1) (.ref 666) pt :=
 fn_run h1 hΓ (fd:=fd_law_accessors) (body:=b79) n_law_accessors 6 y_law_accessors ⟨o666 w.params,by kernel_rfl,rfl⟩ (by kernel_rfl) rfl (len6 fun _ _ _ _ _ _=>by kernel_rfl) (by kernel_rfl) (by kernel_rfl) hpt
noncomputable def fd_law_ctor:FuncData:=⟨s243,s243,a80,(.stmts b80),c80,3,[],.none,.none,.none,(.str s211 1124),none,(.ref 670),.none,0⟩
theorem run_law_ctor {w:World} {L:Nat} {Γ:Nat→PT} (h1:1≤L) (hΓ:∀ y∈callT,CallOK w L (.ref y.2) (Γ y.2)) {pt:PT}
  (hpt:Hpt Γ n_law_ctor 4 y_law_ctor pt):CallOK w (L + 1) (.ref 671) pt :=
 fn_run h1 hΓ (fd:=fd_law_ctor) (body:=b80) n_law_ctor 4 y_law_ctor ⟨o671 w.params,by kernel_rfl,rfl⟩ (by kernel_rfl) rfl (len4 fun _ _ _ _=>by kernel_rfl) (by kernel_rfl) (by kernel_rfl) hpt
noncomputable def fd_law_deed:FuncData:=⟨s246,s246,a81,(.stmts b81),c81,3,[],.none,.none,.none,(.str s211 1124),none,(.ref 677),.none,0⟩
theorem run_law_deed {w:World} {L:Nat} {Γ:Nat→PT} (h1:1≤L) (hΓ:∀ y∈callT,CallOK w L (.ref y.2) (Γ y.2)) {pt:PT}
  (hpt:Hpt Γ n_law_deed 2 y_law_deed pt):CallOK w (L + 1) (.ref 678) pt :=
 fn_run h1 hΓ (fd:=fd_law_deed) (body:=b81) n_law_deed 2 y_law_deed ⟨o678 w.params,by kernel_rfl,rfl⟩ (by kernel_rfl) rfl (len2 fun _ _=>by kernel_rfl) (by kernel_rfl) (by kernel_rfl) hpt
noncomputable def fd_law_class:FuncData:=⟨s255,s255,a82,(.stmts b82),c82,3,[],.none,.none,.none,(.str s211 1124),none,(.ref 684),.none,0⟩
theorem run_law_class {w:World} {L:Nat} {Γ:Nat→PT} (h1:1≤L) (hΓ:∀ y∈callT,CallOK w L (.ref y.2) (Γ y.2)) {pt:PT}
  (hpt:Hpt Γ n_law_class 3 y_law_class pt):CallOK w (L + 1) (.ref 685) pt :=
 fn_run h1 hΓ (fd:=fd_law_class) (body:=b82) n_law_class 3 y_law_class ⟨o685 w.params,by kernel_rfl,rfl⟩ (by kernel_rfl) rfl (len3 fun _ _ _=>by kernel_rfl) (by kernel_rfl) (by kernel_rfl) hpt
noncomputable def fd_law_said:FuncData:=⟨s256,s256,a83,(.stmts b83),c83,3,[],.none,.none,.none,(.str s211 1124),none,(.ref 691),.none,0⟩
theorem run_law_said {w:World} {L:Nat} {Γ:Nat→PT} (h1:1≤L) (hΓ:∀ y∈callT,CallOK w L (.ref y.2) (Γ y.2)) {pt:PT}
  (hpt:Hpt Γ n_law_said 2 y_law_said pt):CallOK w (L + 1) (.ref 692) pt :=
 fn_run h1 hΓ (fd:=fd_law_said) (body:=b83) n_law_said 2 y_law_said ⟨o692 w.params,by kernel_rfl,rfl⟩ (by kernel_rfl) rfl (len2 fun _ _=>by kernel_rfl) (by kernel_rfl) (by kernel_rfl) hpt
noncomputable def fd_law_face:FuncData:=⟨s261,s261,a84,(.stmts b84),c84,3,[],.none,.none,.none,(.str s211 1124),none,(.ref 696),.none,0⟩
theorem run_law_face {w:World} {L:Nat} {Γ:Nat→PT} (h1:1≤L) (hΓ:∀ y∈callT,CallOK w L (.ref y.2) (Γ y.2)) {pt:PT}
  (hpt:Hpt Γ n_law_face 2 y_law_face pt):CallOK w (L + 1) (.ref 697) pt :=
 fn_run h1 hΓ (fd:=fd_law_face) (body:=b84) n_law_face 2 y_law_face ⟨o697 w.params,by kernel_rfl,rfl⟩ (by kernel_rfl) rfl (len2 fun _ _=>by kernel_rfl) (by kernel_rfl) (by kernel_rfl) hpt
noncomputable def fd_law_group:FuncData:=⟨s268,s268,a85,(.stmts b85),c85,3,[],.none,.none,.none,(.str s211 1124),none,(.ref 703),.none,0⟩
theorem run_law_group {w:World} {L:Nat} {Γ:Nat→PT} (h1:1≤L) (hΓ:∀ y∈callT,CallOK w L (.ref y.2) (Γ y.2)) {pt:PT}
  (hpt:Hpt Γ n_law_group 2 y_law_group pt):CallOK w (L + 1) (.ref 704) pt :=
 fn_run h1 hΓ (fd:=fd_law_group) (body:=b85) n_law_group 2 y_law_group ⟨o704 w.params,by kernel_rfl,rfl⟩ (by kernel_rfl) rfl (len2 fun _ _=>by kernel_rfl) (by kernel_rfl) (by kernel_rfl) hpt
noncomputable def fd_law_promised:FuncData:=⟨s270,s270,a86,(.stmts b86),c86,3,[],.none,.none,.none,(.str s211 1124),none,(.ref 710),.none,0⟩
theorem run_law_promised {w:World} {L:Nat} {Γ:Nat→PT} (h1:1≤L) (hΓ:∀ y∈callT,CallOK w L (.ref y.2) (Γ y.2)) {pt:PT}
  (hpt:Hpt Γ n_law_promised 2 y_law_promised pt):CallOK w (L + 1) (.ref 711) pt :=
 fn_run h1 hΓ (fd:=fd_law_promised) (body:=b86) n_law_promised 2 y_law_promised ⟨o711 w.params,by kernel_rfl,rfl⟩ (by kernel_rfl) rfl (len2 fun _ _=>by kernel_rfl) (by kernel_rfl) (by kernel_rfl) hpt
noncomputable def fd_law_class_sound:FuncData:=⟨s271,s271,a87,(.stmts b87),c87,3,[],.none,.none,.none,(.str s211 1124),none,(.ref 715),.none,0⟩
theorem run_law_class_sound {w:World} {L:Nat} {Γ:Nat→PT} (h1:1≤L) (hΓ:∀ y∈callT,CallOK w L (.ref y.2) (Γ y.2)) {pt:PT}
  (hpt:Hpt Γ n_law_class_sound 2 y_law_class_sound pt):CallOK w (L + 1) (.ref 716) pt :=
 fn_run h1 hΓ (fd:=fd_law_class_sound) (body:=b87) n_law_class_sound 2 y_law_class_sound ⟨o716 w.params,by kernel_rfl,rfl⟩ (by kernel_rfl) rfl (len2 fun _ _=>by kernel_rfl) (by kernel_rfl) (by kernel_rfl) hpt
noncomputable def fd_merged_promises:FuncData:=⟨s72,s72,a46,(.stmts b46),c46,3,[],.none,.none,.none,(.str s57 330),none,(.ref 88),.none,0⟩
theorem run_merged_promises {w:World} {L:Nat} {Γ:Nat→PT} (h1:1≤L) (hΓ:∀ y∈callT,CallOK w L (.ref y.2) (Γ y.2)) {pt:PT}
  (hpt:Hpt Γ n_merged_promises 1 y_merged_promises pt):CallOK w (L + 1) (.ref 89) pt :=
 fn_run h1 hΓ (fd:=fd_merged_promises) (body:=b46) n_merged_promises 1 y_merged_promises ⟨o89 w.params,by kernel_rfl,rfl⟩ (by kernel_rfl) rfl (len1 fun _=>by kernel_rfl) (by kernel_rfl) (by kernel_rfl) hpt
noncomputable def fd_Thin:FuncData:=⟨s45,s457,a62_0,(.stmts b62_0),c62_0,3,[],.none,.none,.none,(.str s115 605),none,(.ref 265),.none,0⟩
theorem run_Thin {w:World} {L:Nat} {Γ:Nat→PT} (h1:1≤L) (hΓ:∀ y∈callT,CallOK w L (.ref y.2) (Γ y.2)) {pt:PT}
  (hpt:Hpt Γ n_Thin 2 y_Thin pt):CallOK w (L + 1) (.ref 266) pt :=
 fn_run h1 hΓ (fd:=fd_Thin) (body:=b62_0) n_Thin 2 y_Thin ⟨o266 w.params,by kernel_rfl,rfl⟩ (by kernel_rfl) rfl (len2 fun _ _=>by kernel_rfl) (by kernel_rfl) (by kernel_rfl) hpt
noncomputable def fd_Bound:FuncData:=⟨s45,s476,a64_0,(.stmts b64_0),c64_0,3,[],.none,.none,.none,(.str s149 797),none,(.ref 412),.none,0⟩
theorem run_Bound {w:World} {L:Nat} {Γ:Nat→PT} (h1:1≤L) (hΓ:∀ y∈callT,CallOK w L (.ref y.2) (Γ y.2)) {pt:PT}
  (hpt:Hpt Γ n_Bound 2 y_Bound pt):CallOK w (L + 1) (.ref 413) pt :=
 fn_run h1 hΓ (fd:=fd_Bound) (body:=b64_0) n_Bound 2 y_Bound ⟨o413 w.params,by kernel_rfl,rfl⟩ (by kernel_rfl) rfl (len2 fun _ _=>by kernel_rfl) (by kernel_rfl) (by kernel_rfl) hpt
noncomputable def fd_Shaper:FuncData:=⟨s45,s480,a67_0,(.stmts b67_0),c50_1,3,[],.none,.none,.none,(.str s157 833),none,(.ref 468),.none,0⟩
theorem run_Shaper {w:World} {L:Nat} {Γ:Nat→PT} (h1:1≤L) (hΓ:∀ y∈callT,CallOK w L (.ref y.2) (Γ y.2)) {pt:PT}
  (hpt:Hpt Γ n_Shaper 1 y_Shaper pt):CallOK w (L + 1) (.ref 469) pt :=
 fn_run h1 hΓ (fd:=fd_Shaper) (body:=b67_0) n_Shaper 1 y_Shaper ⟨o469 w.params,by kernel_rfl,rfl⟩ (by kernel_rfl) rfl (len1 fun _=>by kernel_rfl) (by kernel_rfl) (by kernel_rfl) hpt
noncomputable def fd_Namer:FuncData:=⟨s45,s489,a70_0,(.stmts b70_0),c70_0,3,[],.none,.none,.none,(.str s157 833),none,(.ref 573),.none,0⟩
theorem run_Namer {w:World} {L:Nat} {Γ:Nat→PT} (h1:1≤L) (hΓ:∀ y∈callT,CallOK w L (.ref y.2) (Γ y.2)) {pt:PT}
  (hpt:Hpt Γ n_Namer 4 y_Namer pt):CallOK w (L + 1) (.ref 574) pt :=
 fn_run h1 hΓ (fd:=fd_Namer) (body:=b70_0) n_Namer 4 y_Namer ⟨o574 w.params,by kernel_rfl,rfl⟩ (by kernel_rfl) rfl (len4 fun _ _ _ _=>by kernel_rfl) (by kernel_rfl) (by kernel_rfl) hpt
noncomputable def nodeF (kind:Int) (a:Nat) (kids:List F) (flags at_ nid:Int):F:=.inst 38 [39,40,41,42,43,44] [.int kind,.str a,.lst kids,.int flags,.int at_,.int nid]
noncomputable def hasB (fl g:Int):Bool:=!decide (Builtin.bitAnd fl g = 0)
noncomputable def hasPT:PT:=fun ds mu K=>E7 fun k a ks fl at_ nid g=>A3 (ds = [.fro (nodeF k a ks fl at_ nid),.fro (.int g)]) (mu = []) (K (.fro (.bool (hasB fl g))) [])
theorem idxL_int {row:List Int} {m:Nat} (hm:m < row.length) (h2:m≤1000000):idxL (row.map F.int) (m:Int) = some (.int row[m]):=by
 unfold idxL
 show (if Nat.ble m 1000000 = true then (row.map F.int)[m]? else none) = _
 rw [if_pos (Nat.ble_eq_true_of_le h2),List.getElem?_map,List.getElem?_eq_getElem hm]; rfl
theorem fmod_rng (x:Int):0≤x.fmod 100000000∧x.fmod 100000000 < 100000000:=by
 rw [Int.fmod_eq_emod_of_nonneg x (by decide)]
 exact ⟨Int.emod_nonneg _ (by decide),Int.emod_lt_of_pos _ (by decide)⟩
noncomputable def pullPT:PT:=fun ds mu K=>E3 fun (a n:Int) (row:List Int)=>A5 (ds = [.ref 0]) (mu = [some (.dic [43,82,44] [.fro (.int a),.fro (.lst (row.map .int)),.fro (.int n)])]) (0≤a) (row.length≤40) (∀ x:Int,0≤x→x < 100000000→K (.fro (.int x)) [some (.dic [43,82,44] [.fro (.int (a + 1)),.fro (.lst (row.map .int)),.fro (.int n)])])
noncomputable def dM (a:Int) (row:List Int) (n:Int):M:=.dic [43,82,44] [.fro (.int a),.fro (.lst (row.map .int)),.fro (.int n)]
noncomputable def nodeIPT:PT:=fun ds mu K=>E5 fun k a ks fl at_=>A3 (ds = [.ref 0,.fro (.int k),.fro (.str a),.fro (.lst ks),.fro (.int fl),.fro (.int at_)]) (mu = [some (.inst 38 [] [])]) (K (.fro .none) [some (.inst 38 [39,40,41,42,43,44] [.fro (.int k),.fro (.str a),.fro (.lst ks),.fro (.int fl),.fro (.int at_),.fro (.int 0)])])
noncomputable def nodeCPT:PT:=fun ds mu K=>E5 fun k a ks fl at_=>A3 (ds = [.fro (.int k),.fro (.str a),.fro (.lst ks),.fro (.int fl),.fro (.int at_)]) (mu = []) (K (.ref 0) [some (.inst 38 [39,40,41,42,43,44] [.fro (.int k),.fro (.str a),.fro (.lst ks),.fro (.int fl),.fro (.int at_),.fro (.int 0)])])
theorem CallOK.of {w:World} {L:Nat} {f:Value} {p q:PT} (h:CallOK w L f p) (e:∀ ds mu K,q ds mu K→p ds mu K):CallOK w L f q :=
 fun A s p' mu ds vs K Q r x n hq k=>h A s p' mu ds vs K Q r x n (e _ _ _ hq) k
noncomputable def nodePT:PT:=fun ds mu K=>E7 fun k a ks fl p row n=>A3 (ds = [.ref 0,.fro (.int k),.fro (.str a),.fro (.lst ks),.fro (.int fl)]) (mu = [some (dM p row n)]) (K (.fro (nodeF k a ks fl (3 * (n + 1)) (n + 1))) [some (dM p row (n + 1))])
noncomputable def funcF (name:Nat) (flags:Int) (params:List F) (body:Bool) (n:Int):F :=
 if body then nodeF 27 name [.none,nodeF 71 75 params 0 (3 * (n + 1 + 1)) (n + 1 + 1),.none,nodeF 59 75 [] 0 (3 * (n + 1)) (n + 1)] flags (3 * (n + 1 + 1 + 1)) (n + 1 + 1 + 1)
 else nodeF 27 name [.none,nodeF 71 75 params 0 (3 * (n + 1)) (n + 1),.none,.none] flags (3 * (n + 1 + 1)) (n + 1 + 1)
noncomputable def funcN (body:Bool) (n:Int):Int:=if body then n + 1 + 1 + 1 else n + 1 + 1
noncomputable def funcPT:PT:=fun ds mu K=>E7 fun name flags params body p row n=>A3 (ds = [.ref 0,.fro (.str name),.fro (.int flags),.fro (.lst params),.fro (.bool body)]) (mu = [some (dM p row n)]) (K (.fro (funcF name flags params body n)) [some (dM p row (funcN body n))])
noncomputable def paramSees (f:F) (m:Nat):Prop:=E9 fun flags at_ nid kk ka ks kf kat knid=>A4 (f = nodeF 28 75 [nodeF kk ka ks kf kat knid,.none,.none] flags at_ nid) (m = 213∨m = 214∨m = 228) ((hasB flags 245760 && decide (kk = 8)) = !decide (m = 228)) (m ≠ 228→ka = m)
noncomputable def paramPT:PT:=fun ds mu K=>E4 fun q p row n=>A3 (ds = [.ref 0,.fro (.int q)]) (mu = [some (dM p row n)]) (∀ f m n',n < n'→paramSees f m→K (.fro (.tup [f,.str m])) [some (dM p row n')])
theorem below {P:Int→Prop} (n:Nat) (h:∀ i:Nat,i < n→P i) {z:Int} (h0:0≤z) (h1:z < n):P z:=by
 have:=h z.toNat ((Int.toNat_lt h0).mpr h1)
 rwa [Int.toNat_of_nonneg h0] at this
theorem fm_rng (q:Int) {n:Int} (h:0 < n):0≤q.fmod n∧q.fmod n < n:=by
 rw [Int.fmod_eq_emod_of_nonneg q (Int.le_of_lt h)]; exact ⟨Int.emod_nonneg q (Int.ne_of_gt h),Int.emod_lt_of_pos q h⟩
theorem fm2 (q:Int):q.fmod 2 = 0∨q.fmod 2 = 1:=below 2 (P:=fun z=>z = 0∨z = 1) (by decide) (fm_rng q (by decide)).1 (fm_rng q (by decide)).2
theorem fm4 (q:Int):q.fmod 4 = 0∨q.fmod 4 = 1∨q.fmod 4 = 2∨q.fmod 4 = 3:=below 4 (P:=fun z=>z = 0∨z = 1∨z = 2∨z = 3) (by decide) (fm_rng q (by decide)).1 (fm_rng q (by decide)).2
theorem fm8 (q:Int):q.fmod 8 = 0∨q.fmod 8 = 1∨q.fmod 8 = 2∨q.fmod 8 = 3∨q.fmod 8 = 4∨q.fmod 8 = 5∨q.fmod 8 = 6∨q.fmod 8 = 7:=below 8 (P:=fun z=>z = 0∨z = 1∨z = 2∨z = 3∨z = 4∨z = 5∨z = 6∨z = 7) (by decide) (fm_rng q (by decide)).1 (fm_rng q (by decide)).2
noncomputable def wordL:List F:=[.int 16384,.int 0,.int 65536,.int 131072,.int 32768,.int 147456,.int 4096,.int 8192]
noncomputable def wordOf (q:Int):Int:=match idxL wordL (q.fmod 8) with
 | some (.int z)=>z
 | _=>0
theorem word_at (q:Int):idxL [F.int 16384,F.int 0,F.int 65536,F.int 131072,F.int 32768,F.int 147456,F.int 4096,F.int 8192] (q.fmod 8) = some (F.int (wordOf q)):=by
 unfold wordOf
 rcases fm8 q with e | e | e | e | e | e | e | e <;> rw [e] <;> rfl
noncomputable def nmq (q:Int):Nat:=if q.fmod 2 = 0 then 213 else 214
theorem nm_at (q:Int):idxL [213,214] (q.fmod 2) = some (nmq q):=by
 unfold nmq
 rcases fm2 q with e | e <;> rw [e] <;> rfl
theorem word_has (q:Int):hasB (wordOf q) 245760 = decide (q.fmod 8 = 0∨q.fmod 8 = 2∨q.fmod 8 = 3∨q.fmod 8 = 4∨q.fmod 8 = 5):=by
 unfold wordOf
 rcases fm8 q with e | e | e | e | e | e | e | e <;> rw [e] <;> decide +kernel
section
variable {T:Tb} {ok:Nat→Nat→Bool} {st:St} {loc:List (Option D)} {mu:List (Option M)} {K:D→St→Prop} {KB:Bool→St→Prop} {KY:FD→St→Prop} {KS:List D→St→Prop} {C C':Prop} {a b e:X} {t:B} {i j k:Nat} {z:Bool}
noncomputable def frk (z:Bool) (C C':Prop):Prop:=if z = true then C else C'
theorem x_loc {f:F} (h:loc[i]? = some (some (.fro f))) (g:K (.fro f) ⟨loc,mu⟩):wpX T (.loc i) ⟨loc,mu⟩ K:=by show (match loc[i]? with | some (some d)=>K (normD ⟨loc,mu⟩ d) ⟨loc,mu⟩ | _=>False); rw [h]; exact g
theorem x_locR {m:M} (h:loc[i]? = some (some (.ref k))) (h2:deref ⟨loc,mu⟩ (.ref k) = .mut_ k m) (g:K (.ref k) ⟨loc,mu⟩):wpX T (.loc i) ⟨loc,mu⟩ K:=by show (match loc[i]? with | some (some d)=>K (normD ⟨loc,mu⟩ d) ⟨loc,mu⟩ | _=>False); rw [h]; show K (normD _ _) _; unfold normD; rw [h2]; exact g
theorem x_locF {f:F} (h:loc[i]? = some (some (.ref k))) (h2:deref ⟨loc,mu⟩ (.ref k) = .fro f) (g:K (.fro f) ⟨loc,mu⟩):wpX T (.loc i) ⟨loc,mu⟩ K:=by show (match loc[i]? with | some (some d)=>K (normD ⟨loc,mu⟩ d) ⟨loc,mu⟩ | _=>False); rw [h]; show K (normD _ _) _; unfold normD; rw [h2]; exact g
theorem x_cell {d:D} (h:mu[i]? = some (some (.cell (some d)))) (g:K d ⟨loc,mu⟩):wpX T (.cell i) ⟨loc,mu⟩ K:=by show (match mu[i]? with | some (some (.cell (some d)))=>K d ⟨loc,mu⟩ | _=>False); rw [h]; exact g
theorem x_glob {f:F} {n:Nat} (h:T.glob[j]? = some (n,f)) (g:K (.fro f) st):wpX T (.glob j) st K:=by show (match T.glob[j]? with | some y=>K (.fro y.2) st | none=>False); rw [h]; exact g
theorem x_int {z:Int} (g:K (.fro (.int z)) st):wpX T (.cint z) st K:=g
theorem x_bool (g:K (.fro (.bool z)) st):wpX T (.cbool z) st K:=g
theorem x_none (g:K (.fro .none) st):wpX T .cnone st K:=g
theorem x_str (g:K (.fro (.str k)) st):wpX T (.cstr k) st K:=g
theorem x_bin {o:Bop} (g:wpX T a st fun x st1=>wpX T b st1 fun y st2=>binD o x y st2 K):wpX T (.bin o a b) st K:=g
theorem x_cat (g:wpX T a st fun x st1=>wpX T b st1 fun y st2=>catD x y st2 K):wpX T (.cat a b) st K:=g
theorem x_ite (g:wpB T t st fun v st'=>frk v (wpX T a st' K) (wpX T b st' K)):wpX T (.ite t a b) st K:=g
theorem x_cmp {o:Cop} (g:wpX T a st fun x st1=>wpX T b st1 fun y st2=>cmpD o x y fun z=>K (.fro (.bool z)) st2):wpX T (.cmp o a b) st K:=g
theorem x_cmp2 {o:Cop2} (g:wpX T a st fun x st1=>wpX T b st1 fun y st2=>cmp2 o x y st2 fun z=>K (.fro (.bool z)) st2):wpX T (.cmp2 o a b) st K:=g
theorem x_attr (g:wpX T e st fun d st'=>attrD d k st' fun d'=>K d' st'):wpX T (.attr e k) st K:=g
theorem x_idx (g:wpX T e st fun d st1=>wpX T a st1 fun j st2=>idxD d j st2 fun r=>K r st2):wpX T (.idx e a) st K:=g
theorem x_pick {l:List Nat} (g:wpX T a st fun d st'=>pickD ⟨#[]⟩ l d fun r=>K r st'):wpX T (.pick l a) st K:=g
theorem x_upto {n:Nat} (g:wpX T e st fun d st'=>uptoD n d st' K):wpX T (.upto n e) st K:=g
noncomputable def tupK (K:D→St→Prop) (ds:List D) (st':St):Prop:=match fros st' ds with
  | some fs=>Nat.ble fs.length 1000 = true∧K (.fro (.tup fs)) st'
  | none=>False
noncomputable def lstK (K:D→St→Prop) (ds:List D) (st':St):Prop:=match fros st' ds with
  | some fs=>Nat.ble fs.length 1000 = true∧K (.fro (.lst fs)) st'
  | none=>False
theorem x_tup {l:Xs} (g:wpXs T l st (tupK K)):wpX T (.tup l) st K:=g
theorem x_lst {l:Xs} (g:wpXs T l st (lstK K)):wpX T (.lst l) st K:=g
theorem t_tup {ds:List D} {fs:List F} (h:fros st ds = some fs) (h2:Nat.ble fs.length 1000 = true) (g:K (.fro (.tup fs)) st):tupK K ds st:=by unfold tupK; simp only [h]; exact ⟨h2,g⟩
theorem t_lst {ds:List D} {fs:List F} (h:fros st ds = some fs) (h2:Nat.ble fs.length 1000 = true) (g:K (.fro (.lst fs)) st):lstK K ds st:=by unfold lstK; simp only [h]; exact ⟨h2,g⟩
noncomputable def mlstK (K:D→St→Prop) (ds:List D) (st':St):Prop:=Nat.ble ds.length 1000 = true∧K (.ref st'.mu.length) { st' with mu:=st'.mu++[some (.lst ds)] }
theorem x_mlst {l:Xs} (g:wpXs T l st (mlstK K)):wpX T (.mlst l) st K:=g
theorem t_mlst {ds:List D} (h2:Nat.ble ds.length 1000 = true) (g:K (.ref mu.length) ⟨loc,mu++[some (.lst ds)]⟩):mlstK K ds ⟨loc,mu⟩:=⟨h2,g⟩
theorem x_dict0 {m:Em} (g:K (.ref mu.length) ⟨loc,mu++[some (emptyM m)]⟩):wpX T (.dict0 m) ⟨loc,mu⟩ K:=g
noncomputable def dicK (N:Nat) (ks:List Nat) (K:D→St→Prop) (ds:List D) (st':St):Prop:=st'.mu[N]? = some (some (.dic [] []))∧K (.ref N) { st' with mu:=st'.mu.set N (some (.dic ks (ds.map (normD st')))) }
theorem x_dict {ks:List Nat} {l:Xs} (g:wpXs T l ⟨loc,mu++[some (.dic [] [])]⟩ (dicK mu.length ks K)):wpX T (.dict ks l) ⟨loc,mu⟩ K:=g
theorem t_dic {N:Nat} {ks:List Nat} {ds:List D} (h:mu[N]? = some (some (.dic [] []))) (g:K (.ref N) ⟨loc,mu.set N (some (.dic ks (ds.map (normD ⟨loc,mu⟩))))⟩):dicK N ks K ds ⟨loc,mu⟩:=⟨h,g⟩
noncomputable def callK (T:Tb) (σ:List Nat) (f:Nat) (K:D→St→Prop) (ds:List D) (st':St):Prop:=callD σ (T.Γ f) ds st' K
theorem x_call {σ:List Nat} {l:Xs} {n f:Nat} (h:T.call[j]? = some (n,f)) (g:wpXs T l st (callK T σ f K)):wpX T (.call j σ l) st K:=by show (match T.call[j]? with | some y=>wpXs T l st fun ds st'=>callD σ (T.Γ y.2) ds st' K | none=>False); rw [h]; exact g
theorem t_call {σ:List Nat} {f:Nat} {ds r:List D} {pt:PT} (hN:T.Γ f = pt) (h1:okMs σ mu = true) (h2:passDs σ ⟨loc,mu⟩ ds = some r) (g:pt r (remS σ mu) fun d mu'=>K (remD (backT σ mu.length) d) ⟨loc,wbM σ mu' mu⟩):callK T σ f K ds ⟨loc,mu⟩:=by
 unfold callK callD; rw [hN]; simp only [h2]; exact ⟨h1,g⟩
theorem x_len (g:wpX T e st fun d st'=>lenU d st' K):wpX T (.len e) st K:=g
theorem x_sorted (g:wpX T e st fun d st'=>sortU d st' K):wpX T (.sorted e) st K:=g
noncomputable def compWK (T:Tb) (t:Tg) (te:Bs) (elt:X) (N:Nat) (l:List F) (st:St) (K:St→Prop):Prop:=compW t (fun st K=>wpT T te st K) (fun st K=>wpX T elt st K) N l st K
noncomputable def compK (T:Tb) (n:Nat) (t:Tg) (te:Bs) (elt:X) (K:D→St→Prop) (d:D) (st':St):Prop:=match deref st' d with
  | .fro (.lst l)=>compW t (fun st K=>wpT T te st K) (fun st K=>wpX T elt st K) st'.mu.length l ⟨List.replicate n none,st'.mu++[some (.lst [])]⟩ fun st2=>K (.ref st'.mu.length) ⟨st'.loc,st2.mu⟩
  | _=>False
theorem x_comp {ns:List Nat} {cl:List (Nat × Nat)} {t:Tg} {te:Bs} {elt it:X} (g:wpX T it st (compK T ns.length t te elt K)):wpX T (.comp ns cl t it te elt) st K:=g
theorem t_comp {n:Nat} {t:Tg} {te:Bs} {elt:X} {d:D} {l:List F} (h:deref ⟨loc,mu⟩ d = .fro (.lst l)) (g:compWK T t te elt mu.length l ⟨List.replicate n none,mu++[some (.lst [])]⟩ fun st2=>K (.ref mu.length) ⟨loc,st2.mu⟩):compK T n t te elt K d ⟨loc,mu⟩:=by
 unfold compK; simp only [h]; exact g
theorem x_frz (g:wpX T e st fun d st'=>frzD d st' K):wpX T (.frz e) st K:=g
theorem f_fro {f:F} (g:K (.fro f) st):frzD (.fro f) st K:=g
theorem f_ref {m:M} {f:F} (h:mu[k]? = some (some m)) (h2:fzF ⟨loc,mu⟩ m = some f) (g:K (.fro f) ⟨loc,mu.set k (some (.fz f))⟩):frzD (.ref k) ⟨loc,mu⟩ K:=by unfold frzD; simp only [h,h2]; exact g
noncomputable def bothK (T:Tb) (b:X) (K:D→St→Prop) (d:D) (st':St):Prop:=match d with
  | .fro (.bool z)=>if z = true then wpX T b st' K else K (.fro (.bool false)) st'
  | _=>False
theorem x_both (g:wpX T a st (bothK T b K)):wpX T (.both a b) st K:=g
theorem t_both (g:frk z (wpX T b st K) (K (.fro (.bool false)) st)):bothK T b K (.fro (.bool z)) st:=g
theorem xs_nil (g:KS [] st):wpXs T .nil st KS:=g
theorem xs_cons {x:X} {l:Xs} (g:wpX T x st fun d st1=>wpXs T l st1 fun ds st2=>KS (d :: ds) st2):wpXs T (.cons x l) st KS:=g
theorem b_cmp {o:Cop} (g:wpX T a st fun x st1=>wpX T b st1 fun y st2=>cmpD o x y fun z=>KB z st2):wpB T (.cmp o a b) st KB:=g
theorem b_cmp2 {o:Cop2} (g:wpX T a st fun x st1=>wpX T b st1 fun y st2=>cmp2 o x y st2 fun z=>KB z st2):wpB T (.cmp2 o a b) st KB:=g
theorem b_not (g:wpB T t st fun z=>KB (!z)):wpB T (.not t) st KB:=g
theorem b_and {l:Bs} (g:wpA T l st KB):wpB T (.and l) st KB:=g
theorem b_or {l:Bs} (g:wpO T l st KB):wpB T (.or l) st KB:=g
theorem b_tru (g:wpX T e st fun d st'=>truD d st' fun z=>KB z st'):wpB T (.tru e) st KB:=g
theorem a_nil (g:KB true st):wpA T .nil st KB:=g
theorem a_cons {l:Bs} (g:wpB T t st fun z st'=>frk z (wpA T l st' KB) (KB false st')):wpA T (.cons t l) st KB:=g
theorem o_nil (g:KB false st):wpO T .nil st KB:=g
theorem o_cons {l:Bs} (g:wpB T t st fun z st'=>frk z (KB true st') (wpO T l st' KB)):wpO T (.cons t l) st KB:=g
theorem if_t (g:C):frk true C C':=g
theorem if_f (g:C'):frk false C C':=g
theorem if_T (h:z = true) (g:C):frk z C C':=by rw [h]; exact g
theorem if_F (h:z = false) (g:C'):frk z C C':=by rw [h]; exact g
theorem if_nt (g:C'):frk (!true) C C':=g
theorem if_by (g1:z = true→C) (g2:z = false→C'):frk z C C':=by cases z; exact g2 rfl; exact g1 rfl
theorem if_n (g:frk z C C'):frk (!z) C' C:=by cases z <;> exact g
section
variable {x y:D} {m n:Int} {fs l:List F} {KD:D→Prop} {KZ:Bool→Prop} {f:F}
theorem v_add (g:K (.fro (.int (m + n))) st):binD .add (.fro (.int m)) (.fro (.int n)) st K:=⟨m,n,rfl,rfl,g⟩
theorem v_sub (g:K (.fro (.int (m - n))) st):binD .sub (.fro (.int m)) (.fro (.int n)) st K:=⟨m,n,rfl,rfl,g⟩
theorem v_mulL (h:m.natAbs < 2 ^ 60) (g:K (.fro (.int (m * n))) st):binD .mulL (.fro (.int m)) (.fro (.int n)) st K:=⟨m,n,rfl,rfl,⟨h,g⟩⟩
theorem v_mulR (h:n.natAbs < 2 ^ 60) (g:K (.fro (.int (m * n))) st):binD .mulR (.fro (.int m)) (.fro (.int n)) st K:=⟨m,n,rfl,rfl,⟨h,g⟩⟩
theorem v_fdiv (h:n ≠ 0∧n.natAbs < 2 ^ 60) (g:K (.fro (.int (m.fdiv n))) st):binD .fdiv (.fro (.int m)) (.fro (.int n)) st K:=⟨m,n,rfl,rfl,⟨h,g⟩⟩
theorem v_mod (h:n ≠ 0) (g:K (.fro (.int (m.fmod n))) st):binD .mod (.fro (.int m)) (.fro (.int n)) st K:=⟨m,n,rfl,rfl,⟨h,g⟩⟩
theorem v_band (g:K (.fro (.int (Builtin.bitAnd m n))) st):binD .band (.fro (.int m)) (.fro (.int n)) st K:=⟨m,n,rfl,rfl,g⟩
theorem v_cat (h1:deref st x = .fro (.lst fs)) (h2:deref st y = .fro (.lst l)) (h:fs.length + l.length≤1000) (g:K (.fro (.lst (fs++l))) st):catD x y st K:=⟨fs,l,h1,h2,h,g⟩
theorem c_lt (g:KZ (decide (m < n))):cmpD .lt (.fro (.int m)) (.fro (.int n)) KZ:=.lt g
theorem c_eqT (h:m = n) (g:KZ true):cmpD .eq (.fro (.int m)) (.fro (.int n)) KZ:=.eq (by rw [h]; simpa using g)
theorem c_eqF (h:decide (m = n) = false) (g:KZ false):cmpD .eq (.fro (.int m)) (.fro (.int n)) KZ:=.eq (by rw [h]; exact g)
theorem c_eq (g:KZ (decide (m = n))):cmpD .eq (.fro (.int m)) (.fro (.int n)) KZ:=.eq g
theorem c_ne (g:KZ (!decide (m = n))):cmpD .ne (.fro (.int m)) (.fro (.int n)) KZ:=.ne g
theorem c_eqS (g:KZ (decide (i = j))):cmpD .eq (.fro (.str i)) (.fro (.str j)) KZ:=.eqS g
theorem c_neS (g:KZ (!decide (i = j))):cmpD .ne (.fro (.str i)) (.fro (.str j)) KZ:=.neS g
theorem c_neB {z':Bool} (g:KZ (z != z')):cmpD .ne (.fro (.bool z)) (.fro (.bool z')) KZ:=.neB g
theorem c_isNot (g:KZ (!isNone f)):cmpD .isNot (.fro f) (.fro .none) KZ:=.isNot g
theorem n_kind {kd at_ fl nid:Int} {a:Nat} {ks:List F} (g:KD (.fro (.int kd))):attrD (.fro (nodeF kd a ks fl at_ nid)) 39 st KD:=.inl ⟨_,_,_,_,rfl,rfl,rfl,g⟩
theorem n_a {kd at_ fl nid:Int} {a:Nat} {ks:List F} (g:KD (.fro (.str a))):attrD (.fro (nodeF kd a ks fl at_ nid)) 40 st KD:=.inl ⟨_,_,_,_,rfl,rfl,rfl,g⟩
theorem n_kids {kd at_ fl nid:Int} {a:Nat} {ks:List F} (g:KD (.fro (.lst ks))):attrD (.fro (nodeF kd a ks fl at_ nid)) 41 st KD:=.inl ⟨_,_,_,_,rfl,rfl,rfl,g⟩
theorem n_flags {kd at_ fl nid:Int} {a:Nat} {ks:List F} (g:KD (.fro (.int fl))):attrD (.fro (nodeF kd a ks fl at_ nid)) 42 st KD:=.inl ⟨_,_,_,_,rfl,rfl,rfl,g⟩
theorem n_nid {kd at_ fl nid:Int} {a:Nat} {ks:List F} (g:KD (.fro (.int nid))):attrD (.fro (nodeF kd a ks fl at_ nid)) 44 st KD:=.inl ⟨_,_,_,_,rfl,rfl,rfl,g⟩
theorem i_lst (h:idxL l m = some f) (g:KD (.fro f)):idxD (.fro (.lst l)) (.fro (.int m)) st KD:=IdxD.lst h g
theorem i_tup (h:idxL l m = some f) (g:KD (.fro f)):idxD (.fro (.tup l)) (.fro (.int m)) st KD:=IdxD.tup h g
theorem i_dic {ks:List Nat} (h:lk ks l k = some f) (g:KD (.fro f)):idxD (.fro (.dic ks l)) (.fro (.str k)) st KD:=IdxD.dic h g
theorem i_mlst {L:List D} {d:D} (h2:deref st (.ref i) = .mut_ i (.lst L)) (h:idxL L m = some d) (g:KD d):idxD (.ref i) (.fro (.int m)) st KD:=by unfold idxD; rw [h2]; exact .mlst h g
theorem i_mdic {ks:List Nat} {L:List D} {d:D} (h2:deref st (.ref i) = .mut_ i (.dic ks L)) (h:lk ks L k = some d) (g:KD d):idxD (.ref i) (.fro (.str k)) st KD:=by unfold idxD; rw [h2]; exact .mdic h g
theorem u_b (g:KZ z):truD (.fro (.bool z)) st KZ:=.inl ⟨z,rfl,g⟩
theorem u_l (h:l.length≤1000) (g:KZ (!l.isEmpty)):truD (.fro (.lst l)) st KZ:=.inr ⟨l,rfl,h,g⟩
theorem e_in {ks:List Nat} (g:KZ (decide (k∈ks))):cmp2 .isIn (.fro (.str k)) (.fro (.dic ks l)) st KZ:=InD.dic g
theorem e_inT {ns:List Int} (h:intsF l = some ns) (g:KZ (ns.any (· == m))):cmp2 .isIn (.fro (.int m)) (.fro (.tup l)) st KZ:=InD.tup h g
theorem e_ninT {ns:List Int} (h:intsF l = some ns) (g:KZ (!ns.any (· == m))):cmp2 .notIn (.fro (.int m)) (.fro (.tup l)) st KZ:=InD.tup (K:=fun z=>KZ (!z)) h g
theorem e_eqL {ns ms:List Int} (h1:deref st x = .fro (.lst l)) (h2:deref st y = .fro (.lst fs)) (h3:intsF l = some ns) (h4:intsF fs = some ms) (g:KZ (decide (ns = ms))):cmp2 .eqL x y st KZ:=⟨l,fs,ns,ms,h1,h2,h3,h4,g⟩
theorem e_neL {ns ms:List Int} (h1:deref st x = .fro (.lst l)) (h2:deref st y = .fro (.lst fs)) (h3:intsF l = some ns) (h4:intsF fs = some ms) (g:KZ (!decide (ns = ms))):cmp2 .neL x y st KZ:=⟨l,fs,ns,ms,h1,h2,h3,h4,g⟩
theorem e_ninP {l:List (Nat × Bool)} {z:Bool} {KZ:Bool→Prop} {st:St} {k i:Nat} (h2:deref st (.ref i) = .mut_ i (.pd l)) (g:KZ (!l.contains (k,z))):cmp2 .notIn (.fro (.tup [.str k,.bool z])) (.ref i) st KZ:=by show InD _ _ _; rw [h2]; exact .pd g
theorem v_setP {KT:St→Prop} {l:List (Nat × Bool)} {o v:D} {z:Bool} (h:deref ⟨loc,mu⟩ o = .mut_ k (.pd l)) (h2:Nat.ble l.length 1000 = true) (g:KT ⟨loc,mu.set k (some (.pd (if l.contains (j,z) then l else l++[(j,z)])))⟩):setD o (.fro (.tup [.str j,.bool z])) v ⟨loc,mu⟩ KT:=by unfold setD; rw [h]; exact .pd h2 g
theorem v_cellS {KT:St→Prop} {x:Option D} {d:D} (h:mu[i]? = some (some (.cell x))) (g:KT ⟨loc,mu.set i (some (.cell (some (normD ⟨loc,mu⟩ d))))⟩):cellD i d ⟨loc,mu⟩ KT:=by unfold cellD; simp only [h]; exact g
theorem p_pick {L:List Nat} {s:Str} (h:idxL L m = some k) (g:KD (.fro (.str k))):pickD s L (.fro (.int m)) KD:=⟨m,k,rfl,h,g⟩
end
noncomputable def seqK (T:Tb) (ok:Nat→Nat→Bool) (l:Ys) (K:FD→St→Prop) (fd:FD) (st':St):Prop:=match fd with
  | .next=>wpYs T ok l st' K
  | fd=>K fd st'
noncomputable def asgK (i:Nat) (K:FD→St→Prop) (d:D) (st':St):Prop:=K .next { st' with loc:=st'.loc.set i (some d) }
theorem ys_nil (g:KY .next st):wpYs T ok .nil st KY:=g
theorem ys_cons {y:Y} {l:Ys} (g:wpY T ok y st (seqK T ok l KY)):wpYs T ok (.cons y l) st KY:=g
theorem ys_ghost {m:M} {f:F} {l:Ys} (h:mu[k]? = some (some m)) (h2:fzF ⟨loc,mu⟩ m = some f) (g:wpYs T ok l ⟨loc,mu.set k (some (.fz f))⟩ KY):wpYs T ok (.ghost k l) ⟨loc,mu⟩ KY:=by unfold wpYs fzK; simp only [h,h2]; exact g
theorem s_next {l:Ys} (g:wpYs T ok l st KY):seqK T ok l KY .next st:=g
theorem s_ret {l:Ys} {d:D} (g:KY (.ret d) st):seqK T ok l KY (.ret d) st:=g
theorem y_assign (g:wpX T e st (asgK i KY)):wpY T ok (.assign i e) st KY:=g
theorem s_asg {d:D} (g:KY .next ⟨loc.set i (some d),mu⟩):asgK i KY d ⟨loc,mu⟩:=g
theorem y_assignC (g:wpX T e st fun d st'=>cellD i d st' fun st2=>KY .next st2):wpY T ok (.assignC i e) st KY:=g
theorem y_ite {x y:Ys} (g:wpB T t st fun z st'=>frk z (wpYs T ok x st' KY) (wpYs T ok y st' KY)):wpY T ok (.ite t x y) st KY:=g
theorem y_ret (g:wpX T e st fun d st'=>KY (.ret d) st'):wpY T ok (.ret e) st KY:=g
noncomputable def forYs (T:Tb) (ok:Nat→Nat→Bool) (t:Tg) (b:Ys) (l:List F) (st:St) (K:FD→St→Prop):Prop:=forW t (fun st K=>wpYs T ok b st K) l st K
noncomputable def forK (T:Tb) (ok:Nat→Nat→Bool) (t:Tg) (b:Ys) (K:FD→St→Prop) (d:D) (st':St):Prop:=match deref st' d with
  | .fro (.lst l)=>forW t (fun st K=>wpYs T ok b st K) l st' K
  | .fro (.tup l)=>oneT t = true∧forW t (fun st K=>wpYs T ok b st K) l st' K
  | .fro (.dic ks _)=>oneT t = true∧forW t (fun st K=>wpYs T ok b st K) (ks.map .str) st' K
  | _=>False
theorem y_for {t:Tg} {b:Ys} (g:wpX T e st (forK T ok t b KY)):wpY T ok (.for_ t e b) st KY:=g
theorem g_lst {t:Tg} {b:Ys} {l:List F} {d:D} (h:deref st d = .fro (.lst l)) (g:forYs T ok t b l st KY):forK T ok t b KY d st:=by unfold forK; simp only [h]; exact g
theorem g_tup {t:Tg} {b:Ys} {l:List F} {d:D} (h:deref st d = .fro (.tup l)) (h1:oneT t = true) (g:forYs T ok t b l st KY):forK T ok t b KY d st:=by unfold forK; simp only [h]; exact ⟨h1,g⟩
theorem g_dic {t:Tg} {b:Ys} {ks:List Nat} {l:List F} {d:D} (h:deref st d = .fro (.dic ks l)) (h1:oneT t = true) (g:forYs T ok t b (ks.map .str) st KY):forK T ok t b KY d st:=by unfold forK; simp only [h]; exact ⟨h1,g⟩
noncomputable def rngK (T:Tb) (ok:Nat→Nat→Bool) (t:Tg) (b:Ys) (K:FD→St→Prop) (d:D) (st':St):Prop:=match d with
  | .fro (.int n)=>(0≤n∧n≤1000)∧forW t (fun st K=>wpYs T ok b st K) (rangeF n) st' K
  | _=>False
theorem y_forR {t:Tg} {b:Ys} (g:wpX T e st (rngK T ok t b KY)):wpY T ok (.forR t e b) st KY:=g
theorem g_rng {t:Tg} {b:Ys} {n:Int} (h:0≤n∧n≤1000) (g:forYs T ok t b (rangeF n) st KY):rngK T ok t b KY (.fro (.int n)) st:=⟨h,g⟩
theorem for_nil {t:Tg} {b:Ys} (g:KY .next st):forYs T ok t b [] st KY:=g
noncomputable def forN (T:Tb) (ok:Nat→Nat→Bool) (t:Tg) (b:Ys) (l:List F) (K:FD→St→Prop) (fd:FD) (st2:St):Prop:=match fd with
  | .next=>forYs T ok t b l st2 K
  | .cont=>forYs T ok t b l st2 K
  | .brk=>K .next st2
  | .ret d=>K (.ret d) st2
theorem for_one {b:Ys} {f:F} {l:List F} (g:wpYs T ok b ⟨loc.set i (some (.fro f)),mu⟩ (forN T ok (.one i) b l KY)):forYs T ok (.one i) b (f :: l) ⟨loc,mu⟩ KY:=g
theorem for_two {b:Ys} {f f':F} {l:List F} (g:wpYs T ok b ⟨(loc.set i (some (.fro f))).set j (some (.fro f')),mu⟩ (forN T ok (.many [i,j]) b l KY)):forYs T ok (.many [i,j]) b (.tup [f,f'] :: l) ⟨loc,mu⟩ KY:=g
theorem fn_next {t:Tg} {b:Ys} {l:List F} (g:forYs T ok t b l st KY):forN T ok t b l KY .next st:=g
theorem fn_ret {t:Tg} {b:Ys} {l:List F} {d:D} (g:KY (.ret d) st):forN T ok t b l KY (.ret d) st:=g
noncomputable def appO (T:Tb) (e:X) (K:FD→St→Prop) (d:D) (st1:St):Prop:=isLst d st1∧wpX T e st1 fun x st2=>appD d x st2 K
noncomputable def extO (T:Tb) (e:X) (K:FD→St→Prop) (d:D) (st1:St):Prop:=isLst d st1∧wpX T e st1 fun x st2=>extD d x st2 K
theorem y_app {o:X} (g:wpX T o st (appO T e KY)):wpY T ok (.app o e) st KY:=g
theorem y_ext {o:X} (g:wpX T o st (extO T e KY)):wpY T ok (.ext o e) st KY:=g
theorem t_app {d:D} {L:List D} (h:deref st d = .mut_ k (.lst L)) (g:wpX T e st fun x st2=>appD d x st2 KY):appO T e KY d st:=⟨⟨k,L,h⟩,g⟩
theorem t_ext {d:D} {L:List D} (h:deref st d = .mut_ k (.lst L)) (g:wpX T e st fun x st2=>extD d x st2 KY):extO T e KY d st:=⟨⟨k,L,h⟩,g⟩
theorem v_app {d:D} {f:F} {L:List D} (h:deref ⟨loc,mu⟩ d = .mut_ k (.lst L)) (h2:Nat.ble L.length 1000 = true) (g:KY .next ⟨loc,mu.set k (some (.lst (L++[.fro f])))⟩):appD d (.fro f) ⟨loc,mu⟩ KY:=⟨k,L,h,h2,g⟩
theorem v_ext {d x:D} {L:List D} {l:List F} (h:deref ⟨loc,mu⟩ d = .mut_ k (.lst L)) (h1:deref ⟨loc,mu⟩ x = .fro (.lst l)) (h2:L.length + l.length≤1000) (g:KY .next ⟨loc,mu.set k (some (.lst (L++l.map .fro)))⟩):extD d x ⟨loc,mu⟩ KY:=⟨k,L,l,h,h1,h2,g⟩
theorem y_setI {o i v:X} (g:wpX T v st fun x st1=>wpX T o st1 fun y st2=>wpX T i st2 fun z st3=>setD y z x st3 fun st'=>KY .next st'):wpY T ok (.setI o i v) st KY:=g
theorem v_set {KT:St→Prop} {ks:List Nat} {L:List D} {o v:D} (h:deref ⟨loc,mu⟩ o = .mut_ k (.dic ks L)) (h1:nodupB ks = true) (h2:Nat.ble ks.length 1000 = true) (g:KT ⟨loc,mu.set k (some (.dic (putK ks j) (putV ks L j (normD ⟨loc,mu⟩ v))))⟩):setD o (.fro (.str j)) v ⟨loc,mu⟩ KT:=by unfold setD; rw [h]; exact .dic h1 h2 g
theorem v_setN {KT:St→Prop} {ks:List Int} {L:List D} {o v:D} {n:Int} (h:deref ⟨loc,mu⟩ o = .mut_ k (.dicI ks L)) (h1:nodupI ks = true) (h2:Nat.ble ks.length 1000 = true) (g:KT ⟨loc,mu.set k (some (.dicI (putKI ks n) (putVI ks L n (normD ⟨loc,mu⟩ v))))⟩):setD o (.fro (.int n)) v ⟨loc,mu⟩ KT:=by unfold setD; rw [h]; exact .dicI h1 h2 g
theorem y_setA {o v:X} (g:wpX T v st fun d st1=>wpX T o st1 fun y st2=>setAD ok y k d st2 fun st'=>KY .next st'):wpY T ok (.setA o k v) st KY:=g
theorem v_setA {KT:St→Prop} {C:Nat} {ks:List Nat} {L:List D} {o v:D} (h:deref ⟨loc,mu⟩ o = .mut_ k (.inst C ks L)) (h1:ok C j = true) (h2:Nat.ble ks.length 500 = true) (g:KT ⟨loc,mu.set k (some (.inst C (putK ks j) (putV ks L j (normD ⟨loc,mu⟩ v))))⟩):setAD ok o j v ⟨loc,mu⟩ KT:=⟨k,C,ks,L,h,h1,h2,g⟩
noncomputable def runK (K:FD→St→Prop) (d:D) (st':St):Prop:=match d with
  | .fro .none=>K .next st'
  | _=>False
theorem y_run' (g:wpX T e st (runK KY)):wpY T ok (.run e) st KY:=g
theorem t_run (g:KY .next st):runK KY (.fro .none) st:=g
noncomputable def asgCK (T:Tb) (i n:Nat) (t:Tg) (te:Bs) (elt:X) (K:FD→St→Prop) (d:D) (st':St):Prop:=match deref st' d with
  | .fro (.lst l)=>compW t (fun st K=>wpT T te st K) (fun st K=>wpX T elt st K) st'.mu.length l ⟨List.replicate n none,st'.mu++[some (.lst [])]⟩ fun st2=>K .next ⟨st'.loc.set i (some (.ref st'.mu.length)),st2.mu⟩
  | _=>False
theorem y_assignK {ns:List Nat} {cl:List (Nat × Nat)} {t:Tg} {te:Bs} {elt it:X} (g:wpX T it st (asgCK T i ns.length t te elt KY)):wpY T ok (.assignK i ns cl t it te elt) st KY:=g
theorem t_asgC {n:Nat} {t:Tg} {te:Bs} {elt:X} {d:D} {l:List F} (h:deref ⟨loc,mu⟩ d = .fro (.lst l)) (g:compWK T t te elt mu.length l ⟨List.replicate n none,mu++[some (.lst [])]⟩ fun st2=>KY .next ⟨loc.set i (some (.ref mu.length)),st2.mu⟩):asgCK T i n t te elt KY d ⟨loc,mu⟩:=by
 unfold asgCK; simp only [h]; exact g
theorem e_none {n:Nat} {ex:List Nat} {K:D→List (Option M)→Prop} (h:okMs (List.range n++ex) mu = true) (g:K (.fro .none) (remS (List.range n++ex) mu)):endK n ex K .next ⟨loc,mu⟩:=⟨h,g⟩
theorem e_ret {n:Nat} {ex:List Nat} {K:D→List (Option M)→Prop} {d d':D} (h:okMs (List.range n++ex) mu = true) (h2:passDs (List.range n++ex) ⟨loc,mu⟩ [d] = some [d']) (g:K d' (remS (List.range n++ex) mu)):endK n ex K (.ret d) ⟨loc,mu⟩:=⟨h,by simp only [h2]; exact g⟩
end
noncomputable abbrev Side:=List (Nat × Int × List Int)
noncomputable def lkS:Side→Nat→Option (Int × List Int)
 | (k',x) :: s,k=>if k' = k then some x else lkS s k
 | [],_=>none
noncomputable def setS:Side→Nat→(Int × List Int)→Side
 | (k',x) :: s,k,y=>if k' = k then (k',y) :: s else (k',x) :: setS s k y
 | [],_,_=>[]
theorem setS_hit {s:Side} {k:Nat} {x y:Int × List Int}:setS ((k,x) :: s) k y = (k,y) :: s:=if_pos rfl
theorem setS_miss {s:Side} {k' k:Nat} {x y:Int × List Int} (q:¬ k' = k):setS ((k',x) :: s) k y = (k',x) :: setS s k y:=if_neg q
theorem valueAt_hit {x:Str} {v:Value} {l:List (Str × Value)}:valueAt ((x,v) :: l) x = some v:=by unfold valueAt; rw [List.find?_cons_of_pos (by simp)]; rfl
theorem valueAt_miss {x y:Str} {v:Value} {l:List (Str × Value)} (q:¬ x = y):valueAt ((x,v) :: l) y = valueAt l y:=by unfold valueAt; rw [List.find?_cons_of_neg (by simpa using q)]
theorem SideL.lt {w:World} {h:Heap} {k:Nat} {y:Int × List Int} {sd:Side} {kvs:List (Str × Value)} {fp:List Addr} (x:SideL w h sd kvs fp):lkS sd k = some y→k < nmL.length:=by
 induction x with
 | nil=>exact fun e=>nos e
 | @cons k' c ns s kvs a b fp t n m vs hk ea eb dn r ih =>
  intro e
  change (if k' = k then some (c,ns) else lkS s k) = some y at e
  by_cases q:k' = k
  ·exact q ▸ hk
  ·rw [if_neg q] at e; exact ih e
theorem SideL.find {w:World} {h:Heap} {k:Nat} {c:Int} {ns:List Int} {sd:Side} {kvs:List (Str × Value)} {fp:List Addr} (x:SideL w h sd kvs fp):lkS sd k = some (c,ns) →
  E6 fun a1 b1 t n vs m=>A8 (valueAt kvs (nm k) = some (.ref a1)) (a1∈fp) (b1∈fp) (h.get? a1 = some (lobj [.int c t,.ref b1] n)) (h.get? b1 = some (lobj vs m)) (Dens w h (ns.map .int) vs) (fp.Nodup→∀ (h':Heap) c' t' n',(∀ b∈fp,b ≠ a1→∀ o,h.get? b = some o→h'.get? b = some o)→h'.get? a1 = some (lobj [.int c' t',.ref b1] n')→SideL w h' (setS sd k (c',ns)) kvs fp) (fp.Nodup→∀ (h':Heap) ns' vs' m',(∀ b∈fp,b ≠ b1→∀ o,h.get? b = some o→h'.get? b = some o)→h'.get? b1 = some (lobj vs' m')→Dens w h' (ns'.map .int) vs'→SideL w h' (setS sd k (c,ns')) kvs fp):=by
 induction x with
 | nil=>exact fun e=>nos e
 | @cons k' c0 ns0 s kvs a b fp t n m vs e0 e3 e4 e5 r ih =>
  intro e
  change (if k' = k then some (c0,ns0) else lkS s k) = some (c,ns) at e
  by_cases q:k' = k
  ·rw [if_pos q] at e
   obtain ⟨rfl,rfl⟩:=Prod.mk.inj (Option.some.inj e)
   subst q
   refine ⟨a,b,t,n,vs,m,valueAt_hit,.head _,.tail _ (.head _),e3,e4,e5,fun nd h' c' t' n' hk ho=>?_,fun nd h' ns' vs' m' hk ho dn=>?_⟩
   ·have n1:=(List.nodup_cons.mp nd).1
    rw [setS_hit]
    exact .cons e0 ho (hk b (.tail _ (.head _)) (fun z=>n1 (by rw [← z]; exact .head _)) _ e4) (densI e5) (r.frame fun b' hb o q=>hk b' (.tail _ (.tail _ hb)) (fun z=>n1 (by rw [← z]; exact .tail _ hb)) o q)
   ·obtain ⟨n1,nd2⟩:=List.nodup_cons.mp nd
    rw [setS_hit]
    exact .cons e0 (hk a (.head _) (fun z=>n1 (by rw [z]; exact .head _)) _ e3) ho dn (r.frame fun b' hb o q=>hk b' (.tail _ (.tail _ hb)) (fun z=>(List.nodup_cons.mp nd2).1 (z ▸ hb)) o q)
  ·rw [if_neg q] at e
   obtain ⟨a1,b1,t1,n1,vs1,m1,g1,g2,g3,g4,g5,g6,g7,g8⟩:=ih e
   refine ⟨a1,b1,t1,n1,vs1,m1,(valueAt_miss fun z=>q (nm_inj e0 (r.lt e) z)).trans g1,.tail _ (.tail _ g2),.tail _ (.tail _ g3),g4,g5,g6,fun nd h' c' t' n' hk ho=>?_,fun nd h' ns' vs' m' hk ho dn=>?_⟩ <;> obtain ⟨d1,nd2⟩:=List.nodup_cons.mp nd <;> obtain ⟨d2,nd3⟩:=List.nodup_cons.mp nd2 <;> rw [setS_miss q]
   ·exact .cons e0 (hk a (.head _) (fun z=>d1 (by rw [z]; exact .tail _ g2)) _ e3) (hk b (.tail _ (.head _)) (fun z=>d2 (by rw [z]; exact g2)) _ e4) (densI e5) (g7 nd3 h' c' t' n' (fun b' hb=>hk b' (.tail _ (.tail _ hb))) ho)
   ·exact .cons e0 (hk a (.head _) (fun z=>d1 (by rw [z]; exact .tail _ g3)) _ e3) (hk b (.tail _ (.head _)) (fun z=>d2 (by rw [z]; exact g3)) _ e4) (densI e5) (g8 nd3 h' ns' vs' m' (fun b' hb=>hk b' (.tail _ (.tail _ hb))) ho dn)
theorem SideL.miss {w:World} {h:Heap} {k:Nat} (hk:k < nmL.length) {sd:Side} {kvs:List (Str × Value)} {fp:List Addr} (x:SideL w h sd kvs fp):(valueAt kvs (nm k)).isSome = (lkS sd k).isSome:=by
 induction x with
 | nil=>rfl
 | @cons k' c0 ns0 s kvs a b fp t n m vs e0 e3 e4 e5 r ih =>
  show _ = (if k' = k then some (c0,ns0) else lkS s k).isSome
  by_cases q:k' = k
  ·rw [if_pos q,← q,valueAt_hit]; rfl
  ·rw [if_neg q,valueAt_miss fun z=>q (nm_inj e0 hk z)]; exact ih
theorem SideL.snoc {w:World} {h:Heap} {k:Nat} {a1 b1:Addr} {t:Tok} {n m:Nat} (hk:k < nmL.length) (o1:h.get? a1 = some (lobj [.int 0 t,.ref b1] n)) (o2:h.get? b1 = some (lobj [] m)) {sd:Side} {kvs:List (Str × Value)} {fp:List Addr} (x:SideL w h sd kvs fp) :
  SideL w h (sd++[(k,0,[])]) (kvs++[(nm k,.ref a1)]) (fp++[a1,b1]):=by
 induction x with
 | nil=>exact .cons hk o1 o2 dens_nil .nil
 | cons e0 e3 e4 e5 r ih=>exact .cons e0 e3 e4 e5 ih
theorem SideL.len {w:World} {h:Heap} {sd:Side} {kvs:List (Str × Value)} {fp:List Addr} (x:SideL w h sd kvs fp):kvs.length = sd.length:=by
 induction x with
 | nil=>rfl
 | cons e0 e3 e4 e5 r ih=>exact congrArg Nat.succ ih
section
variable {prog:Program} {w:World} {A:Around} {E:Value→Shared→Prop} {s:Shared}
theorem setItem_exact {l:Addr} {items:List Value} {n:Nat} {k:Int} {t:Tok} {v:Value} {Q:Unit→Shared→Prop} (ho:s.heap.get? l = some (lobj items n)) (h0:0≤k) (hfit:k < 2 ^ 63) (hn:k.toNat < items.length)
  (hQ:Q () { s with heap:=s.heap.update l (Obj.mapSeq (·.setIfInBounds k.toNat v)) }):wpAny (model prog w) A (setItem (.ref l) (.int k t) v) Q E s:=by
 have hl:s.heap.IsList l items.toArray:=list_of_lobj ho
 have hd:(lobj items n).data = .seq items.toArray n:=rfl
 unfold setItem
 try with_reducible refine wpAny_holding ?_
 first | refine wpAny_bind (wpAny_pure ?_) | skip
 refine wpAny_bind (wpAny_sequenceKey hl.typeIs (by decide) ?_)
 refine wpAny_bind (wpAny_callSpecial?_slot (name:=Str.ofString "__setitem__") hl.typeIs slot_list_setitem (wpAny_call_entry slot_list_setitem hl.typeIs entry_list_setitem ?_ (args_list_setitem _ _ _)))
 show wpAny _ _ (Builtin.List.listSubscript? (.int k t) >>= _) _ _ s
 refine wpAny_bind (wpAny_listSubscript_int (fitsIndex_of h0 hfit) ?_)
 clear hfit
 obtain ⟨j,rfl⟩:=Int.eq_ofNat_of_zero_le h0
 have hx:items.toArray[j]? = some (items[j]'hn):=by simp at hn; simp [hn]
 show wpAny _ _ ((seqItemAt l j >>= fun r=>pure (r.map (j,·))) >>= _) _ _ s
 refine wpAny_bind (wpAny_bind (wpAny_seqItemAt ho hd (wpAny_pure ?_)))
 rw [hx]
 show wpAny _ _ (setSeqItemAt l j v >>= _) _ _ s
 refine wpAny_bind (wpAny_setSeqItemAt ho hd ?_)
 first
  | exact wpAny_bind (wpAny_pure (wpAny_pure ⟨.none,rfl,wpAny_pure hQ⟩))
  | exact wpAny_pure ⟨.none,rfl,wpAny_pure hQ⟩
end
noncomputable def layN:List Nat:=[230,58,64,231]
section
variable {c:Cx} {A:Around} {st:St}
theorem lay_nm (hc:c.names = layN.map nm):c.names[0]? = some s230∧c.names[1]? = some s58∧c.names[2]? = some s64∧c.names[3]? = some s231:=by
 rw [hc]; exact ⟨rfl,rfl,rfl,rfl⟩
theorem hd230:(s230 == ("__debug__":Str)) = false:=by decide +kernel
theorem hd58:(s58 == ("__debug__":Str)) = false:=by decide +kernel
theorem hd64:(s64 == ("__debug__":Str)) = false:=by decide +kernel
theorem hd231:(s231 == ("__debug__":Str)) = false:=by decide +kernel
structure LayAt (st:St) (i k:Nat) (sd:Side):Prop where
 l0:st.loc[0]? = some (some (.ref i))
 l1:st.loc[1]? = some (some (.fro (.str k)))
 m:st.mu[i]? = some (some (.side sd))
theorem lay_side {p:Vw} {h:Heap} {i:Nat} {sd:Side} (a:At c st p h) (hm:st.mu[i]? = some (some (.side sd))) :
  E3 fun a0 kvs fp'=>A6 (p.ρ[i]? = some a0) (p.fps[i]? = some (a0 :: fp')) ((a0 :: fp').Nodup) (h.DictOf (strKind PM c.w) a0 kvs) (SideL c.w h sd kvs fp') ((a0 == sysModules) = false):=by
 obtain ⟨a0,fp,r0,f0,kvs,fp',rfl,nd,hd,sl⟩:=a.mus i _ hm
 refine ⟨a0,kvs,fp',r0,f0,nd,hd,sl,?_⟩
 have:=(a.off i _ f0 a0 (by simp)).1
 obtain ⟨o,ho⟩:=a.gnd.sys
 simp only [beq_eq_false_iff_ne,ne_eq]
 intro z; rw [z,ho] at this; cases this
theorem lay_name {x:Str} {j:Nat} {d:D} {pos:Pos} {s:Shared} {p:Vw} {Q:Value→Shared→Prop} (a:At c st p s.heap) (hi:c.names[j]? = some x) (hd:st.loc[j]? = some (some d)) (hdb:(x == ("__debug__":Str)) = false)
  (k:∀ v tk,DenD c.w p.ρ p.G d v→Q v { s with toks:=tk }):wpAny (model PM c.w) A (eval (.Name x pos) c.env) Q NoE s:=by
 obtain ⟨m,n,r⟩:=a.ns
 obtain ⟨v,e,q⟩:=r j x d hi hd
 exact wpAny_Name (wpAny_loadName_local a.kind (a.nms j x hi) n e (k v s.toks q)) hdb
theorem layT (hc:c.names = layN.map nm) {p1 p2 p3:Pos} {whole:Sem Value}:Sb c A (isTrue (.Compare (.Name s58 p1) [.NotIn] [.Name s230 p2] p3) c.env whole) st fun K=>E3 fun i k sd=>LayAt st i k sd∧K (!(lkS sd k).isSome) st:=by
 intro s p K Q a w kk
 obtain ⟨i,k,sd,⟨l0,l1,lm⟩,w⟩:=w
 obtain ⟨n0,n1,n2,n3⟩:=lay_nm hc
 obtain ⟨a0,kvs,fp',r0,f0,nd,hd,sl,hsm⟩:=lay_side a lm
 refine wpAny_isTrue_Compare1 (lay_name a n1 l1 hd58 fun v1 tk1 d1=>?_) (marks_of rfl)
 refine lay_name (s:={ s with toks:=tk1 }) a n0 l0 hd230 fun v2 tk2 d2=>?_
 obtain ⟨hk,t,rfl⟩:=d1
 obtain ⟨b,e,rfl⟩:=d2
 rw [r0] at e; cases e
 refine wpAny_notIn_of (s:={ s with toks:=tk2 }) (strKind_is PM c.w _ _) hsm hd.mapOf ?_
 refine wpAny_truthy_bool (kk _ st s.heap _ p ?_ a (.refl p))
 have:=SideL.miss hk sl
 show K (!(valueAt kvs (nm k)).isSome) st
 rw [this]; exact w
theorem lay_item (hc:c.names = layN.map nm) {i k:Nat} {sd:Side} {cn:Int} {ns:List Int} {s:Shared} {p:Vw} {p1 p2 p3:Pos} (a:At c st p s.heap) (la:LayAt st i k sd) (hl:lkS sd k = some (cn,ns)) :
  E9 fun a0 fp' a1 b1 t n vs m kvs=>A12 (p.ρ[i]? = some a0) (p.fps[i]? = some (a0 :: fp')) ((a0 :: fp').Nodup) (s.heap.DictOf (strKind PM c.w) a0 kvs) (a1∈fp') (b1∈fp') (s.heap.get? a1 = some (lobj [.int cn t,.ref b1] n)) (s.heap.get? b1 = some (lobj vs m)) (Dens c.w s.heap (ns.map .int) vs) (∀ (h':Heap) c' t' n',(∀ b∈fp',b ≠ a1→∀ o,s.heap.get? b = some o→h'.get? b = some o)→h'.get? a1 = some (lobj [.int c' t',.ref b1] n')→SideL c.w h' (setS sd k (c',ns)) kvs fp') (∀ (h':Heap) ns' vs' m',(∀ b∈fp',b ≠ b1→∀ o,s.heap.get? b = some o→h'.get? b = some o)→h'.get? b1 = some (lobj vs' m')→Dens c.w h' (ns'.map .int) vs'→SideL c.w h' (setS sd k (cn,ns')) kvs fp') (∀ (Q:Value→Shared→Prop) tk0,(∀ tk,Q (.ref a1) { s with toks:=tk })→wpAny (model PM c.w) A (eval (.Subscript (.Name s230 p1) (.Name s58 p2) p3) c.env) Q NoE { s with toks:=tk0 }):=by
 obtain ⟨l0,l1,lm⟩:=la
 obtain ⟨n0,n1,n2,n3⟩:=lay_nm hc
 obtain ⟨a0,kvs,fp',r0,f0,nd,hd,sl,hsm⟩:=lay_side a lm
 obtain ⟨a1,b1,t,n,vs,m,g1,g2,g3,g4,g5,g6,g7,g8⟩:=sl.find hl
 refine ⟨a0,fp',a1,b1,t,n,vs,m,kvs,r0,f0,nd,hd,g2,g3,g4,g5,g6,g7 (List.nodup_cons.mp nd).2,g8 (List.nodup_cons.mp nd).2,fun Q tk0 q=>?_⟩
 refine Subscript_ (lay_name (s:={ s with toks:=tk0 }) a n0 l0 hd230 fun v1 tk1 d1=>?_)
 refine lay_name (s:={ s with toks:=tk1 }) a n1 l1 hd58 fun v2 tk2 d2=>?_
 obtain ⟨hk,tt,rfl⟩:=d2
 obtain ⟨b,e,rfl⟩:=d1
 rw [r0] at e; cases e
 have hd':({ s with toks:=tk2 }:Shared).heap.DictOf (strKind PM c.w) a0 kvs:=hd
 exact tail_any hd'.typeIs slot_dict_getitem.lookup (wpAny_getItem_of (strKind_is PM c.w _ _) hd'.mapOf g1 (q _)) (subscripted_of rfl)
theorem lay_upd {i:Nat} {sd':Side} {p:Vw} {h h':Heap} {a0 b0:Addr} {fp':List Addr} {kvs:List (Str × Value)} (a:At c st p h) (r0:p.ρ[i]? = some a0) (f0:p.fps[i]? = some (a0 :: fp')) (nd:(a0 :: fp').Nodup) (hd:h.DictOf (strKind PM c.w) a0 kvs) (hb:b0∈fp')
  (hk:∀ b,b ≠ b0→∀ o,h.get? b = some o→h'.get? b = some o) (ho:∃ o,h'.get? b0 = some o) (sl:SideL c.w h' sd' kvs fp'):At c { st with mu:=st.mu.set i (some (.side sd')) } p h':=by
 obtain ⟨o,es,ep,hg,r⟩:=hd
 have ne:a0 ≠ b0:=fun z=>(List.nodup_cons.mp nd).1 (z ▸ hb)
 have y:=a.updM (h':=h') (m:=.side sd') (fp':=a0 :: fp') r0 f0 (fun b o hn e=>hk b (fun z=>hn (by simp [z,hb])) o e)
  (fun b hb'=>by
   by_cases z:b = b0
   ·exact z ▸ ho
   ·obtain ⟨o,q⟩:=(a.off i _ f0 b hb').2; exact ⟨o,hk b z o q⟩)
  ⟨kvs,fp',rfl,nd,⟨o,es,ep,hk a0 ne o hg,r⟩,sl⟩ (fun b hb=>.inl hb)
 rw [set_self f0] at y
 exact y
end
section
variable {c:Cx} {st:St} {p:Vw} {h h':Heap}
theorem At.updN (x:At c st p h) {k:Nat} {m:M} {a:Addr} {fp fp':List Addr} (hr:p.ρ[k]? = some a) (hfp:p.fps[k]? = some fp) (hk:∀ b o,b ∉ fp→h.get? b = some o→h'.get? b = some o)
  (hl:∀ b∈fp,∃ o,h'.get? b = some o) (hm:MH c.w p.ρ p.G h' m a fp') (hf:∀ b∈fp',b∈fp∨(c.h₀.get? b = none∧p.G.get? b = none∧b ≠ c.env.locals∧(∃ o,h'.get? b = some o)∧∀ (j:Nat) fi,p.fps[j]? = some fi→b ∉ fi)) :
  At c { st with mu:=st.mu.set k (some m) } { p with fps:=p.fps.set k fp' } h':=by
 have kl:k < p.fps.length:=(List.getElem?_eq_some_iff.mp hfp).1
 have up:∀ (i:Nat) fi,(p.fps.set k fp')[i]? = some fi→(i ≠ k∧p.fps[i]? = some fi)∨(i = k∧fi = fp'):=by
  intro i fi e
  by_cases q:i = k
  ·subst q
   rw [List.getElem?_set_self kl] at e
   exact .inr ⟨rfl,(Option.some.inj e).symm⟩
  ·rw [List.getElem?_set_ne (Ne.symm q)] at e
   exact .inl ⟨q,e⟩
 have offp:∀ b∈fp',p.G.get? b = none∧b ≠ c.env.locals:=by
  intro b hb
  rcases hf b hb with q | q
  ·exact ⟨(x.off k fp hfp b q).1,fun z=>x.frF k fp hfp (z ▸ q)⟩
  ·exact ⟨q.2.1,q.2.2.1⟩
 refine { x with sub:=?_,keep:=?_,live:=?_,ns:=?_,frF:=?_,len1:=?_,len2:=?_,mus:=?_,sep:=?_,off:=?_,own:=?_ }
 ·intro b o e
  refine hk b o (fun q=>?_) (x.sub b o e)
  rw [(x.off k fp hfp b q).1] at e; cases e
 ·intro b o e n l
  refine hk b o (fun q=>?_) (x.keep b o e n l)
  rcases x.own k fp hfp b q with r | r
  ·exact n (getD_flatten r)
  ·rw [r] at e; cases e
 ·intro b o e
  obtain ⟨o',q⟩:=x.live b o e
  by_cases z:b∈fp
  ·exact hl b z
  ·exact ⟨o',hk _ _ z q⟩
 ·obtain ⟨mm,⟨o,es,ep,ho,r⟩,b1⟩:=x.ns
  exact ⟨mm,⟨o,es,ep,hk _ _ (x.frF k fp hfp) ho,r⟩,b1⟩
 ·intro i fi e hb
  rcases up i fi e with ⟨_,q⟩ | ⟨_,rfl⟩
  ·exact x.frF i fi q hb
  ·exact (offp _ hb).2 rfl
 ·simp [x.len1]
 ·simp [x.len2]
 ·intro i m' e
  simp only at e
  by_cases q:i = k
  ·subst q
   have l1:=x.len1
   have l2:=x.len2
   rw [List.getElem?_set_self (by omega)] at e
   cases e
   exact ⟨a,fp',hr,by simp only; rw [List.getElem?_set_self kl],hm⟩
  ·rw [List.getElem?_set_ne (Ne.symm q)] at e
   obtain ⟨a',fi,e1,e2,z⟩:=x.mus i m' e
   refine ⟨a',fi,e1,by simp only; rw [List.getElem?_set_ne (Ne.symm q)]; exact e2,?_⟩
   simpa using z.frame (r:=[]) (Le.refl _) fun b hb o r=>hk b o (x.sep i k fi fp q e2 hfp b hb) r
 ·intro i j fi fj hij ei ej b hb
  rcases up i fi ei with ⟨q0,q⟩ | ⟨q1,rfl⟩ <;> rcases up j fj ej with ⟨r0,r⟩ | ⟨r1,rfl⟩
  ·exact x.sep i j fi fj hij q r b hb
  ·intro hb'
   rcases hf b hb' with z | z
   ·exact x.sep i k fi fp q0 q hfp b hb z
   ·exact z.2.2.2.2 i fi q hb
  ·intro hb'
   rcases hf b hb with z | z
   ·exact x.sep j k fj fp r0 r hfp b hb' z
   ·exact z.2.2.2.2 j fj r hb'
  ·omega
 ·intro i fi e b hb
  rcases up i fi e with ⟨_,q⟩ | ⟨_,rfl⟩
  ·obtain ⟨y1,o,y2⟩:=x.off i fi q b hb
   exact ⟨y1,o,hk _ _ (x.sep i _ fi fp ‹_› q hfp b hb) y2⟩
  ·refine ⟨(offp b hb).1,?_⟩
   rcases hf b hb with z | z
   ·exact hl b z
   ·exact z.2.2.2.1
 ·intro i fi e b hb
  rcases up i fi e with ⟨_,q⟩ | ⟨q1,rfl⟩
  ·exact x.own i fi q b hb
  ·rcases hf b hb with z | z
   ·subst q1; exact x.own _ fp hfp b z
   ·exact .inr z.1
end
section
variable {c:Cx} {A:Around} {st:St}
theorem int_den {w:World} {G:Heap} {z:Int} {v:Value} (h:Den w G (.int z) v):∃ t,v = .int z t:=by exact h
theorem str_den {w:World} {G:Heap} {k:Nat} {v:Value} (h:Den w G (.str k) v):k < nmL.length∧∃ t,v = .str (nm k) t:=by exact h
theorem set2 {α:Type} {l:List (Option α)} {x y:Option α}:((l++[x,y]).set l.length none).set (l.length + 1) none = l++[none,none]:=by
 induction l with
 | nil=>rfl
 | cons a l ih=>exact congrArg (List.cons a) ih
theorem layA (hc:c.names = layN.map nm) {q1 q2 q3 q4 q5 q6 q7:Pos}:Sf c A (exec (.Assign [.Subscript (.Name s230 q1) (.Name s58 q2) q3] (.List [.Constant (.int 0) 0 q4,.List [] q5] q6) q7) c.env) st fun K =>
  E3 fun i k sd=>A4 (LayAt st i k sd) (lkS sd k = none) (sd.length≤1000) (K .next ⟨st.loc,st.mu.set i (some (.side (sd++[(k,0,[])])))++[none,none]⟩):=by
 intro s p K Q a w kk
 obtain ⟨i,k,sd,⟨l0,l1,lm⟩,hl,hs,w⟩:=w
 obtain ⟨n0,n1,n2,n3⟩:=lay_nm hc
 have il:i < st.mu.length:=(List.getElem?_eq_some_iff.mp lm).1
 have len1:=a.len1
 have len2:=a.len2
 have he:Sx c A (eval (.List [.Constant (.int 0) 0 q4,.List [] q5] q6) c.env) st fun K=>K (.ref (st.mu.length + 1)) ⟨st.loc,st.mu++[some (.lst []),some (.lst [.fro (.int 0),.ref st.mu.length])]⟩:=by
  refine (Sx.mlst (Sxs.cons (Sx.const rfl) (fun st'=>Sxs.cons (Sx.mlst Sxs.nil) (fun st2=>Sxs.nil) rfl) rfl)).of fun K h=>?_
  refine ⟨rfl,rfl,?_⟩
  have e:(st.mu++[some (M.lst [])])++[some (M.lst [.fro (.int 0),.ref st.mu.length])] = st.mu++[some (.lst []),some (.lst [.fro (.int 0),.ref st.mu.length])]:=by simp
  show K (.ref (st.mu++[some (M.lst [])]).length) ⟨st.loc,(st.mu++[some (M.lst [])])++[some (M.lst [.fro (.int 0),.ref st.mu.length])]⟩
  rw [e,List.length_append]; exact h
 refine wpAny_Assign_Subscript (he s p (fun d st'=>d = .ref (st.mu.length + 1)∧st' = ⟨st.loc,st.mu++[some (.lst []),some (.lst [.fro (.int 0),.ref st.mu.length])]⟩) _ a ⟨rfl,rfl⟩ fun d1 st1 v1 h1 tk1 q1 k1 a1 e1 d1n=>?_) (swaps_of rfl)
 obtain ⟨rfl,rfl⟩:=k1
 refine lay_name (s:={ s with heap:=h1,toks:=tk1 }) a1 n0 l0 hd230 fun v2 tk2 d2=>?_
 refine lay_name (s:={ s with heap:=h1,toks:=tk2 }) a1 n1 l1 hd58 fun v3 tk3 d3=>?_
 obtain ⟨hk,t,rfl⟩:=str_den (w:=c.w) (G:=q1.G) d3
 have lm1:(⟨st.loc,st.mu++[some (.lst []),some (.lst [.fro (.int 0),.ref st.mu.length])]⟩:St).mu[i]? = some (some (.side sd)):=by show (st.mu++_)[i]? = _; rw [List.getElem?_append_left il]; exact lm
 obtain ⟨a0,kvs,fp',r0,f0,nd,hd,sl,hsm⟩:=lay_side a1 lm1
 obtain ⟨b,e,rfl⟩:=d2
 rw [r0] at e; cases e
 obtain ⟨aA,eA,rfl⟩:=d1n
 obtain ⟨bB,fB,rB,gB,rfl,usB,nB,oB,dB⟩:=a1.mus st.mu.length (.lst []) (by show (st.mu++_)[_]? = _; simp)
 obtain ⟨aA',fA,rA,gA,rfl,usA,nA,oA,dA⟩:=a1.mus (st.mu.length + 1) (.lst [.fro (.int 0),.ref st.mu.length]) (by show (st.mu++_)[_]? = _; simp)
 rw [eA] at rA; cases rA
 have hB:usB = []:=by cases usB with | nil=>rfl | cons _ _=>exact dB.elim
 subst hB
 obtain ⟨u1,u2,rfl,du1,du2⟩:=dens2 dA
 obtain ⟨t1,rfl⟩:=int_den (w:=c.w) (G:=q1.G) du1
 obtain ⟨bb,eb,rfl⟩:=du2
 rw [rB] at eb; cases eb
 have lenk:kvs.length = sd.length:=sl.len
 refine wpAny_setItem_pairs (s:={ s with heap:=h1,toks:=tk3 }) (strKind_is PM c.w _ _) hd (fun h' hd' hs'=>?_) (by rw [lenk]; exact small (Nat.ble_eq_true_of_le hs))
 have miss:valueAt kvs (nm k) = none:=by
  have:=SideL.miss hk sl
  rw [hl] at this
  simpa using this
 have st_:stored kvs (nm k) (.ref aA) = kvs++[(nm k,.ref aA)]:=by
  unfold stored
  rw [if_neg]
  unfold valueAt at miss
  simp only [Option.map_eq_none_iff,List.find?_eq_none] at miss
  simp only [List.any_eq_true,not_exists,not_and]
  exact fun x hx=>by simpa using miss x hx
 rw [st_] at hd'
 have hAB:aA ≠ bB:=by
  intro z
  have:=a1.sep (st.mu.length + 1) st.mu.length _ _ (by omega) gA gB aA (by simp)
  exact this (by simp [z])
 have hA0:aA ∉ a0 :: fp':=a1.sep (st.mu.length + 1) i _ _ (by omega) gA f0 aA (by simp)
 have hB0:bB ∉ a0 :: fp':=a1.sep st.mu.length i _ _ (by omega) gB f0 bB (by simp)
 have keep:∀ b,b ≠ a0→∀ o,h1.get? b = some o→h'.get? b = some o:=fun b hb o e=>(hs'.2 b hb).trans e
 have x2:=(a1.drop st.mu.length).drop (st.mu.length + 1)
 have q1l:q1.fps.length = st.mu.length + 2:=by rw [a1.len2,← a1.len1]; simp
 have f0':((q1.fps.set st.mu.length []).set (st.mu.length + 1) [])[i]? = some (a0 :: fp'):=by
  rw [List.getElem?_set_ne (by omega),List.getElem?_set_ne (by omega)]; exact f0
 have outer:∀ b,b = aA∨b = bB→c.h₀.get? b = none∧q1.G.get? b = none∧b ≠ c.env.locals∧∀ (j:Nat) fi,((q1.fps.set st.mu.length []).set (st.mu.length + 1) [])[j]? = some fi→b ∉ fi:=by
  intro b hb
  obtain ⟨j0,j1,j2⟩:∃ j,(j = st.mu.length∨j = st.mu.length + 1)∧q1.fps[j]? = some [b]:=by
   rcases hb with rfl | rfl
   ·exact ⟨_,.inr rfl,gA⟩
   ·exact ⟨_,.inl rfl,gB⟩
  refine ⟨?_,(a1.off j0 _ j2 b (by simp)).1,fun z=>a1.frF j0 _ j2 (by simp [z]),fun j fi e hb'=>?_⟩
  ·rcases a1.own j0 _ j2 b (by simp) with z | z
   ·have l0:=a.lenF
    have l3:=len1
    rw [List.getD_eq_getElem?_getD,List.getElem?_eq_none (by omega)] at z
    cases z
   ·exact z
  ·by_cases z1:j = st.mu.length + 1
   ·subst z1; rw [List.getElem?_set_self (by rw [List.length_set]; omega)] at e; cases e; cases hb'
   ·rw [List.getElem?_set_ne (Ne.symm z1)] at e
    by_cases z2:j = st.mu.length
    ·subst z2; rw [List.getElem?_set_self (by omega)] at e; cases e; cases hb'
    ·rw [List.getElem?_set_ne (Ne.symm z2)] at e
     have:j ≠ j0:=by rcases j1 with r | r <;> omega
     exact a1.sep j j0 _ _ this e j2 b hb' (by simp)
 have oA':h'.get? aA = some (lobj [.int 0 t1,.ref bB] nA):=keep aA (fun z=>hA0 (by simp [z])) _ oA
 have oB':h'.get? bB = some (lobj [] nB):=keep bB (fun z=>hB0 (by simp [z])) _ oB
 have x3:=x2.updN (h':=h') (m:=.side (sd++[(k,0,[])])) (fp':=(a0 :: fp')++[aA,bB]) r0 f0' (fun b o hb e=>keep b (fun z=>hb (by simp [z])) o e)
  (fun b hb=>by
   by_cases z:b = a0
   ·obtain ⟨o,es,ep,ho,_⟩:=hd'; exact ⟨o,z ▸ ho⟩
   ·obtain ⟨o,q⟩:=(a1.off i _ f0 b hb).2; exact ⟨o,keep b z o q⟩)
  ⟨kvs++[(nm k,.ref aA)],fp'++[aA,bB],rfl,by
   rw [List.nodup_append]
   refine ⟨nd,by simp [hAB],fun x hx y hy=>?_⟩
   simp only [List.mem_cons,List.not_mem_nil,or_false] at hy
   rintro rfl
   rcases hy with rfl | rfl
   ·exact hA0 hx
   ·exact hB0 hx,hd',SideL.snoc hk oA' oB' (sl.frame fun b hb o q=>keep b (fun z=>(List.nodup_cons.mp nd).1 (z ▸ hb)) o q)⟩
  (fun b hb=>by
   rcases List.mem_append.mp hb with z | z
   ·exact .inl z
   ·simp only [List.mem_cons,List.not_mem_nil,or_false] at z
    obtain ⟨w1,w2,w3,w4⟩:=outer b z
    refine .inr ⟨w1,w2,w3,?_,w4⟩
    rcases z with rfl | rfl
    ·exact ⟨_,oA'⟩
    ·exact ⟨_,oB'⟩)
 refine kk .next _ .next h' _ ⟨q1.ρ,((q1.fps.set st.mu.length []).set (st.mu.length + 1) []).set i (a0 :: fp'++[aA,bB]),q1.G⟩ w ?_ (e1.trans ⟨⟨[],by simp⟩,Le.refl _⟩) rfl
 have em:=set2 (l:=st.mu) (x:=some (M.lst [])) (y:=some (M.lst [.fro (.int 0),.ref st.mu.length]))
 have x4:At c ⟨st.loc,(((st.mu++[some (M.lst []),some (M.lst [.fro (.int 0),.ref st.mu.length])]).set st.mu.length none).set (st.mu.length + 1) none).set i (some (.side (sd++[(k,0,[])])))⟩ _ h':=x3
 rw [em,List.set_append_left _ _ il] at x4
 exact x4
end
section
variable {c:Cx} {A:Around} {st:St}
theorem layG (hc:c.names = layN.map nm) {p1 p2 p3 p4 p5 p6 p7:Pos}:Sf c A (exec (.AugAssign (.Subscript (.Subscript (.Name s230 p1) (.Name s58 p2) p3) (.Constant (.int 0) 0 p4) p5) .Add (.Name s64 p6) p7) c.env) st fun K =>
  E6 fun i k g cn ns sd=>A4 (LayAt st i k sd) (st.loc[2]? = some (some (.fro (.int g)))) (lkS sd k = some (cn,ns)) (K .next ⟨st.loc,st.mu.set i (some (.side (setS sd k (cn + g,ns))))⟩):=by
 intro s p K Q a w kk
 obtain ⟨i,k,g,cn,ns,sd,la,l2,hl,w⟩:=w
 obtain ⟨n0,n1,n2,n3⟩:=lay_nm hc
 obtain ⟨a0,fp',a1,b1,t,n,vs,m,kvs,r0,f0,nd,hd,ha,hb,oa,ob,dn,up,_,ev⟩:=lay_item (p1:=p1) (p2:=p2) (p3:=p3) hc a la hl
 rw [arm_exec_AugAssign_3]
 refine wpAny_bind (wpAny_standAt (wpAny_bind (ev _ s.toks fun tk1=>wpAny_bind (wpAny_holding (wpAny_Constant_int ?_)))))
 have hli:s.heap.IsList a1 (#[.int cn t,.ref b1]:Array Value):=list_of_lobj oa
 refine wpAny_bind (wpAny_holding (wpAny_bind (wpAny_standAt (wpAny_bind (wpAny_getItem_list (s:={ s with toks:=tk1 + 1 }) (x:=.int cn t) hli (by decide) (by decide) rfl ?_)))))
 refine wpAny_bind (wpAny_holding (lay_name (s:={ s with toks:=tk1 + 1 }) a n2 l2 hd64 fun v tk2 d2=>?_))
 obtain ⟨u,rfl⟩:=int_den (w:=c.w) (G:=p.G) d2
 refine wpAny_bind (wpAny_standAt (wpAny_operating ?_))
 refine iadd_int ?_
 refine wpAny_bind (wpAny_standAt (aug_tail rfl (setItem_exact (s:={ s with toks:=tk2 + 1 }) oa (by decide) (by decide) (by show (0:Nat) < 2; decide) ?_)))
 have hg:=get?_update_seq (c:="list") (xs:=#[.int cn t,.ref b1]) (n:=n) oa (fun xs=>xs.setIfInBounds (0:Int).toNat (.int (cn + g) tk2))
 refine kk .next _ .next _ _ p w (lay_upd a r0 f0 nd hd ha (fun b hne o e=>by rw [Heap.get?_update_ne _ _ _ _ hne]; exact e) ⟨_,hg⟩ (up _ (cn + g) tk2 n (fun b _ hne o e=>by rw [Heap.get?_update_ne _ _ _ _ hne]; exact e) ?_)) (.refl p) rfl
 rw [hg]; rfl
theorem layP (hc:c.names = layN.map nm) {p1 p2 p3 p4 p5 p6:Pos} {apos cpos pos:Pos} (hpos:(apos.endLine == cpos.line) = true):Sf c A (exec (.Expr (.Call (.Attribute (.Subscript (.Subscript (.Name s230 p1) (.Name s58 p2) p3) (.Constant (.int 1) 0 p4) p5) "append" apos) [.Name s231 p6] [] cpos) pos) c.env) st fun K =>
  E6 fun i k x cn ns sd=>A5 (LayAt st i k sd) (st.loc[3]? = some (some (.fro (.int x)))) (lkS sd k = some (cn,ns)) (ns.length≤1000) (K .next ⟨st.loc,st.mu.set i (some (.side (setS sd k (cn,ns++[x]))))⟩):=by
 intro s p K Q a w kk
 obtain ⟨i,k,x,cn,ns,sd,la,l3,hl,hs,w⟩:=w
 obtain ⟨n0,n1,n2,n3⟩:=lay_nm hc
 obtain ⟨a0,fp',a1,b1,t,n,vs,m,kvs,r0,f0,nd,hd,ha,hb,oa,ob,dn,_,up,ev⟩:=lay_item (p1:=p1) (p2:=p2) (p3:=p3) hc a la hl
 have hse:starEach [Expr.Name s231 p6] c.env = [(false,eval (.Name s231 p6) c.env)]:=by rw [starEach_cons rfl]; rfl
 have hli:∀ tk,({ s with toks:=tk }:Shared).heap.IsList a1 (#[.int cn t,.ref b1]:Array Value):=fun tk=>list_of_lobj oa
 refine wpAny_Expr (Call_method1 (attrBase rfl) hse hpos (Subscript_ (ev _ s.toks fun tk1=>wpAny_Constant_int (tail_any (hli _).typeIs slot_list_getitem.lookup (wpAny_getItem_list (s:={ s with toks:=tk1 + 1 }) (x:=.ref b1) (hli _) (by decide) (by decide) rfl ?_) (subscripted_of rfl))))) (interactive_of a.kind) (swaps_of rfl)
 refine ⟨"list","list.append",PySem.F.plainAttrs_list,PySem.F.slot_list_append,PySem.F.type_list_append,⟨_,ob,rfl⟩,fun b e=>by cases e; exact ⟨_,ob,rfl⟩,?_⟩
 refine PySem.P.append_list (lay_name (s:={ s with toks:=tk1 + 1 }) a n3 l3 hd231 fun v tk2 d2=>?_)
 obtain ⟨u,rfl⟩:=int_den (w:=c.w) (G:=p.G) d2
 refine ⟨vs.toArray,m,?_,ob,?_⟩
 ·rw [List.size_toArray,← dn.length,List.length_map]; exact ble_line (Nat.ble_eq_true_of_le hs)
 ·have hg:=get?_update_seq (c:="list") (xs:=vs.toArray) (n:=m) ob (fun xs=>xs.push (.int x u))
  refine kk .next _ .next _ _ p w (lay_upd a r0 f0 nd hd hb (fun b hne o e=>by rw [Heap.get?_update_ne _ _ _ _ hne]; exact e) ⟨_,hg⟩ (up _ (ns++[x]) (vs++[.int x u]) (if (vs.toArray.push (.int x u)).size == vs.toArray.size then m else m + 1) (fun b _ hne o e=>by rw [Heap.get?_update_ne _ _ _ _ hne]; exact e) ?_ ?_)) (.refl p) rfl
  ·rw [hg]; simp [lobj,seqObj]
  ·rw [List.map_append]
   refine Dens.append (densI dn) ?_
   show Dens _ _ [.int x] [.int x u]
   unfold Dens; refine ⟨by unfold Den; exact ⟨u,rfl⟩,by unfold Dens; trivial⟩
end
noncomputable def layF:Side→Nat→Int→Int→Side
 | [],k,g,x=>[(k,g,if 0 < x then [x] else [])]
 | (k',c,ns) :: s,k,g,x=>if k' = k then (k',c + g,if 0 < x then ns++[x] else ns) :: s else (k',c,ns) :: layF s k g x
theorem setS_setS {k:Nat} {y z:Int × List Int}:∀ {s:Side},setS (setS s k y) k z = setS s k z
 | []=>rfl
 | (k',x) :: s=>by
  by_cases q:k' = k
  ·simp [setS,q]
  ·simp [setS,q,setS_setS (s:=s)]
theorem lkS_setS {k:Nat} {y x:Int × List Int}:∀ {s:Side},lkS s k = some x→lkS (setS s k y) k = some y
 | [],h=>by cases h
 | (k',z) :: s,h=>by
  unfold lkS at h
  by_cases q:k' = k
  ·simp [setS,lkS,q]
  ·rw [if_neg q] at h; simp only [setS,q,if_false]; unfold lkS; rw [if_neg q]; exact lkS_setS h
theorem layF_some {k:Nat} {c g x:Int} {ns:List Int}:∀ {s:Side},lkS s k = some (c,ns)→layF s k g x = setS s k (c + g,if 0 < x then ns++[x] else ns)
 | [],h=>by cases h
 | (k',z) :: s,h=>by
  unfold lkS at h
  unfold layF setS
  by_cases q:k' = k
  ·rw [if_pos q] at h ⊢; cases h; rw [if_pos q]
  ·rw [if_neg q] at h ⊢; rw [if_neg q,layF_some h]
theorem layF_none {k:Nat} {g x:Int}:∀ {s:Side},lkS s k = none→layF s k g x = s++[(k,g,if 0 < x then [x] else [])]
 | [],h=>rfl
 | (k',c,ns) :: s,h=>by
  unfold lkS at h
  unfold layF
  by_cases q:k' = k
  ·rw [if_pos q] at h; cases h
  ·rw [if_neg q] at h ⊢; rw [layF_none h]; rfl
theorem lkS_snoc {k:Nat} {y:Int × List Int}:∀ {s:Side},lkS s k = none→lkS (s++[(k,y)]) k = some y
 | [],h=>by simp [lkS]
 | (k',z) :: s,h=>by
  unfold lkS at h
  by_cases q:k' = k
  ·rw [if_pos q] at h; cases h
  ·rw [if_neg q] at h; show lkS ((k',z) :: (s++_)) k = _; unfold lkS; rw [if_neg q]; exact lkS_snoc h
theorem setS_snoc {k:Nat} {y z:Int × List Int}:∀ {s:Side},lkS s k = none→setS (s++[(k,y)]) k z = s++[(k,z)]
 | [],h=>by simp [setS]
 | (k',u) :: s,h=>by
  unfold lkS at h
  by_cases q:k' = k
  ·rw [if_pos q] at h; cases h
  ·rw [if_neg q] at h; show setS ((k',u) :: (s++_)) k z = _; unfold setS; rw [if_neg q,setS_snoc h]; rfl
noncomputable def un {α:Type} (l:List α) (f:α→List α→Bool):Bool:=match l with
 | []=>false
 | a :: t=>f a t
theorem un_el {α:Type} {M:List α→Prop} {l:List α} {f:α→List α→Bool} (h:un l f = true) (z:∀ a t,f a t = true→M (a :: t)):M l:=by
 cases l with
 | nil=>exact Bool.noConfusion h
 | cons a t=>exact z a t h
noncomputable def isName (e:Expr) (x:Str):Bool:=onName e fun n _=>n == x
theorem name_el {M:Expr→Prop} {e:Expr} {x:Str} (h:isName e x = true) (z:∀ p,M (.Name x p)):M e:=onName_el h fun n p h=>beq_el (M:=fun n=>M (.Name n p)) h (z p)
noncomputable def isInt (e:Expr) (k:Int):Bool:=onConst e fun c u _=>decide (c = .int k) && decide (u = 0)
theorem int_el {M:Expr→Prop} {e:Expr} {k:Int} (h:isInt e k = true) (z:∀ p,M (.Constant (.int k) 0 p)):M e:=by
 apply onConst_el h
 intro c u p h
 refine and_el h fun h1 h2=>?_
 apply dec_el h1
 apply dec_el h2
 exact z p
noncomputable def item (e:Expr) (x y:Str):Bool:=onSub e fun o i _=>isName o x && isName i y
theorem item_el {M:Expr→Prop} {e:Expr} {x y:Str} (h:item e x y = true) (z:∀ p1 p2 p3,M (.Subscript (.Name x p1) (.Name y p2) p3)):M e:=by
 apply onSub_el h
 intro o i p h
 refine and_el h fun h1 h2=>?_
 apply name_el h1
 intro p1
 apply name_el h2
 intro p2
 exact z p1 p2 p
noncomputable def lay1 (s:Stmt):Bool:=onIfS s fun te bo el _=>el.isEmpty && (onCmp te fun x ops rs _=>decide (ops = [.NotIn]) && isName x s58 && one rs fun r=>isName r s230) && one bo fun y=>onAssign y fun ts v _=>(one ts fun t=>item t s230 s58) && onList v fun es _=>un es fun e1 es=>isInt e1 0 && one es fun e2=>onList e2 fun em _=>em.isEmpty
theorem lay1_el {M:Stmt→Prop} {s:Stmt} (h:lay1 s = true) (z:∀ p1 p2 p3 q1 q2 q3 q4 q5 q6 q7 p4,M (.If (.Compare (.Name s58 p1) [.NotIn] [.Name s230 p2] p3) [.Assign [.Subscript (.Name s230 q1) (.Name s58 q2) q3] (.List [.Constant (.int 0) 0 q4,.List [] q5] q6) q7] [] p4)):M s:=by
 apply onIfS_el h
 intro te bo el p4 h
 refine and_el3 h fun h1 h2 h3=>?_
 apply isEmpty_el h1
 apply onCmp_el h2
 intro x ops rs p3 h
 refine and_el3 h fun h4 h5 h6=>?_
 apply dec_el h4
 apply name_el h5
 intro p1
 apply one_el h6
 intro r h
 apply name_el h
 intro p2
 apply one_el h3
 intro y h
 apply onAssign_el h
 intro ts v q7 h
 refine and_el h fun h1 h2=>?_
 apply one_el h1
 intro t h
 apply item_el h
 intro q1 q2 q3
 apply onList_el h2
 intro es q6 h
 apply un_el h
 intro e1 es h
 refine and_el h fun h1 h2=>?_
 apply int_el h1
 intro q4
 apply one_el h2
 intro e2 h
 apply onList_el h
 intro em q5 h
 apply isEmpty_el h
 exact z p1 p2 p3 q1 q2 q3 q4 q5 q6 q7 p4
noncomputable def lay2 (s:Stmt):Bool:=onAug s fun t op v _=>decide (op = .Add) && (onSub t fun o i _=>item o s230 s58 && isInt i 0) && isName v s64
theorem lay2_el {M:Stmt→Prop} {s:Stmt} (h:lay2 s = true) (z:∀ p1 p2 p3 p4 p5 p6 p7,M (.AugAssign (.Subscript (.Subscript (.Name s230 p1) (.Name s58 p2) p3) (.Constant (.int 0) 0 p4) p5) .Add (.Name s64 p6) p7)):M s:=by
 apply onAug_el h
 intro t op v p7 h
 refine and_el3 h fun h1 h2 h3=>?_
 apply dec_el h1
 apply onSub_el h2
 intro o i p5 h
 refine and_el h fun h4 h5=>?_
 apply item_el h4
 intro p1 p2 p3
 apply int_el h5
 intro p4
 apply name_el h3
 intro p6
 exact z p1 p2 p3 p4 p5 p6 p7
noncomputable def lay3 (s:Stmt):Bool:=onIfS s fun te bo el _=>el.isEmpty && (onCmp te fun x ops rs _=>decide (ops = [.Gt]) && isName x s231 && one rs fun r=>isInt r 0) && one bo fun y=>onExpr y fun c _=>onCall c fun f args kw cp=>kw.isEmpty && (one args fun r=>isName r s231) && onAttr f fun o x ap=>(onSub o fun o i _=>item o s230 s58 && isInt i 1) && (x == ("append":Str)) && (ap.endLine == cp.line)
theorem lay3_el {M:Stmt→Prop} {s:Stmt} (h:lay3 s = true) (z:∀ t1 t2 t3 p1 p2 p3 p4 p5 p6 apos cpos pos p8,(apos.endLine == cpos.line) = true→M (.If (.Compare (.Name s231 t1) [.Gt] [.Constant (.int 0) 0 t2] t3) [.Expr (.Call (.Attribute (.Subscript (.Subscript (.Name s230 p1) (.Name s58 p2) p3) (.Constant (.int 1) 0 p4) p5) "append" apos) [.Name s231 p6] [] cpos) pos] [] p8)):M s:=by
 apply onIfS_el h
 intro te bo el p8 h
 refine and_el3 h fun h1 h2 h3=>?_
 apply isEmpty_el h1
 apply onCmp_el h2
 intro x ops rs t3 h
 refine and_el3 h fun h4 h5 h6=>?_
 apply dec_el h4
 apply name_el h5
 intro t1
 apply one_el h6
 intro r h
 apply int_el h
 intro t2
 apply one_el h3
 intro y h
 apply onExpr_el h
 intro cc pos h
 apply onCall_el h
 intro f args kw cpos h
 refine and_el3 h fun h1 h2 h3=>?_
 apply isEmpty_el h1
 apply one_el h2
 intro r h
 apply name_el h
 intro p6
 apply onAttr_el h3
 intro o x apos h
 refine and_el3 h fun h4 h5 h6=>?_
 apply beq_el h5
 apply onSub_el h4
 intro o i p5 h
 refine and_el h fun h7 h8=>?_
 apply item_el h7
 intro p1 p2 p3
 apply int_el h8
 intro p4
 exact z t1 t2 t3 p1 p2 p3 p4 p5 p6 apos cpos pos p8 h6
noncomputable def chkLay (l:List Stmt):Bool:=un l fun a l=>un l fun b l=>one l fun d=>lay1 a && lay2 b && lay3 d
noncomputable def layW (st:St) (K:FD→St→Prop):Prop:=E5 fun i k g x sd=>A6 (LayAt st i k sd) (st.loc[2]? = some (some (.fro (.int g)))) (st.loc[3]? = some (some (.fro (.int x)))) (sd.length≤1000) (∀ y∈sd,y.2.2.length≤1000) (∀ r,K .next ⟨st.loc,st.mu.set i (some (.side (layF sd k g x)))++r⟩)
theorem lkS_mem {k:Nat} {x:Int × List Int}:∀ {s:Side},lkS s k = some x→(k,x)∈s
 | [],h=>by cases h
 | (k',z) :: s,h=>by
  unfold lkS at h
  by_cases q:k' = k
  ·rw [if_pos q] at h; cases h; simp [q]
  ·rw [if_neg q] at h; simp [lkS_mem h]
section
variable {c:Cx} {A:Around} {s:Stmt}
noncomputable def layS1 (st:St) (K:FD→St→Prop):Prop:=E3 fun i k sd=>LayAt st i k sd∧if (!(lkS sd k).isSome) = true then (E3 fun i k sd=>A4 (LayAt st i k sd) (lkS sd k = none) (sd.length≤1000) (K .next ⟨st.loc,st.mu.set i (some (.side (sd++[(k,0,[])])))++[none,none]⟩)) else K .next st
theorem lay1_ok (hc:c.names = layN.map nm) (h:lay1 s = true) (st:St):Sf c A (exec s c.env) st (layS1 st):=by
 apply lay1_el h
 intro p1 p2 p3 q1 q2 q3 q4 q5 q6 q7 p4
 exact Sf.ite (layT hc) (fun st'=>Sf.cons (layA hc) fun st2=>Sf.nil) fun st'=>Sf.nil
noncomputable def layS2 (st:St) (K:FD→St→Prop):Prop:=E6 fun i k g cn ns sd=>A4 (LayAt st i k sd) (st.loc[2]? = some (some (.fro (.int g)))) (lkS sd k = some (cn,ns)) (K .next ⟨st.loc,st.mu.set i (some (.side (setS sd k (cn + g,ns))))⟩)
theorem lay2_ok (hc:c.names = layN.map nm) (h:lay2 s = true) (st:St):Sf c A (exec s c.env) st (layS2 st):=by
 apply lay2_el h
 intro p1 p2 p3 p4 p5 p6 p7
 exact layG hc
noncomputable def layS3 (st:St) (K:FD→St→Prop):Prop:=∃ x:Int,st.loc[3]? = some (some (.fro (.int x)))∧if decide (0 < x) = true then (E6 fun i k x cn ns sd=>A5 (LayAt st i k sd) (st.loc[3]? = some (some (.fro (.int x)))) (lkS sd k = some (cn,ns)) (ns.length≤1000) (K .next ⟨st.loc,st.mu.set i (some (.side (setS sd k (cn,ns++[x]))))⟩)) else K .next st
theorem lay3_ok (hc:c.names = layN.map nm) (h:lay3 s = true) (st:St):Sf c A (exec s c.env) st (layS3 st):=by
 apply lay3_el h
 intro t1 t2 t3 p1 p2 p3 p4 p5 p6 apos cpos pos p8 hpos
 refine Sf.ite (Wt:=fun K=>∃ x:Int,st.loc[3]? = some (some (.fro (.int x)))∧K (decide (0 < x)) st) (fun s p K Q a w kk=>?_) (fun st'=>Sf.cons (layP hc hpos) fun st2=>Sf.nil) fun st'=>Sf.nil
 obtain ⟨x,l3,w⟩:=w
 exact Sb.cmp (o:=.gt) (Sx.name (lay_nm hc).2.2.2 l3 hd231) (fun st'=>Sx.const (k:=.int 0) rfl) rfl s p K Q a (.gt w) kk
end
theorem lay_Sf {c:Cx} {A:Around} {st:St} (hc:c.names = layN.map nm) {l:List Stmt} (hl:chkLay l = true):Sf c A (execs l c.env) st (layW st):=by
 apply un_el hl
 intro sa l hl
 apply un_el hl
 intro sb l hl
 apply one_el hl
 intro sd hl
 refine and_el3 hl fun hl1 hl2 hl3=>?_
 refine (Sf.cons (lay1_ok hc hl1 st) (fun st'=>Sf.cons (lay2_ok hc hl2 st') (fun st2=>Sf.cons (lay3_ok hc hl3 st2) (fun st3=>Sf.nil)))).of fun K h=>?_
 clear hl hl1 hl2 hl3
 obtain ⟨i,k,g,x,sd,⟨l0,l1,lm⟩,l2,l3,len,lens,h⟩:=h
 have il:i < st.mu.length:=(List.getElem?_eq_some_iff.mp lm).1
 have rest:∀ (sd':Side) r cn ns,lkS sd' k = some (cn,ns)→ns.length≤1000→K .next ⟨st.loc,st.mu.set i (some (.side (setS sd' k (cn + g,if 0 < x then ns++[x] else ns))))++r⟩ →
   ∀ mu,mu = st.mu.set i (some (.side sd'))++r→(E6 fun i' k' g' cn' ns' sd''=>A4 (LayAt ⟨st.loc,mu⟩ i' k' sd'') (st.loc[2]? = some (some (.fro (.int g')))) (lkS sd'' k' = some (cn',ns')) ((fun st2:St=>∃ x:Int,st2.loc[3]? = some (some (.fro (.int x)))∧(if decide (0 < x) = true then (E6 fun i k x cn ns sd=>A5 (LayAt st2 i k sd) (st2.loc[3]? = some (some (.fro (.int x)))) (lkS sd k = some (cn,ns)) (ns.length≤1000) (K .next ⟨st2.loc,st2.mu.set i (some (.side (setS sd k (cn,ns++[x]))))⟩)) else K .next st2)) ⟨st.loc,mu.set i' (some (.side (setS sd'' k' (cn' + g',ns'))))⟩)):=by
  rintro sd' r cn ns hl hlen hK mu rfl
  have il':i < (st.mu.set i (some (M.side sd'))).length:=by rw [List.length_set]; exact il
  refine ⟨i,k,g,cn,ns,sd',⟨l0,l1,?_⟩,l2,hl,x,l3,?_⟩
  ·show (st.mu.set i _++r)[i]? = _
   rw [List.getElem?_append_left il',List.getElem?_set_self il]
  ·have e1:(st.mu.set i (some (M.side sd'))++r).set i (some (.side (setS sd' k (cn + g,ns)))) = st.mu.set i (some (.side (setS sd' k (cn + g,ns))))++r:=by
    rw [List.set_append_left _ _ il',List.set_set]
   rw [e1]
   split
   ·rename_i hx
    have hx:=of_decide_eq_true hx
    rw [if_pos hx] at hK
    have il2:i < (st.mu.set i (some (M.side (setS sd' k (cn + g,ns))))).length:=by rw [List.length_set]; exact il
    refine ⟨i,k,x,cn + g,ns,setS sd' k (cn + g,ns),⟨l0,l1,?_⟩,l3,lkS_setS hl,hlen,?_⟩
    ·show (st.mu.set i _++r)[i]? = _
     rw [List.getElem?_append_left il2,List.getElem?_set_self il]
    ·show K .next ⟨st.loc,(st.mu.set i _++r).set i _⟩
     rw [List.set_append_left _ _ il2,List.set_set,setS_setS]; exact hK
   ·rename_i hx
    rw [if_neg (fun z=>hx (decide_eq_true z))] at hK
    exact hK
 refine ⟨i,k,sd,⟨l0,l1,lm⟩,?_⟩
 show if (!(lkS sd k).isSome) = true then _ else _
 cases hl:lkS sd k with
 | none =>
  rw [if_pos (show (!(none:Option (Int × List Int)).isSome) = true from rfl)]
  refine ⟨i,k,sd,⟨l0,l1,lm⟩,hl,len,?_⟩
  refine rest (sd++[(k,0,[])]) [none,none] 0 [] (lkS_snoc hl) (by simp) ?_ _ rfl
  have:=h [none,none]
  rw [layF_none hl] at this
  rw [setS_snoc hl]
  simpa using this
 | some y =>
  obtain ⟨cn,ns⟩:=y
  rw [if_neg (show ¬ (!(some (cn,ns)).isSome) = true by simp)]
  have e0:st.mu = st.mu.set i (some (.side sd))++[]:=by rw [List.append_nil,set_self lm]
  refine rest sd [] cn ns hl (lens _ (lkS_mem hl)) ?_ _ e0
  have:=h []
  rw [layF_some hl] at this
  exact this
theorem tup2 {a b c d:F} (h:F.tup [a,b] = .tup [c,d]):a = c∧b = d:=by injection h with h; injection h with h1 h; injection h with h2; exact ⟨h1,h2⟩
noncomputable def fd_law_lay:FuncData:=⟨s232,s232,a77,(.stmts b77),c77,3,[],.none,.none,.none,(.str s211 1124),none,(.ref 651),.none,0⟩
noncomputable def okSide (s:Side):Prop:=s.length≤1000∧∀ y∈s,y.2.2.length≤1000
noncomputable def layPT:PT:=fun ds mu K=>E6 fun i k g x s0 s1=>A5 (ds = [.ref i,.fro (.str k),.fro (.int g),.fro (.int x)]) (mu = [some (.side s0),some (.side s1)]) (okSide s0) (okSide s1) ((i = 0∧K (.fro .none) [some (.side (layF s0 k g x)),some (.side s1)])∨(i = 1∧K (.fro .none) [some (.side s0),some (.side (layF s1 k g x))]))
theorem lay_ok {w:World} {L:Nat} (h1:1≤L):CallOK w (L + 1) (.ref 652) layPT:=by
 refine fn_ok (fd:=fd_law_lay) (body:=b77) (names:=layN.map nm) (n:=4) layW ⟨o652 w.params,by kernel_rfl,rfl⟩ (by kernel_rfl) rfl (len4 fun _ _ _ _=>by kernel_rfl) ?_ (by kernel_rfl) (by kernel_rfl) (by kernel_rfl) ?_ (nm_nodup (by decide +kernel) (by decide)) (by decide) rfl rfl (fun c A e1 e2 e3 e4 r st=>lay_Sf e2 (by kernel_rfl)) ?_
 ·have:fd_law_lay.scope.names.all (fun y=>!(y.2 == .cell)) = true:=by kernel_rfl
  intro x hx e
  have:=List.all_eq_true.mp this x hx
  rw [e] at this
  simp at this
 ·have:layN.all (fun k=>fd_law_lay.scope.names.lookup (nm k) == some .local) = true:=by kernel_rfl
  intro x hx
  obtain ⟨k,hk,rfl⟩:=List.mem_map.mp hx
  exact eq_of_beq (List.all_eq_true.mp this k hk)
 ·intro ds mu K h
  obtain ⟨i,k,g,x,s0,s1,rfl,rfl,⟨o1,o2⟩,⟨o3,o4⟩,h⟩:=h
  refine ⟨rfl,[],(by decide:(List.range 2++[]).Nodup),by simp,?_⟩
  rcases h with ⟨rfl,h⟩ | ⟨rfl,h⟩
  ·exact ⟨0,k,g,x,s0,⟨rfl,rfl,rfl⟩,rfl,rfl,o1,o2,fun r=>⟨rfl,h⟩⟩
  ·exact ⟨1,k,g,x,s1,⟨rfl,rfl,rfl⟩,rfl,rfl,o3,o4,fun r=>⟨rfl,h⟩⟩
structure Par where
 fl:Int
 at_:Int
 nid:Int
 kk:Int
 ka:Nat
 ks:List F
 kf:Int
 kat:Int
 knid:Int
noncomputable def Par.F (p:Par):F:=nodeF 28 75 [nodeF p.kk p.ka p.ks p.kf p.kat p.knid,.none,.none] p.fl p.at_ p.nid
noncomputable def Par.has (p:Par) (w:Nat):Bool:=(hasB p.fl 245760 && decide (p.kk = 8)) && decide (p.ka = w)
structure Mb where
 kind:Int
 a:Nat
 kids:List F
 fl:Int
 at_:Int
 nid:Int
 ps:List Par
 body:Bool
noncomputable def Mb.F (m:Mb):F:=nodeF m.kind m.a m.kids m.fl m.at_ m.nid
noncomputable def Mb.ctor (m:Mb):Bool:=decide (m.kind = 27) && hasB m.fl 256
noncomputable def Mb.Ok (m:Mb):Prop:=m.ctor = true→E3 fun x y blk=>m.kids = [.none,nodeF 71 75 (m.ps.map Par.F) 0 x y,.none,blk]∧isNone blk = !m.body
noncomputable def Mb.st (m:Mb):Bool:=hasB m.fl 262144
noncomputable def Mb.has (m:Mb) (w:Nat):Bool:=if (m.ctor && m.body) = true then m.ps.any (·.has w) else decide (m.a = w) && (decide (m.kind = 62) || decide (m.kind = 27)) && !m.st
noncomputable def Mb.isGet (m:Mb):Bool:=decide (m.kind = 27) && hasB m.fl 64
noncomputable def Mb.isSet (m:Mb):Bool:=decide (m.kind = 27) && hasB m.fl 128
noncomputable def names4:List Nat:=[213,214,215,75]
noncomputable def words5:List Nat:=[213,214,215,75,0]
noncomputable def keysS (s:Side):List Nat:=s.map (·.1)
noncomputable def getB (ms:List Mb) (k:Nat) (b:Bool):Bool:=ms.any fun m=>m.isGet && (decide (m.a = k) && m.st == b)
noncomputable def setN (ms:List Mb) (k:Nat) (b:Bool):List Int:=(ms.filter fun m=>m.isSet && (decide (m.a = k) && m.st == b)).map (·.nid)
structure SideOk (ms:List Mb) (b:Bool) (s:Side):Prop where
 nd:(keysS s).Nodup
 sub:∀ k∈keysS s,k∈names4
 cnt:∀ k c ns,(k,c,ns)∈s→0≤c∧(decide (c = 0) = !getB ms k b)∧ns = setN ms k b
 all:∀ m∈ms,(m.isGet || m.isSet) = true→m.st = b→m.a∈keysS s
structure Inv (ms:List Mb) (s0 s1:Side) (n:Int):Prop where
 s0:SideOk ms false s0
 s1:SideOk ms true s1
 inc:((ms.filter (·.isSet)).map (·.nid)).Pairwise (· < ·)
 top:∀ m∈ms,m.nid≤n
 ok:∀ m∈ms,m.Ok
noncomputable def HasEq (ms:List Mb) (s0:Side):Prop:=∀ w∈words5,w∈keysS s0 ↔ ms.any (·.has w) = true
theorem keys_layF {k w:Nat} {g x:Int}:∀ {s:Side},w∈keysS (layF s k g x) ↔ w∈keysS s∨w = k
 | []=>by simp [layF,keysS]
 | (k',c,ns) :: s=>by
  have ih:=keys_layF (k:=k) (w:=w) (g:=g) (x:=x) (s:=s)
  unfold keysS at ih ⊢
  unfold layF
  split
  ·rename_i q; subst q; simp only [List.map_cons,List.mem_cons]
   exact ⟨fun h=>.inl h,fun h=>h.elim id .inl⟩
  ·simp only [List.map_cons,List.mem_cons,ih,or_assoc]
theorem nodup_layF {k:Nat} {g x:Int}:∀ {s:Side},(keysS s).Nodup→(keysS (layF s k g x)).Nodup
 | [],_=>by simp [layF,keysS]
 | (k',c,ns) :: s,h=>by
  have h':k' ∉ keysS s∧(keysS s).Nodup:=List.nodup_cons.mp h
  unfold layF
  split
  ·exact h
  ·rename_i q
   refine List.nodup_cons.mpr ⟨fun z=>?_,nodup_layF h'.2⟩
   rcases keys_layF.mp z with r | r
   ·exact h'.1 r
   ·exact q r
theorem mem_layF {k:Nat} {g x:Int} {y:Nat × Int × List Int}:∀ {s:Side},(keysS s).Nodup→y∈layF s k g x →
  (y∈s∧y.1 ≠ k)∨(E2 fun c ns=>(k,c,ns)∈s∧y = (k,c + g,if 0 < x then ns++[x] else ns))∨(k ∉ keysS s∧y = (k,g,if 0 < x then [x] else []))
 | [],_,h=>by simp [layF] at h; exact .inr (.inr ⟨by simp [keysS],h⟩)
 | (k',c,ns) :: s,nd,h=>by
  have nd':k' ∉ keysS s∧(keysS s).Nodup:=List.nodup_cons.mp nd
  unfold layF at h
  split at h
  ·rename_i q
   subst q
   rcases List.mem_cons.mp h with r | r
   ·exact .inr (.inl ⟨c,ns,by simp,r⟩)
   ·exact .inl ⟨by simp [r],fun z=>nd'.1 (by rw [← z]; exact List.mem_map.mpr ⟨y,r,rfl⟩)⟩
  ·rename_i q
   rcases List.mem_cons.mp h with r | r
   ·subst r; exact .inl ⟨by simp,q⟩
   ·rcases mem_layF nd'.2 r with ⟨z1,z2⟩ | ⟨c',ns',z1,z2⟩ | ⟨z1,z2⟩
    ·exact .inl ⟨by simp [z1],z2⟩
    ·exact .inr (.inl ⟨c',ns',by simp [z1],z2⟩)
    ·refine .inr (.inr ⟨fun z=>?_,z2⟩)
     rcases List.mem_cons.mp z with e | e
     ·exact q e.symm
     ·exact z1 e
theorem SideOk.fresh {ms:List Mb} {b:Bool} {s:Side} (h:SideOk ms b s) {k:Nat} (hk:k ∉ keysS s):getB ms k b = false∧setN ms k b = []:=by
 constructor
 ·cases q:getB ms k b with
  | false=>rfl
  | true =>
   obtain ⟨m,hm,e⟩:=List.any_eq_true.mp q
   simp only [Bool.and_eq_true,decide_eq_true_eq,beq_iff_eq] at e
   exact absurd (e.2.1 ▸ h.all m hm (by simp [e.1]) e.2.2) hk
 ·unfold setN
  rw [List.map_eq_nil_iff,List.filter_eq_nil_iff]
  intro m hm e
  simp only [Bool.and_eq_true,decide_eq_true_eq,beq_iff_eq] at e
  exact hk (e.2.1 ▸ h.all m hm (by simp [e.1]) e.2.2)
theorem SideOk.lay0 {ms:List Mb} {b:Bool} {s:Side} (h:SideOk ms b s) {k:Nat} (hk:k∈names4):SideOk ms b (layF s k 0 0) where
 nd:=nodup_layF h.nd
 sub:=fun w hw=>by rcases keys_layF.mp hw with r | r; exact h.sub w r; exact r ▸ hk
 cnt:=fun k' c ns hm=>by
  rcases mem_layF h.nd hm with ⟨z,_⟩ | ⟨c',ns',z,e⟩ | ⟨z,e⟩
  ·exact h.cnt k' c ns z
  ·simp only [Prod.mk.injEq] at e
   obtain ⟨rfl,rfl,e⟩:=e
   rw [if_neg (by decide)] at e
   subst e
   simpa using h.cnt k' c' ns z
  ·simp only [Prod.mk.injEq] at e
   obtain ⟨rfl,rfl,e⟩:=e
   rw [if_neg (by decide)] at e
   subst e
   obtain ⟨f1,f2⟩:=h.fresh z
   exact ⟨Int.le_refl _,by rw [f1]; rfl,f2.symm⟩
 all:=fun m hm e e2=>keys_layF.mpr (.inl (h.all m hm e e2))
theorem getB_snoc {ms:List Mb} {m:Mb} {k:Nat} {b:Bool}:getB (ms++[m]) k b = (getB ms k b || (m.isGet && (decide (m.a = k) && m.st == b))):=by simp [getB]
theorem setN_snoc {ms:List Mb} {m:Mb} {k:Nat} {b:Bool}:setN (ms++[m]) k b = setN ms k b++(if (m.isSet && (decide (m.a = k) && m.st == b)) = true then [m.nid] else []):=by
 unfold setN
 rw [List.filter_append,List.map_append]
 congr 1
 simp only [List.filter_cons,List.filter_nil]
 split <;> rfl
theorem SideOk.addO {ms:List Mb} {b:Bool} {s:Side} (h:SideOk ms b s) {m:Mb} (hm:((m.isGet || m.isSet) && m.st == b) = false):SideOk (ms++[m]) b s where
 nd:=h.nd
 sub:=h.sub
 cnt:=fun k c ns hy=>by
  obtain ⟨a,b',d⟩:=h.cnt k c ns hy
  refine ⟨a,?_,?_⟩
  ·rw [getB_snoc,b']
   cases q:(m.isGet && (decide (m.a = k) && m.st == b)) with
   | false=>simp
   | true =>
    exfalso
    simp only [Bool.and_eq_true] at q
    simp [q.1,q.2.2] at hm
  ·rw [setN_snoc,if_neg,List.append_nil]; exact d
   intro q
   simp only [Bool.and_eq_true] at q
   simp [q.1,q.2.2] at hm
 all:=fun m' hm' e e2=>by
  rcases List.mem_append.mp hm' with z | z
  ·exact h.all m' z e e2
  ·rw [List.mem_singleton] at z
   subst z
   simp [e,e2] at hm
theorem SideOk.addA {ms:List Mb} {b:Bool} {s:Side} (h:SideOk ms b s) {m:Mb} (hst:m.st = b) (hn:m.a∈names4) (hx:0 < m.nid) (hg:m.isSet = !m.isGet) :
  SideOk (ms++[m]) b (layF s m.a (if m.isGet then 1 else 0) (if m.isGet then 0 else m.nid)) where
 nd:=nodup_layF h.nd
 sub:=fun w hw=>by rcases keys_layF.mp hw with r | r; exact h.sub w r; exact r ▸ hn
 cnt:=fun k' c ns hy=>by
  rw [getB_snoc,setN_snoc,hst,hg]
  rcases mem_layF h.nd hy with ⟨z,ne⟩ | ⟨c',ns',z,e⟩ | ⟨z,e⟩
  ·obtain ⟨a,b',d⟩:=h.cnt k' c ns z
   have ne':decide (m.a = k') = false:=by simpa using fun e=>ne e.symm
   simp [ne',a,b',d]
  ·simp only [Prod.mk.injEq] at e
   obtain ⟨rfl,rfl,e⟩:=e
   obtain ⟨a,b',d⟩:=h.cnt _ _ _ z
   cases q:m.isGet
   ·simp only [q,Bool.false_eq_true,if_false,if_pos hx] at e ⊢
    subst e
    simp [a,b',d]
   ·simp only [q,if_true] at e ⊢
    rw [if_neg (by decide)] at e
    subst e
    have:decide (c' + 1 = 0) = false:=by simp; omega
    simp [this,d]; omega
  ·simp only [Prod.mk.injEq] at e
   obtain ⟨rfl,rfl,e⟩:=e
   obtain ⟨f1,f2⟩:=h.fresh z
   cases q:m.isGet
   ·simp only [q,Bool.false_eq_true,if_false,if_pos hx] at e ⊢
    subst e
    simp [f1,f2]
   ·simp only [q,if_true] at e ⊢
    rw [if_neg (by decide)] at e
    subst e
    simp [f1,f2]
 all:=fun m' hm' e e2=>by
  rcases List.mem_append.mp hm' with z | z
  ·exact keys_layF.mpr (.inl (h.all m' z e e2))
  ·rw [List.mem_singleton] at z
   subst z
   exact keys_layF.mpr (.inr rfl)
theorem Inv.add {ms:List Mb} {s0 s1 t0 t1:Side} {n n':Int} (h:Inv ms s0 s1 n) {m:Mb} (h0:SideOk (ms++[m]) false t0) (h1:SideOk (ms++[m]) true t1) (hn:n < m.nid) (hn':m.nid≤n') (ok:m.Ok):Inv (ms++[m]) t0 t1 n' where
 s0:=h0
 s1:=h1
 inc:=by
  rw [List.filter_append,List.map_append,List.pairwise_append]
  refine ⟨h.inc,?_,fun x hx y hy=>?_⟩
  ·simp only [List.filter_cons,List.filter_nil]; split <;> simp
  ·obtain ⟨m',hm',rfl⟩:=List.mem_map.mp hx
   have:=h.top m' (List.mem_filter.mp hm').1
   simp only [List.filter_cons,List.filter_nil] at hy
   split at hy
   ·simp at hy; omega
   ·cases hy
 top:=fun m' hm'=>by
  rcases List.mem_append.mp hm' with z | z
  ·have:=h.top m' z; omega
  ·rw [List.mem_singleton] at z; subst z; exact hn'
 ok:=fun m' hm'=>by
  rcases List.mem_append.mp hm' with z | z
  ·exact h.ok m' z
  ·rw [List.mem_singleton] at z; subst z; exact ok
theorem Inv.lay0 {ms:List Mb} {s0 s1:Side} {n:Int} (h:Inv ms s0 s1 n) {k:Nat} (hk:k∈names4):Inv ms (layF s0 k 0 0) s1 n:={ h with s0:=h.s0.lay0 hk }
theorem Inv.lay1 {ms:List Mb} {s0 s1:Side} {n:Int} (h:Inv ms s0 s1 n) {k:Nat} (hk:k∈names4):Inv ms s0 (layF s1 k 0 0) n:={ h with s1:=h.s1.lay0 hk }
theorem Inv.le {ms:List Mb} {s0 s1:Side} {n n':Int} (h:Inv ms s0 s1 n) (k:n≤n'):Inv ms s0 s1 n':={ h with top:=fun m hm=>by have:=h.top m hm; omega }
theorem Inv.addO {ms:List Mb} {s0 s1:Side} {n n':Int} (h:Inv ms s0 s1 n) {m:Mb} (hm:(m.isGet || m.isSet) = false) (hn:n≤n') (hn':m.nid≤n') (ok:m.Ok):Inv (ms++[m]) s0 s1 n' where
 s0:=h.s0.addO (by simp [hm])
 s1:=h.s1.addO (by simp [hm])
 inc:=by
  have:m.isSet = false:=(Bool.or_eq_false_iff.mp hm).2
  rw [List.filter_append,List.filter_cons_of_neg (by simp [this]),List.filter_nil,List.append_nil]; exact h.inc
 top:=fun m' hm'=>by
  rcases List.mem_append.mp hm' with z | z
  ·have:=h.top m' z; omega
  ·rw [List.mem_singleton] at z; subst z; exact hn'
 ok:=fun m' hm'=>by
  rcases List.mem_append.mp hm' with z | z
  ·exact h.ok m' z
  ·rw [List.mem_singleton] at z; subst z; exact ok
theorem Inv.addA {ms:List Mb} {s0 s1:Side} {n n':Int} (h:Inv ms s0 s1 n) {m:Mb} (hk:m.a∈names4) (hg:m.isSet = !m.isGet) (h0:0≤n) (hn:n < m.nid) (hn':m.nid≤n') (ok:m.Ok) :
  Inv (ms++[m]) (if m.st then s0 else layF s0 m.a (if m.isGet then 1 else 0) (if m.isGet then 0 else m.nid)) (if m.st then layF s1 m.a (if m.isGet then 1 else 0) (if m.isGet then 0 else m.nid) else s1) n':=by
 cases q:m.st
 ·exact h.add (h.s0.addA q hk (by omega) hg) (h.s1.addO (by simp [q])) hn hn' ok
 ·exact h.add (h.s0.addO (by simp [q])) (h.s1.addA q hk (by omega) hg) hn hn' ok
theorem HasEq.add {ms:List Mb} {s0:Side} (h:HasEq ms s0) {m:Mb} (hm:∀ w∈words5,m.has w = false):HasEq (ms++[m]) s0:=fun w hw=>by simp [List.any_append,hm w hw,h w hw]
theorem HasEq.addK {ms:List Mb} {s0:Side} (h:HasEq ms s0) {m:Mb} {k:Nat} {g x:Int} (hm:∀ w∈words5,m.has w = decide (w = k)):HasEq (ms++[m]) (layF s0 k g x):=fun w hw=>by
 rw [keys_layF,h w hw,List.any_append]; simp [hm w hw]
theorem sub4 {l:List Nat} (nd:l.Nodup) (h:∀ k∈l,k∈names4):l.length≤4:=List.Nodup.length_le_of_subset nd h
theorem SideOk.ok {ms:List Mb} {b:Bool} {s:Side} (h:SideOk ms b s) (hl:ms.length≤1000):okSide s:=by
 refine ⟨?_,fun y hy=>?_⟩
 ·have:=sub4 h.nd h.sub
  unfold keysS at this
  rw [List.length_map] at this
  omega
 ·obtain ⟨k,c,ns⟩:=y
  obtain ⟨_,_,rfl⟩:=h.cnt _ _ _ hy
  show (setN ms k b).length≤1000
  unfold setN
  rw [List.length_map]
  have:=List.length_filter_le (fun m:Mb=>m.isSet && (decide (m.a = k) && m.st == b)) ms
  omega
section
variable {Γ:Nat→PT} {loc:List (Option D)} {rest:List (Option M)} {K:D→St→Prop} {p n:Int} {row:List Int}
theorem okD0:okMs [0] (some (dM p row n) :: rest) = true:=by simp [okMs,okM,okD,dM,Nat.blt]
theorem remD0:remS [0] (some (dM p row n) :: rest) = [some (dM p row n)]:=by simp [remS,sel,remM,remD,dM]
theorem wbD0 {p' n':Int} {x:Option M}:wbM [0] [some (dM p' row n')] (x :: rest) = some (dM p' row n') :: rest:=by simp [wbM,wb,remM,remD,dM]
theorem backD {p' n':Int} {x:Option M} {f:F} {N:Nat} (g:K (.fro f) ⟨loc,some (dM p' row n') :: rest⟩):K (remD (backT [0] N) (.fro f)) ⟨loc,wbM [0] [some (dM p' row n')] (x :: rest)⟩:=by rw [wbD0]; exact g
theorem t_d {f:Nat} {pt:PT} {ds:List D} (hN:Γ f = pt) (hp:passDs [0] ⟨loc,some (dM p row n) :: rest⟩ ds = some ds)
  (g:pt ds [some (dM p row n)] fun d mu'=>K (remD (backT [0] (rest.length + 1)) d) ⟨loc,wbM [0] mu' (some (dM p row n) :: rest)⟩):callK (mkTb Γ) [0] f K ds ⟨loc,some (dM p row n) :: rest⟩ :=
 t_call hN okD0 hp (by rw [remD0]; exact g)
theorem call_node (hN:Γ 631 = nodePT) {k:Int} {a:Nat} {ks:List F} {fl:Int} (g:K (.fro (nodeF k a ks fl (3 * (n + 1)) (n + 1))) ⟨loc,some (dM p row (n + 1)) :: rest⟩) :
  callK (mkTb Γ) [0] 631 K [.ref 0,.fro (.int k),.fro (.str a),.fro (.lst ks),.fro (.int fl)] ⟨loc,some (dM p row n) :: rest⟩ :=
 t_d hN rfl ⟨k,a,ks,fl,p,row,n,rfl,rfl,backD g⟩
theorem call_func (hN:Γ 638 = funcPT) {a:Nat} {ps:List F} {fl:Int} {b:Bool} (g:∀ x y nid blk,n < nid→isNone blk = !b→K (.fro (nodeF 27 a [.none,nodeF 71 75 ps 0 x y,.none,blk] fl (3 * nid) nid)) ⟨loc,some (dM p row nid) :: rest⟩) :
  callK (mkTb Γ) [0] 638 K [.ref 0,.fro (.str a),.fro (.int fl),.fro (.lst ps),.fro (.bool b)] ⟨loc,some (dM p row n) :: rest⟩ :=
 t_d hN rfl ⟨a,fl,ps,b,p,row,n,rfl,rfl,by
  cases b
  ·exact backD (g _ _ _ _ (by show n < n + 1 + 1; omega) rfl)
  ·exact backD (g _ _ _ _ (by show n < n + 1 + 1 + 1; omega) rfl)⟩
theorem call_param (hN:Γ 645 = paramPT) {q:Int} (g:∀ (x:Par) (m:Nat) (n':Int),n < n'→(∀ w∈words5,x.has w = decide (w = m))→(m = 213∨m = 214∨m = 228)→K (.fro (.tup [x.F,.str m])) ⟨loc,some (dM p row n') :: rest⟩) :
  callK (mkTb Γ) [0] 645 K [.ref 0,.fro (.int q)] ⟨loc,some (dM p row n) :: rest⟩ :=
 t_d hN rfl ⟨q,p,row,n,rfl,rfl,fun f m n' h1 h2=>by
  obtain ⟨fl,at_,nid,kk,ka,ks,kf,kat,knid,rfl,h3,h4,h5⟩:=h2
  refine backD (g ⟨fl,at_,nid,kk,ka,ks,kf,kat,knid⟩ m n' h1 (fun w hw=>?_) h3)
  show ((hasB fl 245760 && decide (kk = 8)) && decide (ka = w)) = decide (w = m)
  rw [h4]
  by_cases e:m = 228
  ·subst e
   have:w ≠ 228:=by rintro rfl; revert hw; decide
   simp [this]
  ·rw [h5 e]; simp [e,eq_comm]⟩
theorem call_pull (hN:Γ 624 = pullPT) (ha:0≤p) (hr:row.length≤40) (g:∀ x:Int,0≤x→x < 100000000→K (.fro (.int x)) ⟨loc,some (dM (p + 1) row n) :: rest⟩) :
  callK (mkTb Γ) [0] 624 K [.ref 0] ⟨loc,some (dM p row n) :: rest⟩ :=
 t_d hN rfl ⟨p,n,row,rfl,rfl,ha,hr,fun x h1 h2=>backD (g x h1 h2)⟩
theorem call_lay (hN:Γ 652 = layPT) {i k:Nat} {gg x:Int} {s0 s1:Side} {x0:Option M} (hi:i = 1∨i = 2) (o0:okSide s0) (o1:okSide s1) (g:K (.fro .none) ⟨loc,x0 :: some (.side (if i = 1 then layF s0 k gg x else s0)) :: some (.side (if i = 1 then s1 else layF s1 k gg x)) :: rest⟩) :
  callK (mkTb Γ) [1,2] 652 K [.ref i,.fro (.str k),.fro (.int gg),.fro (.int x)] ⟨loc,x0 :: some (.side s0) :: some (.side s1) :: rest⟩:=by
 have e1:okMs [1,2] (x0 :: some (.side s0) :: some (.side s1) :: rest) = true:=by simp [okMs,okM,Nat.blt]
 have e2:remS [1,2] (x0 :: some (.side s0) :: some (.side s1) :: rest) = [some (.side s0),some (.side s1)]:=by simp [remS,sel,remM]
 have e3:∀ t0 t1,wbM [1,2] [some (.side t0),some (.side t1)] (x0 :: some (.side s0) :: some (.side s1) :: rest) = x0 :: some (.side t0) :: some (.side t1) :: rest:=by intro t0 t1; simp [wbM,wb,remM]
 rcases hi with rfl | rfl
 ·refine t_call (r:=[.ref 0,.fro (.str k),.fro (.int gg),.fro (.int x)]) hN e1 rfl ?_
  rw [e2]
  exact ⟨0,k,gg,x,s0,s1,rfl,rfl,o0,o1,.inl ⟨rfl,by show K _ ⟨loc,wbM _ _ _⟩; rw [e3]; exact g⟩⟩
 ·refine t_call (r:=[.ref 1,.fro (.str k),.fro (.int gg),.fro (.int x)]) hN e1 rfl ?_
  rw [e2]
  exact ⟨1,k,gg,x,s0,s1,rfl,rfl,o0,o1,.inr ⟨rfl,by show K _ ⟨loc,wbM _ _ _⟩; rw [e3]; exact g⟩⟩
end
noncomputable def sidesM:M:=.lst [.ref 1,.ref 2]
noncomputable def halfPT:PT:=fun ds mu K=>∃ k side word sign p row n s0 s1,A7 (ds = [.ref 0,.ref 3,.fro (.str k),.fro (.int side),.fro (.int word),.fro (.int sign)]) (mu = [some (dM p row n),some (.side s0),some (.side s1),some sidesM]) (okSide s0) (okSide s1) (side = 0∨side = 1) (word = 64∨word = 128) (∀ x y nid blk b,n < nid→isNone blk = !b→K (.fro (nodeF 27 k [.none,nodeF 71 75 [] 0 x y,.none,blk] (word + 262144 * side + sign) (3 * nid) nid))
  [some (dM p row nid),some (.side (if side = 0 then layF s0 k (if word = 64 then 1 else 0) (if word = 64 then 0 else nid) else s0)),some (.side (if side = 0 then s1 else layF s1 k (if word = 64 then 1 else 0) (if word = 64 then 0 else nid))),some sidesM])
theorem half_ok {w:World} {L:Nat} {Γ:Nat→PT} (h1:1≤L) (hΓ:∀ y∈callT,CallOK w L (.ref y.2) (Γ y.2)) (hF:Γ 638 = funcPT) (hL:Γ 652 = layPT):CallOK w (L + 1) (.ref 659) halfPT:=by
 refine run_law_half h1 hΓ fun ds mu K h=>?_
 obtain ⟨k,side,word,sign,p,row,n,s0,s1,rfl,rfl,o0,o1,hs,hw,hK⟩:=h
 refine ⟨rfl,[],(by decide:(List.range 4++[]).Nodup),by simp,?_⟩
 show wpYs _ _ y_law_half ⟨[some (.ref 0),some (.ref 3),some (.fro (.str k)),some (.fro (.int side)),some (.fro (.int word)),some (.fro (.int sign)),none],[some (dM p row n),some (.side s0),some (.side s1),some sidesM]⟩ (endK 4 [] K)
 unfold y_law_half
 refine ys_cons (y_assign (x_call rfl (xs_cons (x_locR rfl rfl (xs_cons (x_loc rfl (xs_cons (x_bin (x_bin (x_loc rfl (x_bin (x_glob rfl (x_loc rfl (v_mulL (by decide) (v_add (x_loc rfl (v_add (xs_cons (x_lst (xs_nil (t_lst rfl rfl (xs_cons (x_cmp (x_loc rfl (x_glob rfl (c_ne (xs_nil ?_)))))))))))))))))))))))))))
 refine call_func hF fun x y nid blk hn hb=>?_
 refine s_asg ?_
 refine s_next (ys_cons (y_run' (x_call rfl (xs_cons (x_idx (x_locR rfl rfl (x_loc rfl ?_)))))))
 rcases hs with rfl | rfl <;> rcases hw with rfl | rfl
 ·refine i_mlst rfl rfl (xs_cons (x_loc rfl (xs_cons (x_ite (b_cmp (x_loc rfl (x_glob rfl (c_eqT (by decide) (if_t (x_int (xs_cons (x_ite (b_cmp (x_loc rfl (x_glob rfl (c_eqF (by decide) (if_f (x_int (xs_nil ?_)))))))))))))))))))
  refine call_lay hL (.inl rfl) o0 o1 ?_
  refine t_run (s_next (ys_cons (y_ret (x_loc rfl (s_ret (e_ret rfl rfl ?_))))))
  exact hK x y nid blk _ hn hb
 ·refine i_mlst rfl rfl (xs_cons (x_loc rfl (xs_cons (x_ite (b_cmp (x_loc rfl (x_glob rfl (c_eqF (by decide) (if_f (x_int (xs_cons (x_ite (b_cmp (x_loc rfl (x_glob rfl (c_eqT (by decide) (if_t (x_attr (x_loc rfl (n_nid (xs_nil ?_)))))))))))))))))))))
  refine call_lay hL (.inl rfl) o0 o1 ?_
  refine t_run (s_next (ys_cons (y_ret (x_loc rfl (s_ret (e_ret rfl rfl ?_))))))
  exact hK x y nid blk _ hn hb
 ·refine i_mlst rfl rfl (xs_cons (x_loc rfl (xs_cons (x_ite (b_cmp (x_loc rfl (x_glob rfl (c_eqT (by decide) (if_t (x_int (xs_cons (x_ite (b_cmp (x_loc rfl (x_glob rfl (c_eqF (by decide) (if_f (x_int (xs_nil ?_)))))))))))))))))))
  refine call_lay hL (.inr rfl) o0 o1 ?_
  refine t_run (s_next (ys_cons (y_ret (x_loc rfl (s_ret (e_ret rfl rfl ?_))))))
  exact hK x y nid blk _ hn hb
 ·refine i_mlst rfl rfl (xs_cons (x_loc rfl (xs_cons (x_ite (b_cmp (x_loc rfl (x_glob rfl (c_eqF (by decide) (if_f (x_int (xs_cons (x_ite (b_cmp (x_loc rfl (x_glob rfl (c_eqT (by decide) (if_t (x_attr (x_loc rfl (n_nid (xs_nil ?_)))))))))))))))))))))
  refine call_lay hL (.inr rfl) o0 o1 ?_
  refine t_run (s_next (ys_cons (y_ret (x_loc rfl (s_ret (e_ret rfl rfl ?_))))))
  exact hK x y nid blk _ hn hb
section
variable {Γ:Nat→PT} {loc:List (Option D)} {rest:List (Option M)} {K:D→St→Prop} {p n:Int} {row:List Int} {s0 s1:Side}
noncomputable def mu4 (p n:Int) (row:List Int) (s0 s1:Side):List (Option M):=[some (dM p row n),some (.side s0),some (.side s1),some sidesM]
theorem okD4:okMs [0,1,2,3] (mu4 p n row s0 s1++rest) = true:=by simp [mu4,okMs,okM,okD,dM,Nat.blt,sidesM]
theorem remD4:remS [0,1,2,3] (mu4 p n row s0 s1++rest) = mu4 p n row s0 s1:=by simp [mu4,remS,sel,remM,remD,dM,sidesM,List.idxOf,List.findIdx,List.findIdx.go]
theorem wbD4 {p' n':Int} {t0 t1:Side}:wbM [0,1,2,3] (mu4 p' n' row t0 t1) (mu4 p n row s0 s1++rest) = mu4 p' n' row t0 t1++rest:=by simp [mu4,wbM,wb,remM,remD,dM,sidesM,backT]
theorem back4 {p' n':Int} {t0 t1:Side} {f:F} {N:Nat} (g:K (.fro f) ⟨loc,mu4 p' n' row t0 t1++rest⟩):K (remD (backT [0,1,2,3] N) (.fro f)) ⟨loc,wbM [0,1,2,3] (mu4 p' n' row t0 t1) (mu4 p n row s0 s1++rest)⟩:=by rw [wbD4]; exact g
theorem t_4 {f:Nat} {pt:PT} {ds:List D} (hN:Γ f = pt) (hp:passDs [0,1,2,3] ⟨loc,mu4 p n row s0 s1++rest⟩ ds = some ds)
  (g:pt ds (mu4 p n row s0 s1) fun d mu'=>K (remD (backT [0,1,2,3] (rest.length + 4)) d) ⟨loc,wbM [0,1,2,3] mu' (mu4 p n row s0 s1++rest)⟩):callK (mkTb Γ) [0,1,2,3] f K ds ⟨loc,mu4 p n row s0 s1++rest⟩ :=
 t_call hN okD4 hp (by rw [remD4]; exact g)
theorem call_half (hN:Γ 659 = halfPT) {k:Nat} {side word sign:Int} (o0:okSide s0) (o1:okSide s1) (hs:side = 0∨side = 1) (hw:word = 64∨word = 128)
  (g:∀ x y nid blk b,n < nid→isNone blk = !b→K (.fro (nodeF 27 k [.none,nodeF 71 75 [] 0 x y,.none,blk] (word + 262144 * side + sign) (3 * nid) nid))
   ⟨loc,some (dM p row nid) :: some (.side (if side = 0 then layF s0 k (if word = 64 then 1 else 0) (if word = 64 then 0 else nid) else s0)) :: some (.side (if side = 0 then s1 else layF s1 k (if word = 64 then 1 else 0) (if word = 64 then 0 else nid))) :: some sidesM :: rest⟩) :
  callK (mkTb Γ) [0,1,2,3] 659 K [.ref 0,.ref 3,.fro (.str k),.fro (.int side),.fro (.int word),.fro (.int sign)] ⟨loc,some (dM p row n) :: some (.side s0) :: some (.side s1) :: some sidesM :: rest⟩ :=
 t_4 hN rfl ⟨k,side,word,sign,p,row,n,s0,s1,rfl,rfl,o0,o1,hs,hw,fun x y nid blk b h1 h2=>back4 (g x y nid blk b h1 h2)⟩
end
noncomputable def signL:List F:=[.int 0,.int 16384,.int 524288,.int 1048576]
theorem sign_at (q:Int):∃ z,idxL signL (q.fmod 4) = some (.int z)∧(z = 0∨z = 16384∨z = 524288∨z = 1048576):=by
 rcases fm4 q with e | e | e | e <;> rw [e]
 ·exact ⟨_,rfl,by decide⟩
 ·exact ⟨_,rfl,by decide⟩
 ·exact ⟨_,rfl,by decide⟩
 ·exact ⟨_,rfl,by decide⟩
theorem half_flags {word t z:Int} (hw:word = 64∨word = 128) (ht:t = 0∨t = 1) (hz:z = 0∨z = 16384∨z = 524288∨z = 1048576) :
  hasB (word + 262144 * t + z) 256 = false∧hasB (word + 262144 * t + z) 64 = decide (word = 64)∧hasB (word + 262144 * t + z) 128 = !decide (word = 64)∧hasB (word + 262144 * t + z) 262144 = !decide (t = 0):=by
 rcases hw with rfl | rfl <;> rcases ht with rfl | rfl <;> rcases hz with rfl | rfl | rfl | rfl <;> decide +kernel
theorem Mb.has_plain {m:Mb} (hc:m.ctor = false) (hk:m.kind = 62∨m.kind = 27) (w:Nat):m.has w = (decide (m.a = w) && !m.st):=by
 unfold Mb.has
 rw [hc]
 rcases hk with e | e <;> rw [e] <;> simp
theorem inv_half {ms:List Mb} {s0 s1:Side} {n nid word t z at_:Int} {k:Nat} {kids:List F} {b:Bool} (h:Inv ms s0 s1 n) (he:HasEq ms s0) (h0:0≤n) (hn:n < nid) (hk:k∈names4) (hw:word = 64∨word = 128) (ht:t = 0∨t = 1) (hz:z = 0∨z = 16384∨z = 524288∨z = 1048576) :
  Inv (ms++[⟨27,k,kids,word + 262144 * t + z,at_,nid,[],b⟩]) (if t = 0 then layF s0 k (if word = 64 then 1 else 0) (if word = 64 then 0 else nid) else s0) (if t = 0 then s1 else layF s1 k (if word = 64 then 1 else 0) (if word = 64 then 0 else nid)) nid ∧
  HasEq (ms++[⟨27,k,kids,word + 262144 * t + z,at_,nid,[],b⟩]) (if t = 0 then layF s0 k (if word = 64 then 1 else 0) (if word = 64 then 0 else nid) else s0):=by
 obtain ⟨f1,f2,f3,f4⟩:=half_flags hw ht hz
 generalize word + 262144 * t + z = fl at f1 f2 f3 f4 ⊢
 have gc:(⟨27,k,kids,fl,at_,nid,[],b⟩:Mb).ctor = false:=by show (decide ((27:Int) = 27) && hasB fl 256) = false; rw [f1]; rfl
 have gg:(⟨27,k,kids,fl,at_,nid,[],b⟩:Mb).isGet = decide (word = 64):=by show (decide ((27:Int) = 27) && hasB fl 64) = _; rw [f2]; rfl
 have gs:(⟨27,k,kids,fl,at_,nid,[],b⟩:Mb).isSet = !decide (word = 64):=by show (decide ((27:Int) = 27) && hasB fl 128) = _; rw [f3]; rfl
 have gt:(⟨27,k,kids,fl,at_,nid,[],b⟩:Mb).st = !decide (t = 0):=f4
 have gh:=Mb.has_plain gc (.inr rfl)
 have i1:=h.addA (m:=⟨27,k,kids,fl,at_,nid,[],b⟩) (n':=nid) hk (by rw [gs,gg]) h0 hn (Int.le_refl _) (fun hc=>by rw [gc] at hc; cases hc)
 rw [gg,gt] at i1
 by_cases e:t = 0
 ·rw [decide_eq_true e] at i1 gt
  refine ⟨?_,?_⟩
  ·rw [if_pos e,if_pos e]
   by_cases ew:word = 64
   ·rw [if_pos ew,if_pos ew]; rw [decide_eq_true ew] at i1; exact i1
   ·rw [if_neg ew,if_neg ew]; rw [decide_eq_false ew] at i1; exact i1
  ·rw [if_pos e]
   refine he.addK fun w _=>?_
   rw [gh w,gt]
   show (decide (k = w) && true) = decide (w = k)
   rw [Bool.and_true]; exact decide_eq_decide.mpr eq_comm
 ·rw [decide_eq_false e] at i1 gt
  refine ⟨?_,?_⟩
  ·rw [if_neg e,if_neg e]
   by_cases ew:word = 64
   ·rw [if_pos ew,if_pos ew]; rw [decide_eq_true ew] at i1; exact i1
   ·rw [if_neg ew,if_neg ew]; rw [decide_eq_false ew] at i1; exact i1
  ·rw [if_neg e]
   refine he.add fun w _=>?_
   rw [gh w,gt]; exact Bool.and_false _
noncomputable def Ys.drop:Nat→Ys→Ys
 | 0,y=>y
 | n + 1,.cons _ l=>l.drop n
 | n + 1,.ghost _ l=>l.drop (n + 1)
 | _,.nil=>.nil
noncomputable def Ys.body:Ys→Ys
 | .cons (.for_ _ _ b) _=>b
 | .cons (.forR _ _ b) _=>b
 | .ghost _ l=>l.body
 | _=>.nil
theorem fros_map {α:Type} {st:St} (g:α→F):∀ l:List α,fros st (l.map fun m=>.fro (g m)) = some (l.map g)
 | []=>rfl
 | a :: l=>by simp only [List.map_cons,fros,deref,fros_map g l]
theorem fz_lst {α:Type} {st:St} (g:α→F) (l:List α):fzF st (.lst (l.map fun m=>.fro (g m))) = some (.lst (l.map g)):=by simp only [fzF,fros_map,Option.map_some]
noncomputable def accPT:PT:=fun ds mu K=>∃ k side sort q p row n s0 s1 ms,A10 (ds = [.ref 0,.ref 3,.fro (.str k),.fro (.int side),.fro (.int sort),.fro (.int q)]) (mu = mu4 p n row s0 s1) (k∈names4) (side = 0∨side = 1) (sort = 3∨sort = 4∨sort = 5∨sort = 6∨sort = 8) (0≤n) (ms.length≤100) (Inv ms s0 s1 n) (HasEq ms s0) (∀ (ns:List Mb) n' t0 t1,ns.length≤2→n≤n'→Inv (ms++ns) t0 t1 n'→HasEq (ms++ns) t0→K (.fro (.lst (ns.map Mb.F))) (mu4 p n' row t0 t1))
section
variable {T:Tb} {ok:Nat→Nat→Bool} {KY:FD→St→Prop} {i j:Nat} {b:Ys}
theorem for_ind1 (P:List F→List (Option D)→List (Option M)→Prop) (nil:∀ loc mu,P [] loc mu→KY .next ⟨loc,mu⟩)
  (step:∀ f l loc mu,P (f :: l) loc mu→(∀ loc' mu',P l loc' mu'→forYs T ok (.one i) b l ⟨loc',mu'⟩ KY)→wpYs T ok b ⟨loc.set i (some (.fro f)),mu⟩ (forN T ok (.one i) b l KY)):∀ l loc mu,P l loc mu→forYs T ok (.one i) b l ⟨loc,mu⟩ KY
 | [],loc,mu,h=>for_nil (nil loc mu h)
 | f :: l,loc,mu,h=>for_one (step f l loc mu h (for_ind1 P nil step l))
end
set_option maxHeartbeats 2000000 in
theorem acc_ok {w:World} {L:Nat} {Γ:Nat→PT} (h1:1≤L) (hΓ:∀ y∈callT,CallOK w L (.ref y.2) (Γ y.2)) (hH:Γ 659 = halfPT):CallOK w (L + 1) (.ref 666) accPT:=by
 refine run_law_accessors h1 hΓ fun ds mu K h=>?_
 obtain ⟨k,side,sort,q,p,row,n,s0,s1,ms,rfl,rfl,hk,hs,hsort,h0,hl,hi,he,hK⟩:=h
 refine ⟨rfl,[],(by decide:(List.range 4++[]).Nodup),by simp,?_⟩
 show wpYs _ _ y_law_accessors ⟨[some (.ref 0),some (.ref 3),some (.fro (.str k)),some (.fro (.int side)),some (.fro (.int sort)),some (.fro (.int q)),none,none,none,none,none],[some (dM p row n),some (.side s0),some (.side s1),some sidesM]⟩ (endK 4 [] K)
 unfold y_law_accessors
 obtain ⟨z,hz1,hz⟩:=sign_at (q.fdiv 2)
 refine ys_cons (y_assign (x_idx (x_tup (xs_cons (x_int (xs_cons (x_glob rfl (xs_cons (x_glob rfl (xs_cons (x_glob rfl (xs_nil (t_tup rfl rfl (x_bin (x_bin (x_loc rfl (x_int (v_fdiv (by decide) (x_int (v_mod (by decide) ?_))))))))))))))))))))
 refine i_tup hz1 ?_
 refine s_asg ?_
 refine s_next (ys_cons (y_assign (x_idx (x_tup (xs_cons (x_tup (xs_cons (x_glob rfl (xs_nil (t_tup rfl rfl (xs_cons (x_tup (xs_cons (x_glob rfl (xs_nil (t_tup rfl rfl (xs_cons (x_tup (xs_cons (x_glob rfl (xs_cons (x_glob rfl (xs_nil (t_tup rfl rfl (xs_cons (x_tup (xs_cons (x_glob rfl (xs_cons (x_glob rfl (xs_nil (t_tup rfl rfl (xs_cons (x_tup (xs_nil (t_tup rfl rfl (xs_cons (x_tup (xs_cons ?_)))))))))))))))))))))))))))))))))))))))
 refine x_glob rfl (xs_cons (x_glob rfl (xs_nil (t_tup rfl rfl (xs_nil (t_tup rfl rfl (x_bin (x_loc rfl (x_int (v_sub ?_))))))))))
 obtain ⟨W,hW1,hW2,hW⟩:∃ W:List Int,A3 (idxL [F.tup [.int 64],.tup [.int 128],.tup [.int 64,.int 128],.tup [.int 128,.int 64],.tup [],.tup [.int 128,.int 128]] (sort - 3) = some (.tup (W.map .int))) (W.length≤2) (∀ x∈W,x = 64∨x = 128):=by
  rcases hsort with rfl | rfl | rfl | rfl | rfl
  ·exact ⟨[64],rfl,by decide,by simp⟩
  ·exact ⟨[128],rfl,by decide,by simp⟩
  ·exact ⟨[64,128],rfl,by decide,by simp⟩
  ·exact ⟨[128,64],rfl,by decide,by simp⟩
  ·exact ⟨[128,128],rfl,by decide,by simp⟩
 have main:∀ W:List Int,W.length≤2→(∀ x∈W,x = 64∨x = 128)→wpYs (mkTb Γ) okS (y_law_accessors.drop 3) ⟨[some (.ref 0),some (.ref 3),some (.fro (.str k)),some (.fro (.int side)),some (.fro (.int sort)),some (.fro (.int q)),some (.fro (.int z)),some (.fro (.tup (W.map .int))),none,none,none],[some (dM p row n),some (.side s0),some (.side s1),some sidesM]⟩ (endK 4 [] K):=by
  intro W hW1 hW2
  dsimp only [y_law_accessors,Ys.drop]
  refine ys_cons (y_assign (x_mlst (xs_nil (t_mlst rfl (s_asg ?_)))))
  refine s_next (ys_cons (y_for (x_loc rfl (g_tup rfl rfl ?_))))
  refine for_ind1 (fun l loc mu=>E8 fun (W:List Int) (acc:List Mb) (n':Int) (t0 t1:Side) (a9 a10 a7:Option D)=>A8 (l = W.map .int) (acc.length + W.length≤2) (∀ x∈W,x = 64∨x = 128) (n≤n') (Inv (ms++acc) t0 t1 n') (HasEq (ms++acc) t0) (loc = [some (.ref 0),some (.ref 3),some (.fro (.str k)),some (.fro (.int side)),some (.fro (.int sort)),some (.fro (.int q)),some (.fro (.int z)),a7,some (.ref 4),a9,a10]) (mu = [some (dM p row n'),some (.side t0),some (.side t1),some sidesM,some (.lst (acc.map fun m=>.fro m.F))])) ?_ ?_ _ _ _ ⟨W,[],n,s0,s1,none,none,_,rfl,by simpa using hW1,hW2,Int.le_refl _,by rw [List.append_nil]; exact hi,by rw [List.append_nil]; exact he,rfl,rfl⟩
  ·rintro loc mu ⟨W,acc,n',t0,t1,a9,a10,a7,hl0,hl1,hl2,hn,hi,he,rfl,rfl⟩
   refine s_next ?_
   refine ys_ghost rfl (fz_lst Mb.F acc) ?_
   dsimp only [List.set_cons_zero,List.set_cons_succ]
   refine ys_cons (y_ret (x_locF rfl rfl (s_ret (e_ret rfl rfl ?_))))
   exact hK acc n' t0 t1 (by omega) hn hi he
  ·rintro f l loc mu ⟨W,acc,n',t0,t1,a9,a10,a7,hl0,hl1,hl2,hn,hi,he,rfl,rfl⟩ ih
   obtain ⟨x,W,rfl,rfl,rfl⟩:=cons_map hl0
   dsimp only [List.set_cons_zero,List.set_cons_succ]
   have hx:=hl2 x (by simp)
   have tail:∀ t:Int,t = 0∨t = 1→asgK 10 (seqK (mkTb Γ) okS ((y_law_accessors.drop 4).body.drop 1) (forN (mkTb Γ) okS (.one 9) (y_law_accessors.drop 4).body (W.map .int) (seqK (mkTb Γ) okS (y_law_accessors.drop 5) (endK 4 [] K)))) (.fro (.int t)) ⟨[some (.ref 0),some (.ref 3),some (.fro (.str k)),some (.fro (.int side)),some (.fro (.int sort)),some (.fro (.int q)),some (.fro (.int z)),a7,some (.ref 4),some (.fro (.int x)),a10],[some (dM p row n'),some (.side t0),some (.side t1),some sidesM,some (.lst (acc.map fun m=>.fro m.F))]⟩:=by
    intro t ht
    dsimp only [y_law_accessors,Ys.drop,Ys.body]
    refine s_asg ?_
    refine s_next (ys_cons (y_app (x_locR rfl rfl (t_app rfl (x_call rfl (xs_cons (x_locR rfl rfl (xs_cons (x_locR rfl rfl (xs_cons (x_loc rfl (xs_cons (x_loc rfl (xs_cons (x_loc rfl (xs_cons (x_loc rfl (xs_nil ?_))))))))))))))))))
    have len:(ms++acc).length≤1000:=by rw [List.length_append]; simp only [List.length_cons] at hl1; omega
    refine call_half hH (hi.s0.ok len) (hi.s1.ok len) ht hx fun x1 y1 nid blk b hb1 hb2=>?_
    obtain ⟨i1,i2⟩:=inv_half (k:=k) (at_:=3 * nid) (kids:=[.none,nodeF 71 75 [] 0 x1 y1,.none,blk]) (b:=b) hi he (by omega) hb1 hk hx ht hz
    refine v_app rfl (Nat.ble_eq_true_of_le (by simp only [List.length_cons] at hl1; rw [List.length_map]; omega)) ?_
    dsimp only [List.set_cons_zero,List.set_cons_succ]
    refine s_next (ys_nil (fn_next ?_))
    refine ih _ _ ⟨W,acc++[⟨27,k,[.none,nodeF 71 75 [] 0 x1 y1,.none,blk],x + 262144 * t + z,3 * nid,nid,[],b⟩],nid,_,_,_,_,_,rfl,?_,fun y hy=>hl2 y (by simp [hy]),by omega,by rw [← List.append_assoc]; exact i1,by rw [← List.append_assoc]; exact i2,rfl,?_⟩
    ·simp only [List.length_append,List.length_cons,List.length_nil] at hl1 ⊢; omega
    ·rw [List.map_append]; rfl
   have hs':side = 0∨side = 1:=hs
   refine ys_cons (y_assign (x_ite (b_and (a_cons (b_cmp (x_loc rfl (x_int (c_eq ?_))))))))
   refine if_by (fun c1=>?_) (fun c1=>?_)
   ·refine a_cons (b_cmp (x_loc rfl (x_glob rfl (c_eq ?_))))
    refine if_by (fun c2=>?_) (fun c2=>?_)
    ·refine a_nil (if_t (x_bin (x_int (x_loc rfl (v_sub ?_)))))
     refine tail (1 - side) (by rcases hs with rfl | rfl <;> decide)
    ·refine if_f (x_loc rfl ?_)
     refine tail side hs
   ·refine if_f (x_loc rfl ?_)
    refine tail side hs
 refine i_tup hW1 ?_
 refine s_asg ?_
 refine s_next (ys_cons (y_ite (b_and (a_cons (b_cmp (x_loc rfl (x_int (c_eq ?_))))))))
 refine if_by (fun c1=>?_) (fun c1=>?_)
 ·refine a_cons (b_cmp (x_bin (x_loc rfl (x_int (v_mod (by decide) (x_int (c_eq ?_)))))))
  refine if_by (fun c2=>?_) (fun c2=>?_)
  ·refine a_nil ?_
   refine if_t ?_
   refine ys_cons ?_
   refine y_assign ?_
   refine x_tup (xs_cons (x_glob rfl (xs_cons (x_glob rfl (xs_nil (t_tup rfl rfl ?_))))))
   exact main [128,64] (by decide) (by decide)
  ·exact main W hW2 hW
 ·exact main W hW2 hW
section
variable {T:Tb} {ok:Nat→Nat→Bool} {KY:FD→St→Prop} {KT:St→Prop} {i j k N:Nat} {b:Ys} {t:Tg} {te:Bs} {elt:X} {loc:List (Option D)} {mu:List (Option M)}
theorem for_ind2 (P:List F→List (Option D)→List (Option M)→Prop) (shape:∀ f l loc mu,P (f :: l) loc mu→E2 fun x y=>f = .tup [x,y]) (nil:∀ loc mu,P [] loc mu→KY .next ⟨loc,mu⟩)
  (step:∀ x y l loc mu,P (.tup [x,y] :: l) loc mu→(∀ loc' mu',P l loc' mu'→forYs T ok (.many [i,j]) b l ⟨loc',mu'⟩ KY)→wpYs T ok b ⟨(loc.set i (some (.fro x))).set j (some (.fro y)),mu⟩ (forN T ok (.many [i,j]) b l KY)):∀ l loc mu,P l loc mu→forYs T ok (.many [i,j]) b l ⟨loc,mu⟩ KY
 | [],loc,mu,h=>for_nil (nil loc mu h)
 | f :: l,loc,mu,h=>by
  obtain ⟨x,y,rfl⟩:=shape f l loc mu h
  exact for_two (step x y l loc mu h (for_ind2 P shape nil step l))
noncomputable def turn (T:Tb) (t:Tg) (te:Bs) (elt:X) (N:Nat) (l:List F) (KT:St→Prop) (st1:St):Prop:=wpT T te st1 fun ok st2=>frk ok (wpX T elt st2 fun d st3=>accD N d st3 fun st4=>compWK T t te elt N l st4 KT) (compWK T t te elt N l st2 KT)
theorem comp_ind (P:List F→List (Option D)→List (Option M)→Prop) (nil:∀ loc mu,P [] loc mu→KT ⟨loc,mu⟩)
  (step:∀ f l loc mu,P (f :: l) loc mu→(∀ loc' mu',P l loc' mu'→compWK T t te elt N l ⟨loc',mu'⟩ KT)→setT t f ⟨loc,mu⟩ (turn T t te elt N l KT)):∀ l loc mu,P l loc mu→compWK T t te elt N l ⟨loc,mu⟩ KT
 | [],loc,mu,h=>nil loc mu h
 | f :: l,loc,mu,h=>step f l loc mu h (comp_ind P nil step l)
theorem set_1 {f:F} (g:KT ⟨loc.set i (some (.fro f)),mu⟩):setT (.one i) f ⟨loc,mu⟩ KT:=g
theorem set_2 {f f':F} (g:KT ⟨(loc.set i (some (.fro f))).set j (some (.fro f')),mu⟩):setT (.many [i,j]) (.tup [f,f']) ⟨loc,mu⟩ KT:=g
theorem set_3 {f f' f2:F} (g:KT ⟨((loc.set i (some (.fro f))).set j (some (.fro f'))).set k (some (.fro f2)),mu⟩):setT (.many [i,j,k]) (.tup [f,f',f2]) ⟨loc,mu⟩ KT:=g
theorem turn_nil {l:List F} {st:St} (g:wpX T elt st fun d st3=>accD N d st3 fun st4=>compWK T t .nil elt N l st4 KT):turn T t .nil elt N l KT st:=by unfold turn wpT; exact g
theorem turn_one {b:B} {l:List F} {st:St} (g:wpB T b st fun ok st2=>frk ok (wpX T elt st2 fun d st3=>accD N d st3 fun st4=>compWK T t (.cons b .nil) elt N l st4 KT) (compWK T t (.cons b .nil) elt N l st2 KT)):turn T t (.cons b .nil) elt N l KT st:=by unfold turn wpT; exact g
theorem v_acc {f:F} {L:List D} (h:mu[N]? = some (some (.lst L))) (h2:L.length≤1000) (g:KT ⟨loc,mu.set N (some (.lst (L++[.fro f])))⟩):accD N (.fro f) ⟨loc,mu⟩ KT:=⟨L,h,Nat.ble_eq_true_of_le h2,g⟩
end
theorem ctor_flags:hasB 256 256 = true∧hasB 256 64 = false∧hasB 256 128 = false∧hasB 256 262144 = false:=by decide +kernel
theorem ctor_none {ps:List Par} {kids:List F} {at_ nid:Int} {b:Bool}:((⟨27,242,kids,256,at_,nid,ps,b⟩:Mb).isGet || (⟨27,242,kids,256,at_,nid,ps,b⟩:Mb).isSet) = false:=by
 show ((decide ((27:Int) = 27) && hasB 256 64) || (decide ((27:Int) = 27) && hasB 256 128)) = false
 rw [ctor_flags.2.1,ctor_flags.2.2.1]; rfl
theorem ctor_Ok {ps:List Par} {x y at_ nid:Int} {blk:F} {b:Bool} (h:isNone blk = !b):(⟨27,242,[.none,nodeF 71 75 (ps.map Par.F) 0 x y,.none,blk],256,at_,nid,ps,b⟩:Mb).Ok:=fun _=>⟨x,y,blk,rfl,h⟩
theorem ctor_has {ps:List Par} {kids:List F} {at_ nid:Int} {w:Nat}:(⟨27,242,kids,256,at_,nid,ps,true⟩:Mb).has w = ps.any (·.has w):=by
 unfold Mb.has
 rw [if_pos]
 show (decide ((27:Int) = 27) && hasB 256 256 && true) = true
 rw [ctor_flags.1]; rfl
theorem ctor_hasN {ps:List Par} {kids:List F} {at_ nid:Int} {w:Nat} (hw:w∈words5):(⟨27,242,kids,256,at_,nid,ps,false⟩:Mb).has w = false:=by
 have:decide (242 = w) = false:=by revert hw; revert w; decide
 unfold Mb.has
 rw [if_neg (by simp)]
 show (decide (242 = w) && _ && _) = false
 rw [this]; rfl
noncomputable def ctorPT:PT:=fun ds mu K=>E8 fun q headed p row n s0 s1 ms=>A7 (ds = [.ref 0,.ref 3,.fro (.int q),.fro (.bool headed)]) (mu = mu4 p n row s0 s1) (0≤n) (ms.length≤100) (Inv ms s0 s1 n) (HasEq ms s0) (∀ (ns:List Mb) n' t0 t1,ns.length≤2→n≤n'→Inv (ms++ns) t0 t1 n'→HasEq (ms++ns) t0→K (.fro (.lst (ns.map Mb.F))) (mu4 p n' row t0 t1))
set_option maxHeartbeats 2000000 in
theorem ctor_ok {w:World} {L:Nat} {Γ:Nat→PT} (h1:1≤L) (hΓ:∀ y∈callT,CallOK w L (.ref y.2) (Γ y.2)) (hF:Γ 638 = funcPT) (hL:Γ 652 = layPT) (hP:Γ 645 = paramPT):CallOK w (L + 1) (.ref 671) ctorPT:=by
 refine run_law_ctor h1 hΓ fun ds mu K h=>?_
 obtain ⟨q,headed,p,row,n,s0,s1,ms,rfl,rfl,h0,hl,hi,he,hK⟩:=h
 refine ⟨rfl,[],(by decide:(List.range 4++[]).Nodup),by simp,?_⟩
 have main:∀ (q:Int) (a5:Option D) (acc:List Mb) (n':Int),acc.length≤1→n≤n'→Inv (ms++acc) s0 s1 n'→HasEq (ms++acc) s0→wpYs (mkTb Γ) okS (y_law_ctor.drop 2) ⟨[some (.ref 0),some (.ref 3),some (.fro (.int q)),some (.fro (.bool headed)),some (.ref 4),a5,none,none,none],[some (dM p row n'),some (.side s0),some (.side s1),some sidesM,some (.lst (acc.map fun m=>.fro m.F))]⟩ (endK 4 [] K):=by
  intro q a5 acc n' hacc hn hi he
  dsimp only [y_law_ctor,Ys.drop]
  refine ys_cons (y_assign (x_lst (xs_cons (x_call rfl (xs_cons (x_locR rfl rfl (xs_cons (x_loc rfl (xs_nil ?_)))))))))
  refine call_param hP fun x1 m1 n1 hn1 hx1 hm1=>?_
  refine xs_cons (x_call rfl (xs_cons (x_locR rfl rfl (xs_cons (x_bin (x_loc rfl (x_int (v_fdiv (by decide) (xs_nil ?_)))))))))
  refine call_param hP fun x2 m2 n2 hn2 hx2 hm2=>?_
  refine xs_nil (t_lst rfl rfl (s_asg ?_))
  refine s_next (ys_cons (y_for (x_loc rfl (g_lst rfl ?_))))
  have hi2:=hi.le (show n'≤n2 by omega)
  refine for_ind2 (fun l loc mu=>E4 fun (rows:List (Par × Nat)) (t0:Side) (a7 a8:Option D)=>A6 (l = rows.map (fun r=>.tup [r.1.F,.str r.2])) (∀ r∈rows,r.2 = 213∨r.2 = 214∨r.2 = 228) (Inv (ms++acc) t0 s1 n2) (∀ w∈words5,(w∈keysS t0∨∃ r∈rows,w = r.2) ↔ ((ms++acc).any (·.has w) = true∨w = m1∨w = m2)) (loc = [some (.ref 0),some (.ref 3),some (.fro (.int q)),some (.fro (.bool headed)),some (.ref 4),a5,some (.fro (.lst [.tup [x1.F,.str m1],.tup [x2.F,.str m2]])),a7,a8]) (mu = [some (dM p row n2),some (.side t0),some (.side s1),some sidesM,some (.lst (acc.map fun m=>.fro m.F))])) ?_ ?_ ?_ _ _ _ ⟨[(x1,m1),(x2,m2)],s0,none,none,rfl,by simp; exact ⟨hm1,hm2⟩,hi2,fun w hw=>by simp [he w hw],rfl,rfl⟩
  ·rintro f l loc mu ⟨rows,_,_,_,e,_⟩
   obtain ⟨r,rows,rfl,e1,e2⟩:=cons_map e
   exact ⟨_,_,e1⟩
  ·rintro loc mu ⟨rows,t0,a7,a8,e,_,hi3,hk,rfl,rfl⟩
   obtain rfl:=nil_map e
   refine s_next (ys_cons (y_app (x_locR rfl rfl (t_app rfl (x_call rfl (xs_cons (x_locR rfl rfl (xs_cons (x_str (xs_cons (x_glob rfl (xs_cons (x_frz (x_comp (x_loc rfl ?_)))))))))))))))
   refine t_comp rfl ?_
   refine comp_ind (fun l loc mu=>E4 fun (rows done:List (Par × Nat)) (a b:Option D)=>A4 (l = rows.map (fun r=>.tup [r.1.F,.str r.2])) (done++rows = [(x1,m1),(x2,m2)]) (loc = [a,b]) (mu = [some (dM p row n2),some (.side t0),some (.side s1),some sidesM,some (.lst (acc.map fun m=>.fro m.F)),some (.lst (done.map fun r=>.fro r.1.F))])) ?_ ?_ _ _ _ ⟨[(x1,m1),(x2,m2)],[],none,none,rfl,rfl,rfl,rfl⟩
   ·rintro loc mu ⟨rows,done,a,b,e,e2,rfl,rfl⟩
    obtain rfl:=nil_map e
    rw [List.append_nil] at e2
    subst e2
    refine f_ref rfl rfl ?_
    dsimp only [List.set_cons_zero,List.set_cons_succ]
    refine xs_cons (x_bool (xs_nil ?_))
    refine call_func hF fun x y nid blk hb1 hb2=>?_
    refine v_app rfl (Nat.ble_eq_true_of_le (by rw [List.length_map]; omega)) ?_
    dsimp only [List.set_cons_zero,List.set_cons_succ]
    refine s_next ?_
    have fin:=fz_lst (st:=⟨[some (.ref 0),some (.ref 3),some (.fro (.int q)),some (.fro (.bool headed)),some (.ref 4),a5,some (.fro (.lst [.tup [x1.F,.str m1],.tup [x2.F,.str m2]])),a7,a8],[some (dM p row nid),some (.side t0),some (.side s1),some sidesM,some (.lst ((acc.map fun m=>.fro m.F)++[.fro (nodeF 27 242 [.none,nodeF 71 75 ([x1,x2].map Par.F) 0 x y,.none,blk] 256 (3 * nid) nid)])),some (.fz (.lst [x1.F,x2.F]))]⟩) Mb.F (acc++[⟨27,242,[.none,nodeF 71 75 ([x1,x2].map Par.F) 0 x y,.none,blk],256,3 * nid,nid,[x1,x2],true⟩])
    rw [List.map_append] at fin
    refine ys_ghost rfl fin ?_
    dsimp only [List.set_cons_zero,List.set_cons_succ]
    refine ys_cons (y_ret (x_locF rfl rfl (s_ret (e_ret rfl rfl ?_))))
    refine hK (acc++[⟨27,242,[.none,nodeF 71 75 ([x1,x2].map Par.F) 0 x y,.none,blk],256,3 * nid,nid,[x1,x2],true⟩]) nid t0 s1 (by simp; omega) (by omega) ?_ ?_
    ·rw [← List.append_assoc]; exact hi3.addO ctor_none (Int.le_of_lt hb1) (Int.le_refl _) (ctor_Ok hb2)
    ·intro w hw
     rw [← List.append_assoc,List.any_append]
     have:=hk w hw
     simp only [List.not_mem_nil,false_and,exists_false,or_false] at this
     rw [this]
     simp [ctor_has,hx1 w hw,hx2 w hw]
   ·rintro f l loc mu ⟨rows,done,a,b,e,e2,rfl,rfl⟩ ih
    obtain ⟨r,rows,rfl,rfl,rfl⟩:=cons_map e
    refine set_2 (turn_nil ?_)
    dsimp only [List.set_cons_zero,List.set_cons_succ]
    refine x_loc rfl ?_
    have hd:done.length≤2:=by have:=congrArg List.length e2; simp at this; omega
    refine v_acc rfl (by rw [List.length_map]; omega) ?_
    refine ih _ _ ⟨rows,done++[r],_,_,rfl,by simpa using e2,rfl,?_⟩
    rw [List.map_append]; rfl
  ·rintro x y l loc mu ⟨rows,t0,a7,a8,e,hm,hi3,hk,rfl,rfl⟩ ih
   obtain ⟨r,rows,rfl,e1,rfl⟩:=cons_map e
   obtain ⟨rfl,rfl⟩:=tup2 e1
   dsimp only [List.set_cons_zero,List.set_cons_succ]
   have hr:=hm r (by simp)
   refine ys_cons (y_ite (b_cmp (x_loc rfl (x_str (c_neS (if_n ?_))))))
   refine if_by (fun c=>?_) (fun c=>?_)
   ·have c:=of_decide_eq_true c
    refine ys_nil (s_next (ys_nil (fn_next ?_)))
    refine ih _ _ ⟨rows,t0,_,_,rfl,fun r' hr'=>hm r' (by simp [hr']),hi3,fun w hw=>?_,rfl,rfl⟩
    rw [← hk w hw]
    have:w ≠ r.2:=by rw [c]; rintro rfl; revert hw; decide
    simp [this]
   ·have c:=of_decide_eq_false c
    refine ys_cons (y_run' (x_call rfl (xs_cons (x_idx (x_locR rfl rfl (x_int (i_mlst rfl rfl (xs_cons (x_loc rfl (xs_cons (x_int (xs_cons (x_int (xs_nil ?_))))))))))))))
    have len:(ms++acc).length≤1000:=by rw [List.length_append]; omega
    refine call_lay hL (.inl rfl) (hi3.s0.ok len) (hi3.s1.ok len) ?_
    refine t_run (s_next (ys_nil (s_next (ys_nil (fn_next ?_)))))
    have hr4:r.2∈names4:=by rcases hr with e | e | e; rw [e]; decide; rw [e]; decide; exact absurd e c
    refine ih _ _ ⟨rows,layF t0 r.2 0 0,_,_,rfl,fun r' hr'=>hm r' (by simp [hr']),hi3.lay0 hr4,fun w hw=>?_,rfl,rfl⟩
    rw [← hk w hw,keys_layF]
    simp [or_assoc]
 show wpYs _ _ y_law_ctor ⟨[some (.ref 0),some (.ref 3),some (.fro (.int q)),some (.fro (.bool headed)),none,none,none,none,none],[some (dM p row n),some (.side s0),some (.side s1),some sidesM]⟩ (endK 4 [] K)
 unfold y_law_ctor
 refine ys_cons (y_assign (x_mlst (xs_nil (t_mlst rfl (s_asg ?_)))))
 refine s_next (ys_cons (y_ite (b_tru (x_loc rfl (u_b ?_)))))
 dsimp only [List.cons_append,List.nil_append]
 skip
 refine if_by (fun c=>?_) (fun c=>?_)
 ·refine ys_cons (y_assign (x_lst (xs_cons (x_idx (x_call rfl (xs_cons (x_locR rfl rfl (xs_cons (x_bin (x_loc rfl (x_int (v_fdiv (by decide) (xs_nil ?_)))))))))))))
  refine call_param hP fun x1 m1 n1 hn1 hx1 hm1=>?_
  refine x_int (i_tup rfl (xs_cons (x_idx (x_call rfl (xs_cons (x_locR rfl rfl (xs_cons (x_loc rfl (xs_nil ?_)))))))))
  refine call_param hP fun x2 m2 n2 hn2 hx2 hm2=>?_
  refine x_int (i_tup rfl (xs_nil (t_lst rfl rfl (s_asg ?_))))
  refine s_next (ys_cons (y_app (x_locR rfl rfl (t_app rfl (x_call rfl (xs_cons (x_locR rfl rfl (xs_cons (x_str (xs_cons (x_glob rfl (xs_cons (x_loc rfl (xs_cons (x_bool (xs_nil ?_))))))))))))))))
  refine call_func hF fun x y nid blk hb1 hb2=>?_
  refine v_app rfl rfl ?_
  dsimp only [List.set_cons_zero,List.set_cons_succ,List.nil_append]
  refine s_next ?_
  refine ys_cons ?_
  refine y_assign ?_
  refine x_bin (x_loc rfl (x_int (v_fdiv (by decide) ?_)))
  exact main (q.fdiv 4096) _ [⟨27,242,[.none,nodeF 71 75 ([x1,x2].map Par.F) 0 x y,.none,blk],256,3 * nid,nid,[x1,x2],false⟩] nid (by simp) (by omega) ((hi.le (show n≤n2 by omega)).addO ctor_none (Int.le_of_lt hb1) (Int.le_refl _) (ctor_Ok hb2)) (he.add fun w hw=>ctor_hasN hw)
 ·refine ys_nil ?_
  exact main q none [] n (by simp) (Int.le_refl _) (by rw [List.append_nil]; exact hi) (by rw [List.append_nil]; exact he)
section
variable {Γ:Nat→PT} {loc:List (Option D)} {rest:List (Option M)} {K:D→St→Prop} {p n:Int} {row:List Int} {s0 s1:Side} {ms:List Mb}
theorem call_acc (hN:Γ 666 = accPT) {k:Nat} {side sort q:Int} (hk:k∈names4) (hs:side = 0∨side = 1) (hsort:sort = 3∨sort = 4∨sort = 5∨sort = 6∨sort = 8) (h0:0≤n) (hl:ms.length≤100) (hi:Inv ms s0 s1 n) (he:HasEq ms s0)
  (g:∀ (ns:List Mb) n' t0 t1,ns.length≤2→n≤n'→Inv (ms++ns) t0 t1 n'→HasEq (ms++ns) t0→K (.fro (.lst (ns.map Mb.F))) ⟨loc,mu4 p n' row t0 t1++rest⟩) :
  callK (mkTb Γ) [0,1,2,3] 666 K [.ref 0,.ref 3,.fro (.str k),.fro (.int side),.fro (.int sort),.fro (.int q)] ⟨loc,some (dM p row n) :: some (.side s0) :: some (.side s1) :: some sidesM :: rest⟩ :=
 t_4 hN rfl ⟨k,side,sort,q,p,row,n,s0,s1,ms,rfl,rfl,hk,hs,hsort,h0,hl,hi,he,fun ns n' t0 t1 a b c d=>back4 (g ns n' t0 t1 a b c d)⟩
theorem call_ctor (hN:Γ 671 = ctorPT) {q:Int} {headed:Bool} (h0:0≤n) (hl:ms.length≤100) (hi:Inv ms s0 s1 n) (he:HasEq ms s0)
  (g:∀ (ns:List Mb) n' t0 t1,ns.length≤2→n≤n'→Inv (ms++ns) t0 t1 n'→HasEq (ms++ns) t0→K (.fro (.lst (ns.map Mb.F))) ⟨loc,mu4 p n' row t0 t1++rest⟩) :
  callK (mkTb Γ) [0,1,2,3] 671 K [.ref 0,.ref 3,.fro (.int q),.fro (.bool headed)] ⟨loc,some (dM p row n) :: some (.side s0) :: some (.side s1) :: some sidesM :: rest⟩ :=
 t_4 hN rfl ⟨q,headed,p,row,n,s0,s1,ms,rfl,rfl,h0,hl,hi,he,fun ns n' t0 t1 a b c d=>back4 (g ns n' t0 t1 a b c d)⟩
end
noncomputable def nameF:List F:=[.str 213,.str 214,.str 215,.str 75]
theorem name_at (z:Int):∃ k,idxL nameF (z.fmod 4) = some (.str k)∧k∈names4:=by
 rcases fm4 z with e | e | e | e <;> rw [e]
 ·exact ⟨_,rfl,by decide⟩
 ·exact ⟨_,rfl,by decide⟩
 ·exact ⟨_,rfl,by decide⟩
 ·exact ⟨_,rfl,by decide⟩
theorem side_at {side:Int} (hs:side = 0∨side = 1):∃ i,A3 (idxL [D.ref 1,D.ref 2] side = some (.ref i)) (i = 1∨i = 2) (decide (i = 1) = decide (side = 0)):=by
 rcases hs with rfl | rfl
 ·exact ⟨_,rfl,.inl rfl,rfl⟩
 ·exact ⟨_,rfl,.inr rfl,rfl⟩
noncomputable def fldL:List F:=[.int 0,.int 4096,.int 131072,.int 4194304,.int 2097152,.int 524288,.int 16384,.int 1048576]
theorem fld_at {t:Int} (ht:t = 0∨t = 1) (q:Int):∃ z,idxL fldL (q.fmod 8) = some (.int z)∧hasB (262144 * t + z) 262144 = !decide (t = 0):=by
 rcases fm8 q with e | e | e | e | e | e | e | e <;> rw [e] <;> refine ⟨_,rfl,?_⟩ <;> rcases ht with rfl | rfl <;> decide +kernel
structure Plain (m:Mb) (k:Nat) (t:Int):Prop where
 a:m.a = k
 kind:m.kind = 62∨m.kind = 27
 ctor:m.ctor = false
 none:(m.isGet || m.isSet) = false
 st:m.st = !decide (t = 0)
theorem Plain.has {m:Mb} {k:Nat} {t:Int} (h:Plain m k t) (w:Nat):m.has w = (decide (w = k) && decide (t = 0)):=by
 rw [Mb.has_plain h.ctor h.kind,h.a,h.st,Bool.not_not]
 congr 1
 exact decide_eq_decide.mpr eq_comm
noncomputable def HasK (ms:List Mb) (s0:Side) (k:Nat) (t:Int):Prop:=∀ w∈words5,w∈keysS s0 ↔ (ms.any (·.has w) = true∨(w = k∧t = 0))
theorem HasK.add {ms:List Mb} {s0:Side} {k:Nat} {t:Int} (h:HasK ms s0 k t) {m:Mb} (hm:Plain m k t):HasEq (ms++[m]) s0:=fun w hw=>by
 rw [h w hw,List.any_append]; simp [hm.has w]
theorem HasK.keep {ms:List Mb} {s0:Side} {k:Nat} {t:Int} (h:HasK ms s0 k t) {m:Mb} (hm:Plain m k t):HasK (ms++[m]) s0 k t:=fun w hw=>by
 rw [h w hw,List.any_append]; simp [hm.has w]
theorem field_plain {k:Nat} {t z at_ nid:Int} {kids:List F} (h:hasB (262144 * t + z) 262144 = !decide (t = 0)):Plain ⟨62,k,kids,262144 * t + z,at_,nid,[],false⟩ k t:=⟨rfl,.inl rfl,rfl,rfl,h⟩
theorem meth_flags {t:Int} (ht:t = 0∨t = 1):(hasB (32 + 262144 * t) 256 = false∧hasB (32 + 262144 * t) 64 = false∧hasB (32 + 262144 * t) 128 = false∧hasB (32 + 262144 * t) 262144 = !decide (t = 0)) ∧
  (hasB (32 + 524288 + 262144 * t) 256 = false∧hasB (32 + 524288 + 262144 * t) 64 = false∧hasB (32 + 524288 + 262144 * t) 128 = false∧hasB (32 + 524288 + 262144 * t) 262144 = !decide (t = 0)):=by
 rcases ht with rfl | rfl <;> decide +kernel
theorem meth_plain {k:Nat} {t fl at_ nid:Int} {kids:List F} {b:Bool} (h:hasB fl 256 = false∧hasB fl 64 = false∧hasB fl 128 = false∧hasB fl 262144 = !decide (t = 0)):Plain ⟨27,k,kids,fl,at_,nid,[],b⟩ k t:=by
 obtain ⟨a,b',c,d⟩:=h
 refine ⟨rfl,.inr rfl,?_,?_,d⟩
 ·show (decide ((27:Int) = 27) && hasB fl 256) = false; rw [a]; rfl
 ·show ((decide ((27:Int) = 27) && hasB fl 64) || (decide ((27:Int) = 27) && hasB fl 128)) = false; rw [b',c]; rfl
theorem Plain.Ok {m:Mb} {k:Nat} {t:Int} (h:Plain m k t):m.Ok:=fun hc=>by rw [h.ctor] at hc; cases hc
noncomputable def deedPT:PT:=fun ds mu K=>E6 fun p row n s0 s1 ms=>A9 (ds = [.ref 0,.ref 3]) (mu = mu4 p n row s0 s1) (0≤p) (row.length≤40) (0≤n) (ms.length≤100) (Inv ms s0 s1 n) (HasEq ms s0) (∀ (ns:List Mb) p' n' t0 t1,ns.length≤2→0≤p'→n≤n'→Inv (ms++ns) t0 t1 n'→HasEq (ms++ns) t0→K (.fro (.lst (ns.map Mb.F))) (mu4 p' n' row t0 t1))
set_option maxHeartbeats 4000000 in
theorem deed_ok {w:World} {L:Nat} {Γ:Nat→PT} (h1:1≤L) (hΓ:∀ y∈callT,CallOK w L (.ref y.2) (Γ y.2)) (hp:Γ 624 = pullPT) (hN:Γ 631 = nodePT) (hF:Γ 638 = funcPT) (hL:Γ 652 = layPT) (hP:Γ 645 = paramPT) (hA:Γ 666 = accPT) (hC:Γ 671 = ctorPT):CallOK w (L + 1) (.ref 678) deedPT:=by
 refine run_law_deed h1 hΓ fun ds mu K h=>?_
 obtain ⟨p,row,n,s0,s1,ms,rfl,rfl,hp0,hrow,h0,hl,hi,he,hK⟩:=h
 refine ⟨rfl,[],(by decide:(List.range 4++[]).Nodup),by simp,?_⟩
 show wpYs _ _ y_law_deed ⟨[some (.ref 0),some (.ref 3),none,none,none,none,none,none,none,none,none],[some (dM p row n),some (.side s0),some (.side s1),some sidesM]⟩ (endK 4 [] K)
 unfold y_law_deed
 refine ys_cons (y_assign (x_call rfl (xs_cons (x_locR rfl rfl (xs_nil ?_)))))
 refine call_pull hp hp0 hrow fun z hz0 hz1=>?_
 obtain ⟨k,hk1,hk⟩:=name_at z
 refine s_asg ?_
 refine s_next (ys_cons (y_assign (x_idx (x_glob rfl (x_bin (x_loc rfl (x_int (v_mod (by decide) ?_))))))))
 refine i_tup hk1 ?_
 have hs:=fm2 (z.fdiv 48)
 have len:ms.length≤1000:=by omega
 refine s_asg ?_
 refine s_next (ys_cons (y_assign (x_bin (x_bin (x_loc rfl (x_int (v_fdiv (by decide) (x_int (v_mod (by decide) (s_asg ?_))))))))))
 refine s_next (ys_cons (y_assign (x_bin (x_bin (x_loc rfl (x_int (v_fdiv (by decide) (x_int (v_mod (by decide) (s_asg ?_))))))))))
 refine s_next (ys_cons (y_assign (x_bin (x_loc rfl (x_int (v_fdiv (by decide) (s_asg ?_)))))))
 refine s_next (ys_cons (y_assign (x_bin (x_glob rfl (x_loc rfl (v_mulL (by decide) (s_asg ?_)))))))
 refine s_next (ys_cons (y_ite (b_cmp2 (x_loc rfl (x_tup (xs_cons (x_int (xs_cons (x_int (xs_cons (x_int (xs_cons (x_int (xs_cons (x_int (xs_nil (t_tup rfl rfl (e_inT rfl ?_))))))))))))))))))
 generalize (z.fdiv 48).fmod 2 = side at hs
 generalize (z.fdiv 4).fmod 12 = sort
 generalize z.fdiv 96 = q
 refine if_by (fun c=>?_) (fun c=>?_)
 ·refine ys_cons (y_ret (x_call rfl (xs_cons (x_locR rfl rfl (xs_cons (x_locR rfl rfl (xs_cons (x_loc rfl (xs_cons (x_loc rfl (xs_cons (x_loc rfl (xs_cons (x_loc rfl (xs_nil ?_)))))))))))))))
  refine call_acc (ms:=ms) hA hk hs (by simp only [List.any_cons,List.any_nil,Bool.or_false,Bool.or_eq_true,beq_iff_eq] at c; rcases c with rfl | rfl | rfl | rfl | rfl <;> decide) h0 hl hi he fun ns n' t0 t1 g1 g2 g3 g4=>?_
  refine s_ret (s_ret (e_ret rfl rfl ?_))
  exact hK ns (p + 1) n' t0 t1 g1 (by omega) g2 g3 g4
 refine ys_nil (s_next (ys_cons (y_ite (b_or (o_cons (b_cmp (x_loc rfl (x_int (c_eq ?_)))))))))
 refine if_by (fun c7=>?_) (fun c7=>?_)
 ·refine if_t (ys_cons (y_ret (x_call rfl (xs_cons (x_locR rfl rfl (xs_cons (x_locR rfl rfl (xs_cons (x_loc rfl (xs_cons (x_cmp (x_loc rfl (x_int (c_eq (xs_nil ?_)))))))))))))))
  refine call_ctor (ms:=ms) hC h0 hl hi he fun ns n' t0 t1 g1 g2 g3 g4=>?_
  refine s_ret (s_ret (e_ret rfl rfl ?_))
  exact hK ns (p + 1) n' t0 t1 g1 (by omega) g2 g3 g4
 refine o_cons (b_cmp (x_loc rfl (x_int (c_eq ?_))))
 refine if_by (fun c11=>?_) (fun c11=>?_)
 ·refine if_t (ys_cons (y_ret (x_call rfl (xs_cons (x_locR rfl rfl (xs_cons (x_locR rfl rfl (xs_cons (x_loc rfl (xs_cons (x_cmp (x_loc rfl (x_int (c_eq (xs_nil ?_)))))))))))))))
  refine call_ctor (ms:=ms) hC h0 hl hi he fun ns n' t0 t1 g1 g2 g3 g4=>?_
  refine s_ret (s_ret (e_ret rfl rfl ?_))
  exact hK ns (p + 1) n' t0 t1 g1 (by omega) g2 g3 g4
 refine o_nil (if_f (ys_nil (s_next (ys_cons (y_ite (b_cmp (x_loc rfl (x_int (c_eq ?_)))))))))
 refine if_by (fun c9=>?_) (fun c9=>?_)
 ·refine ys_cons (y_assign (x_lst (xs_cons (x_call rfl (xs_cons (x_locR rfl rfl (xs_cons (x_glob rfl (xs_cons (x_str (xs_cons (x_lst (xs_nil (t_lst rfl rfl (xs_cons (x_int (xs_nil (call_node (by assumption) (xs_cons (x_call rfl (xs_cons (x_locR rfl rfl (xs_cons (x_glob rfl (xs_cons (x_str (xs_cons (x_lst (xs_nil (t_lst rfl rfl (xs_cons (x_int (xs_nil (call_node (by assumption) (xs_nil (t_lst rfl rfl (s_asg ?_)))))))))))))))))))))))))))))))))))))
  refine s_next (ys_cons (y_ret (x_lst (xs_cons (x_call rfl (xs_cons (x_locR rfl rfl (xs_cons (x_glob rfl (xs_cons (x_loc rfl (xs_cons (x_loc rfl (xs_cons (x_loc rfl (xs_nil (call_node (by assumption) (xs_nil (t_lst rfl rfl (s_ret (s_ret (e_ret rfl rfl ?_))))))))))))))))))))))
  refine hK [⟨63,k,[nodeF 80 100 [] 0 (3 * (n + 1)) (n + 1),nodeF 80 94 [] 0 (3 * (n + 1 + 1)) (n + 1 + 1)],262144 * side,3 * (n + 1 + 1 + 1),n + 1 + 1 + 1,[],false⟩] (p + 1) (n + 1 + 1 + 1) s0 s1 (by simp) (by omega) (by omega) (hi.addO rfl (by omega) (Int.le_refl _) (fun hc=>by cases hc)) (he.add fun w hw=>?_)
  show (if (false && false) = true then _ else (decide (k = w) && (decide ((63:Int) = 62) || decide ((63:Int) = 27)) && _)) = false
  simp
 refine ys_nil (s_next (ys_cons (y_run' (x_call rfl (xs_cons (x_idx (x_locR rfl rfl (x_loc rfl ?_))))))))
 obtain ⟨i,hi1,hi2,hi3⟩:=side_at hs
 refine i_mlst rfl hi1 ?_
 refine xs_cons (x_loc rfl (xs_cons (x_int (xs_cons (x_int (xs_nil ?_))))))
 refine call_lay hL hi2 (hi.s0.ok len) (hi.s1.ok len) ?_
 obtain ⟨t0,ht0⟩:∃ t0,t0 = (if i = 1 then layF s0 k 0 0 else s0):=⟨_,rfl⟩
 obtain ⟨t1,ht1⟩:∃ t1,t1 = (if i = 1 then s1 else layF s1 k 0 0):=⟨_,rfl⟩
 rw [← ht0,← ht1]
 have hT:Inv ms t0 t1 n:=by
  rw [ht0,ht1]
  rcases hi2 with rfl | rfl
  ·exact hi.lay0 hk
  ·exact hi.lay1 hk
 have hKK:HasK ms t0 k side:=by
  intro w hw
  rw [ht0]
  have:=decide_eq_decide.mp hi3
  by_cases e:i = 1
  ·rw [if_pos e,keys_layF,he w hw]; simp [this.mp e]
  ·have hne:side ≠ 0:=fun z=>e (this.mpr z)
   rw [if_neg e,he w hw]; simp [hne]
 clear ht0 ht1 hi1
 obtain ⟨mf1,mf2⟩:=meth_flags hs
 refine t_run (s_next (ys_cons (y_ite (b_cmp (x_loc rfl (x_int (c_eq ?_)))))))
 refine if_by (fun c0=>?_) (fun c0=>?_)
 ·refine ys_cons (y_assign (x_idx (x_tup (xs_cons (x_int (xs_cons (x_glob rfl (xs_cons (x_glob rfl (xs_cons (x_glob rfl (xs_cons (x_glob rfl (xs_cons (x_glob rfl (xs_cons (x_glob rfl (xs_cons (x_glob rfl (xs_nil (t_tup rfl rfl (x_bin (x_loc rfl (x_int (v_mod (by decide) ?_)))))))))))))))))))))))))
  obtain ⟨fz,hfz,hst⟩:=fld_at hs q
  refine i_tup hfz ?_
  refine s_asg ?_
  refine s_next (ys_cons (y_ret (x_lst (xs_cons (x_call rfl (xs_cons (x_locR rfl rfl (xs_cons (x_glob rfl (xs_cons (x_loc rfl (xs_cons (x_lst (xs_cons (x_none (xs_cons (x_none (xs_nil (t_lst rfl rfl (xs_cons (x_bin (x_loc rfl (x_loc rfl (v_add (xs_nil (call_node (by assumption) (xs_nil (t_lst rfl rfl (s_ret (s_ret (e_ret rfl rfl ?_)))))))))))))))))))))))))))))))
  have hm:=field_plain (k:=k) (at_:=3 * (n + 1)) (nid:=n + 1) (kids:=[.none,.none]) hst
  exact hK [⟨62,k,[.none,.none],262144 * side + fz,3 * (n + 1),n + 1,[],false⟩] (p + 1) (n + 1) t0 t1 (by simp) (by omega) (by omega) (hT.addO hm.none (by omega) (Int.le_refl _) hm.Ok) (hKK.add hm)
 refine ys_nil (s_next (ys_cons (y_ite (b_cmp (x_loc rfl (x_int (c_eq ?_)))))))
 refine if_by (fun c10=>?_) (fun c10=>?_)
 ·refine ys_cons (y_ret (x_lst (xs_cons (x_call rfl (xs_cons (x_locR rfl rfl (xs_cons (x_loc rfl (xs_cons (x_bin (x_bin (x_glob rfl (x_glob rfl (v_add (x_loc rfl (v_add (xs_cons (x_lst (xs_cons (x_idx (x_call rfl (xs_cons (x_locR rfl rfl (xs_cons (x_loc rfl (xs_nil ?_))))))))))))))))))))))))))
  refine call_param hP fun x m n1 hn1 hx hm=>?_
  refine x_int (i_tup rfl (xs_nil (t_lst rfl rfl (xs_cons (x_bool (xs_nil ?_))))))
  refine call_func hF fun x1 y1 nid blk hb1 hb2=>?_
  refine xs_nil (t_lst rfl rfl (s_ret (s_ret (e_ret rfl rfl ?_))))
  have hm:=meth_plain (k:=k) (at_:=3 * nid) (nid:=nid) (kids:=[.none,nodeF 71 75 [x.F] 0 x1 y1,.none,blk]) (b:=false) mf2
  exact hK [⟨27,k,[.none,nodeF 71 75 [x.F] 0 x1 y1,.none,blk],32 + 524288 + 262144 * side,3 * nid,nid,[],false⟩] (p + 1) nid t0 t1 (by simp) (by omega) (by omega) (hT.addO hm.none (by omega) (Int.le_refl _) hm.Ok) (hKK.add hm)
 refine ys_nil (s_next (ys_cons (y_assign (x_lst (xs_cons (x_call rfl (xs_cons (x_locR rfl rfl (xs_cons (x_loc rfl (xs_cons (x_bin (x_glob rfl (x_loc rfl (v_add (xs_cons (x_lst (xs_cons (x_idx (x_call rfl (xs_cons (x_locR rfl rfl (xs_cons (x_loc rfl (xs_nil ?_)))))))))))))))))))))))))
 refine call_param hP fun x m n1 hn1 hx hm=>?_
 refine x_int (i_tup rfl (xs_nil (t_lst rfl rfl (xs_cons (x_bool (xs_nil ?_))))))
 refine call_func hF fun x1 y1 nid blk hb1 hb2=>?_
 refine xs_nil (t_lst rfl rfl (s_asg ?_))
 refine s_next (ys_cons (y_ite (b_cmp (x_loc rfl (x_int (c_eq ?_))))))
 have hm:=meth_plain (k:=k) (at_:=3 * nid) (nid:=nid) (kids:=[.none,nodeF 71 75 [x.F] 0 x1 y1,.none,blk]) (b:=true) mf1
 have gT:=hT.addO (n':=nid) hm.none (by omega) (Int.le_refl _) hm.Ok
 refine if_by (fun c2=>?_) (fun c2=>?_)
 ·refine ys_cons (y_assign (x_cat (x_lst (xs_cons (x_call rfl (xs_cons (x_locR rfl rfl (xs_cons (x_loc rfl (xs_cons (x_bin (x_glob rfl (x_loc rfl (v_add (xs_cons (x_lst (xs_nil (t_lst rfl rfl (xs_cons (x_bool (xs_nil ?_)))))))))))))))))))))
  refine call_func hF fun x2 y2 nid2 blk2 hb3 hb4=>?_
  refine xs_nil (t_lst rfl rfl (x_loc rfl ?_))
  refine v_cat rfl rfl (by show 1 + 1≤1000; decide) ?_
  refine s_asg ?_
  refine s_next (ys_nil (s_next (ys_cons (y_ret (x_loc rfl (s_ret (e_ret rfl rfl ?_)))))))
  have hm2:=meth_plain (k:=k) (at_:=3 * nid2) (nid:=nid2) (kids:=[.none,nodeF 71 75 [] 0 x2 y2,.none,blk2]) (b:=false) mf1
  exact hK [⟨27,k,[.none,nodeF 71 75 [] 0 x2 y2,.none,blk2],32 + 262144 * side,3 * nid2,nid2,[],false⟩,⟨27,k,[.none,nodeF 71 75 [x.F] 0 x1 y1,.none,blk],32 + 262144 * side,3 * nid,nid,[],true⟩] (p + 1) nid2 t0 t1 (by simp) (by omega) (by omega)
   (by have:=(hT.addO (n':=nid2) hm2.none (by omega) (Int.le_refl _) hm2.Ok).addO (n':=nid2) hm.none (Int.le_refl _) (Int.le_of_lt hb3) hm.Ok; rw [List.append_assoc] at this; exact this)
   (by have:=(hKK.keep hm2).add hm; rw [List.append_assoc] at this; exact this)
 ·refine ys_nil (s_next (ys_cons (y_ret (x_loc rfl (s_ret (e_ret rfl rfl ?_))))))
  exact hK [⟨27,k,[.none,nodeF 71 75 [x.F] 0 x1 y1,.none,blk],32 + 262144 * side,3 * nid,nid,[],true⟩] (p + 1) nid t0 t1 (by simp) (by omega) (by omega) gT (hKK.add hm)
noncomputable def loneOf (s:Side):List Int:=s.flatMap fun y=>if y.2.1 = 0 then y.2.2 else []
noncomputable def isLone (ms:List Mb) (m:Mb):Bool:=m.isSet && !getB ms m.a m.st
noncomputable def loneN (ms:List Mb):List Int:=(ms.filter (isLone ms)).map (·.nid)
theorem setter_inj {ms:List Mb} (h:((ms.filter (·.isSet)).map (·.nid)).Pairwise (· < ·)) {m m':Mb} (hm:m∈ms) (hm':m'∈ms) (s:m.isSet = true) (s':m'.isSet = true) (e:m.nid = m'.nid):m = m':=by
 have key:∀ {l:List Mb},(l.map (·.nid)).Pairwise (· < ·)→∀ {a b:Mb},a∈l→b∈l→a.nid = b.nid→a = b:=by
  intro l
  induction l with
  | nil=>intro _ a b h; cases h
  | cons x l ih =>
   intro h a b ha hb e
   have h:=List.pairwise_cons.mp h
   rcases List.mem_cons.mp ha with e1 | ha2 <;> rcases List.mem_cons.mp hb with e2 | hb2
   ·rw [e1,e2]
   ·have h3:=h.1 b.nid (List.mem_map.mpr ⟨b,hb2,rfl⟩); dsimp only at h3; rw [← e1,e] at h3; exact absurd h3 (Int.lt_irrefl _)
   ·have h3:=h.1 a.nid (List.mem_map.mpr ⟨a,ha2,rfl⟩); dsimp only at h3; rw [← e2,e] at h3; exact absurd h3 (Int.lt_irrefl _)
   ·exact ih h.2 ha2 hb2 e
 exact key h (List.mem_filter.mpr ⟨hm,s⟩) (List.mem_filter.mpr ⟨hm',s'⟩) e
theorem mem_loneOf {ms:List Mb} {b:Bool} {s:Side} (h:SideOk ms b s) {x:Int}:x∈loneOf s ↔ ∃ m∈ms,A3 (isLone ms m = true) (m.st = b) (m.nid = x):=by
 unfold loneOf
 rw [List.mem_flatMap]
 constructor
 ·rintro ⟨⟨k,c,ns⟩,hy,hx⟩
  obtain ⟨_,g,e⟩:=h.cnt k c ns hy
  dsimp only at hx
  split at hx
  ·rename_i hc
   rw [e] at hx
   obtain ⟨m,hm,rfl⟩:=List.mem_map.mp hx
   obtain ⟨hm,f⟩:=List.mem_filter.mp hm
   simp only [Bool.and_eq_true,decide_eq_true_eq,beq_iff_eq] at f
   refine ⟨m,hm,?_,f.2.2,rfl⟩
   unfold isLone
   rw [f.1,f.2.1,f.2.2,← g,decide_eq_true hc]; rfl
  ·cases hx
 ·rintro ⟨m,hm,hl,hb,rfl⟩
  unfold isLone at hl
  simp only [Bool.and_eq_true] at hl
  have hk:=h.all m hm (by simp [hl.1]) hb
  obtain ⟨⟨k,c,ns⟩,hy,e⟩:=List.mem_map.mp hk
  dsimp only at e
  subst e
  obtain ⟨_,g,e⟩:=h.cnt _ _ _ hy
  refine ⟨(m.a,c,ns),hy,?_⟩
  have hc:c = 0:=by
   have h2:=hl.2
   rw [hb,← g] at h2
   exact of_decide_eq_true h2
  dsimp only
  rw [if_pos hc,e]
  exact List.mem_map.mpr ⟨m,List.mem_filter.mpr ⟨hm,by simp [hl.1,hb]⟩,rfl⟩
theorem setN_nodup {ms:List Mb} (h:((ms.filter (·.isSet)).map (·.nid)).Pairwise (· < ·)) {k:Nat} {b:Bool}:(setN ms k b).Nodup:=by
 have e:setN ms k b = ((ms.filter (·.isSet)).filter fun m=>decide (m.a = k) && m.st == b).map (·.nid):=by
  unfold setN
  rw [List.filter_filter]
  congr 1
  apply List.filter_congr
  intro m _
  rw [Bool.and_comm]
 rw [e]
 have:(((ms.filter (·.isSet)).filter fun m=>decide (m.a = k) && m.st == b).map (·.nid)).Pairwise (· < ·) :=
  h.sublist (List.Sublist.map _ List.filter_sublist)
 exact this.imp fun q=>Int.ne_of_lt q
theorem loneOf_nodup {ms:List Mb} (h:((ms.filter (·.isSet)).map (·.nid)).Pairwise (· < ·)) {b:Bool} {s:Side} (hs:SideOk ms b s):(loneOf s).Nodup:=by
 unfold loneOf List.Nodup
 rw [List.pairwise_flatMap]
 refine ⟨fun y hy=>?_,?_⟩
 ·obtain ⟨k,c,ns⟩:=y
  obtain ⟨_,_,e⟩:=hs.cnt k c ns hy
  dsimp only
  split
  ·rw [e]; exact setN_nodup h
  ·exact List.Pairwise.nil
 ·have nd:(s.map (·.1)).Pairwise (· ≠ ·):=hs.nd
  rw [List.pairwise_map] at nd
  refine nd.imp_of_mem fun {y z} hy hz ne x hx x' hx'=>?_
  obtain ⟨k,c,ns⟩:=y
  obtain ⟨k',c',ns'⟩:=z
  obtain ⟨_,_,e⟩:=hs.cnt k c ns hy
  obtain ⟨_,_,e'⟩:=hs.cnt k' c' ns' hz
  dsimp only at hx hx' ne
  split at hx
  ·split at hx'
   ·rw [e] at hx
    rw [e'] at hx'
    obtain ⟨m,hm,rfl⟩:=List.mem_map.mp hx
    obtain ⟨m',hm',rfl⟩:=List.mem_map.mp hx'
    obtain ⟨hm,f⟩:=List.mem_filter.mp hm
    obtain ⟨hm',f'⟩:=List.mem_filter.mp hm'
    simp only [Bool.and_eq_true,decide_eq_true_eq,beq_iff_eq] at f f'
    intro q
    have:=setter_inj h hm hm' f.1 f'.1 q
    exact ne (by rw [← f.2.1,← f'.2.1,this])
   ·cases hx'
  ·cases hx
theorem loneN_inc {ms:List Mb} (h:((ms.filter (·.isSet)).map (·.nid)).Pairwise (· < ·)):(loneN ms).Pairwise (· < ·):=by
 have e:loneN ms = ((ms.filter (·.isSet)).filter fun m=>!getB ms m.a m.st).map (·.nid):=by
  unfold loneN
  rw [List.filter_filter]
  congr 1
  apply List.filter_congr
  intro m _
  rw [Bool.and_comm]; rfl
 rw [e]
 exact h.sublist (List.Sublist.map _ List.filter_sublist)
theorem lone_perm {ms:List Mb} {s0 s1:Side} {n:Int} (h:Inv ms s0 s1 n):(loneOf s0++loneOf s1).Perm (loneN ms):=by
 refine (List.perm_ext_iff_of_nodup ?_ ((loneN_inc h.inc).imp fun q=>Int.ne_of_lt q)).mpr fun x=>?_
 ·rw [List.nodup_append]
  refine ⟨loneOf_nodup h.inc h.s0,loneOf_nodup h.inc h.s1,fun x hx y hy=>?_⟩
  obtain ⟨m,hm,l1,b1,rfl⟩:=(mem_loneOf h.s0).mp hx
  obtain ⟨m',hm',l2,b2,rfl⟩:=(mem_loneOf h.s1).mp hy
  intro q
  unfold isLone at l1 l2
  simp only [Bool.and_eq_true] at l1 l2
  have:=setter_inj h.inc hm hm' l1.1 l2.1 q
  rw [this,b2] at b1; cases b1
 ·rw [List.mem_append,mem_loneOf h.s0,mem_loneOf h.s1]
  unfold loneN
  rw [List.mem_map]
  constructor
  ·rintro (⟨m,hm,l,_,e⟩ | ⟨m,hm,l,_,e⟩) <;> exact ⟨m,List.mem_filter.mpr ⟨hm,l⟩,e⟩
  ·rintro ⟨m,hm,e⟩
   obtain ⟨hm,l⟩:=List.mem_filter.mp hm
   cases q:m.st
   ·exact .inl ⟨m,hm,l,q,e⟩
   ·exact .inr ⟨m,hm,l,q,e⟩
theorem lone_sorted {ms:List Mb} {s0 s1:Side} {n:Int} (h:Inv ms s0 s1 n) {l:List Int} (hp:l.Perm (loneOf s0++loneOf s1)) (hs:l.Pairwise (·≤·)):l = loneN ms :=
 List.Perm.eq_of_pairwise (le:=(·≤·)) (fun a b _ _ h1 h2=>Int.le_antisymm h1 h2) hs ((loneN_inc h.inc).imp fun q=>Int.le_of_lt q) (hp.trans (lone_perm h))
theorem lone_len {ms:List Mb} {s0 s1:Side} {n:Int} (h:Inv ms s0 s1 n):(loneOf s0++loneOf s1).length≤ms.length:=by
 rw [(lone_perm h).length_eq]
 unfold loneN
 rw [List.length_map]
 exact List.length_filter_le _ _
noncomputable def sideF (s:Side):F:=.dic (s.map (·.1)) (s.map fun x=>.lst [.int x.2.1,.lst (x.2.2.map .int)])
theorem lk_side {k:Nat} {c:Int} {ns:List Int}:∀ {s:Side},(keysS s).Nodup→(k,c,ns)∈s→lk (s.map (·.1)) (s.map fun x=>F.lst [.int x.2.1,.lst (x.2.2.map .int)]) k = some (.lst [.int c,.lst (ns.map .int)])
 | [],_,h=>by cases h
 | (k',c',ns') :: s,nd,h=>by
  have nd':k' ∉ keysS s∧(keysS s).Nodup:=List.nodup_cons.mp nd
  simp only [List.map_cons]
  unfold lk
  rcases List.mem_cons.mp h with e | e
  ·cases e; rw [if_pos rfl]
  ·have:k' ≠ k:=fun z=>nd'.1 (by rw [z]; exact List.mem_map.mpr ⟨_,e,rfl⟩)
   rw [if_neg this]; exact lk_side nd'.2 e
structure Made where
 ms:List Mb
 name:Nat
 k0:F
 k1:F
 k2:F
 k3:F
 lk:Int
 la:Nat
 lf:Int
 lat:Int
 lnid:Int
 fl:Int
 at_:Int
 nid:Int
 ks:List Nat
 vals:List F
 opn:Bool
noncomputable def Made.node (m:Made):F:=nodeF 61 m.name [m.k0,m.k1,m.k2,m.k3,nodeF m.lk m.la (m.ms.map Mb.F) m.lf m.lat m.lnid] m.fl m.at_ m.nid
noncomputable def Made.F (m:Made):F:=.dic [47,253,252,254] [m.node,.dic m.ks m.vals,.lst ((loneN m.ms).map .int),.bool m.opn]
structure Made.Ok (m:Made):Prop where
 ok:∀ x∈m.ms,x.Ok
 has:∀ w∈words5,w∈m.ks ↔ m.ms.any (·.has w) = true
 k0:0 ∉ m.ks
 opn:m.opn = !hasB m.fl 4194304
 len:m.ms.length≤8
noncomputable def classPT:PT:=fun ds mu K=>E5 fun name z p row n=>A6 (ds = [.ref 0,.fro (.str name),.fro (.int z)]) (mu = [some (dM p row n)]) (0≤p) (row.length≤40) (0≤n) (∀ (m:Made) p' n',m.Ok→0≤p'→n≤n'→K (.fro m.F) [some (dM p' row n')])
noncomputable def clsL:List F:=[.int 0,.int 524288,.int 16,.int 4194304,.int 0,.int (4194304 + 524288)]
theorem fm6 (q:Int):q.fmod 6 = 0∨q.fmod 6 = 1∨q.fmod 6 = 2∨q.fmod 6 = 3∨q.fmod 6 = 4∨q.fmod 6 = 5:=below 6 (P:=fun z=>z = 0∨z = 1∨z = 2∨z = 3∨z = 4∨z = 5) (by decide) (fm_rng q (by decide)).1 (fm_rng q (by decide)).2
theorem cls_at (q:Int):∃ z,idxL clsL (q.fmod 6) = some (.int z)∧(!([3,5].any fun x=>x == q.fmod 6)) = !hasB z 4194304:=by
 rcases fm6 q with e | e | e | e | e | e <;> rw [e] <;> refine ⟨_,rfl,?_⟩ <;> decide +kernel
section
variable {Γ:Nat→PT} {loc:List (Option D)} {rest:List (Option M)} {K:D→St→Prop} {p n:Int} {row:List Int} {s0 s1:Side} {ms:List Mb}
theorem call_deed (hN:Γ 678 = deedPT) (hp:0≤p) (hr:row.length≤40) (h0:0≤n) (hl:ms.length≤100) (hi:Inv ms s0 s1 n) (he:HasEq ms s0)
  (g:∀ (ns:List Mb) p' n' t0 t1,ns.length≤2→0≤p'→n≤n'→Inv (ms++ns) t0 t1 n'→HasEq (ms++ns) t0→K (.fro (.lst (ns.map Mb.F))) ⟨loc,mu4 p' n' row t0 t1++rest⟩) :
  callK (mkTb Γ) [0,1,2,3] 678 K [.ref 0,.ref 3] ⟨loc,some (dM p row n) :: some (.side s0) :: some (.side s1) :: some sidesM :: rest⟩ :=
 t_4 hN rfl ⟨p,row,n,s0,s1,ms,rfl,rfl,hp,hr,h0,hl,hi,he,fun ns p' n' t0 t1 a b c d e=>back4 (g ns p' n' t0 t1 a b c d e)⟩
end
theorem Inv.nil (n:Int):Inv [] [] [] n:=⟨⟨List.nodup_nil,by simp [keysS],by simp,by simp⟩,⟨List.nodup_nil,by simp [keysS],by simp,by simp⟩,List.Pairwise.nil,by simp,by simp⟩
theorem HasEq.nil:HasEq [] []:=fun w _=>by simp [keysS]
theorem l_sort {st:St} {K:D→St→Prop} {d:D} {l:List F} {ns:List Int} (h1:deref st d = .fro (.lst l)) (h2:l.length < 64) (h3:intsF l = some ns) (g:∀ ns':List Int,ns'.Perm ns→ns'.Pairwise (·≤·)→K (.fro (.lst (ns'.map .int))) st):sortU d st K:=by
 exact .inl ⟨l,ns,h1,h2,h3,g⟩
set_option maxHeartbeats 4000000 in
theorem class_ok {w:World} {L:Nat} {Γ:Nat→PT} (h1:1≤L) (hΓ:∀ y∈callT,CallOK w L (.ref y.2) (Γ y.2)) (hN:Γ 631 = nodePT) (hD:Γ 678 = deedPT):CallOK w (L + 1) (.ref 685) classPT:=by
 refine run_law_class h1 hΓ fun ds mu K h=>?_
 obtain ⟨name,z,p,row,n,rfl,rfl,hp,hrow,h0,hK⟩:=h
 refine ⟨rfl,[],(by decide:(List.range 1++[]).Nodup),by simp,?_⟩
 show wpYs _ _ y_law_class ⟨[some (.ref 0),some (.fro (.str name)),some (.fro (.int z)),none,none,none,none,none,none,none,none,none,none,none],[some (dM p row n)]⟩ (endK 1 [] K)
 unfold y_law_class
 refine ys_cons (y_assign (x_mlst (xs_cons (x_dict0 (xs_cons (x_dict0 (xs_nil (t_mlst rfl (s_asg ?_)))))))))
 refine s_next (ys_cons (y_assign (x_mlst (xs_nil (t_mlst rfl (s_asg ?_))))))
 refine s_next (ys_cons (y_forR (x_bin (x_int (x_bin (x_bin (x_loc rfl (x_int (v_fdiv (by decide) (x_int (v_mod (by decide) (v_add ?_))))))))))))
 have hc:=fm4 (z.fdiv 24)
 refine g_rng (by omega) ?_
 have fin:∀ (ms:List Mb) (p' n':Int) (t0 t1:Side) (a5:Option D),ms.length≤8→0≤p'→n≤n'→Inv ms t0 t1 n'→HasEq ms t0→wpYs (mkTb Γ) okS (y_law_class.drop 3) ⟨[some (.ref 0),some (.fro (.str name)),some (.fro (.int z)),some (.ref 3),some (.ref 4),a5,none,none,none,none,none,none,none,none],[some (dM p' row n'),some (.side t0),some (.side t1),some sidesM,some (.lst (ms.map fun m=>.fro m.F))]⟩ (endK 1 [] K):=by
  intro ms p' n' t0 t1 a5 hl hp' hn hi he
  dsimp only [y_law_class,Ys.drop]
  refine ys_cons (y_assign (x_bin (x_bin (x_loc rfl (x_int (v_fdiv (by decide) (x_int (v_mod (by decide) (s_asg ?_)))))))))
  refine s_next (ys_cons (y_assign (x_idx (x_tup (xs_cons (x_int (xs_cons (x_glob rfl (xs_cons (x_glob rfl (xs_cons (x_glob rfl (xs_cons (x_int (xs_cons (x_bin (x_glob rfl (x_glob rfl (v_add (xs_nil (t_tup rfl rfl (x_loc rfl ?_))))))))))))))))))))))
  obtain ⟨fl,hfl,hop⟩:=cls_at (z.fdiv 96)
  refine i_tup hfl ?_
  have tail:∀ (a8:D) (f8:F) (n2:Int),a8 = .fro f8→n'≤n2→wpYs (mkTb Γ) okS (y_law_class.drop 6) ⟨[some (.ref 0),some (.fro (.str name)),some (.fro (.int z)),some (.ref 3),some (.ref 4),a5,some (.fro (.int ((z.fdiv 96).fmod 6))),some (.fro (.int fl)),some a8,none,none,none,none,none],[some (dM p' row n2),some (.side t0),some (.side t1),some sidesM,some (.lst (ms.map fun m=>.fro m.F))]⟩ (endK 1 [] K):=by
   rintro _ f8 n2 rfl hn2
   dsimp only [y_law_class,Ys.drop]
   refine ys_ghost rfl (fz_lst Mb.F ms) ?_
   refine ys_cons (y_assign (x_lst (xs_cons (x_call rfl (xs_cons (x_locR rfl rfl (xs_cons (x_glob rfl (xs_cons (x_str (xs_cons (x_lst (xs_nil (t_lst rfl rfl (xs_cons (x_int (xs_nil (call_node (by assumption) (xs_cons (x_call rfl (xs_cons (x_locR rfl rfl (xs_cons (x_glob rfl (xs_cons (x_str (xs_cons (x_locF rfl rfl (xs_cons (x_int (xs_nil (call_node (by assumption) (xs_nil (t_lst rfl rfl (s_asg ?_)))))))))))))))))))))))))))))))))))
   refine s_next (ys_cons (y_assign (x_call rfl (xs_cons (x_locR rfl rfl (xs_cons (x_glob rfl (xs_cons (x_loc rfl (xs_cons (x_cat (x_lst (xs_cons (x_none (xs_cons (x_loc rfl (xs_cons (x_none (xs_nil (t_lst rfl rfl (x_loc rfl ?_)))))))))))))))))))))
   refine v_cat rfl rfl (by show 3 + 2≤1000; decide) ?_
   refine xs_cons (x_loc rfl (xs_nil (call_node (by assumption) (s_asg ?_))))
   refine s_next (ys_cons (y_assign (x_mlst (xs_nil (t_mlst rfl (s_asg ?_))))))
   refine s_next ?_
   refine ys_ghost rfl (rfl:fzF _ _ = some (sideF t0)) ?_
   refine ys_ghost rfl (rfl:fzF _ _ = some (sideF t1)) ?_
   refine ys_ghost rfl (rfl:fzF _ _ = some (.lst [sideF t0,sideF t1])) ?_
   refine ys_cons (y_for (x_locF rfl rfl (g_lst rfl ?_)))
   have inner:∀ (b:Bool) (t:Side) (KY:FD→St→Prop) (acc:List Int) (a13:Option D) (loc9 loc10:D),SideOk ms b t→acc.length≤64 →
     (∀ a13',KY .next ⟨[some (.ref 0),some (.fro (.str name)),some (.fro (.int z)),some (.ref 3),some (.ref 4),a5,some (.fro (.int ((z.fdiv 96).fmod 6))),some (.fro (.int fl)),some (.fro f8),some loc9,some loc10,some (.ref 5),some (.fro (sideF t)),a13'],
      [some (dM p' row (n2 + 1 + 1 + 1)),some (.fz (sideF t0)),some (.fz (sideF t1)),some (.fz (.lst [sideF t0,sideF t1])),some (.fz (.lst (ms.map Mb.F))),some (.lst (((acc++loneOf t).map F.int).map .fro))]⟩) →
     forYs (mkTb Γ) okS (.one 13) (y_law_class.drop 9).body.body ((t.map (·.1)).map .str) ⟨[some (.ref 0),some (.fro (.str name)),some (.fro (.int z)),some (.ref 3),some (.ref 4),a5,some (.fro (.int ((z.fdiv 96).fmod 6))),some (.fro (.int fl)),some (.fro f8),some loc9,some loc10,some (.ref 5),some (.fro (sideF t)),a13],
      [some (dM p' row (n2 + 1 + 1 + 1)),some (.fz (sideF t0)),some (.fz (sideF t1)),some (.fz (.lst [sideF t0,sideF t1])),some (.fz (.lst (ms.map Mb.F))),some (.lst ((acc.map F.int).map .fro))]⟩ KY:=by
    intro b t KY acc a13 loc9 loc10 hs ha hKY
    have ns8:∀ y∈t,y.2.2.length≤8:=by
     rintro ⟨k,c,ns⟩ hy
     obtain ⟨_,_,e⟩:=hs.cnt k c ns hy
     show ns.length≤8
     rw [e]; unfold setN; rw [List.length_map]
     exact Nat.le_trans (List.length_filter_le _ _) hl
    have t4:t.length≤4:=by have:=sub4 hs.nd hs.sub; unfold keysS at this; rw [List.length_map] at this; exact this
    dsimp only [y_law_class,Ys.drop,Ys.body]
    refine for_ind1 (fun l loc mu=>E3 fun (pre s:Side) (a13:Option D)=>A5 (l = (s.map (·.1)).map .str) (pre++s = t) ((loneOf pre).length≤8 * pre.length) (loc = [some (.ref 0),some (.fro (.str name)),some (.fro (.int z)),some (.ref 3),some (.ref 4),a5,some (.fro (.int ((z.fdiv 96).fmod 6))),some (.fro (.int fl)),some (.fro f8),some loc9,some loc10,some (.ref 5),some (.fro (sideF t)),a13]) (mu = [some (dM p' row (n2 + 1 + 1 + 1)),some (.fz (sideF t0)),some (.fz (sideF t1)),some (.fz (.lst [sideF t0,sideF t1])),some (.fz (.lst (ms.map Mb.F))),some (.lst (((acc++loneOf pre).map F.int).map .fro))])) ?_ ?_ _ _ _ ⟨[],t,_,rfl,rfl,Nat.le_refl _,rfl,by simp [loneOf]⟩
    ·rintro loc mu ⟨pre,s,a13,e,e2,_,rfl,rfl⟩
     obtain rfl:=nil_map (nil_map e).symm
     rw [List.append_nil] at e2
     subst e2
     exact hKY a13
    ·rintro f l loc mu ⟨pre,s,a13,e,e2,hlen,rfl,rfl⟩ ih
     obtain ⟨_,_,e0,rfl,rfl⟩:=cons_map e
     obtain ⟨y,s,rfl,rfl,rfl⟩:=cons_map e0.symm
     obtain ⟨k,c,ns⟩:=y
     have hmem:(k,c,ns)∈t:=by rw [← e2]; simp
     have hlk:=lk_side hs.nd hmem
     have hns:=ns8 _ hmem
     have hpre:pre.length≤4:=by have:=congrArg List.length e2; simp at this; omega
     have hlone:loneOf (pre++[(k,c,ns)]) = loneOf pre++(if c = 0 then ns else []):=by simp [loneOf]
     have hlen':(loneOf (pre++[(k,c,ns)])).length≤8 * (pre++[(k,c,ns)]).length:=by
      rw [hlone]
      simp only [List.length_append,List.length_cons,List.length_nil]
      dsimp only at hns
      split <;> (try simp only [List.length_nil]) <;> omega
     dsimp only [List.set_cons_zero,List.set_cons_succ]
     refine ys_cons (y_ite (b_cmp (x_idx (x_idx (x_loc rfl (x_loc rfl ?_))))))
     refine i_dic hlk ?_
     refine x_int (i_lst rfl (x_int (c_eq ?_)))
     refine if_by (fun c0=>?_) (fun c0=>?_)
     ·have c0:=of_decide_eq_true c0
      rw [if_pos c0] at hlone
      refine ys_cons (y_ext (x_locR rfl rfl (t_ext rfl (x_idx (x_idx (x_loc rfl (x_loc rfl ?_)))))))
      refine i_dic hlk ?_
      refine x_int (i_lst rfl ?_)
      refine v_ext rfl rfl (by simp only [List.length_map,List.length_append]; dsimp only at hns; omega) ?_
      dsimp only [List.set_cons_zero,List.set_cons_succ]
      refine s_next (ys_nil (s_next (ys_nil (fn_next ?_))))
      refine ih _ _ ⟨pre++[(k,c,ns)],s,_,rfl,by rw [← e2]; simp,hlen',rfl,?_⟩
      rw [hlone]; simp only [List.map_append,List.append_assoc]
     ·have c0:=of_decide_eq_false c0
      rw [if_neg c0,List.append_nil] at hlone
      refine ys_nil (s_next (ys_nil (fn_next ?_)))
      refine ih _ _ ⟨pre++[(k,c,ns)],s,_,rfl,by rw [← e2]; simp,hlen',rfl,?_⟩
      rw [hlone]
   refine for_one ?_
   dsimp only [List.set_cons_zero,List.set_cons_succ]
   refine ys_cons (y_for (x_loc rfl (g_dic rfl rfl ?_)))
   refine inner false t0 _ [] _ _ _ hi.s0 (by decide) fun a13=>?_
   refine s_next (ys_nil (fn_next ?_))
   refine for_one ?_
   dsimp only [List.set_cons_zero,List.set_cons_succ,List.nil_append]
   refine ys_cons (y_for (x_loc rfl (g_dic rfl rfl ?_)))
   have lens:=lone_len hi
   rw [List.length_append] at lens
   refine inner true t1 _ (loneOf t0) _ _ _ hi.s1 (by omega) fun a13=>?_
   refine s_next (ys_nil (fn_next ?_))
   refine for_nil ?_
   refine s_next ?_
   have fz:=fz_lst (st:=⟨[],[]⟩) F.int (loneOf t0++loneOf t1)
   refine ys_ghost rfl (f:=.lst ((loneOf t0++loneOf t1).map F.int)) (by
    show fzF _ (.lst _) = _
    rw [List.map_map]; exact fz_lst F.int _) ?_
   dsimp only [List.set_cons_zero,List.set_cons_succ]
   refine ys_cons (y_ret (x_frz (x_dict (xs_cons (x_loc rfl (xs_cons (x_idx (x_locF rfl rfl (x_int (i_lst rfl (xs_cons (x_sorted (x_locF rfl rfl ?_)))))))))))))
   refine l_sort rfl (by rw [List.length_map,List.length_append]; omega) (intsF_map _) fun ns' hp hs=>?_
   obtain rfl:=lone_sorted hi hp hs
   refine xs_cons (x_cmp2 (x_loc rfl (x_tup (xs_cons (x_int (xs_cons (x_int (xs_nil (t_tup rfl rfl (e_ninT rfl (xs_nil ?_)))))))))))
   refine t_dic rfl ?_
   refine f_ref rfl rfl ?_
   refine s_ret (e_ret rfl rfl ?_)
   exact hK ⟨ms,name,.none,f8,.none,nodeF 71 75 [] 0 (3 * (n2 + 1)) (n2 + 1),71,75,0,3 * (n2 + 1 + 1),n2 + 1 + 1,fl,3 * (n2 + 1 + 1 + 1),n2 + 1 + 1 + 1,t0.map (·.1),t0.map fun x=>.lst [.int x.2.1,.lst (x.2.2.map .int)],!([3,5].any fun x=>x == (z.fdiv 96).fmod 6)⟩ p' (n2 + 1 + 1 + 1)
    ⟨hi.ok,he,fun h=>absurd (hi.s0.sub 0 h) (by decide),hop,hl⟩ hp' (by omega)
  refine s_asg ?_
  refine s_next (ys_cons (y_assign (x_ite (b_cmp (x_bin (x_bin (x_loc rfl (x_int (v_fdiv (by decide) (x_int (v_mod (by decide) (x_int (c_eq ?_)))))))))))))
  refine if_by (fun c=>?_) (fun c=>?_)
  ·refine x_call rfl (xs_cons (x_locR rfl rfl (xs_cons (x_glob rfl (xs_cons (x_str (xs_cons (x_lst (xs_nil (t_lst rfl rfl (xs_cons (x_int (xs_nil (call_node (by assumption) ?_))))))))))))))
   exact tail _ _ (n' + 1) rfl (by omega)
  ·refine x_none ?_
   exact tail _ _ n' rfl (Int.le_refl _)
 refine for_ind1 (fun l loc mu=>E6 fun (ms:List Mb) (p' n':Int) (t0 t1:Side) (a5:Option D)=>A7 (2 * l.length + ms.length≤8) (0≤p') (n≤n') (Inv ms t0 t1 n') (HasEq ms t0) (loc = [some (.ref 0),some (.fro (.str name)),some (.fro (.int z)),some (.ref 3),some (.ref 4),a5,none,none,none,none,none,none,none,none]) (mu = [some (dM p' row n'),some (.side t0),some (.side t1),some sidesM,some (.lst (ms.map fun m=>.fro m.F))])) ?_ ?_ _ _ _ ⟨[],p,n,[],[],none,?_,hp,Int.le_refl _,Inv.nil n,HasEq.nil,rfl,rfl⟩
 ·rintro loc mu ⟨ms,p',n',t0,t1,a5,g1,g2,g3,g4,g5,rfl,rfl⟩
  exact fin ms p' n' t0 t1 a5 (by simpa using g1) g2 g3 g4 g5
 ·rintro f l loc mu ⟨ms,p',n',t0,t1,a5,g1,g2,g3,g4,g5,rfl,rfl⟩ ih
  simp only [List.length_cons] at g1
  dsimp only [List.set_cons_zero,List.set_cons_succ]
  refine ys_cons (y_ext (x_locR rfl rfl (t_ext rfl (x_call rfl (xs_cons (x_locR rfl rfl (xs_cons (x_locR rfl rfl (xs_nil ?_)))))))))
  refine call_deed (ms:=ms) hD g2 hrow (by omega) (by omega) g4 g5 fun ns p2 n2 u0 u1 k1 k2 k3 k4 k5=>?_
  refine v_ext rfl rfl (by simp only [List.length_map]; omega) ?_
  refine s_next (ys_nil (fn_next ?_))
  refine ih _ _ ⟨ms++ns,p2,n2,u0,u1,_,by rw [List.length_append]; omega,k2,by omega,k4,k5,rfl,?_⟩
  simp only [mu4,List.cons_append,List.nil_append,List.set_cons_zero,List.set_cons_succ,List.map_append,List.map_map]
  rfl
 ·have:(rangeF (1 + (z.fdiv 24).fmod 4)).length≤4:=by unfold rangeF; rw [List.length_map,List.length_range]; omega
  show 2 * (rangeF (1 + (z.fdiv 24).fmod 4)).length + 0≤8
  omega
structure Said where
 kind:Int
 kids:List F
 fl:Int
 at_:Int
 nid:Int
 word:Nat
 how:Int
noncomputable def Said.F (s:Said):F:=nodeF s.kind s.word s.kids s.fl s.at_ s.nid
noncomputable def Said.row (s:Said):Mine.F:=.tup [s.F,.str s.word,.int s.how]
noncomputable def Said.pair (s:Said):Mine.F:=.tup [.str s.word,.int s.how]
noncomputable def Said.one (s:Said) (H:Bool):Bool:=(decide (s.kind = 27) && H) || (!hasB s.fl 4096 && !H)
noncomputable def Said.law (s:Said) (H:Bool):Bool:=decide (s.how = 3) || ((decide (s.how = 0) && !H) || (decide (s.how = 1) && H))
structure Said.Ok (s:Said):Prop where
 word:s.word∈words5
 eq:∀ H:Bool,(s.word = 0→H = false)→s.one H = s.law H
noncomputable def saidPT:PT:=fun ds mu K=>E4 fun z p row n=>A3 (ds = [.ref 0,.fro (.int z)]) (mu = [some (dM p row n)]) (∀ (s:Said) n',s.Ok→n≤n'→K (.fro s.row) [some (dM p row n')])
theorem said_flags:hasB 0 4096 = false∧hasB 131072 4096 = false∧hasB (32 + 4096) 4096 = true∧hasB 4096 4096 = true∧hasB 32 4096 = false∧hasB 512 4096 = false∧hasB 1024 4096 = false:=by decide +kernel
theorem said_of {kind fl how at_ nid:Int} {kids:List F} {word:Nat} (hw:word∈words5) (b:Bool) (hf:hasB fl 4096 = b) (hk:∀ H:Bool,(word = 0→H = false)→((decide (kind = 27) && H) || (!b && !H)) = (decide (how = 3) || ((decide (how = 0) && !H) || (decide (how = 1) && H)))) :
  (⟨kind,kids,fl,at_,nid,word,how⟩:Said).Ok:=⟨hw,fun H h=>by unfold Said.one Said.law; rw [show hasB (⟨kind,kids,fl,at_,nid,word,how⟩:Said).fl 4096 = b from hf]; exact hk H h⟩
theorem n4w5 {k:Nat} (h:k∈names4):k∈words5∧k ≠ 0:=by revert h; revert k; decide
section
variable {Γ:Nat→PT} {loc:List (Option D)} {rest:List (Option M)} {K:D→St→Prop} {p n:Int} {row:List Int}
theorem call_said (hN:Γ 692 = saidPT) {z:Int} (g:∀ (s:Said) n',s.Ok→n≤n'→K (.fro s.row) ⟨loc,some (dM p row n') :: rest⟩):callK (mkTb Γ) [0] 692 K [.ref 0,.fro (.int z)] ⟨loc,some (dM p row n) :: rest⟩ :=
 t_d hN rfl ⟨z,p,row,n,rfl,rfl,fun s n' a b=>backD (g s n' a b)⟩
end
set_option maxHeartbeats 4000000 in
theorem said_ok {w:World} {L:Nat} {Γ:Nat→PT} (h1:1≤L) (hΓ:∀ y∈callT,CallOK w L (.ref y.2) (Γ y.2)) (hN:Γ 631 = nodePT) (hF:Γ 638 = funcPT):CallOK w (L + 1) (.ref 692) saidPT:=by
 refine run_law_said h1 hΓ fun ds mu K h=>?_
 obtain ⟨z,p,row,n,rfl,rfl,hK⟩:=h
 refine ⟨rfl,[],(by decide:(List.range 1++[]).Nodup),by simp,?_⟩
 show wpYs _ _ y_law_said ⟨[some (.ref 0),some (.fro (.int z)),none,none,none],[some (dM p row n)]⟩ (endK 1 [] K)
 unfold y_law_said
 obtain ⟨k,hk1,hk⟩:=name_at (z.fdiv 16)
 obtain ⟨hk,hk0⟩:=n4w5 hk
 obtain ⟨f1,f2,f3,f4,f5,f6,f7⟩:=said_flags
 refine ys_cons (y_assign (x_idx (x_glob rfl (x_bin (x_bin (x_loc rfl (x_int (v_fdiv (by decide) (x_int (v_mod (by decide) ?_))))))))))
 refine i_tup hk1 ?_
 refine s_asg ?_
 refine s_next (ys_cons (y_assign (x_bin (x_loc rfl (x_int (v_mod (by decide) (s_asg ?_)))))))
 refine s_next (ys_cons (y_ite (b_or (o_cons (b_cmp (x_loc rfl (x_int (c_lt ?_))))))))
 generalize z.fmod 16 = sort
 refine if_by (fun c=>?_) (fun c=>?_)
 ·refine if_t (ys_cons (y_ret (x_tup (xs_cons (x_call rfl (xs_cons (x_locR rfl rfl (xs_cons (x_glob rfl (xs_cons (x_loc rfl (xs_cons (x_lst (xs_cons (x_none (xs_nil (t_lst rfl rfl (xs_cons (x_ite (b_cmp (x_loc rfl (x_int (c_eq ?_)))))))))))))))))))))))
  refine if_by (fun c2=>?_) (fun c2=>?_)
  ·refine x_glob rfl (xs_nil (call_node (by assumption) (xs_cons (x_loc rfl (xs_cons (x_int (xs_nil (t_tup rfl rfl (s_ret (s_ret (e_ret rfl rfl ?_)))))))))))
   exact hK ⟨99,[.none],131072,3 * (n + 1),n + 1,k,0⟩ (n + 1) (said_of hk false f2 (fun H _=>by cases H <;> rfl)) (by omega)
  ·refine x_int (xs_nil (call_node (by assumption) (xs_cons (x_loc rfl (xs_cons (x_int (xs_nil (t_tup rfl rfl (s_ret (s_ret (e_ret rfl rfl ?_)))))))))))
   exact hK ⟨99,[.none],0,3 * (n + 1),n + 1,k,0⟩ (n + 1) (said_of hk false f1 (fun H _=>by cases H <;> rfl)) (by omega)
 refine o_cons (b_cmp (x_loc rfl (x_int (c_eq ?_))))
 refine if_by (fun c=>?_) (fun c=>?_)
 ·refine if_t (ys_cons (y_ret (x_tup (xs_cons (x_call rfl (xs_cons (x_locR rfl rfl (xs_cons (x_glob rfl (xs_cons (x_loc rfl (xs_cons (x_lst (xs_cons (x_none (xs_nil (t_lst rfl rfl (xs_cons (x_ite (b_cmp (x_loc rfl (x_int (c_eq ?_)))))))))))))))))))))))
  refine if_by (fun c2=>?_) (fun c2=>?_)
  ·refine x_glob rfl (xs_nil (call_node (by assumption) (xs_cons (x_loc rfl (xs_cons (x_int (xs_nil (t_tup rfl rfl (s_ret (s_ret (e_ret rfl rfl ?_)))))))))))
   exact hK ⟨99,[.none],131072,3 * (n + 1),n + 1,k,0⟩ (n + 1) (said_of hk false f2 (fun H _=>by cases H <;> rfl)) (by omega)
  ·refine x_int (xs_nil (call_node (by assumption) (xs_cons (x_loc rfl (xs_cons (x_int (xs_nil (t_tup rfl rfl (s_ret (s_ret (e_ret rfl rfl ?_)))))))))))
   exact hK ⟨99,[.none],0,3 * (n + 1),n + 1,k,0⟩ (n + 1) (said_of hk false f1 (fun H _=>by cases H <;> rfl)) (by omega)
 refine o_nil (if_f (ys_nil (s_next (ys_cons (y_ite (b_cmp (x_loc rfl (x_int (c_lt ?_)))))))))
 refine if_by (fun c=>?_) (fun c=>?_)
 ·refine ys_cons (y_ret (x_tup (xs_cons (x_call rfl (xs_cons (x_locR rfl rfl (xs_cons (x_loc rfl (xs_cons (x_bin (x_glob rfl (x_glob rfl (v_add (xs_cons (x_lst (xs_nil (t_lst rfl rfl (xs_cons (x_bool (xs_nil ?_))))))))))))))))))))
  refine call_func hF fun x y nid blk hb1 hb2=>?_
  refine xs_cons (x_loc rfl (xs_cons (x_int (xs_nil (t_tup rfl rfl (s_ret (s_ret (e_ret rfl rfl ?_))))))))
  exact hK ⟨27,[.none,nodeF 71 75 [] 0 x y,.none,blk],32 + 4096,3 * nid,nid,k,1⟩ nid (said_of hk true f3 (fun H _=>by cases H <;> rfl)) (by omega)
 refine ys_nil (s_next (ys_cons (y_ite (b_cmp (x_loc rfl (x_int (c_lt ?_)))))))
 refine if_by (fun c=>?_) (fun c=>?_)
 ·refine ys_cons (y_ret (x_tup (xs_cons (x_call rfl (xs_cons (x_locR rfl rfl (xs_cons (x_glob rfl (xs_cons (x_loc rfl (xs_cons (x_lst (xs_cons (x_none (xs_nil (t_lst rfl rfl (xs_cons (x_glob rfl (xs_nil (call_node (by assumption) (xs_cons (x_loc rfl (xs_cons (x_int (xs_nil (t_tup rfl rfl (s_ret (s_ret (e_ret rfl rfl ?_)))))))))))))))))))))))))))))
  exact hK ⟨99,[.none],4096,3 * (n + 1),n + 1,k,2⟩ (n + 1) (said_of hk true f4 (fun H _=>by cases H <;> rfl)) (by omega)
 refine ys_nil (s_next (ys_cons (y_ite (b_cmp (x_loc rfl (x_int (c_eq ?_)))))))
 refine if_by (fun c=>?_) (fun c=>?_)
 ·refine ys_cons (y_ret (x_tup (xs_cons (x_call rfl (xs_cons (x_locR rfl rfl (xs_cons (x_loc rfl (xs_cons (x_glob rfl (xs_cons (x_lst (xs_nil (t_lst rfl rfl (xs_cons (x_bool (xs_nil ?_)))))))))))))))))
  refine call_func hF fun x y nid blk hb1 hb2=>?_
  refine xs_cons (x_loc rfl (xs_cons (x_int (xs_nil (t_tup rfl rfl (s_ret (s_ret (e_ret rfl rfl ?_))))))))
  exact hK ⟨27,[.none,nodeF 71 75 [] 0 x y,.none,blk],32,3 * nid,nid,k,3⟩ nid (said_of hk false f5 (fun H _=>by cases H <;> rfl)) (by omega)
 refine ys_nil (s_next (ys_cons (y_ite (b_cmp (x_loc rfl (x_int (c_eq ?_)))))))
 refine if_by (fun c=>?_) (fun c=>?_)
 ·refine ys_cons (y_assign (x_lst (xs_cons (x_call rfl (xs_cons (x_locR rfl rfl (xs_cons (x_glob rfl (xs_cons (x_str (xs_cons (x_lst (xs_nil (t_lst rfl rfl (xs_cons (x_int (xs_nil (call_node (by assumption) (xs_cons (x_call rfl (xs_cons (x_locR rfl rfl (xs_cons (x_glob rfl (xs_cons (x_str (xs_cons (x_lst (xs_nil (t_lst rfl rfl (xs_cons (x_int (xs_nil (call_node (by assumption) (xs_nil (t_lst rfl rfl (s_asg ?_)))))))))))))))))))))))))))))))))))))
  refine s_next (ys_cons (y_ret (x_tup (xs_cons (x_call rfl (xs_cons (x_locR rfl rfl (xs_cons (x_glob rfl (xs_cons (x_str (xs_cons (x_loc rfl (xs_cons (x_int (xs_nil (call_node (by assumption) (xs_cons (x_str (xs_cons (x_int (xs_nil (t_tup rfl rfl (s_ret (s_ret (e_ret rfl rfl ?_))))))))))))))))))))))))))
  exact hK ⟨63,[nodeF 80 100 [] 0 (3 * (n + 1)) (n + 1),nodeF 80 94 [] 0 (3 * (n + 1 + 1)) (n + 1 + 1)],0,3 * (n + 1 + 1 + 1),n + 1 + 1 + 1,0,3⟩ (n + 1 + 1 + 1) (said_of (by decide) false f1 (fun H h=>by rw [h rfl]; rfl)) (by omega)
 refine ys_nil (s_next (ys_cons (y_ret (x_tup (xs_cons (x_call rfl (xs_cons (x_locR rfl rfl (xs_cons (x_str (xs_cons (x_ite (b_cmp (x_loc rfl (x_int (c_eq ?_))))))))))))))))
 refine if_by (fun c=>?_) (fun c=>?_)
 ·refine x_glob rfl (xs_cons (x_lst (xs_nil (t_lst rfl rfl (xs_cons (x_bool (xs_nil ?_)))))))
  refine call_func hF fun x y nid blk hb1 hb2=>?_
  refine xs_cons (x_str (xs_cons (x_int (xs_nil (t_tup rfl rfl (s_ret (e_ret rfl rfl ?_)))))))
  exact hK ⟨27,[.none,nodeF 71 75 [] 0 x y,.none,blk],512,3 * nid,nid,75,3⟩ nid (said_of (by decide) false f6 (fun H _=>by cases H <;> rfl)) (by omega)
 ·refine x_glob rfl (xs_cons (x_lst (xs_nil (t_lst rfl rfl (xs_cons (x_bool (xs_nil ?_)))))))
  refine call_func hF fun x y nid blk hb1 hb2=>?_
  refine xs_cons (x_str (xs_cons (x_int (xs_nil (t_tup rfl rfl (s_ret (e_ret rfl rfl ?_)))))))
  exact hK ⟨27,[.none,nodeF 71 75 [] 0 x y,.none,blk],1024,3 * nid,nid,75,3⟩ nid (said_of (by decide) false f7 (fun H _=>by cases H <;> rfl)) (by omega)
theorem comp_map3 {T:Tb} {KT:St→Prop} {elt:X} (g:Said→F) (base:List (Option M)) (saids:List Said) (hlen:saids.length≤1000)
  (hstep:∀ (s:Said) mu (K':D→St→Prop),K' (.fro (g s)) ⟨[some (.fro s.F),some (.fro (.str s.word)),some (.fro (.int s.how))],mu⟩→wpX T elt ⟨[some (.fro s.F),some (.fro (.str s.word)),some (.fro (.int s.how))],mu⟩ K')
  (hK:∀ loc,KT ⟨loc,base++[some (.lst (saids.map fun s=>.fro (g s)))]⟩):compWK T (.many [0,1,2]) .nil elt base.length (saids.map Said.row) ⟨[none,none,none],base++[some (.lst [])]⟩ KT:=by
 refine comp_ind (fun l loc mu=>E5 fun (done rest:List Said) (a b c:Option D)=>A4 (done++rest = saids) (l = rest.map Said.row) (loc = [a,b,c]) (mu = base++[some (.lst (done.map fun s=>.fro (g s)))])) ?_ ?_ _ _ _ ⟨[],saids,none,none,none,rfl,rfl,rfl,rfl⟩
 ·rintro loc mu ⟨done,rest,a,b,c,e,e2,rfl,rfl⟩
  obtain rfl:=nil_map e2
  rw [List.append_nil] at e; subst e; exact hK _
 ·rintro f l loc mu ⟨done,rest,a,b,c,e,e2,rfl,rfl⟩ ih
  obtain ⟨s,rest,rfl,rfl,rfl⟩:=cons_map e2
  refine set_3 (turn_nil ?_)
  refine hstep s _ _ ?_
  have hd:done.length≤1000:=by have:=congrArg List.length e; simp at this; omega
  refine v_acc (L:=done.map fun s=>.fro (g s)) (by simp) (by rw [List.length_map]; exact hd) ?_
  refine ih _ _ ⟨done++[s],rest,_,_,_,by rw [← e]; simp,rfl,rfl,?_⟩
  rw [List.set_append_right _ _ (Nat.le_refl _),Nat.sub_self,List.map_append]
  rfl
structure Face where
 saids:List Said
 based:Bool
 name:Nat
 above:List F
 a1:Int
 a2:Int
 b1:Int
 b2:Int
 fl:Int
 at_:Int
 nid:Int
noncomputable def Face.node (f:Face):Mine.F:=nodeF 64 f.name [.none,nodeF 71 75 f.above 0 f.a1 f.a2,nodeF 71 75 (f.saids.map Said.F) 0 f.b1 f.b2] f.fl f.at_ f.nid
noncomputable def Face.F (f:Face):Mine.F:=.dic [47,259,257] [f.node,.lst (f.saids.map Said.pair),.bool f.based]
structure Face.Ok (f:Face):Prop where
 ok:∀ s∈f.saids,s.Ok
 above:f.above.isEmpty = !f.based
 len:f.above.length≤1
 len2:f.saids.length≤2
noncomputable def facePT:PT:=fun ds mu K=>E4 fun name p row n=>A5 (ds = [.ref 0,.fro (.str name)]) (mu = [some (dM p row n)]) (0≤p) (row.length≤40) (∀ (f:Face) p' n',f.Ok→0≤p'→n≤n'→K (.fro f.F) [some (dM p' row n')])
section
variable {Γ:Nat→PT} {loc:List (Option D)} {rest:List (Option M)} {K:D→St→Prop} {p n:Int} {row:List Int}
theorem call_face (hN:Γ 697 = facePT) {name:Nat} (hp:0≤p) (hr:row.length≤40) (g:∀ (f:Face) p' n',f.Ok→0≤p'→n≤n'→K (.fro f.F) ⟨loc,some (dM p' row n') :: rest⟩):callK (mkTb Γ) [0] 697 K [.ref 0,.fro (.str name)] ⟨loc,some (dM p row n) :: rest⟩ :=
 t_d hN rfl ⟨name,p,row,n,rfl,rfl,hp,hr,fun s p' n' a b c=>backD (g s p' n' a b c)⟩
theorem call_class (hN:Γ 685 = classPT) {name:Nat} {z:Int} (hp:0≤p) (hr:row.length≤40) (h0:0≤n) (g:∀ (m:Made) p' n',m.Ok→0≤p'→n≤n'→K (.fro m.F) ⟨loc,some (dM p' row n') :: rest⟩):callK (mkTb Γ) [0] 685 K [.ref 0,.fro (.str name),.fro (.int z)] ⟨loc,some (dM p row n) :: rest⟩ :=
 t_d hN rfl ⟨name,z,p,row,n,rfl,rfl,hp,hr,h0,fun s p' n' a b c=>backD (g s p' n' a b c)⟩
end
set_option maxHeartbeats 4000000 in
theorem face_ok {w:World} {L:Nat} {Γ:Nat→PT} (h1:1≤L) (hΓ:∀ y∈callT,CallOK w L (.ref y.2) (Γ y.2)) (hp:Γ 624 = pullPT) (hN:Γ 631 = nodePT) (hS:Γ 692 = saidPT):CallOK w (L + 1) (.ref 697) facePT:=by
 refine run_law_face h1 hΓ fun ds mu K h=>?_
 obtain ⟨name,p,row,n,rfl,rfl,hp0,hrow,hK⟩:=h
 refine ⟨rfl,[],(by decide:(List.range 1++[]).Nodup),by simp,?_⟩
 show wpYs _ _ y_law_face ⟨[some (.ref 0),some (.fro (.str name)),none,none,none,none,none,none,none],[some (dM p row n)]⟩ (endK 1 [] K)
 unfold y_law_face
 refine ys_cons (y_assign (x_call rfl (xs_cons (x_locR rfl rfl (xs_nil ?_)))))
 refine call_pull hp hp0 hrow fun z hz0 hz1=>?_
 refine s_asg ?_
 refine s_next (ys_cons (y_assign (x_mlst (xs_cons (x_call rfl (xs_cons (x_locR rfl rfl (xs_cons (x_bin (x_loc rfl (x_int (v_mod (by decide) (xs_nil ?_)))))))))))))
 refine call_said hS fun sa n1 hsa hn1=>?_
 have main:∀ (saids:List Said) (n1:Int),saids.length≤2→(∀ s∈saids,s.Ok)→n≤n1→wpYs (mkTb Γ) okS (y_law_face.drop 3) ⟨[some (.ref 0),some (.fro (.str name)),some (.fro (.int z)),some (.ref 1),none,none,none,none,none],[some (dM (p + 1) row n1),some (.lst (saids.map fun s=>.fro s.row))]⟩ (endK 1 [] K):=by
  intro saids n1 hlen hok hn
  dsimp only [y_law_face,Ys.drop]
  have tail:∀ (d5:D) (above:List F) (n2:Int),d5 = .fro (.lst above)→above.isEmpty = !decide ((z.fdiv 4096).fmod 5 = 2)→above.length≤1→n≤n2 →
    wpYs (mkTb Γ) okS (y_law_face.drop 5) ⟨[some (.ref 0),some (.fro (.str name)),some (.fro (.int z)),some (.ref 1),some (.fro (.bool (decide ((z.fdiv 4096).fmod 5 = 2)))),some d5,none,none,none],[some (dM (p + 1) row n2),some (.lst (saids.map fun s=>.fro s.row))]⟩ (endK 1 [] K):=by
   rintro _ above n2 rfl hab hal hn2
   dsimp only [y_law_face,Ys.drop]
   refine ys_ghost rfl (fz_lst Said.row saids) ?_
   dsimp only [List.set_cons_zero,List.set_cons_succ]
   refine ys_cons (y_assignK (x_locF rfl rfl ?_))
   refine t_asgC rfl ?_
   refine comp_map3 Said.F [some (dM (p + 1) row n2),some (.fz (.lst (saids.map Said.row)))] saids (by omega) (fun s mu K' h=>x_loc rfl h) fun loc=>?_
   dsimp only [List.set_cons_zero,List.set_cons_succ,List.cons_append,List.nil_append]
   refine s_next ?_
   refine ys_ghost rfl (fz_lst Said.F saids) ?_
   dsimp only [List.set_cons_zero,List.set_cons_succ]
   have fin:∀ (n3 fl:Int),n≤n3→asgK 8 (seqK (mkTb Γ) okS (y_law_face.drop 8) (endK 1 [] K)) (.fro (nodeF 64 name [.none,nodeF 71 75 above 0 (3 * (n2 + 1)) (n2 + 1),nodeF 71 75 (saids.map Said.F) 0 (3 * (n2 + 1 + 1)) (n2 + 1 + 1)] fl (3 * (n3 + 1)) (n3 + 1)))
     ⟨[some (.ref 0),some (.fro (.str name)),some (.fro (.int z)),some (.ref 1),some (.fro (.bool (decide ((z.fdiv 4096).fmod 5 = 2)))),some (.fro (.lst above)),some (.ref 2),some (.fro (.lst [.none,nodeF 71 75 above 0 (3 * (n2 + 1)) (n2 + 1),nodeF 71 75 (saids.map Said.F) 0 (3 * (n2 + 1 + 1)) (n2 + 1 + 1)])),none],[some (dM (p + 1) row (n3 + 1)),some (.fz (.lst (saids.map Said.row))),some (.fz (.lst (saids.map Said.F)))]⟩:=by
    intro n3 fl hn3
    dsimp only [y_law_face,Ys.drop]
    refine s_asg ?_
    refine s_next (ys_cons (y_ret (x_frz (x_dict (xs_cons (x_loc rfl (xs_cons (x_frz (x_comp (x_locF rfl rfl ?_))))))))))
    refine t_comp rfl ?_
    refine comp_map3 Said.pair [some (dM (p + 1) row (n3 + 1)),some (.fz (.lst (saids.map Said.row))),some (.fz (.lst (saids.map Said.F))),some (.dic [] [])] saids (by omega) (fun s mu K' h=>?_) fun loc=>?_
    ·refine x_tup (xs_cons (x_loc rfl (xs_cons (x_loc rfl (xs_nil (t_tup rfl rfl ?_))))))
     exact h
    ·refine f_ref rfl (fz_lst Said.pair saids) ?_
     dsimp only [List.set_cons_zero,List.set_cons_succ,List.cons_append,List.nil_append]
     refine xs_cons (x_loc rfl (xs_nil ?_))
     refine t_dic rfl ?_
     refine f_ref rfl rfl ?_
     refine s_ret (e_ret rfl rfl ?_)
     exact hK ⟨saids,decide ((z.fdiv 4096).fmod 5 = 2),name,above,3 * (n2 + 1),n2 + 1,3 * (n2 + 1 + 1),n2 + 1 + 1,fl,3 * (n3 + 1),n3 + 1⟩ (p + 1) (n3 + 1) ⟨hok,hab,hal,hlen⟩ (by omega) (by omega)
   refine ys_cons (y_assign (x_lst (xs_cons (x_none (xs_cons (x_call rfl (xs_cons (x_locR rfl rfl (xs_cons (x_glob rfl (xs_cons (x_str (xs_cons (x_loc rfl (xs_cons (x_int (xs_nil (call_node (by assumption) (xs_cons (x_call rfl (xs_cons (x_locR rfl rfl (xs_cons (x_glob rfl (xs_cons (x_str (xs_cons (x_locF rfl rfl (xs_cons (x_int (xs_nil (call_node (by assumption) (xs_nil (t_lst rfl rfl (s_asg ?_)))))))))))))))))))))))))))))))))))
   refine s_next (ys_cons (y_assign (x_call rfl (xs_cons (x_locR rfl rfl (xs_cons (x_glob rfl (xs_cons (x_loc rfl (xs_cons (x_loc rfl (xs_cons (x_ite (b_cmp (x_bin (x_bin (x_loc rfl (x_int (v_fdiv (by decide) (x_int (v_mod (by decide) (x_int (c_eq ?_)))))))))))))))))))))))
   refine if_by (fun c=>?_) (fun c=>?_)
   ·refine x_glob rfl (xs_nil (call_node (by assumption) ?_))
    exact fin (n2 + 1 + 1) 4194304 (by omega)
   ·refine x_int (xs_nil (call_node (by assumption) ?_))
    exact fin (n2 + 1 + 1) 0 (by omega)
  refine ys_cons (y_assign (x_cmp (x_bin (x_bin (x_loc rfl (x_int (v_fdiv (by decide) (x_int (v_mod (by decide) (x_int (c_eq (s_asg ?_))))))))))))
  refine s_next (ys_cons (y_assign (x_ite (b_tru (x_loc rfl (u_b ?_))))))
  refine if_by (fun c=>?_) (fun c=>?_)
  ·refine x_lst (xs_cons (x_call rfl (xs_cons (x_locR rfl rfl (xs_cons (x_glob rfl (xs_cons (x_str (xs_cons (x_lst (xs_nil (t_lst rfl rfl (xs_cons (x_int (xs_nil (call_node (by assumption) (xs_nil (t_lst rfl rfl ?_))))))))))))))))))
   exact tail _ _ (n1 + 1) rfl (by rw [c]; rfl) (Nat.le_refl 1) (by omega)
  ·refine x_lst (xs_nil (t_lst rfl rfl ?_))
   exact tail _ _ n1 rfl (by rw [c]; rfl) (Nat.zero_le 1) hn
 refine xs_nil (t_mlst rfl (s_asg ?_))
 refine s_next (ys_cons (y_ite (b_cmp (x_bin (x_bin (x_loc rfl (x_int (v_fdiv (by decide) (x_int (v_mod (by decide) (x_int (c_eq ?_))))))))))))
 refine if_by (fun c=>?_) (fun c=>?_)
 ·refine ys_cons (y_app (x_locR rfl rfl (t_app rfl (x_call rfl (xs_cons (x_locR rfl rfl (xs_cons (x_bin (x_bin (x_loc rfl (x_int (v_fdiv (by decide) (x_int (v_mod (by decide) (xs_nil ?_)))))))))))))))
  refine call_said hS fun sb n2 hsb hn2=>?_
  refine v_app rfl rfl ?_
  dsimp only [List.set_cons_zero,List.set_cons_succ,List.cons_append,List.nil_append]
  exact main [sa,sb] n2 (Nat.le_refl 2) (by simp; exact ⟨hsa,hsb⟩) (by omega)
 ·exact main [sa] n1 (Nat.le_succ 1) (by simpa using hsa) hn1
noncomputable def kindIs (k:Int):F→Bool
 | .inst _ _ (.int z :: _)=>decide (z = k)
 | _=>false
noncomputable def isNode (f:F):Prop:=E6 fun kd a ks fl at_ nid=>f = nodeF kd a ks fl at_ nid
structure Group where
 pieces:List F
 faces:List Face
 mades:List Made
structure Group.Ok (g:Group):Prop where
 node:∀ f∈g.pieces,isNode f
 k61:g.pieces.filter (kindIs 61) = g.mades.map Made.node
 k64:g.pieces.filter (kindIs 64) = g.faces.map Face.node
 faces:∀ f∈g.faces,f.Ok
 mades:∀ m∈g.mades,m.Ok
 lf:g.faces.length≤3
 lm:g.mades.length≤1
 lp:g.pieces.length≤9
noncomputable def groupPT:PT:=fun ds mu K=>E4 fun name p row n=>A6 (ds = [.ref 0,.fro (.str name)]) (mu = [some (dM p row n)]) (0≤p) (row.length≤40) (0≤n) (∀ (g:Group) p' n',g.Ok→0≤p'→n≤n'→K (.ref 1) [some (dM p' row n'),some (.dic [265,266,227] [.ref 2,.ref 3,.ref 4]),some (.fz (.lst g.pieces)),some (.fz (.lst (g.faces.map Face.F))),some (.fz (.lst (g.mades.map Made.F)))])
theorem idxL_last {α:Type} (l:List α) (x:α) (h:l.length≤1000000):idxL (l++[x]) (l.length:Int) = some x:=by
 show (if Nat.ble l.length 1000000 = true then (l++[x])[l.length]? else none) = _
 rw [if_pos (Nat.ble_eq_true_of_le h)]; simp
theorem drop_range {i m:Nat} (h:i < m):(List.range m).drop i = i :: (List.range m).drop (i + 1):=by
 rw [List.drop_eq_getElem_cons (by simpa using h)]; simp
theorem fz_id (l:List F) {st:St}:fzF st (.lst (l.map .fro)) = some (.lst l):=by
 have:=fz_lst (st:=st) (id:F→F) l
 simpa using this
set_option maxHeartbeats 4000000 in
theorem group_ok {w:World} {L:Nat} {Γ:Nat→PT} (h1:1≤L) (hΓ:∀ y∈callT,CallOK w L (.ref y.2) (Γ y.2)) (hp:Γ 624 = pullPT) (hN:Γ 631 = nodePT) (hC:Γ 685 = classPT) (hF:Γ 697 = facePT):CallOK w (L + 1) (.ref 704) groupPT:=by
 refine run_law_group h1 hΓ fun ds mu K h=>?_
 obtain ⟨name,p,row,n,rfl,rfl,hp0,hrow,h0,hK⟩:=h
 refine ⟨rfl,[1,2,3,4],(by decide:(List.range 1++[1,2,3,4]).Nodup),by simp,?_⟩
 show wpYs _ _ y_law_group ⟨[some (.ref 0),some (.fro (.str name)),none,none,none,none,none],[some (dM p row n)]⟩ (endK 1 [1,2,3,4] K)
 unfold y_law_group
 refine ys_cons (y_assign (x_call rfl (xs_cons (x_locR rfl rfl (xs_nil ?_)))))
 refine call_pull hp hp0 hrow fun z hz0 hz1=>?_
 refine s_asg ?_
 refine s_next (ys_cons (y_assign (x_bin (x_bin (x_loc rfl (x_int (v_add (x_int (v_mod (by decide) (s_asg ?_))))))))))
 refine s_next (ys_cons (y_assign (x_bin (x_bin (x_loc rfl (x_int (v_fdiv (by decide) (x_int (v_mod (by decide) (s_asg ?_))))))))))
 refine s_next (ys_cons (y_assign (x_dict (xs_cons (x_mlst (xs_nil (t_mlst rfl (xs_cons (x_mlst (xs_nil (t_mlst rfl (xs_cons (x_mlst (xs_nil (t_mlst rfl (xs_nil ?_))))))))))))))))
 obtain ⟨c,hc1,hc2⟩:∃ c:Nat,(z + 1).fmod 4 = (c:Int)∧c≤3:=by
  rcases fm4 (z + 1) with e | e | e | e
  ·exact ⟨0,e,by decide⟩
  ·exact ⟨1,e,by decide⟩
  ·exact ⟨2,e,by decide⟩
  ·exact ⟨3,e,by decide⟩
 rw [hc1]
 generalize (z.fdiv 4).fmod 6 = sp
 have main:∀ (pieces:List F) (n1:Int),(∀ f∈pieces,isNode f)→pieces.filter (kindIs 61) = []→pieces.filter (kindIs 64) = []→pieces.length≤1→n≤n1 →
   wpYs (mkTb Γ) okS (y_law_group.drop 5) ⟨[some (.ref 0),some (.fro (.str name)),some (.fro (.int z)),some (.fro (.int (c:Int))),some (.fro (.int sp)),some (.ref 1),none],[some (dM (p + 1) row n1),some (.dic [265,266,227] [.ref 2,.ref 3,.ref 4]),some (.lst (pieces.map .fro)),some (.lst []),some (.lst [])]⟩ (endK 1 [1,2,3,4] K):=by
  intro pieces n1 hpn hp1 hp2 hpl hn1
  dsimp only [y_law_group,Ys.drop]
  refine ys_cons (y_forR (x_bin (x_loc rfl (x_int (v_add ?_)))))
  refine g_rng (by omega) ?_
  refine for_ind1 (fun l loc mu=>E7 fun (i:Nat) (pieces:List F) (faces:List Face) (mades:List Made) (p' n':Int) (a6:Option D)=>l = ((List.range (c + 1)).drop i).map (fun (i:Nat)=>F.int (i:Int))∧faces.length = min i c∧i≤c + 1∧(mades = []∨(mades.length = 1∧sp.fmod ((c:Int) + 1) < (i:Int)))∧(∀ f∈pieces,isNode f)∧pieces.filter (kindIs 61) = mades.map Made.node∧pieces.filter (kindIs 64) = faces.map Face.node∧(∀ f∈faces,f.Ok)∧(∀ m∈mades,m.Ok)∧pieces.length≤1 + 2 * i∧0≤p'∧n≤n'∧loc = [some (.ref 0),some (.fro (.str name)),some (.fro (.int z)),some (.fro (.int (c:Int))),some (.fro (.int sp)),some (.ref 1),a6]∧mu = [some (dM p' row n'),some (.dic [265,266,227] [.ref 2,.ref 3,.ref 4]),some (.lst (pieces.map .fro)),some (.lst (faces.map fun f=>.fro f.F)),some (.lst (mades.map fun m=>.fro m.F))]) ?_ ?_ _ _ _ ⟨0,pieces,[],[],p + 1,n1,none,rfl,by simp,by omega,.inl rfl,hpn,hp1,hp2,by simp,by simp,by omega,by omega,hn1,rfl,rfl⟩
  ·rintro loc mu ⟨i,pieces,faces,mades,p',n',a6,e,g1,g2,g3,g4,g5,g6,g7,g8,g9,g10,g11,rfl,rfl⟩
   refine s_next ?_
   refine ys_ghost rfl (fz_id pieces) ?_
   dsimp only [List.set_cons_zero,List.set_cons_succ]
   refine ys_ghost rfl (fz_lst Face.F faces) ?_
   dsimp only [List.set_cons_zero,List.set_cons_succ]
   refine ys_ghost rfl (fz_lst Made.F mades) ?_
   dsimp only [List.set_cons_zero,List.set_cons_succ]
   refine ys_cons (y_ret (x_locR rfl rfl (s_ret (e_ret rfl rfl ?_))))
   exact hK ⟨pieces,faces,mades⟩ p' n' ⟨g4,g5,g6,g7,g8,by show faces.length≤3; omega,by show mades.length≤1; rcases g3 with e | ⟨e,_⟩; rw [e]; decide; omega,by show pieces.length≤9; omega⟩ g10 g11
  ·rintro f l loc mu ⟨i,pieces,faces,mades,p',n',a6,e,g1,g2,g3,g4,g5,g6,g7,g8,g9,g10,g11,rfl,rfl⟩ ih
   have hi:i < c + 1:=by
    rcases Nat.lt_or_ge i (c + 1) with q | q
    ·exact q
    ·rw [List.drop_eq_nil_of_le (by simpa using q)] at e; cases e
   rw [drop_range hi,List.map_cons,List.cons.injEq] at e
   obtain ⟨rfl,rfl⟩:=e
   dsimp only [List.set_cons_zero,List.set_cons_succ]
   have half:∀ (pieces:List F) (mades:List Made) (p' n':Int),(mades = []∨(mades.length = 1∧sp.fmod ((c:Int) + 1) < ((i + 1:Nat):Int))) →
     (∀ f∈pieces,isNode f)→pieces.filter (kindIs 61) = mades.map Made.node→pieces.filter (kindIs 64) = faces.map Face.node→(∀ m∈mades,m.Ok)→pieces.length≤2 + 2 * i→0≤p'→n≤n' →
     wpYs (mkTb Γ) okS ((y_law_group.drop 5).body.drop 1) ⟨[some (.ref 0),some (.fro (.str name)),some (.fro (.int z)),some (.fro (.int (c:Int))),some (.fro (.int sp)),some (.ref 1),some (.fro (.int (i:Int)))],[some (dM p' row n'),some (.dic [265,266,227] [.ref 2,.ref 3,.ref 4]),some (.lst (pieces.map .fro)),some (.lst (faces.map fun f=>.fro f.F)),some (.lst (mades.map fun m=>.fro m.F))]⟩
      (forN (mkTb Γ) okS (.one 6) (y_law_group.drop 5).body (((List.range (c + 1)).drop (i + 1)).map fun (i:Nat)=>F.int (i:Int)) (seqK (mkTb Γ) okS (y_law_group.drop 6) (endK 1 [1,2,3,4] K))):=by
    intro pieces mades p' n' g3 g4 g5 g6 g8 g9 g10 g11
    dsimp only [y_law_group,Ys.drop,Ys.body]
    refine ys_cons (y_ite (b_cmp (x_loc rfl (x_loc rfl (c_lt ?_)))))
    refine if_by (fun d=>?_) (fun d=>?_)
    ·have d:=of_decide_eq_true d
     have hl:faces.length = i:=by omega
     refine ys_cons (y_app (x_idx (x_locR rfl rfl (x_str (i_mdic rfl rfl (t_app rfl (x_call rfl (xs_cons (x_locR rfl rfl (xs_cons (x_loc rfl (xs_nil ?_))))))))))))
     refine call_face hF g10 hrow fun fc p2 n2 k1 k2 k3=>?_
     refine v_app rfl (Nat.ble_eq_true_of_le (by rw [List.length_map]; omega)) ?_
     dsimp only [List.set_cons_zero,List.set_cons_succ]
     refine s_next (ys_cons (y_app (x_idx (x_locR rfl rfl (x_str (i_mdic rfl rfl (t_app rfl (x_idx (x_idx (x_idx (x_locR rfl rfl (x_str (i_mdic rfl rfl (x_loc rfl ?_))))))))))))))
     refine i_mlst (d:=.fro fc.F) rfl (by have:=idxL_last (faces.map fun f=>D.fro f.F) (.fro fc.F) (by rw [List.length_map]; omega); rw [List.length_map,hl] at this; exact this) ?_
     refine x_str ?_
     refine i_dic (f:=fc.node) rfl ?_
     refine v_app rfl (Nat.ble_eq_true_of_le (by rw [List.length_map]; omega)) ?_
     dsimp only [List.set_cons_zero,List.set_cons_succ]
     refine s_next (ys_nil (s_next (ys_nil (fn_next ?_))))
     refine ih _ _ ⟨i + 1,pieces++[fc.node],faces++[fc],mades,p2,n2,_,rfl,by rw [List.length_append]; show faces.length + 1 = _; omega,by omega,g3,fun f hf=>?_,?_,?_,fun f hf=>?_,g8,by rw [List.length_append]; show pieces.length + 1≤_; omega,k2,by omega,rfl,?_⟩
     ·rcases List.mem_append.mp hf with q | q
      ·exact g4 f q
      ·rw [List.mem_singleton] at q; subst q; exact ⟨_,_,_,_,_,_,rfl⟩
     ·rw [List.filter_append,g5]; exact List.append_nil _
     ·rw [List.filter_append,g6,List.map_append]; rfl
     ·rcases List.mem_append.mp hf with q | q
      ·exact g7 f q
      ·rw [List.mem_singleton] at q; subst q; exact k1
     ·simp only [List.map_append,List.map_cons,List.map_nil]
    ·have d:=of_decide_eq_false d
     refine ys_nil (s_next (ys_nil (fn_next ?_)))
     exact ih _ _ ⟨i + 1,pieces,faces,mades,p',n',_,rfl,by omega,by omega,g3,g4,g5,g6,g7,g8,by omega,g10,g11,rfl,rfl⟩
   refine ys_cons (y_ite (b_and (a_cons (b_cmp (x_loc rfl (x_int (c_lt ?_)))))))
   refine if_by (fun d=>?_) (fun d=>?_)
   ·refine a_cons (b_cmp (x_loc rfl (x_bin (x_loc rfl (x_bin (x_loc rfl (x_int (v_add ?_))))))))
    refine v_mod (by omega) ?_
    refine c_eq ?_
    refine if_by (fun d2=>?_) (fun d2=>?_)
    ·have d2:=of_decide_eq_true d2
     have hm:mades = []:=by rcases g3 with e | ⟨_,e⟩; exact e; omega
     subst hm
     refine a_nil (if_t (ys_cons (y_app (x_idx (x_locR rfl rfl (x_str (i_mdic rfl rfl (t_app rfl (x_call rfl (xs_cons (x_locR rfl rfl (xs_cons (x_loc rfl (xs_cons (x_loc rfl (xs_nil ?_))))))))))))))))
     refine call_class hC g10 hrow (by omega) fun m p2 n2 k1 k2 k3=>?_
     refine v_app rfl rfl ?_
     dsimp only [List.set_cons_zero,List.set_cons_succ,List.map_nil,List.nil_append]
     refine s_next (ys_cons (y_app (x_idx (x_locR rfl rfl (x_str (i_mdic rfl rfl (t_app rfl (x_idx (x_idx (x_idx (x_locR rfl rfl (x_str (i_mdic rfl rfl (x_int (i_mlst rfl rfl (x_str ?_))))))))))))))))
     refine i_dic (f:=m.node) rfl ?_
     refine v_app rfl (Nat.ble_eq_true_of_le (by rw [List.length_map]; omega)) ?_
     dsimp only [List.set_cons_zero,List.set_cons_succ]
     have hh:=half (pieces++[m.node]) [m] p2 n2 (.inr ⟨rfl,by omega⟩) (fun f hf=>by
      rcases List.mem_append.mp hf with q | q
      ·exact g4 f q
      ·rw [List.mem_singleton] at q; subst q; exact ⟨_,_,_,_,_,_,rfl⟩) (by rw [List.filter_append,g5]; rfl) (by rw [List.filter_append,g6]; exact List.append_nil _) (by simpa using k1) (by rw [List.length_append]; show pieces.length + 1≤_; omega) k2 (by omega)
     rw [List.map_append] at hh
     exact hh
    ·exact half pieces mades p' n' (g3.imp id fun ⟨a,b⟩=>⟨a,by omega⟩) g4 g5 g6 g8 (by omega) g10 g11
   ·exact half pieces mades p' n' (g3.imp id fun ⟨a,b⟩=>⟨a,by omega⟩) g4 g5 g6 g8 (by omega) g10 g11
 refine t_dic rfl ?_
 refine s_asg ?_
 refine s_next (ys_cons (y_ite (b_and (a_cons (b_cmp (x_loc rfl (x_int (c_eq ?_))))))))
 refine if_by (fun d=>?_) (fun d=>?_)
 ·refine a_cons (b_cmp (x_loc rfl (x_int (c_eq ?_))))
  refine if_by (fun d2=>?_) (fun d2=>?_)
  ·refine a_nil (if_t (ys_cons (y_app (x_idx (x_locR rfl rfl (x_str (i_mdic rfl rfl (t_app rfl (x_call rfl (xs_cons (x_locR rfl rfl (xs_cons (x_glob rfl (xs_cons (x_loc rfl (xs_cons (x_lst (xs_cons (x_none (xs_cons (x_call rfl (xs_cons (x_locR rfl rfl (xs_cons (x_glob rfl (xs_cons (x_str (xs_cons (x_lst (xs_nil (t_lst rfl rfl (xs_cons (x_int (xs_nil (call_node (by assumption) (xs_nil (t_lst rfl rfl (xs_cons (x_int ?_)))))))))))))))))))))))))))))))))))))))
   refine xs_nil (call_node (by assumption) ?_)
   refine v_app (k:=2) (L:=[]) rfl rfl ?_
   exact main [nodeF 65 name [F.none,nodeF 80 94 [] 0 (3 * (n + 1)) (n + 1)] 0 (3 * (n + 1 + 1)) (n + 1 + 1)] (n + 1 + 1) (by intro f hf; rw [List.mem_singleton] at hf; subst hf; exact ⟨_,_,_,_,_,_,rfl⟩) rfl rfl (Nat.le_refl 1) (by omega)
  ·exact main [] n (by simp) rfl rfl (by decide) (Int.le_refl _)
 ·exact main [] n (by simp) rfl rfl (by decide) (Int.le_refl _)
section
variable {Γ:Nat→PT} {loc:List (Option D)} {mu:List (Option M)} {K:D→St→Prop}
theorem back0 {f:F} {N:Nat} (g:K (.fro f) ⟨loc,mu⟩):K (remD (backT [] N) (.fro f)) ⟨loc,wbM [] [] mu⟩:=by
 have:wbM [] [] mu = mu:=by unfold wbM wb; exact List.append_nil _
 rw [this]; exact g
theorem t_0 {f:Nat} {pt:PT} {ds r:List D} (hN:Γ f = pt) (hp:passDs [] ⟨loc,mu⟩ ds = some r)
  (g:pt r [] fun d mu'=>K (remD (backT [] mu.length) d) ⟨loc,wbM [] mu' mu⟩):callK (mkTb Γ) [] f K ds ⟨loc,mu⟩ :=
 t_call hN rfl hp g
theorem call_has (hN:Γ 49 = hasPT) {k:Int} {a:Nat} {ks:List F} {fl at_ nid g:Int} (h:K (.fro (.bool (hasB fl g))) ⟨loc,mu⟩):callK (mkTb Γ) [] 49 K [.fro (nodeF k a ks fl at_ nid),.fro (.int g)] ⟨loc,mu⟩ :=
 t_0 hN rfl ⟨k,a,ks,fl,at_,nid,g,rfl,rfl,back0 h⟩
noncomputable def isCtorPT:PT:=fun ds mu K=>E6 fun k a ks fl at_ nid=>A3 (ds = [.fro (nodeF k a ks fl at_ nid)]) (mu = []) (K (.fro (.bool (decide (k = 27) && hasB fl 256))) [])
theorem call_isCtor (hN:Γ 56 = isCtorPT) {k:Int} {a:Nat} {ks:List F} {fl at_ nid:Int} (h:K (.fro (.bool (decide (k = 27) && hasB fl 256))) ⟨loc,mu⟩):callK (mkTb Γ) [] 56 K [.fro (nodeF k a ks fl at_ nid)] ⟨loc,mu⟩ :=
 t_0 hN rfl ⟨k,a,ks,fl,at_,nid,rfl,rfl,back0 h⟩
end
noncomputable def classHasPT:PT:=fun ds mu K=>E2 fun (m:Made) (w:Nat)=>A4 (ds = [.fro m.node,.fro (.str w)]) (mu = []) (∀ x∈m.ms,x.Ok) (K (.fro (.bool (m.ms.any (·.has w)))) [])
section
variable {Γ:Nat→PT} {loc:List (Option D)} {mu:List (Option M)} {K:D→St→Prop}
theorem call_classHas (hN:Γ 70 = classHasPT) {m:Made} {w:Nat} (hm:∀ x∈m.ms,x.Ok) (h:K (.fro (.bool (m.ms.any (·.has w)))) ⟨loc,mu⟩):callK (mkTb Γ) [] 70 K [.fro m.node,.fro (.str w)] ⟨loc,mu⟩ :=
 t_0 hN rfl ⟨m,w,rfl,rfl,hm,back0 h⟩
end
noncomputable def Ys.els:Ys→Ys
 | .cons (.ite _ _ y) _=>y
 | _=>.nil
theorem kinds_any (k:Int):([62,27].any fun y=>y == k) = (decide (k = 62) || decide (k = 27)):=by
 have a:∀ z:Int,(z == k) = decide (k = z):=fun z=>by rw [Bool.eq_iff_iff,beq_iff_eq,decide_eq_true_iff]; exact eq_comm
 show ((62:Int) == k || ((27:Int) == k || false)) = _
 rw [a,a,Bool.or_false]
set_option maxHeartbeats 4000000 in
theorem isCtor_ok {w:World} {L:Nat} {Γ:Nat→PT} (h1:1≤L) (hΓ:∀ y∈callT,CallOK w L (.ref y.2) (Γ y.2)) (hH:Γ 49 = hasPT):CallOK w (L + 1) (.ref 56) isCtorPT:=by
 refine run_is_ctor h1 hΓ fun ds mu K h=>?_
 obtain ⟨k,a,ks,fl,at_,nid,rfl,rfl,hK⟩:=h
 refine ⟨rfl,[],(by decide:(List.range 0++[]).Nodup),by simp,?_⟩
 show wpYs _ _ y_is_ctor ⟨[some (.fro (nodeF k a ks fl at_ nid))],[]⟩ (endK 0 [] K)
 unfold y_is_ctor
 refine ys_cons (y_ret (x_both (x_cmp (x_attr (x_loc rfl (n_kind (x_glob rfl (c_eq (t_both ?_)))))))))
 refine if_by (fun c=>?_) (fun c=>?_)
 ·rw [c,Bool.true_and] at hK
  refine x_call rfl (xs_cons (x_loc rfl (xs_cons (x_glob rfl (xs_nil (call_has (by assumption) (s_ret (e_ret rfl rfl ?_))))))))
  exact hK
 ·rw [c,Bool.false_and] at hK
  refine s_ret (e_ret rfl rfl ?_)
  exact hK
set_option maxHeartbeats 4000000 in
theorem classHas_ok {w:World} {L:Nat} {Γ:Nat→PT} (h1:1≤L) (hΓ:∀ y∈callT,CallOK w L (.ref y.2) (Γ y.2)) (hH:Γ 49 = hasPT) (hI:Γ 56 = isCtorPT):CallOK w (L + 1) (.ref 70) classHasPT:=by
 refine run_class_has h1 hΓ fun ds mu K h=>?_
 obtain ⟨m,w,rfl,rfl,hm,hK⟩:=h
 refine ⟨rfl,[],(by decide:(List.range 0++[]).Nodup),by simp,?_⟩
 show wpYs _ _ y_class_has ⟨[some (.fro m.node),some (.fro (.str w)),none,none],[]⟩ (endK 0 [] K)
 unfold y_class_has
 unfold Made.node
 refine ys_cons (y_for (x_attr (x_idx (x_attr (x_loc rfl (n_kids (x_int (i_lst rfl (n_kids (g_lst rfl ?_))))))))))
 refine for_ind1 (fun l loc mu=>E3 fun (rest:List Mb) (a2 a3:Option D)=>A5 (l = rest.map Mb.F) (∀ x∈rest,x.Ok) (m.ms.any (·.has w) = rest.any (·.has w)) (loc = [some (.fro m.node),some (.fro (.str w)),a2,a3]) (mu = [])) ?_ ?_ _ _ _ ⟨m.ms,_,_,rfl,hm,rfl,rfl,rfl⟩
 ·rintro loc mu ⟨rest,a2,a3,e,_,hany,rfl,rfl⟩
  obtain rfl:=nil_map e
  rw [hany] at hK
  refine s_next (ys_cons (y_ret (x_bool (s_ret (e_ret rfl rfl ?_)))))
  exact hK
 ·rintro f l loc mu ⟨rest,a2,a3,e,hok,hany,rfl,rfl⟩ ih
  obtain ⟨x,rest,rfl,rfl,rfl⟩:=cons_map e
  have hx:=hok x (by simp)
  have next:x.has w = false→∀ a2 a3,forYs (mkTb Γ) okS (.one 2) _ (rest.map Mb.F) ⟨[some (.fro m.node),some (.fro (.str w)),a2,a3],[]⟩ _:=fun e a2 a3=>ih _ _ ⟨rest,a2,a3,rfl,fun y hy=>hok y (by simp [hy]),by rw [hany,List.any_cons,e,Bool.false_or],rfl,rfl⟩
  have found:x.has w = true→K (.fro (.bool true)) []:=fun e=>by
   have:m.ms.any (·.has w) = true:=by rw [hany,List.any_cons,e,Bool.true_or]
   rw [this] at hK; exact hK
  clear ih
  have els:x.has w = (decide (x.a = w) && (decide (x.kind = 62) || decide (x.kind = 27)) && !x.st)→wpYs (mkTb Γ) okS y_class_has.body.els ⟨[some (.fro m.node),some (.fro (.str w)),some (.fro (nodeF x.kind x.a x.kids x.fl x.at_ x.nid)),a3],[]⟩ (seqK (mkTb Γ) okS .nil (forN (mkTb Γ) okS (.one 2) y_class_has.body (rest.map Mb.F) (seqK (mkTb Γ) okS (y_class_has.drop 1) (endK 0 [] K)))):=by
   intro he
   dsimp only [y_class_has,Ys.body,Ys.els,Ys.drop]
   refine ys_cons (y_ite (b_and (a_cons (b_cmp (x_attr (x_loc rfl (n_a (x_loc rfl (c_eqS ?_)))))))))
   refine if_by (fun c1=>?_) (fun c1=>?_)
   ·refine a_cons (b_cmp2 (x_attr (x_loc rfl (n_kind (x_tup (xs_cons (x_glob rfl (xs_cons (x_glob rfl (xs_nil (t_tup rfl rfl (e_inT rfl ?_))))))))))))
    rw [kinds_any]
    refine if_by (fun c2=>?_) (fun c2=>?_)
    ·refine a_cons (b_not (b_tru (x_call rfl (xs_cons (x_loc rfl (xs_cons (x_glob rfl (xs_nil (call_has (by assumption) (u_b (if_n ?_)))))))))))
     refine if_by (fun c3=>?_) (fun c3=>?_)
     ·have e:x.has w = false:=by rw [he,show x.st = true from c3]; simp
      refine if_f (ys_nil (s_next (ys_nil (s_next (ys_nil (fn_next ?_))))))
      exact next e _ _
     ·have e:x.has w = true:=by rw [he,show x.st = false from c3,c1,c2]; rfl
      refine a_nil (if_t (ys_cons (y_ret (x_bool (s_ret (s_ret (s_ret (fn_ret (s_ret (e_ret rfl rfl ?_))))))))))
      exact found e
    ·have e:x.has w = false:=by rw [he,c2]; simp
     refine if_f (ys_nil (s_next (ys_nil (s_next (ys_nil (fn_next ?_))))))
     exact next e _ _
   ·have e:x.has w = false:=by rw [he,c1]; rfl
    refine if_f (ys_nil (s_next (ys_nil (s_next (ys_nil (fn_next ?_))))))
    exact next e _ _
  dsimp only [List.set_cons_zero,List.set_cons_succ,Mb.F]
  refine ys_cons (y_ite (b_and (a_cons (b_tru (x_call rfl (xs_cons (x_loc rfl (xs_nil ?_))))))))
  refine call_isCtor hI ?_
  refine u_b ?_
  refine if_by (fun c=>?_) (fun c=>?_)
  ·have c:x.ctor = true:=c
   obtain ⟨x1,y1,blk,hkids,hblk⟩:=hx c
   refine a_cons (b_cmp (x_idx (x_attr (x_loc rfl (n_kids (x_int ?_))))))
   rw [hkids]
   refine i_lst rfl (x_none (c_isNot (if_n ?_)))
   refine if_by (fun c2=>?_) (fun c2=>?_)
   ·have hb:x.body = false:=by rw [hblk] at c2; simpa using c2
    rw [← hkids]
    exact els (by unfold Mb.has; rw [c,hb]; rfl)
   ·have hb:x.body = true:=by rw [hblk] at c2; simpa using c2
    have he:x.has w = x.ps.any (·.has w):=by unfold Mb.has; rw [c,hb]; rfl
    refine a_nil (if_t (ys_cons (y_for (x_attr (x_idx (x_attr (x_loc rfl (n_kids (x_int (i_lst rfl (n_kids (g_lst rfl ?_))))))))))))
    refine for_ind1 (fun l loc mu=>E2 fun (ps:List Par) (a3:Option D)=>A4 (l = ps.map Par.F) (x.ps.any (·.has w) = ps.any (·.has w)) (loc = [some (.fro m.node),some (.fro (.str w)),some (.fro (nodeF x.kind x.a [.none,nodeF 71 75 (x.ps.map Par.F) 0 x1 y1,.none,blk] x.fl x.at_ x.nid)),a3]) (mu = [])) ?_ ?_ _ _ _ ⟨x.ps,_,rfl,rfl,rfl,rfl⟩
    ·rintro loc mu ⟨ps,a3,e,hany,rfl,rfl⟩
     obtain rfl:=nil_map e
     refine s_next (ys_nil (s_next (ys_nil (fn_next ?_))))
     rw [← hkids]
     exact next (by rw [he,hany]; rfl) _ _
    ·rintro f l loc mu ⟨ps,a3,e,hany,rfl,rfl⟩ ih
     obtain ⟨p,ps,rfl,rfl,rfl⟩:=cons_map e
     have nx:p.has w = false→∀ a3,_:=fun e a3=>ih [some (.fro m.node),some (.fro (.str w)),some (.fro (nodeF x.kind x.a [.none,nodeF 71 75 (x.ps.map Par.F) 0 x1 y1,.none,blk] x.fl x.at_ x.nid)),a3] [] ⟨ps,a3,rfl,by rw [hany,List.any_cons,e,Bool.false_or],rfl,rfl⟩
     clear ih
     dsimp only [List.set_cons_zero,List.set_cons_succ,Par.F]
     refine ys_cons (y_ite (b_and (a_cons (b_cmp (x_bin (x_attr (x_loc rfl (n_flags (x_glob rfl (v_band (x_int (c_ne (if_n ?_)))))))))))))
     refine if_by (fun d1=>?_) (fun d1=>?_)
     ·have e:p.has w = false:=by unfold Par.has hasB; rw [d1]; rfl
      refine if_f (ys_nil (s_next (ys_nil (fn_next ?_))))
      exact nx e _
     ·refine a_cons (b_cmp (x_attr (x_idx (x_attr (x_loc rfl (n_kids (x_int (i_lst rfl (n_kind (x_glob rfl (c_eq ?_)))))))))))
      refine if_by (fun d2=>?_) (fun d2=>?_)
      ·refine a_cons (b_cmp (x_attr (x_idx (x_attr (x_loc rfl (n_kids (x_int (i_lst rfl (n_a (x_loc rfl (c_eqS ?_)))))))))))
       refine if_by (fun d3=>?_) (fun d3=>?_)
       ·have e:p.has w = true:=by unfold Par.has hasB; rw [d1,d2,d3]; rfl
        refine a_nil (if_t (ys_cons (y_ret (x_bool (s_ret (s_ret (fn_ret (s_ret (s_ret (fn_ret (s_ret (e_ret rfl rfl ?_))))))))))))
        exact found (by rw [he,hany,List.any_cons,e,Bool.true_or])
       ·have e:p.has w = false:=by unfold Par.has hasB; rw [d3]; exact Bool.and_false _
        refine if_f (ys_nil (s_next (ys_nil (fn_next ?_))))
        exact nx e _
      ·have e:p.has w = false:=by unfold Par.has hasB; rw [d2]; simp
       refine if_f (ys_nil (s_next (ys_nil (fn_next ?_))))
       exact nx e _
  ·have c:x.ctor = false:=c
   exact els (by unfold Mb.has; rw [c]; rfl)
noncomputable def promB (f:Face) (m:Made):Bool:=f.based || f.saids.any fun s=>s.one (m.ms.any (·.has s.word))
noncomputable def promL (f:Face) (m:Made):Bool:=f.based || f.saids.any fun s=>s.law (decide (s.word∈m.ks))
theorem prom_eq {f:Face} {m:Made} (hf:f.Ok) (hm:m.Ok):promB f m = promL f m:=by
 unfold promB promL
 congr 1
 rw [Bool.eq_iff_iff,List.any_eq_true,List.any_eq_true]
 have key:∀ s∈f.saids,s.one (m.ms.any (·.has s.word)) = s.law (decide (s.word∈m.ks)):=by
  intro s hs
  have h1:=hm.has s.word (hf.ok s hs).word
  have h2:m.ms.any (·.has s.word) = decide (s.word∈m.ks):=by rw [Bool.eq_iff_iff,decide_eq_true_iff]; exact h1.symm
  rw [h2]
  exact (hf.ok s hs).eq _ fun e=>by rw [e]; exact decide_eq_false hm.k0
 exact ⟨fun ⟨s,hs,e⟩=>⟨s,hs,by rw [← key s hs]; exact e⟩,fun ⟨s,hs,e⟩=>⟨s,hs,by rw [key s hs]; exact e⟩⟩
noncomputable def promisesPT:PT:=fun ds mu K=>E2 fun (f:Face) (m:Made)=>A5 (ds = [.fro f.node,.fro m.node]) (mu = []) f.Ok (∀ x∈m.ms,x.Ok) (K (.fro (.bool (promB f m))) [])
noncomputable def promisedPT:PT:=fun ds mu K=>E2 fun (f:Face) (m:Made)=>A3 (ds = [.fro f.F,.fro m.F]) (mu = []) (K (.fro (.bool (promL f m))) [])
noncomputable def lonePT:PT:=fun ds mu K=>∃ (m:Made),A4 (ds = [.fro m.node]) (mu = []) (m.ms.length≤8) (K (.fro (.lst ((m.ms.filter (isLone m.ms)).map Mb.F))) [])
section
variable {Γ:Nat→PT} {loc:List (Option D)} {mu:List (Option M)} {K:D→St→Prop}
theorem call_promises (hN:Γ 77 = promisesPT) {f:Face} {m:Made} (hf:f.Ok) (hm:∀ x∈m.ms,x.Ok) (h:K (.fro (.bool (promB f m))) ⟨loc,mu⟩):callK (mkTb Γ) [] 77 K [.fro f.node,.fro m.node] ⟨loc,mu⟩ :=
 t_0 hN rfl ⟨f,m,rfl,rfl,hf,hm,back0 h⟩
theorem call_promised (hN:Γ 711 = promisedPT) {f:Face} {m:Made} (h:K (.fro (.bool (promL f m))) ⟨loc,mu⟩):callK (mkTb Γ) [] 711 K [.fro f.F,.fro m.F] ⟨loc,mu⟩ :=
 t_0 hN rfl ⟨f,m,rfl,rfl,back0 h⟩
theorem call_lone (hN:Γ 82 = lonePT) {m:Made} (hl:m.ms.length≤8) (h:K (.fro (.lst ((m.ms.filter (isLone m.ms)).map Mb.F))) ⟨loc,mu⟩):callK (mkTb Γ) [] 82 K [.fro m.node] ⟨loc,mu⟩ :=
 t_0 hN rfl ⟨m,rfl,rfl,hl,back0 h⟩
end
set_option maxHeartbeats 4000000 in
theorem promises_ok {w:World} {L:Nat} {Γ:Nat→PT} (h1:1≤L) (hΓ:∀ y∈callT,CallOK w L (.ref y.2) (Γ y.2)) (hH:Γ 49 = hasPT) (hC:Γ 70 = classHasPT):CallOK w (L + 1) (.ref 77) promisesPT:=by
 refine run_promises h1 hΓ fun ds mu K h=>?_
 obtain ⟨f,m,rfl,rfl,hf,hm,hK⟩:=h
 refine ⟨rfl,[],(by decide:(List.range 0++[]).Nodup),by simp,?_⟩
 show wpYs _ _ y_promises ⟨[some (.fro f.node),some (.fro m.node),none],[]⟩ (endK 0 [] K)
 unfold y_promises
 have hab:=hf.above
 unfold Face.node
 refine ys_cons (y_ite (b_tru (x_attr (x_idx (x_attr (x_loc rfl (n_kids (x_int (i_lst rfl (n_kids ?_))))))))))
 refine u_l (by have:=hf.len; omega) ?_
 rw [hab,Bool.not_not]
 refine if_by (fun c=>?_) (fun c=>?_)
 ·unfold promB at hK
  rw [c,Bool.true_or] at hK
  refine ys_cons (y_ret (x_bool (s_ret (s_ret (e_ret rfl rfl ?_)))))
  exact hK
 ·refine ys_nil (s_next (ys_cons (y_for (x_attr (x_idx (x_attr (x_loc rfl (n_kids (x_int (i_lst rfl (n_kids (g_lst rfl ?_))))))))))))
  unfold promB at hK
  rw [c,Bool.false_or] at hK
  refine for_ind1 (fun l loc mu=>E2 fun (rest:List Said) (a2:Option D)=>A4 (l = rest.map Said.F) (f.saids.any (fun s=>s.one (m.ms.any (·.has s.word))) = rest.any (fun s=>s.one (m.ms.any (·.has s.word)))) (loc = [some (.fro f.node),some (.fro m.node),a2]) (mu = [])) ?_ ?_ _ _ _ ⟨f.saids,_,rfl,rfl,rfl,rfl⟩
  ·rintro loc mu ⟨rest,a2,e,hany,rfl,rfl⟩
   obtain rfl:=nil_map e
   rw [hany] at hK
   refine s_next (ys_cons (y_ret (x_bool (s_ret (e_ret rfl rfl ?_)))))
   exact hK
  ·rintro g l loc mu ⟨rest,a2,e,hany,rfl,rfl⟩ ih
   obtain ⟨s,rest,rfl,rfl,rfl⟩:=cons_map e
   have next:s.one (m.ms.any (·.has s.word)) = false→∀ a2,forYs (mkTb Γ) okS (.one 2) _ (rest.map Said.F) ⟨[some (.fro f.node),some (.fro m.node),a2],[]⟩ _:=fun e a2=>ih _ _ ⟨rest,a2,rfl,by rw [hany,List.any_cons,e,Bool.false_or],rfl,rfl⟩
   have found:s.one (m.ms.any (·.has s.word)) = true→K (.fro (.bool true)) []:=fun e=>by
    rw [hany,List.any_cons,e,Bool.true_or] at hK; exact hK
   clear ih
   have half:(decide (s.kind = 27) && m.ms.any (·.has s.word)) = false→wpYs (mkTb Γ) okS ((y_promises.drop 1).body.drop 1) ⟨[some (.fro f.node),some (.fro m.node),some (.fro (nodeF s.kind s.word s.kids s.fl s.at_ s.nid))],[]⟩ (forN (mkTb Γ) okS (.one 2) (y_promises.drop 1).body (rest.map Said.F) (seqK (mkTb Γ) okS (y_promises.drop 2) (endK 0 [] K))):=by
    intro he
    dsimp only [y_promises,Ys.body,Ys.drop]
    refine ys_cons (y_ite (b_and (a_cons (b_not (b_tru (x_call rfl (xs_cons (x_loc rfl (xs_cons (x_glob rfl (xs_nil (call_has (by assumption) (u_b (if_n ?_))))))))))))))
    refine if_by (fun d=>?_) (fun d=>?_)
    ·have e:s.one (m.ms.any (·.has s.word)) = false:=by unfold Said.one; rw [he,d]; rfl
     refine if_f (ys_nil (s_next (ys_nil (fn_next ?_))))
     exact next e _
    ·refine a_cons (b_not (b_tru (x_call rfl (xs_cons (x_loc rfl (xs_cons (x_attr (x_loc rfl (n_a (xs_nil ?_))))))))))
     refine call_classHas hC hm ?_
     refine u_b (if_n ?_)
     refine if_by (fun d2=>?_) (fun d2=>?_)
     ·have e:s.one (m.ms.any (·.has s.word)) = false:=by unfold Said.one; rw [he,d2,Bool.not_true,Bool.and_false]; rfl
      refine if_f (ys_nil (s_next (ys_nil (fn_next ?_))))
      exact next e _
     ·have e:s.one (m.ms.any (·.has s.word)) = true:=by unfold Said.one; rw [d,d2]; simp
      refine a_nil (if_t (ys_cons (y_ret (x_bool (s_ret (s_ret (fn_ret (s_ret (e_ret rfl rfl ?_)))))))))
      exact found e
   dsimp only [List.set_cons_zero,List.set_cons_succ,Said.F]
   refine ys_cons (y_ite (b_and (a_cons (b_cmp (x_attr (x_loc rfl (n_kind (x_glob rfl (c_eq ?_)))))))))
   refine if_by (fun d=>?_) (fun d=>?_)
   ·refine a_cons (b_tru (x_call rfl (xs_cons (x_loc rfl (xs_cons (x_attr (x_loc rfl (n_a (xs_nil ?_)))))))))
    refine call_classHas hC hm ?_
    refine u_b ?_
    refine if_by (fun d2=>?_) (fun d2=>?_)
    ·have e:s.one (m.ms.any (·.has s.word)) = true:=by unfold Said.one; rw [d,d2]; simp
     refine a_nil (if_t (ys_cons (y_ret (x_bool (s_ret (s_ret (fn_ret (s_ret (e_ret rfl rfl ?_)))))))))
     exact found e
    ·exact half (by rw [d2,Bool.and_false])
   ·exact half (by rw [d,Bool.false_and])
set_option maxHeartbeats 4000000 in
theorem promised_ok {w:World} {L:Nat} {Γ:Nat→PT} (h1:1≤L) (hΓ:∀ y∈callT,CallOK w L (.ref y.2) (Γ y.2)):CallOK w (L + 1) (.ref 711) promisedPT:=by
 refine run_law_promised h1 hΓ fun ds mu K h=>?_
 obtain ⟨f,m,rfl,rfl,hK⟩:=h
 refine ⟨rfl,[],(by decide:(List.range 0++[]).Nodup),by simp,?_⟩
 show wpYs _ _ y_law_promised ⟨[some (.fro f.F),some (.fro m.F),none,none,none],[]⟩ (endK 0 [] K)
 unfold y_law_promised
 refine ys_cons (y_ite (b_tru (x_idx (x_loc rfl (x_str ?_)))))
 refine i_dic (f:=.bool f.based) rfl ?_
 refine u_b ?_
 refine if_by (fun c=>?_) (fun c=>?_)
 ·unfold promL at hK
  rw [c,Bool.true_or] at hK
  refine ys_cons (y_ret (x_bool (s_ret (s_ret (e_ret rfl rfl ?_)))))
  exact hK
 ·refine ys_nil (s_next (ys_cons (y_for (x_idx (x_loc rfl (x_str ?_))))))
  refine i_dic (f:=.lst (f.saids.map Said.pair)) rfl ?_
  refine g_lst rfl ?_
  unfold promL at hK
  rw [c,Bool.false_or] at hK
  refine for_ind2 (fun l loc mu=>E4 fun (rest:List Said) (a2 a3 a4:Option D)=>A4 (l = rest.map Said.pair) (f.saids.any (fun s=>s.law (decide (s.word∈m.ks))) = rest.any (fun s=>s.law (decide (s.word∈m.ks)))) (loc = [some (.fro f.F),some (.fro m.F),a2,a3,a4]) (mu = [])) ?_ ?_ ?_ _ _ _ ⟨f.saids,_,_,_,rfl,rfl,rfl,rfl⟩
  ·rintro g l loc mu ⟨rest,_,_,_,e,_⟩
   obtain ⟨r,rest,rfl,e1,e2⟩:=cons_map e
   exact ⟨_,_,e1⟩
  ·rintro loc mu ⟨rest,a2,a3,a4,e,hany,rfl,rfl⟩
   obtain rfl:=nil_map e
   rw [hany] at hK
   refine s_next (ys_cons (y_ret (x_bool (s_ret (e_ret rfl rfl ?_)))))
   exact hK
  ·rintro x y l loc mu ⟨rest,a2,a3,a4,e,hany,rfl,rfl⟩ ih
   obtain ⟨s,rest,rfl,e1,rfl⟩:=cons_map e
   obtain ⟨rfl,rfl⟩:=tup2 e1
   have next:s.law (decide (s.word∈m.ks)) = false→∀ a2 a3 a4,forYs (mkTb Γ) okS (.many [2,3]) _ (rest.map Said.pair) ⟨[some (.fro f.F),some (.fro m.F),a2,a3,a4],[]⟩ _:=fun e a2 a3 a4=>ih _ _ ⟨rest,a2,a3,a4,rfl,by rw [hany,List.any_cons,e,Bool.false_or],rfl,rfl⟩
   have found:s.law (decide (s.word∈m.ks)) = true→K (.fro (.bool true)) []:=fun e=>by
    rw [hany,List.any_cons,e,Bool.true_or] at hK; exact hK
   clear ih
   unfold Said.law at next found
   dsimp only [List.set_cons_zero,List.set_cons_succ]
   refine ys_cons (y_assign (x_cmp2 (x_loc rfl (x_idx (x_loc rfl (x_str ?_))))))
   refine i_dic (f:=.dic m.ks m.vals) rfl ?_
   refine e_in (s_asg ?_)
   refine s_next (ys_cons (y_ite (b_or (o_cons (b_cmp (x_loc rfl (x_int (c_eq ?_))))))))
   generalize decide (s.word∈m.ks) = H at next found
   refine if_by (fun d=>?_) (fun d=>?_)
   ·rw [d,Bool.true_or] at found
    refine if_t (ys_cons (y_ret (x_bool (s_ret (s_ret (fn_ret (s_ret (e_ret rfl rfl ?_))))))))
    exact found rfl
   ·rw [d,Bool.false_or] at next found
    refine o_cons (b_and (a_cons (b_cmp (x_loc rfl (x_int (c_eq ?_))))))
    refine if_by (fun d2=>?_) (fun d2=>?_)
    ·refine a_cons (b_not (b_tru (x_loc rfl (u_b (if_n ?_)))))
     refine if_by (fun d3=>?_) (fun d3=>?_)
     ·refine if_f (o_cons (b_and (a_cons (b_cmp (x_loc rfl (x_int (c_eq ?_)))))))
      refine if_by (fun d4=>?_) (fun d4=>?_)
      ·have d2:=of_decide_eq_true d2
       have d4:=of_decide_eq_true d4
       omega
      ·rw [d3,d4] at next
       refine if_f (o_nil (if_f (ys_nil (s_next (ys_nil (fn_next ?_))))))
       exact next (by simp) _ _ _
     ·rw [d2,d3] at found
      refine a_nil (if_t (if_t (ys_cons (y_ret (x_bool (s_ret (s_ret (fn_ret (s_ret (e_ret rfl rfl ?_))))))))))
      exact found rfl
    ·rw [d2] at next found
     refine if_f (o_cons (b_and (a_cons (b_cmp (x_loc rfl (x_int (c_eq ?_)))))))
     refine if_by (fun d4=>?_) (fun d4=>?_)
     ·refine a_cons (b_tru (x_loc rfl (u_b ?_)))
      refine if_by (fun d3=>?_) (fun d3=>?_)
      ·rw [d3,d4] at found
       refine a_nil (if_t (if_t (ys_cons (y_ret (x_bool (s_ret (s_ret (fn_ret (s_ret (e_ret rfl rfl ?_))))))))))
       exact found rfl
      ·rw [d3,d4] at next
       refine if_f (o_nil (if_f (ys_nil (s_next (ys_nil (fn_next ?_))))))
       exact next rfl _ _ _
     ·rw [d4] at next
      refine if_f (o_nil (if_f (ys_nil (s_next (ys_nil (fn_next ?_))))))
      exact next rfl _ _ _
noncomputable def nidOf:F→Int
 | .inst _ _ [_,_,_,_,_,.int n]=>n
 | _=>0
section
variable {T:Tb} {KT:St→Prop} {st:St} {KD:D→Prop} {C k:Nat} {ks:List Nat} {l:List F} {f:F}
theorem n_inst (h:attrOk C k = true) (h2:lk ks l k = some f) (g:KD (.fro f)):attrD (.fro (.inst C ks l)) k st KD:=.inl ⟨C,ks,l,f,rfl,h,h2,g⟩
theorem i_dicI {ks:List Int} {z:Int} (h:lkI ks l z = some f) (g:KD (.fro f)):idxD (.fro (.dicI ks l)) (.fro (.int z)) st KD:=IdxD.dicI h g
theorem comp_nids (base:List (Option M)) (xs:List F) (hx:∀ f∈xs,isNode f) (hlen:xs.length≤1000) (hK:∀ loc,KT ⟨loc,base++[some (.lst ((xs.map nidOf).map fun n=>.fro (.int n)))]⟩) :
  compWK T (.one 0) .nil (.attr (.loc 0) 44) base.length xs ⟨[none],base++[some (.lst [])]⟩ KT:=by
 refine comp_ind (fun l loc mu=>E2 fun (done:List F) (a:Option D)=>A3 (done++l = xs) (loc = [a]) (mu = base++[some (.lst ((done.map nidOf).map fun n=>.fro (.int n)))])) ?_ ?_ _ _ _ ⟨[],none,rfl,rfl,rfl⟩
 ·rintro loc mu ⟨done,a,e,rfl,rfl⟩
  rw [List.append_nil] at e; subst e; exact hK _
 ·rintro f l loc mu ⟨done,a,e,rfl,rfl⟩ ih
  obtain ⟨kd,na,ks,fl,at_,nid,rfl⟩:=hx f (by rw [← e]; simp)
  refine set_1 (turn_nil ?_)
  refine x_attr (x_loc rfl (n_nid ?_))
  have hd:done.length≤1000:=by have:=congrArg List.length e; simp at this; omega
  refine v_acc (L:=(done.map nidOf).map fun n=>.fro (.int n)) (by simp) (by rw [List.length_map,List.length_map]; exact hd) ?_
  refine ih _ _ ⟨done++[nodeF kd na ks fl at_ nid],_,by rw [← e]; simp,rfl,?_⟩
  rw [List.set_append_right _ _ (Nat.le_refl _),Nat.sub_self,List.map_append,List.map_append]
  rfl
end
theorem Made.isN (m:Made):isNode m.node:=⟨_,_,_,_,_,_,rfl⟩
theorem Mb.isN (m:Mb):isNode m.F:=⟨_,_,_,_,_,_,rfl⟩
theorem Face.isN (m:Face):isNode m.node:=⟨_,_,_,_,_,_,rfl⟩
noncomputable def lookG:List (Int × Group)→Int→Option Group
 | (d,g) :: l,z=>if d = z then some g else lookG l z
 | [],_=>none
theorem lkI_look {z:Int}:∀ {nds:List (Int × Group)},lkI (nds.map (·.1)) (nds.map fun x=>F.lst x.2.pieces) z = (lookG nds z).map fun g=>.lst g.pieces
 | []=>rfl
 | (d,g) :: l=>by
  simp only [List.map_cons]
  unfold lkI lookG
  by_cases q:d = z
  ·rw [if_pos q,if_pos q]; rfl
  ·rw [if_neg q,if_neg q]; exact lkI_look
theorem lookG_mem {z:Int}:∀ {nds:List (Int × Group)},z∈nds.map (·.1)→∃ g,lookG nds z = some g∧(z,g)∈nds
 | [],h=>by cases h
 | (d,g) :: l,h=>by
  unfold lookG
  by_cases q:d = z
  ·subst q; exact ⟨g,by rw [if_pos rfl],by simp⟩
  ·rw [if_neg q]
   simp only [List.map_cons,List.mem_cons] at h
   obtain ⟨g',e,m⟩:=lookG_mem (h.resolve_left fun e=>q e.symm)
   exact ⟨g',e,by simp [m]⟩
noncomputable def NIs (n:F) (nds:List (Int × Group)):Prop:=E2 fun ks l=>n = .inst 612 ks l∧lk ks l 55 = some (.dicI (nds.map (·.1)) (nds.map fun x=>.lst x.2.pieces))
noncomputable def clsOf (g:Group):F:=match g.mades with
 | []=>.none
 | m :: _=>m.node
noncomputable def classNodePT:PT:=fun ds mu K=>E4 fun (n:F) (nds:List (Int × Group)) (z:Int) (g:Group)=>A6 (ds = [.fro n,.fro (.int z)]) (mu = []) (NIs n nds) (lookG nds z = some g) g.Ok (K (.fro (clsOf g)) [])
noncomputable def oneM (g:Group):List F:=match g.mades with
 | []=>[]
 | m :: _=>if hasB m.fl 4194304 = true then [] else (m.ms.filter (isLone m.ms)).map Mb.F++(g.faces.filter fun f=>promB f m).map Face.node
noncomputable def resM (nds:List (Int × Group)) (z:Int):List F:=match lookG nds z with
 | some g=>oneM g
 | none=>[]
noncomputable def mergedPT:PT:=fun ds mu K=>E2 fun (n:F) (nds:List (Int × Group))=>A6 (ds = [.fro n]) (mu = []) (NIs n nds) (∀ x∈nds,x.2.Ok) (nds.length≤3) (∀ ns':List Int,ns'.Perm (nds.map (·.1))→ns'.Pairwise (·≤·)→K (.fro (.lst (ns'.flatMap (resM nds)))) [])
section
variable {Γ:Nat→PT} {loc:List (Option D)} {mu:List (Option M)} {K:D→St→Prop}
theorem call_classNode (hN:Γ 63 = classNodePT) {n:F} {nds:List (Int × Group)} {z:Int} {g:Group} (h1:NIs n nds) (h2:lookG nds z = some g) (h3:g.Ok) (h:K (.fro (clsOf g)) ⟨loc,mu⟩):callK (mkTb Γ) [] 63 K [.fro n,.fro (.int z)] ⟨loc,mu⟩ :=
 t_0 hN rfl ⟨n,nds,z,g,rfl,rfl,h1,h2,h3,back0 h⟩
end
theorem kindIs_node {k kd:Int} {a:Nat} {ks:List F} {fl at_ nid:Int}:kindIs k (nodeF kd a ks fl at_ nid) = decide (kd = k):=rfl
set_option maxHeartbeats 4000000 in
theorem classNode_ok {w:World} {L:Nat} {Γ:Nat→PT} (h1:1≤L) (hΓ:∀ y∈callT,CallOK w L (.ref y.2) (Γ y.2)):CallOK w (L + 1) (.ref 63) classNodePT:=by
 refine run_class_node h1 hΓ fun ds mu K h=>?_
 obtain ⟨n,nds,z,g,rfl,rfl,⟨ks,l,rfl,hl⟩,hg,hok,hK⟩:=h
 refine ⟨rfl,[],(by decide:(List.range 0++[]).Nodup),by simp,?_⟩
 show wpYs _ _ y_class_node ⟨[some (.fro (.inst 612 ks l)),some (.fro (.int z)),none],[]⟩ (endK 0 [] K)
 unfold y_class_node
 refine ys_cons (y_for (x_idx (x_attr (x_loc rfl ?_))))
 refine n_inst rfl hl ?_
 refine x_loc rfl ?_
 refine i_dicI (f:=.lst g.pieces) (by rw [lkI_look,hg]; rfl) ?_
 refine g_lst rfl ?_
 refine for_ind1 (fun l' loc mu=>∃ (a2:Option D),A4 (∀ f∈l',isNode f) (l'.filter (kindIs 61) = g.mades.map Made.node) (loc = [some (.fro (.inst 612 ks l)),some (.fro (.int z)),a2]) (mu = [])) ?_ ?_ _ _ _ ⟨_,hok.node,hok.k61,rfl,rfl⟩
 ·rintro loc mu ⟨a2,_,e,rfl,rfl⟩
  have:g.mades = []:=by simpa using e.symm
  unfold clsOf at hK
  rw [this] at hK
  refine s_next (ys_cons (y_ret (x_none (s_ret (e_ret rfl rfl ?_)))))
  exact hK
 ·rintro f l' loc mu ⟨a2,hn,e,rfl,rfl⟩ ih
  obtain ⟨kd,a,kids,fl,at_,nid,rfl⟩:=hn f (by simp)
  dsimp only [List.set_cons_zero,List.set_cons_succ]
  refine ys_cons (y_ite (b_cmp (x_attr (x_loc rfl (n_kind (x_glob rfl (c_eq ?_)))))))
  refine if_by (fun d=>?_) (fun d=>?_)
  ·rw [List.filter_cons_of_pos (by rw [kindIs_node]; exact d)] at e
   unfold clsOf at hK
   match hm:g.mades with
   | []=>rw [hm] at e; cases e
   | m :: ms =>
    rw [hm] at e hK
    rw [List.map_cons,List.cons.injEq] at e
    dsimp only at hK
    rw [← e.1] at hK
    refine ys_cons (y_ret (x_loc rfl (s_ret (s_ret (fn_ret (s_ret (e_ret rfl rfl ?_)))))))
    exact hK
  ·rw [List.filter_cons_of_neg (by rw [kindIs_node,d]; decide)] at e
   refine ys_nil (s_next (ys_nil (fn_next ?_)))
   exact ih _ _ ⟨_,fun f hf=>hn f (by simp [hf]),e,rfl,rfl⟩
set_option maxHeartbeats 4000000 in
theorem merged_ok {w:World} {L:Nat} {Γ:Nat→PT} (h1:1≤L) (hΓ:∀ y∈callT,CallOK w L (.ref y.2) (Γ y.2)) (hH:Γ 49 = hasPT) (hCN:Γ 63 = classNodePT) (hP:Γ 77 = promisesPT) (hL:Γ 82 = lonePT):CallOK w (L + 1) (.ref 89) mergedPT:=by
 refine run_merged_promises h1 hΓ fun ds mu K h=>?_
 obtain ⟨n,nds,rfl,rfl,hnis,hok,hlen,hK⟩:=h
 have hnis':=hnis
 obtain ⟨ks,l,hn,hl⟩:=hnis
 refine ⟨rfl,[],(by decide:(List.range 0++[]).Nodup),by simp,?_⟩
 show wpYs _ _ y_merged_promises ⟨[some (.fro n),none,none,none,none],[]⟩ (endK 0 [] K)
 unfold y_merged_promises
 refine ys_cons (y_assign (x_mlst (xs_nil (t_mlst rfl (s_asg ?_)))))
 refine s_next (ys_cons (y_for (x_sorted (x_attr (x_loc rfl ?_)))))
 rw [hn]
 refine n_inst rfl hl ?_
 have hsort:∀ {st:St} {K:D→St→Prop} (ks:List Int) (l:List F),ks.length < 64→(∀ ns':List Int,ns'.Perm ks→ns'.Pairwise (·≤·)→K (.fro (.lst (ns'.map .int))) st)→sortU (.fro (.dicI ks l)) st K:=fun ks l h g=>.inr ⟨ks,l,rfl,h,g⟩
 refine hsort _ _ (by rw [List.length_map]; omega) fun ns' hp hs=>?_
 have hKK:=hK ns' hp hs
 refine g_lst rfl ?_
 have big:∀ g:Group,g.Ok→(oneM g).length≤11:=by
  intro g hg
  unfold oneM
  split
  ·simp
  ·rename_i m ms e
   have hm:=hg.mades m (by rw [e]; simp)
   split
   ·simp
   ·rw [List.length_append,List.length_map,List.length_map]
    have h1:=List.length_filter_le (isLone m.ms) m.ms
    have h2:=List.length_filter_le (fun f=>promB f m) g.faces
    have h3:=hm.len
    have h4:=hg.lf
    omega
 have hnl:ns'.length≤3:=by rw [hp.length_eq,List.length_map]; exact hlen
 refine for_ind1 (fun l' loc mu=>E5 fun (done rest:List Int) (a2 a3 a4:Option D)=>A5 (l' = rest.map .int) (done++rest = ns') ((done.flatMap (resM nds)).length≤11 * done.length) (loc = [some (.fro (.inst 612 ks l)),some (.ref 0),a2,a3,a4]) (mu = [some (.lst ((done.flatMap (resM nds)).map .fro))])) ?_ ?_ _ _ _ ⟨[],ns',_,_,_,rfl,rfl,Nat.le_refl _,rfl,rfl⟩
 ·rintro loc mu ⟨done,rest,a2,a3,a4,e,e2,_,rfl,rfl⟩
  obtain rfl:=nil_map e
  rw [List.append_nil] at e2
  subst e2
  refine s_next ?_
  refine ys_ghost rfl (fz_id _) ?_
  dsimp only [List.set_cons_zero,List.set_cons_succ]
  refine ys_cons (y_ret (x_locF rfl rfl (s_ret (e_ret rfl rfl ?_))))
  exact hKK
 ·rintro f l' loc mu ⟨done,rest,a2,a3,a4,e,e2,hlen2,rfl,rfl⟩ ih
  obtain ⟨z,rest,rfl,rfl,rfl⟩:=cons_map e
  have hz:z∈nds.map (·.1):=hp.mem_iff.mp (by rw [← e2]; simp)
  obtain ⟨g,hg,hgm⟩:=lookG_mem hz
  have gok:=hok _ hgm
  have hdone:done.length≤3:=by have:=congrArg List.length e2; simp at this; omega
  have hres:resM nds z = oneM g:=by unfold resM; rw [hg]
  have next:∀ a2 a3 a4,forYs (mkTb Γ) okS (.one 2) _ (rest.map .int) ⟨[some (.fro (.inst 612 ks l)),some (.ref 0),a2,a3,a4],[some (.lst ((done.flatMap (resM nds)++oneM g).map .fro))]⟩ _:=fun a2 a3 a4=>ih _ _ ⟨done++[z],rest,a2,a3,a4,rfl,by rw [← e2]; simp,by
   rw [List.flatMap_append,List.length_append,List.length_append]
   have:=big g gok
   simp only [List.flatMap_cons,List.flatMap_nil,List.append_nil,hres,List.length_cons,List.length_nil]
   omega,rfl,by rw [List.flatMap_append]; simp only [List.flatMap_cons,List.flatMap_nil,List.append_nil,hres]⟩
  clear ih
  dsimp only [List.set_cons_zero,List.set_cons_succ]
  refine ys_cons (y_assign (x_call rfl (xs_cons (x_loc rfl (xs_cons (x_loc rfl (xs_nil ?_)))))))
  rw [hn] at hnis'
  refine call_classNode hCN hnis' hg gok ?_
  match hm:g.mades with
  | [] =>
   have e0:oneM g = []:=by unfold oneM; rw [hm]
   have e1:clsOf g = .none:=by unfold clsOf; rw [hm]
   rw [e0,List.append_nil] at next
   rw [e1]
   refine s_asg ?_
   refine s_next (ys_cons (y_ite (b_and (a_cons (b_cmp (x_loc rfl (x_none (c_isNot (if_n ?_)))))))))
   refine if_t ?_
   refine if_f (ys_nil (s_next (ys_nil (fn_next ?_))))
   exact next _ _ _
  | m :: ms =>
   have e1:clsOf g = m.node:=by unfold clsOf; rw [hm]
   have mok:=gok.mades m (by rw [hm]; simp)
   rw [e1]
   refine s_asg ?_
   refine s_next (ys_cons (y_ite (b_and (a_cons (b_cmp (x_loc rfl (x_none (c_isNot (if_n ?_)))))))))
   refine if_f ?_
   refine a_cons (b_not (b_tru (x_call rfl (xs_cons (x_loc rfl (xs_cons (x_glob rfl (xs_nil (call_has (by assumption) (u_b (if_n ?_)))))))))))
   refine if_by (fun c=>?_) (fun c=>?_)
   ·have e0:oneM g = []:=by unfold oneM; rw [hm]; exact if_pos c
    rw [e0,List.append_nil] at next
    refine if_f (ys_nil (s_next (ys_nil (fn_next ?_))))
    exact next _ _ _
   ·have e0:oneM g = (m.ms.filter (isLone m.ms)).map Mb.F++(g.faces.filter fun f=>promB f m).map Face.node:=by unfold oneM; rw [hm]; exact if_neg (by rw [show hasB m.fl 4194304 = false from c]; decide)
    have ll:(m.ms.filter (isLone m.ms)).length≤8:=Nat.le_trans (List.length_filter_le _ _) mok.len
    refine a_nil (if_t (ys_cons (y_ext (x_locR rfl rfl (t_ext rfl (x_call rfl (xs_cons (x_loc rfl (xs_nil ?_)))))))))
    refine call_lone hL mok.len ?_
    refine v_ext rfl rfl (by rw [List.length_map,List.length_map]; omega) ?_
    dsimp only [List.set_cons_zero,List.set_cons_succ]
    refine s_next (ys_cons (y_for (x_idx (x_attr (x_loc rfl ?_)))))
    refine n_inst rfl hl ?_
    refine x_loc rfl ?_
    refine i_dicI (f:=.lst g.pieces) (by rw [lkI_look,hg]; rfl) ?_
    refine g_lst rfl ?_
    refine for_ind1 (fun l' loc mu=>E3 fun (fd fr:List Face) (a4:Option D)=>A5 (fd++fr = g.faces) (∀ f∈l',isNode f) (l'.filter (kindIs 64) = fr.map Face.node) (loc = [some (.fro (.inst 612 ks l)),some (.ref 0),some (.fro (.int z)),some (.fro m.node),a4]) (mu = [some (.lst ((done.flatMap (resM nds)++((m.ms.filter (isLone m.ms)).map Mb.F++(fd.filter fun f=>promB f m).map Face.node)).map .fro))])) ?_ ?_ _ _ _ ⟨[],g.faces,_,rfl,gok.node,gok.k64,rfl,by simp only [List.filter_nil,List.map_nil,List.append_nil,List.map_append]⟩
    ·rintro loc mu ⟨fd,fr,a4,e,_,e2,rfl,rfl⟩
     have:fr = []:=by simpa using e2.symm
     subst this
     rw [List.append_nil] at e
     subst e
     rw [← e0]
     refine s_next (ys_nil (s_next (ys_nil (fn_next ?_))))
     exact next _ _ _
    ·rintro f l' loc mu ⟨fd,fr,a4,e,hno,e2,rfl,rfl⟩ ih
     obtain ⟨kd,na,kids,fl,at_,nid,rfl⟩:=hno f (by simp)
     have hfd:fd.length≤3:=Nat.le_trans (by rw [← e,List.length_append]; exact Nat.le_add_right _ _) gok.lf
     dsimp only [List.set_cons_zero,List.set_cons_succ]
     refine ys_cons (y_ite (b_and (a_cons (b_cmp (x_attr (x_loc rfl (n_kind (x_glob rfl (c_eq ?_)))))))))
     refine if_by (fun d=>?_) (fun d=>?_)
     ·rw [List.filter_cons_of_pos (by rw [kindIs_node]; exact d)] at e2
      obtain ⟨fc,fr,rfl,e3⟩:=cons_map e2
      have fok:=gok.faces fc (by rw [← e]; simp)
      rw [e3.1]
      refine a_cons (b_tru (x_call rfl (xs_cons (x_loc rfl (xs_cons (x_loc rfl (xs_nil ?_)))))))
      refine call_promises hP fok mok.ok ?_
      refine u_b ?_
      have next2:∀ b,promB fc m = b→∀ a4 mu,mu = [some (.lst ((done.flatMap (resM nds)++((m.ms.filter (isLone m.ms)).map Mb.F++(fd.filter fun f=>promB f m).map Face.node)++(if b then [fc.node] else [])).map .fro))]→forYs (mkTb Γ) okS (.one 4) _ l' ⟨[some (.fro (.inst 612 ks l)),some (.ref 0),some (.fro (.int z)),some (.fro m.node),a4],mu⟩ _:=fun b hb a4 mu hmu=>ih _ mu ⟨fd++[fc],fr,a4,by rw [← e]; simp,fun f hf=>hno f (by simp [hf]),e3.2,rfl,by
       rw [hmu,List.filter_append,List.filter_cons,hb,List.filter_nil]
       simp only [List.map_append,List.append_assoc]
       cases b <;> rfl⟩
      refine if_by (fun c2=>?_) (fun c2=>?_)
      ·refine a_nil (if_t (ys_cons (y_app (x_locR rfl rfl (t_app rfl (x_loc rfl ?_))))))
       refine v_app rfl (Nat.ble_eq_true_of_le (by
        have h2:=List.length_filter_le (fun f=>promB f m) fd
        simp only [List.length_map,List.length_append]; omega)) ?_
       dsimp only [List.set_cons_zero,List.set_cons_succ]
       refine s_next (ys_nil (s_next (ys_nil (fn_next ?_))))
       exact next2 true c2 _ _ (by rw [List.map_append (l₂:=if true = true then [fc.node] else [])]; rfl)
      ·refine if_f (ys_nil (s_next (ys_nil (fn_next ?_))))
       exact next2 false c2 _ _ (by rw [if_neg (by decide),List.append_nil])
     ·rw [List.filter_cons_of_neg (by rw [kindIs_node,d]; decide)] at e2
      refine if_f (ys_nil (s_next (ys_nil (fn_next ?_))))
      exact ih _ _ ⟨fd,fr,_,e,fun f hf=>hno f (by simp [hf]),e2,rfl,rfl⟩
noncomputable def soundPT:PT:=fun ds mu K=>E2 fun (m:Made) (fs:List Face)=>A5 (ds = [.fro m.F,.fro (.lst (fs.map Face.F))]) (mu = []) m.Ok (∀ f∈fs,f.Ok) (K (.fro (.bool true)) [])
theorem Made.has_eq {m:Made} (h:m.Ok) {w:Nat} (hw:w∈words5):m.ms.any (·.has w) = decide (w∈m.ks):=by
 rw [Bool.eq_iff_iff,decide_eq_true_iff]; exact (h.has w hw).symm
theorem nids_lone (ms:List Mb):((ms.filter (isLone ms)).map Mb.F).map nidOf = loneN ms:=by
 unfold loneN; rw [List.map_map]; rfl
set_option maxHeartbeats 4000000 in
theorem sound_ok {w:World} {L:Nat} {Γ:Nat→PT} (h1:1≤L) (hΓ:∀ y∈callT,CallOK w L (.ref y.2) (Γ y.2)) (hC:Γ 70 = classHasPT) (hP:Γ 77 = promisesPT) (hL:Γ 82 = lonePT) (hD:Γ 711 = promisedPT):CallOK w (L + 1) (.ref 716) soundPT:=by
 refine run_law_class_sound h1 hΓ fun ds mu K h=>?_
 obtain ⟨m,fs,rfl,rfl,mok,fok,hK⟩:=h
 refine ⟨rfl,[],(by decide:(List.range 0++[]).Nodup),by simp,?_⟩
 show wpYs _ _ y_law_class_sound ⟨[some (.fro m.F),some (.fro (.lst (fs.map Face.F))),none,none,none],[]⟩ (endK 0 [] K)
 unfold y_law_class_sound
 refine ys_cons (y_assign (x_idx (x_loc rfl (x_str ?_))))
 refine i_dic (f:=m.node) rfl ?_
 refine s_asg ?_
 refine s_next (ys_cons (y_for (x_glob rfl (g_tup rfl rfl ?_))))
 refine for_ind1 (fun l' loc mu=>E2 fun (rest:List Nat) (a3:Option D)=>A4 (l' = rest.map .str) (∀ w∈rest,w∈words5) (loc = [some (.fro m.F),some (.fro (.lst (fs.map Face.F))),some (.fro m.node),a3,none]) (mu = [])) ?_ ?_ _ _ _ ⟨[213,214,215,75],_,rfl,by decide,rfl,rfl⟩
 ·rintro loc mu ⟨rest,a3,e,_,rfl,rfl⟩
  refine s_next (ys_cons (y_ite (b_or (o_cons (b_tru (x_call rfl (xs_cons (x_loc rfl (xs_cons (x_str (xs_nil ?_)))))))))))
  refine call_classHas hC mok.ok ?_
  refine u_b ?_
  refine if_F (by rw [Made.has_eq mok (by decide:0∈words5),decide_eq_false mok.k0]) ?_
  refine o_cons (b_cmp2 (x_frz (x_comp (x_call rfl (xs_cons (x_loc rfl (xs_nil ?_)))))))
  refine call_lone hL mok.len ?_
  refine t_comp rfl ?_
  refine comp_nids [] _ (fun f hf=>by obtain ⟨x,_,rfl⟩:=List.mem_map.mp hf; exact x.isN) (by rw [List.length_map]; exact Nat.le_trans (List.length_filter_le _ _) (Nat.le_trans mok.len (by decide))) fun loc=>?_
  rw [nids_lone]
  refine f_ref rfl (fz_lst F.int (loneN m.ms)) ?_
  refine x_idx (x_loc rfl (x_str ?_))
  refine i_dic (f:=.lst ((loneN m.ms).map .int)) rfl ?_
  refine e_neL rfl rfl (intsF_map _) (intsF_map _) ?_
  refine if_F (by simp) ?_
  refine o_nil (if_f (ys_nil (s_next (ys_cons (y_for (x_loc rfl (g_lst rfl ?_)))))))
  refine for_ind1 (fun l' loc mu=>E2 fun (rest:List Face) (a4:Option D)=>A4 (l' = rest.map Face.F) (∀ f∈rest,f.Ok) (loc = [some (.fro m.F),some (.fro (.lst (fs.map Face.F))),some (.fro m.node),a3,a4]) (mu = [some (.fz (.lst ((loneN m.ms).map .int)))])) ?_ ?_ _ _ _ ⟨fs,_,rfl,fok,rfl,rfl⟩
  ·rintro loc mu ⟨rest,a4,e,_,rfl,rfl⟩
   obtain rfl:=nil_map e
   refine s_next (ys_cons (y_ret (x_bool (s_ret (e_ret rfl rfl ?_)))))
   exact hK
  ·rintro f l' loc mu ⟨rest,a4,e,hok,rfl,rfl⟩ ih
   obtain ⟨fc,rest,rfl,rfl,rfl⟩:=cons_map e
   dsimp only [List.set_cons_zero,List.set_cons_succ]
   refine ys_cons (y_ite (b_cmp (x_call rfl (xs_cons (x_idx (x_loc rfl (x_str ?_)))))))
   refine i_dic (f:=fc.node) rfl ?_
   refine xs_cons (x_loc rfl (xs_nil ?_))
   refine call_promises hP (hok fc (by simp)) mok.ok ?_
   refine x_call rfl (xs_cons (x_loc rfl (xs_cons (x_loc rfl (xs_nil ?_)))))
   refine call_promised hD ?_
   refine c_neB ?_
   refine if_F (by rw [prom_eq (hok fc (by simp)) mok]; simp) ?_
   refine ys_nil (s_next (ys_nil (fn_next ?_)))
   exact ih _ _ ⟨rest,_,rfl,fun f hf=>hok f (by simp [hf]),rfl,rfl⟩
 ·rintro f l' loc mu ⟨rest,a3,e,hok,rfl,rfl⟩ ih
  obtain ⟨w,rest,rfl,rfl,rfl⟩:=cons_map e
  dsimp only [List.set_cons_zero,List.set_cons_succ]
  refine ys_cons (y_ite (b_cmp (x_call rfl (xs_cons (x_loc rfl (xs_cons (x_loc rfl (xs_nil ?_))))))))
  refine call_classHas hC mok.ok ?_
  refine x_cmp2 (x_loc rfl (x_idx (x_loc rfl (x_str ?_))))
  refine i_dic (f:=.dic m.ks m.vals) rfl ?_
  refine e_in (c_neB ?_)
  refine if_F (by rw [Made.has_eq mok (hok w (by simp))]; simp) ?_
  refine ys_nil (s_next (ys_nil (fn_next ?_)))
  exact ih _ _ ⟨rest,_,rfl,fun f hf=>hok f (by simp [hf]),rfl,rfl⟩
theorem bindL_out {kindOf:Str→Option NameKind} {y:Str}:∀ {names:List Str} {vs:List Value} {m:Str→Option Value},y ∉ names→bindL kindOf (names.zip vs) m y = m y
 | [],_,_,_=>rfl
 | _ :: _,[],_,_=>rfl
 | n :: names,v :: vs,m,h=>by
  simp only [List.mem_cons,not_or] at h
  show bindL kindOf ((n,v) :: names.zip vs) m y = m y
  unfold bindL
  rw [bindL_out h.2]
  split
  ·simp [h.1]
  ·rfl
theorem bindL_get {kindOf:Str→Option NameKind}:∀ {names:List Str} {vs:List Value} {m:Str→Option Value} {i:Nat} {x:Str} {v:Value},names.Nodup→(∀ y∈names,kindOf y = some .local)→names[i]? = some x→vs[i]? = some v→bindL kindOf (names.zip vs) m x = some v
 | [],_,_,_,_,_,_,_,h,_=>by simp at h
 | _ :: _,[],_,_,_,_,_,_,_,h=>by simp at h
 | n :: names,u :: vs,m,i,x,v,nd,hk,hx,hv=>by
  obtain ⟨n1,n2⟩:=List.nodup_cons.mp nd
  show bindL kindOf ((n,u) :: names.zip vs) m x = some v
  unfold bindL
  rw [if_pos (hk n (by simp))]
  cases i with
  | zero =>
   simp at hx hv
   subst hx; subst hv
   rw [bindL_out n1]; simp
  | succ i =>
   simp at hx hv
   exact bindL_get n2 (fun y hy=>hk y (by simp [hy])) hx hv
theorem bindC_none {kindOf:Str→Option NameKind}:∀ {binds:List (Str × Value)} {m:Str→Option Value},(∀ x∈binds,kindOf x.1 = some .local)→bindC kindOf binds m = m
 | [],_,_=>rfl
 | (n,v) :: r,m,h=>by
  unfold bindC
  rw [if_pos (h (n,v) (by simp)),bindC_none fun x hx=>h x (by simp [hx])]
theorem fn_okC {w:World} {L:Nat} {f:Addr} {fd:FuncData} {body:List Stmt} {names:List Str} {xc:Str} {n:Nat} {pt:PT} (W:St→(FD→St→Prop)→Prop)
  (ho:∃ o,(KF w.params).lookup f = some o∧o.data = .func fd) (hcd:codeIn (KF w.params) fd.code fd.qualname = true) (hb:fd.body = .stmts body)
  (hbind:∀ vs:List Value,vs.length = n→bindArgs fd ⟨vs,[]⟩ = pure ((names.take n).zip vs)) (hclo:fd.closure = []) (hcell:∀ k,cellsFrom k fd.scope.names [] = [(xc,k)]) (hxc:fd.scope.names.lookup xc = some .cell)
  (hco:fd.scope.isCoroutine = false) (hgen:fd.scope.isGenerator = false) (hk:fd.scope.kind = .function)
  (hloc:∀ x∈names,fd.scope.names.lookup x = some .local) (hnd:names.Nodup) (hn:n≤names.length) (hg:fd.globals = mainGlobals) (hbi:fd.builtins = builtinsNs)
  (hW:∀ (c:Cx) (A:Around),c.w = w→c.names = names→c.cl = [(xc,0)]→c.env.scope = fd.scope→Room A L→∀ st,Sf c A (execs body c.env) st (W st))
  (hpt:∀ ds mu K,pt ds mu K→ds.length = n∧mu = []∧∃ ex:List Nat,ex.Nodup∧W ⟨ds.map some++List.replicate (names.length - n) none,[some (.cell none)]⟩ (endK 0 ex K)):CallOK w (L + 1) (.ref f) pt:=by
 intro A s p mu ds vs K Q room x dn h k
 obtain ⟨len,rfl,ex,nd,hw⟩:=hpt ds mu K h
 obtain ⟨o,ho,hdata⟩:=ho
 have lv:vs.length = n:=by rw [← dn.length]; exact len
 have x1:=x.len1
 have x2:=x.len2
 have hroom:A.depth < recursionLimit:=by
  have:=room.2.1
  show A.depth < 1000
  omega
 have hloc':∀ y∈(names.take n).zip vs,fd.scope.names.lookup y.1 = some .local:=fun y hy=>hloc _ (List.mem_of_mem_take (List.of_mem_zip hy).1)
 refine codeAny_call_cells hroom (x.sub _ _ (x.gnd.K _ _ ho)) hdata (x.gnd.lim.keeps x.sub) ((codeRec_of x.gnd.K hcd).keeps x.sub) hb (hbind vs lv) hclo (fun y hy=>.inl (hloc' y hy)) (fun s₁ ic=>?_) hco hgen hk
 obtain ⟨h₁,tk₁,es,hkeep⟩:=ic.done
 subst es
 have hcells:(callEnvC fd s.heap.objs.size f).cells = [(xc,s.heap.objs.size + 1)]:=hcell _
 let c:Cx:=⟨w,callEnvC fd s.heap.objs.size f,names,p.G,s.heap,p.fps,[]⟩
 have hns:h₁.Ns c.env.locals (bindL (callEnvC fd s.heap.objs.size f).kindOf ((names.take n).zip vs) fun _=>none):=ic.toInCall.ns
 have hic:=ic.cell xc (s.heap.objs.size + 1) (by rw [hcells]; simp)
 rw [bindC_none fun y hy=>hloc' y hy] at hic
 have at0:At c ⟨ds.map some++List.replicate (names.length - n) none,[]⟩ p h₁:={
  gnd:=x.gnd
  sub:=x.sub.trans hkeep
  new:=fun b o e=>.inl e
  g0:=Le.refl _
  keep:=fun b o e _ _=>hkeep b o e
  live:=fun b o e=>⟨o,hkeep b o e⟩
  kind:=hk
  glob:=hg
  bi:=hbi
  ns:=⟨_,hns,fun i y d e1 e2=>by
   have e3:ds[i]? = some d:=by
    have e2':(ds.map some++List.replicate (names.length - n) none)[i]? = some (some d):=e2
    rw [List.getElem?_append] at e2'
    split at e2'
    ·rw [List.getElem?_map] at e2'
     cases q:ds[i]? with
     | none=>rw [q] at e2'; cases e2'
     | some d'=>rw [q] at e2'; cases e2'; rfl
    ·rw [List.getElem?_replicate] at e2'
     split at e2' <;> cases e2'
   obtain ⟨v,e4,e5⟩:=dn.get e3
   have il:i < n:=by have:=(List.getElem?_eq_some_iff.mp e3).1; omega
   refine ⟨v,bindL_get ((List.take_sublist _ _).nodup hnd) (fun y hy=>hloc y (List.mem_of_mem_take hy)) (i:=i) ?_ e4,e5⟩
   rw [List.getElem?_take,if_pos il]; exact e1⟩
  nms:=fun i y e=>hloc y (List.mem_of_getElem? e)
  nod:=hnd
  frG:=by
   show p.G.get? s.heap.objs.size = none
   cases q:p.G.get? s.heap.objs.size with
   | none=>rfl
   | some o=>exact absurd (Heap.lt_size (x.sub _ _ q)) (Nat.lt_irrefl _)
  frF:=fun i fi e hb=>not_live get_size (x.off i fi e _ hb).2
  len1:=x1
  len2:=x2
  mus:=fun i m e=>by obtain ⟨a,fp,e1,e2,y⟩:=x.mus i m e; exact ⟨a,fp,e1,e2,by simpa using y.frame (r:=[]) (Le.refl _) fun b _ o q=>hkeep _ _ q⟩
  sep:=x.sep
  off:=fun i fi e b hb=>by obtain ⟨a,o,q⟩:=x.off i fi e b hb; exact ⟨a,o,hkeep _ _ q⟩
  own:=fun i fi e b hb=>.inl (by rw [List.getD_eq_getElem?_getD]; show b∈(p.fps[i]?).getD []; rw [e]; exact hb)
  lenF:=by show p.fps.length≤p.ρ.length; omega
  cl:=fun x i e=>by cases e }
 have old:∀ b o,s.heap.get? b = some o→b ≠ s.heap.objs.size + 1:=fun b o e z=>by have h2:=Heap.lt_size e; rw [z] at h2; exact absurd h2 (Nat.not_lt.mpr (Nat.le_succ _))
 have at1:=at0.addM (m:=.cell none) (a:=s.heap.objs.size + 1) (fp:=[s.heap.objs.size + 1]) ⟨rfl,none,hic,trivial⟩ (fun b hb=>by
  rw [List.mem_singleton] at hb
  subst hb
  refine ⟨?_,by obtain ⟨o,q,_⟩:=hic; exact ⟨o,q⟩,?_,?_,fun i fi e hb=>?_⟩
  ·cases q:s.heap.get? (s.heap.objs.size + 1) with
   | none=>rfl
   | some o=>exact absurd rfl (old _ o q)
  ·cases q:p.G.get? (s.heap.objs.size + 1) with
   | none=>rfl
   | some o=>exact absurd rfl (old _ o (x.sub _ _ q))
  ·show s.heap.objs.size + 1 ≠ s.heap.objs.size; omega
  ·obtain ⟨o,q⟩:=(x.off i fi e _ hb).2; exact old _ o q rfl)
 have r0:p.ρ = []:=List.eq_nil_of_length_eq_zero (by rw [← x1]; rfl)
 have f0:p.fps = []:=List.eq_nil_of_length_eq_zero (by rw [x2,r0]; rfl)
 let c2:Cx:=⟨w,callEnvC fd s.heap.objs.size f,names,p.G,s.heap,p.fps,[(xc,0)]⟩
 have at_:At c2 ⟨ds.map some++List.replicate (names.length - n) none,[some (.cell none)]⟩ { p with ρ:=p.ρ++[s.heap.objs.size + 1],fps:=p.fps++[[s.heap.objs.size + 1]] } h₁:={ at1 with
  cl:=fun y i e=>by
   have e:(y,i)∈[(xc,0)]:=e
   simp only [List.mem_singleton,Prod.mk.injEq] at e
   obtain ⟨rfl,rfl⟩:=e
   refine ⟨s.heap.objs.size + 1,by rw [r0]; rfl,?_,.inl hxc⟩
   show (callEnvC fd s.heap.objs.size f).cells.lookup y = _
   rw [hcells]; simp }
 refine wpAny_mono (hW c2 (A.deeper c2.env) rfl rfl rfl rfl (Room.deeper room) ⟨ds.map some++List.replicate (names.length - n) none,[some (.cell none)]⟩ { s with heap:=h₁,toks:=tk₁ } _ _ (fun fl s'=>Q (match fl with | .ret v=>v | _=>.none) s') at_ hw ?_) (fun fl s' q=>q) (fun _ _ x=>x.elim)
 intro d st' f h' tk q hd a' ext n'
 have ext':Ext p q:=Ext.trans (show Ext p { p with ρ:=p.ρ++[s.heap.objs.size + 1],fps:=p.fps++[[s.heap.objs.size + 1]] } from ⟨⟨_,rfl⟩,Le.refl _⟩) ext
 have nd':(List.range p.ρ.length++ex).Nodup:=by rw [r0]; exact nd
 have hex:∀ i∈ex,p.ρ.length≤i:=fun i _=>by rw [r0]; exact Nat.zero_le _
 have rl:p.ρ.length = 0:=by rw [r0]; rfl
 cases d with
 | next =>
  have n':f = .next:=n'
  subst n'
  obtain ⟨ok,hd⟩:=hd
  refine k _ _ _ .none h' tk hd (by have:=a'.toBack (q:=p) rfl rfl ext' x2 get_size nd' hex (by rw [rl]; exact ok); rw [rl] at this; exact this) ?_
  show Den _ _ _ _
  unfold Den; rfl
 | brk=>exact hd.elim
 | cont=>exact hd.elim
 | ret d =>
  obtain ⟨v,rfl,n'⟩:=n'
  obtain ⟨ok,hd⟩:=hd
  split at hd
  ·rename_i d' hd'
   exact k _ _ _ v h' tk hd (by have:=a'.toBack (q:=p) rfl rfl ext' x2 get_size nd' hex (by rw [rl]; exact ok); rw [rl] at this; exact this) (passDs_den a' (vs:=[v]) hd' ⟨n',trivial⟩).1
  ·exact hd.elim
noncomputable def chkFnC (fd:FuncData) (ns:List Nat) (xc:Nat) (n:Nat):Bool :=
 !fd.scope.isCoroutine && !fd.scope.isGenerator && fd.scope.kind == .function && ns.all (fun k=>Nat.blt k 282 && fd.scope.names.lookup (nm k) == some .local) && nodupB ns && Nat.ble n ns.length && fd.globals == mainGlobals && fd.builtins == builtinsNs && fd.scope.names.lookup (nm xc) == some .cell
theorem fn_runC {w:World} {L:Nat} {Γ:Nat→PT} (h1:1≤L) (hΓ:∀ y∈callT,CallOK w L (.ref y.2) (Γ y.2)) {f:Addr} {fd:FuncData} {body:List Stmt} (ns:List Nat) (xc:Nat) (n:Nat) (ys:Ys) {pt:PT}
  (ho:∃ o,(KF w.params).lookup f = some o∧o.data = .func fd) (hcd:codeIn (KF w.params) fd.code fd.qualname = true) (hb:fd.body = .stmts body) (hclo:fd.closure = []) (hcell:∀ k,cellsFrom k fd.scope.names [] = [(nm xc,k)])
  (hbind:∀ vs:List Value,vs.length = n→bindArgs fd ⟨vs,[]⟩ = pure (((ns.map nm).take n).zip vs)) (hf:chkFnC fd ns xc n = true) (hc:chkYs (mkTb Γ) ys ⟨ns,[(xc,0)],fd.scope⟩ body = true)
  (hpt:∀ ds mu K,pt ds mu K→ds.length = n∧mu = []∧∃ ex:List Nat,ex.Nodup∧wpYs (mkTb Γ) okS ys ⟨ds.map some++List.replicate (ns.length - n) none,[some (.cell none)]⟩ (endK 0 ex K)):CallOK w (L + 1) (.ref f) pt:=by
 unfold chkFnC at hf
 refine and_el hf fun g g1=>?_
 refine and_el g fun g g9=>?_
 refine and_el g fun g g8=>?_
 refine and_el g fun g g7=>?_
 refine and_el g fun g g6=>?_
 refine and_el g fun g g5=>?_
 refine and_el g fun g g4=>?_
 refine and_el g fun g2 g3=>?_
 have nl:∀ k∈ns,k < nmL.length∧fd.scope.names.lookup (nm k) = some .local:=fun k hk=>by
  refine and_el (List.all_eq_true.mp g5 k hk) fun y1 y2=>?_
  exact ⟨by rw [nmL_len]; exact Nat.le_of_ble_eq_true y1,eq_of_beq y2⟩
 refine fn_okC (names:=ns.map nm) (xc:=nm xc) (n:=n) (wpYs (mkTb Γ) okS ys) ho hcd hb hbind hclo hcell (eq_of_beq g1) (by simpa using g2) (by simpa using g3) (eq_of_beq g4) ?_ (nm_nodup (fun k hk=>(nl k hk).1) (nodupB_ok g6)) (by rw [List.length_map]; exact Nat.le_of_ble_eq_true g7) (eq_of_beq g8) (eq_of_beq g9) ?_ ?_
 ·intro y hy
  obtain ⟨k,hk,rfl⟩:=List.mem_map.mp hy
  exact (nl k hk).2
 ·intro c A e1 e2 e3 e4 r st
  exact okYs okS_ok (mkTb Γ) (mkOK h1 hΓ) ys ⟨ns,[(xc,0)],fd.scope⟩ body hc ⟨e1,e2,e3,e4⟩ r st
 ·intro ds mu K h
  obtain ⟨a,b,ex,c,d⟩:=hpt ds mu K h
  exact ⟨a,b,ex,c,by rw [List.length_map]; exact d⟩
noncomputable def grpF (x:Int × Group):F:=.dic [265,266,227,54] [.lst x.2.pieces,.lst (x.2.faces.map Face.F),.lst (x.2.mades.map Made.F),.int x.1]
noncomputable def oneMd (g:Group) (m:Made):List Int:=if m.opn = true then loneN m.ms++(g.faces.filter fun f=>promL f m).map (·.nid) else []
noncomputable def oneH (d:Nat) (x:Int × Group):List Int:=if x.1 = (d:Int) then x.2.mades.flatMap (oneMd x.2) else []
noncomputable def dueN (nds:List (Int × Group)):List Int:=(List.range 10).flatMap fun d=>nds.flatMap (oneH d)
noncomputable def duePT:PT:=fun ds mu K=>∃ nds:List (Int × Group),A5 (ds = [.fro (.lst (nds.map grpF))]) (mu = []) (∀ x∈nds,x.2.Ok) (nds.length≤3) (K (.fro (.lst ((dueN nds).map .int))) [])
section
variable {T:Tb} {ok:Nat→Nat→Bool} {KY:FD→St→Prop} {b:Ys}
theorem for_indC (P:List F→List (Option D)→List (Option M)→Prop) (nil:∀ loc mu,P [] loc mu→KY .next ⟨loc,mu⟩) (shape:∀ f l loc mu,P (f :: l) loc mu→E2 fun x rest=>mu = some (.cell x) :: rest)
  (step:∀ f l loc x rest,P (f :: l) loc (some (.cell x) :: rest)→(∀ loc' mu',P l loc' mu'→forYs T ok (.cell 0) b l ⟨loc',mu'⟩ KY)→wpYs T ok b ⟨loc,some (.cell (some (.fro f))) :: rest⟩ (forN T ok (.cell 0) b l KY)):∀ l loc mu,P l loc mu→forYs T ok (.cell 0) b l ⟨loc,mu⟩ KY
 | [],loc,mu,h=>nil loc mu h
 | f :: l,loc,mu,h=>by
  obtain ⟨x,rest,rfl⟩:=shape f l loc mu h
  exact step f l loc x rest h (for_indC P nil shape step l)
end
theorem comp_prom {Γ:Nat→PT} (hD:Γ 711 = promisedPT) {KT:St→Prop} {m:Made} (rest:List (Option M)) (fs:List Face) (hlen:fs.length≤1000)
  (hK:∀ loc,KT ⟨loc,(some (.cell (some (.fro m.F))) :: rest)++[some (.lst (((fs.filter fun f=>promL f m).map (·.nid)).map fun n=>.fro (.int n)))]⟩) :
  compWK (mkTb Γ) (.one 0) (.cons (.tru (.call 30 [] (.cons (.loc 0) (.cons (.cell 0) .nil)))) .nil) (.attr (.idx (.loc 0) (.cstr 47)) 44) (some (M.cell (some (.fro m.F))) :: rest).length (fs.map Face.F) ⟨[none],(some (.cell (some (.fro m.F))) :: rest)++[some (.lst [])]⟩ KT:=by
 refine comp_ind (fun l loc mu=>E3 fun (done left:List Face) (a:Option D)=>A4 (done++left = fs) (l = left.map Face.F) (loc = [a]) (mu = (some (.cell (some (.fro m.F))) :: rest)++[some (.lst (((done.filter fun f=>promL f m).map (·.nid)).map fun n=>.fro (.int n)))])) ?_ ?_ _ _ _ ⟨[],fs,none,rfl,rfl,rfl,rfl⟩
 ·rintro loc mu ⟨done,left,a,e,e2,rfl,rfl⟩
  obtain rfl:=nil_map e2
  rw [List.append_nil] at e; subst e; exact hK _
 ·rintro f l loc mu ⟨done,left,a,e,e2,rfl,rfl⟩ ih
  obtain ⟨f,left,rfl,rfl,rfl⟩:=cons_map e2
  refine set_1 (turn_one ?_)
  refine b_tru (x_call rfl (xs_cons (x_loc rfl (xs_cons (x_cell rfl (xs_nil ?_))))))
  refine call_promised hD ?_
  refine u_b ?_
  have hd:done.length≤1000:=by have:=congrArg List.length e; simp at this; omega
  refine if_by (fun c=>?_) (fun c=>?_)
  ·refine x_attr (x_idx (x_loc rfl (x_str (i_dic (f:=f.node) rfl (n_nid ?_)))))
   refine v_acc (L:=((done.filter fun f=>promL f m).map (·.nid)).map fun n=>.fro (.int n)) (by simp) (by rw [List.length_map,List.length_map]; exact Nat.le_trans (List.length_filter_le _ _) hd) ?_
   refine ih _ _ ⟨done++[f],left,_,by rw [← e]; simp,rfl,rfl,?_⟩
   rw [List.set_append_right _ _ (Nat.le_refl _),Nat.sub_self,List.filter_append,List.filter_cons_of_pos (p:=fun f=>promL f m) c,List.map_append,List.map_append]
   rfl
  ·refine ih _ _ ⟨done++[f],left,_,by rw [← e]; simp,rfl,rfl,?_⟩
   rw [List.filter_append,List.filter_cons_of_neg (p:=fun f=>promL f m) (by rw [c]; decide),List.filter_nil,List.append_nil]
noncomputable def fd_law_due:FuncData:=⟨s273,s273,a88,(.stmts b88),c88,3,[],.none,.none,.none,(.str s211 1124),none,(.ref 720),.none,0⟩
set_option maxHeartbeats 4000000 in
theorem due_ok {w:World} {L:Nat} {Γ:Nat→PT} (h1:1≤L) (hΓ:∀ y∈callT,CallOK w L (.ref y.2) (Γ y.2)) (hD:Γ 711 = promisedPT):CallOK w (L + 1) (.ref 721) duePT:=by
 refine fn_runC h1 hΓ (fd:=fd_law_due) (body:=b88) n_law_due 227 1 y_law_due ⟨o721 w.params,by kernel_rfl,rfl⟩ (by kernel_rfl) rfl rfl (fun k=>by kernel_rfl) (len1 fun _=>by kernel_rfl) (by kernel_rfl) (by kernel_rfl) fun ds mu K h=>?_
 obtain ⟨nds,rfl,rfl,hok,hlen,hK⟩:=h
 refine ⟨rfl,rfl,[],List.nodup_nil,?_⟩
 show wpYs _ _ y_law_due ⟨[some (.fro (.lst (nds.map grpF))),none,none,none],[some (.cell none)]⟩ (endK 0 [] K)
 unfold y_law_due
 have big:∀ (g:Group) (m:Made),g.Ok→m∈g.mades→(oneMd g m).length≤11:=by
  intro g m hg hm
  unfold oneMd
  split
  ·have h1:(loneN m.ms).length≤8:=by unfold loneN; rw [List.length_map]; exact Nat.le_trans (List.length_filter_le _ _) (hg.mades m hm).len
   have h2:=List.length_filter_le (fun f=>promL f m) g.faces
   have h3:=hg.lf
   rw [List.length_append,List.length_map]
   omega
  ·simp
 have bigH:∀ (d:Nat) (x:Int × Group),x.2.Ok→(oneH d x).length≤11:=by
  intro d x hg
  unfold oneH
  split
  ·have h1:=hg.lm
   match hm:x.2.mades with
   | []=>simp
   | [m]=>simp only [List.flatMap_cons,List.flatMap_nil,List.append_nil]; exact big x.2 m hg (by rw [hm]; simp)
   | _ :: _ :: _=>rw [hm] at h1; simp at h1
  ·simp
 refine ys_cons (y_assign (x_lst (xs_nil (t_lst rfl rfl (s_asg ?_)))))
 refine s_next (ys_cons (y_forR (x_int ?_)))
 refine g_rng (by decide) ?_
 refine for_ind1 (fun l loc mu=>E6 fun (done left:List Nat) (a2 a3:Option D) (x:Option D) (rest:List (Option M))=>A5 (l = left.map (fun (i:Nat)=>F.int (i:Int))) (done++left = List.range 10) ((done.flatMap fun d=>nds.flatMap (oneH d)).length≤33 * done.length) (loc = [some (.fro (.lst (nds.map grpF))),some (.fro (.lst ((done.flatMap fun d=>nds.flatMap (oneH d)).map .int))),a2,a3]) (mu = some (.cell x) :: rest)) ?_ ?_ _ _ _ ⟨[],List.range 10,_,_,none,[],rfl,rfl,Nat.le_refl _,rfl,rfl⟩
 ·rintro loc mu ⟨done,left,a2,a3,x,rest,e,e2,_,rfl,rfl⟩
  obtain rfl:=nil_map e
  rw [List.append_nil] at e2
  subst e2
  refine s_next (ys_cons (y_ret (x_loc rfl (s_ret (e_ret rfl rfl ?_)))))
  exact hK
 ·rintro f l loc mu ⟨done,left,a2,a3,x,rest,e,e2,hl,rfl,rfl⟩ ih
  obtain ⟨d,left,rfl,rfl,rfl⟩:=cons_map e
  have hdone:done.length≤10:=by have:=congrArg List.length e2; simp at this; omega
  dsimp only [List.set_cons_zero,List.set_cons_succ]
  refine ys_cons (y_for (x_loc rfl (g_lst rfl ?_)))
  refine for_ind1 (fun l loc mu=>E5 fun (dn lf:List (Int × Group)) (a3:Option D) (x:Option D) (rest:List (Option M))=>A5 (l = lf.map grpF) (dn++lf = nds) ((dn.flatMap (oneH d)).length≤11 * dn.length) (loc = [some (.fro (.lst (nds.map grpF))),some (.fro (.lst (((done.flatMap fun d=>nds.flatMap (oneH d))++dn.flatMap (oneH d)).map .int))),some (.fro (.int (d:Int))),a3]) (mu = some (.cell x) :: rest)) ?_ ?_ _ _ _ ⟨[],nds,a3,_,_,rfl,rfl,Nat.le_refl _,by simp,rfl⟩
  ·rintro loc mu ⟨dn,lf,a3,x,rest,e,e3,hl3,rfl,rfl⟩
   obtain rfl:=nil_map e
   rw [List.append_nil] at e3
   subst e3
   refine s_next (ys_nil (fn_next ?_))
   refine ih _ _ ⟨done++[d],left,some (.fro (.int (d:Int))),a3,_,_,rfl,by rw [← e2]; simp,?_,?_,rfl⟩
   ·rw [List.flatMap_append,List.length_append,List.length_append]
    simp only [List.flatMap_cons,List.flatMap_nil,List.append_nil,List.length_cons,List.length_nil]
    omega
   ·rw [List.flatMap_append]
    simp only [List.flatMap_cons,List.flatMap_nil,List.append_nil]
  ·rintro f l loc mu ⟨dn,lf,a3,x,rest,e,e3,hl3,rfl,rfl⟩ ih3
   obtain ⟨y,lf,rfl,rfl,rfl⟩:=cons_map e
   have gok:=hok y (by rw [← e3]; simp)
   have hdn:dn.length≤3:=by have:=congrArg List.length e3; simp at this; omega
   dsimp only [List.set_cons_zero,List.set_cons_succ]
   refine ys_cons (y_for (x_idx (x_loc rfl (x_str ?_))))
   refine i_dic (f:=.lst (y.2.mades.map Made.F)) rfl ?_
   refine g_lst rfl ?_
   refine for_indC (fun l loc mu=>E4 fun (md ml:List Made) (x:Option D) (rest:List (Option M))=>A4 (l = ml.map Made.F) (md++ml = y.2.mades) (loc = [some (.fro (.lst (nds.map grpF))),some (.fro (.lst (((done.flatMap fun d=>nds.flatMap (oneH d))++dn.flatMap (oneH d)++(if y.1 = (d:Int) then md.flatMap (oneMd y.2) else [])).map .int))),some (.fro (.int (d:Int))),some (.fro (grpF y))]) (mu = some (.cell x) :: rest)) ?_ ?_ ?_ _ _ _ ⟨[],y.2.mades,_,_,rfl,rfl,by simp,rfl⟩
   ·rintro loc mu ⟨md,ml,x,rest,e,e4,rfl,rfl⟩
    obtain rfl:=nil_map e
    rw [List.append_nil] at e4
    subst e4
    refine s_next (ys_nil (fn_next ?_))
    refine ih3 _ _ ⟨dn++[y],lf,some (.fro (grpF y)),_,_,rfl,by rw [← e3]; simp,?_,?_,rfl⟩
    ·have:=bigH d y gok
     rw [List.flatMap_append,List.length_append,List.length_append]
     simp only [List.flatMap_cons,List.flatMap_nil,List.append_nil,List.length_cons,List.length_nil]
     omega
    ·rw [List.flatMap_append]
     simp only [List.flatMap_cons,List.flatMap_nil,List.append_nil,oneH,List.append_assoc]
   ·rintro f l loc mu ⟨md,ml,x,rest,e,e4,rfl,rfl⟩
    exact ⟨_,_,rfl⟩
   ·rintro f l loc x rest ⟨md,ml,x',rest',e,e4,rfl,e5⟩ ih4
    obtain ⟨m,ml,rfl,rfl,rfl⟩:=cons_map e
    have hm:m∈y.2.mades:=by rw [← e4]; simp
    have hmd:md = []:=by
     have h1:=gok.lm
     rw [← e4,List.length_append,List.length_cons] at h1
     exact List.eq_nil_of_length_eq_zero (by omega)
    subst hmd
    simp only [List.flatMap_nil,ite_self,List.append_nil]
    have next:∀ acc,acc = (if y.1 = (d:Int) then oneMd y.2 m else [])→∀ rest,forYs (mkTb Γ) okS (.cell 0) _ (ml.map Made.F) ⟨[some (.fro (.lst (nds.map grpF))),some (.fro (.lst (((done.flatMap fun d=>nds.flatMap (oneH d))++dn.flatMap (oneH d)++acc).map .int))),some (.fro (.int (d:Int))),some (.fro (grpF y))],some (.cell (some (.fro m.F))) :: rest⟩ _:=fun acc hacc rest=>ih4 _ _ ⟨[m],ml,_,_,rfl,e4,by rw [hacc]; simp,rfl⟩
    clear ih4
    refine ys_cons (y_ite (b_and (a_cons (b_cmp (x_idx (x_loc rfl (x_str ?_)))))))
    refine i_dic (f:=.int y.1) rfl ?_
    refine x_loc rfl (c_eq ?_)
    refine if_by (fun c=>?_) (fun c=>?_)
    ·have c:=of_decide_eq_true c
     rw [if_pos c] at next
     refine a_cons (b_tru (x_idx (x_cell rfl (x_str ?_))))
     refine i_dic (f:=.bool m.opn) rfl ?_
     refine u_b ?_
     refine if_by (fun c2=>?_) (fun c2=>?_)
     ·refine a_nil (if_t (ys_cons (y_assign (x_cat (x_loc rfl (x_idx (x_cell rfl (x_str ?_))))))))
      refine i_dic (f:=.lst ((loneN m.ms).map .int)) rfl ?_
      have hln:(loneN m.ms).length≤8:=by unfold loneN; rw [List.length_map]; exact Nat.le_trans (List.length_filter_le _ _) (gok.mades m hm).len
      refine v_cat rfl rfl (by simp only [List.length_map,List.length_append]; omega) ?_
      refine s_asg ?_
      refine s_next (ys_cons (y_assign (x_cat (x_loc rfl (x_frz (x_comp (x_idx (x_loc rfl (x_str ?_)))))))))
      refine i_dic (f:=.lst (y.2.faces.map Face.F)) rfl ?_
      refine t_comp rfl ?_
      have hfl:y.2.faces.length≤3:=gok.lf
      refine comp_prom hD rest y.2.faces (by omega) fun loc=>?_
      have hfl2:=List.length_filter_le (fun f=>promL f m) y.2.faces
      refine f_ref (m:=.lst (((y.2.faces.filter fun f=>promL f m).map (·.nid)).map fun n=>.fro (.int n))) (by simp) (fz_lst F.int _) ?_
      refine v_cat rfl rfl (by simp only [List.length_map,List.length_append]; omega) ?_
      refine s_asg ?_
      refine s_next (ys_nil (s_next (ys_nil (fn_next ?_))))
      have en:oneMd y.2 m = loneN m.ms++(y.2.faces.filter fun f=>promL f m).map (·.nid):=by unfold oneMd; exact if_pos c2
      have nx:=next _ rfl (rest++[some (.fz (.lst (((y.2.faces.filter fun f=>promL f m).map (·.nid)).map .int)))])
      rw [en] at nx
      simp only [List.map_append,List.append_assoc] at nx ⊢
      simp only [List.length_cons,List.cons_append,List.set_cons_succ,List.set_append_right _ _ (Nat.le_refl _),Nat.sub_self,List.set_cons_zero]
      exact nx
     ·refine if_f (ys_nil (s_next (ys_nil (fn_next ?_))))
      have nx:=next _ rfl rest
      have en:oneMd y.2 m = []:=by unfold oneMd; exact if_neg (by rw [c2]; decide)
      rw [en,List.append_nil] at nx
      exact nx
    ·have c:=of_decide_eq_false c
     rw [if_neg c] at next
     refine if_f (ys_nil (s_next (ys_nil (fn_next ?_))))
     have nx:=next _ rfl rest
     rw [List.append_nil] at nx
     exact nx
theorem contains_snoc {l:List (Nat × Bool)} {p q:Nat × Bool}:(if l.contains p then l else l++[p]).contains q = (l.contains q || (p == q)):=by
 by_cases e:p = q
 ·subst e
  rw [beq_self_eq_true,Bool.or_true]
  cases h:l.contains p
  ·rw [if_neg (by decide)]; exact List.contains_iff_mem.mpr (by simp)
  ·rw [if_pos rfl]; exact h
 ·have e2:(p == q) = false:=by simpa using e
  rw [e2,Bool.or_false]
  cases h:l.contains p
  ·rw [if_neg (by decide),Bool.eq_iff_iff,List.contains_iff_mem,List.contains_iff_mem,List.mem_append,List.mem_singleton]
   exact ⟨fun h=>h.resolve_right fun z=>e z.symm,.inl⟩
  ·rw [if_pos rfl]
noncomputable def fd_lone_setters:FuncData:=⟨s67,s67,a45,(.stmts b45),c45,3,[],.none,.none,.none,(.str s57 330),none,(.ref 81),.none,0⟩
set_option maxHeartbeats 4000000 in
theorem lone_ok {w:World} {L:Nat} {Γ:Nat→PT} (h1:1≤L) (hΓ:∀ y∈callT,CallOK w L (.ref y.2) (Γ y.2)) (hH:Γ 49 = hasPT):CallOK w (L + 1) (.ref 82) lonePT:=by
 refine fn_runC h1 hΓ (fd:=fd_lone_setters) (body:=b45) n_lone_setters 64 1 y_lone_setters ⟨o82 w.params,by kernel_rfl,rfl⟩ (by kernel_rfl) rfl rfl (fun k=>by kernel_rfl) (len1 fun _=>by kernel_rfl) (by kernel_rfl) (by kernel_rfl) fun ds mu K h=>?_
 obtain ⟨m,rfl,rfl,hlen,hK⟩:=h
 refine ⟨rfl,rfl,[],List.nodup_nil,?_⟩
 show wpYs _ _ y_lone_setters ⟨[some (.fro m.node),none],[some (.cell none)]⟩ (endK 0 [] K)
 unfold y_lone_setters
 refine ys_cons (y_assignC (x_dict0 (v_cellS rfl ?_)))
 show seqK _ _ _ _ .next ⟨[some (.fro m.node),none],[some (.cell (some (.ref 1))),some (.pd [])]⟩
 unfold Made.node
 refine s_next (ys_cons (y_for (x_attr (x_idx (x_attr (x_loc rfl (n_kids (x_int (i_lst rfl (n_kids (g_lst rfl ?_)))))))))))
 refine for_ind1 (fun l loc mu=>E4 fun (done rest:List Mb) (a1:Option D) (ps:List (Nat × Bool))=>A6 (l = rest.map Mb.F) (done++rest = m.ms) (∀ a b,ps.contains (a,b) = getB done a b) (ps.length≤done.length) (loc = [some (.fro m.node),a1]) (mu = [some (.cell (some (.ref 1))),some (.pd ps)])) ?_ ?_ _ _ _ ⟨[],m.ms,_,[],rfl,rfl,fun a b=>rfl,Nat.le_refl _,rfl,rfl⟩
 ·rintro loc mu ⟨done,rest,a1,ps,e,e2,hps,_,rfl,rfl⟩
  obtain rfl:=nil_map e
  rw [List.append_nil] at e2
  subst e2
  unfold Made.node
  refine s_next (ys_cons (y_ret (x_frz (x_comp (x_attr (x_idx (x_attr (x_loc rfl (n_kids (x_int (i_lst rfl (n_kids ?_))))))))))))
  refine t_comp rfl ?_
  refine comp_ind (fun l loc mu=>E3 fun (dn lf:List Mb) (a:Option D)=>A4 (dn++lf = m.ms) (l = lf.map Mb.F) (loc = [a]) (mu = [some (.cell (some (.ref 1))),some (.pd ps),some (.lst ((dn.filter (isLone m.ms)).map fun x=>.fro x.F))])) ?_ ?_ _ _ _ ⟨[],m.ms,none,rfl,rfl,rfl,rfl⟩
  ·rintro loc mu ⟨dn,lf,a,e3,e4,rfl,rfl⟩
   obtain rfl:=nil_map e4
   rw [List.append_nil] at e3
   rw [e3]
   refine f_ref rfl (fz_lst Mb.F (m.ms.filter (isLone m.ms))) ?_
   dsimp only [List.set_cons_zero,List.set_cons_succ]
   refine s_ret (e_ret rfl rfl ?_)
   exact hK
  ·rintro f l loc mu ⟨dn,lf,a,e3,e4,rfl,rfl⟩ ih
   obtain ⟨x,lf,rfl,rfl,rfl⟩:=cons_map e4
   have hdn:dn.length≤8:=by have:=congrArg List.length e3; rw [List.length_append] at this; omega
   have skip:isLone m.ms x = false→∀ a,compWK (mkTb Γ) (.one 0) _ _ _ (lf.map Mb.F) ⟨[a],[some (.cell (some (.ref 1))),some (.pd ps),some (.lst ((dn.filter (isLone m.ms)).map fun x=>.fro x.F))]⟩ _:=fun hx a=>ih _ _ ⟨dn++[x],lf,a,by rw [← e3]; simp,rfl,rfl,by rw [List.filter_append,List.filter_cons_of_neg (by rw [hx]; decide),List.filter_nil,List.append_nil]⟩
   have take:isLone m.ms x = true→∀ a,compWK (mkTb Γ) (.one 0) _ _ _ (lf.map Mb.F) ⟨[a],[some (.cell (some (.ref 1))),some (.pd ps),some (.lst ((dn.filter (isLone m.ms)).map (fun x=>.fro x.F)++[.fro x.F]))]⟩ _:=fun hx a=>ih _ _ ⟨dn++[x],lf,a,by rw [← e3]; simp,rfl,rfl,by rw [List.filter_append,List.filter_cons_of_pos hx,List.filter_nil,List.map_append]; rfl⟩
   clear ih
   refine set_1 (turn_one ?_)
   dsimp only [List.set_cons_zero,List.set_cons_succ,Mb.F]
   refine b_and (a_cons (b_cmp (x_attr (x_loc rfl (n_kind (x_glob rfl (c_eq ?_)))))))
   have hdec:isLone m.ms x = ((decide (x.kind = 27) && hasB x.fl 128) && !ps.contains (x.a,hasB x.fl 262144)):=by unfold isLone; rw [hps]; rfl
   refine if_by (fun c1=>?_) (fun c1=>?_)
   ·refine a_cons (b_tru (x_call rfl (xs_cons (x_loc rfl (xs_cons (x_glob rfl (xs_nil (call_has (by assumption) (u_b ?_)))))))))
    refine if_by (fun c2=>?_) (fun c2=>?_)
    ·refine a_cons (b_cmp2 (x_tup (xs_cons (x_attr (x_loc rfl (n_a (xs_cons (x_call rfl (xs_cons (x_loc rfl (xs_cons (x_glob rfl (xs_nil (call_has (by assumption) (xs_nil (t_tup rfl rfl (x_cell rfl ?_)))))))))))))))))
     refine e_ninP rfl ?_
     refine if_n ?_
     refine if_by (fun c3=>?_) (fun c3=>?_)
     ·refine if_f ?_
      exact skip (by rw [hdec,c3]; simp) _
     ·refine a_nil (if_t (x_loc rfl ?_))
      refine v_acc (L:=(dn.filter (isLone m.ms)).map fun x=>.fro x.F) rfl (by rw [List.length_map]; exact Nat.le_trans (List.length_filter_le _ _) (by omega)) ?_
      exact take (by rw [hdec,c1,c2,c3]; rfl) _
    ·refine if_f ?_
     exact skip (by rw [hdec,c2]; simp) _
   ·refine if_f ?_
    exact skip (by rw [hdec,c1]; rfl) _
 ·rintro f l loc mu ⟨done,rest,a1,ps,e,e2,hps,hpl,rfl,rfl⟩ ih
  obtain ⟨x,rest,rfl,rfl,rfl⟩:=cons_map e
  have hdn:done.length≤8:=by have:=congrArg List.length e2; rw [List.length_append] at this; omega
  have skip:x.isGet = false→∀ a1,forYs (mkTb Γ) okS (.one 1) _ (rest.map Mb.F) ⟨[some (.fro m.node),a1],[some (.cell (some (.ref 1))),some (.pd ps)]⟩ _:=fun hx a1=>ih _ _ ⟨done++[x],rest,a1,ps,rfl,by rw [← e2]; simp,fun a b=>by rw [getB_snoc,hx,hps]; simp,by rw [List.length_append]; omega,rfl,rfl⟩
  have take:x.isGet = true→∀ a1,forYs (mkTb Γ) okS (.one 1) _ (rest.map Mb.F) ⟨[some (.fro m.node),a1],[some (.cell (some (.ref 1))),some (.pd (if ps.contains (x.a,hasB x.fl 262144) then ps else ps++[(x.a,hasB x.fl 262144)]))]⟩ _:=fun hx a1=>ih _ _ ⟨done++[x],rest,a1,_,rfl,by rw [← e2]; simp,fun a b=>by
   rw [contains_snoc,getB_snoc,hx,hps,Bool.true_and]
   congr 1,by
   rw [List.length_append]
   split
   ·omega
   ·rw [List.length_append]; simp only [List.length_cons,List.length_nil]; omega,rfl,rfl⟩
  clear ih
  dsimp only [List.set_cons_zero,List.set_cons_succ,Mb.F]
  refine ys_cons (y_ite (b_and (a_cons (b_cmp (x_attr (x_loc rfl (n_kind (x_glob rfl (c_eq ?_)))))))))
  have hdec:x.isGet = (decide (x.kind = 27) && hasB x.fl 64):=rfl
  refine if_by (fun c1=>?_) (fun c1=>?_)
  ·refine a_cons (b_tru (x_call rfl (xs_cons (x_loc rfl (xs_cons (x_glob rfl (xs_nil (call_has (by assumption) (u_b ?_)))))))))
   refine if_by (fun c2=>?_) (fun c2=>?_)
   ·refine a_nil (if_t (ys_cons (y_setI (x_int (x_cell rfl (x_tup (xs_cons (x_attr (x_loc rfl (n_a (xs_cons (x_call rfl (xs_cons (x_loc rfl (xs_cons (x_glob rfl (xs_nil (call_has (by assumption) (xs_nil (t_tup rfl rfl ?_))))))))))))))))))))
    refine v_setP rfl (Nat.ble_eq_true_of_le (by omega)) ?_
    refine s_next (ys_nil (s_next (ys_nil (fn_next ?_))))
    exact take (by rw [hdec,c1,c2]; rfl) _
   ·refine if_f (ys_nil (s_next (ys_nil (fn_next ?_))))
    exact skip (by rw [hdec,c2]; simp) _
  ·refine if_f (ys_nil (s_next (ys_nil (fn_next ?_))))
   exact skip (by rw [hdec,c1]; rfl) _
theorem putK_new {k:Nat}:∀ {ks:List Nat},ks.contains k = false→putK ks k = ks++[k]
 | [],_=>rfl
 | k' :: ks,h=>by
  simp only [List.contains_cons,Bool.or_eq_false_iff,beq_eq_false_iff_ne] at h
  unfold putK
  rw [if_neg (fun e=>h.1 e.symm),putK_new h.2]; rfl
theorem putV_new {α:Type} {k:Nat} {v:α}:∀ {ks:List Nat} {l:List α},ks.contains k = false→ks.length = l.length→putV ks l k v = l++[v]
 | [],[],_,_=>rfl
 | k' :: ks,x :: l,h,e=>by
  simp only [List.contains_cons,Bool.or_eq_false_iff,beq_eq_false_iff_ne] at h
  unfold putV
  rw [if_neg (fun e=>h.1 e.symm),putV_new h.2 (by simpa using e)]; rfl
section
variable {ok:Nat→Nat→Bool} {loc:List (Option D)} {mu:List (Option M)} {k j C:Nat} {ks:List Nat} {L:List D} {o:D} {KT:St→Prop}
theorem v_setNew {f:F} (h:deref ⟨loc,mu⟩ o = .mut_ k (.inst C ks L)) (h1:ok C j = true) (h2:Nat.ble ks.length 500 = true) (h3:ks.contains j = false) (h4:ks.length = L.length)
  (g:KT ⟨loc,mu.set k (some (.inst C (ks++[j]) (L++[.fro f])))⟩):setAD ok o j (.fro f) ⟨loc,mu⟩ KT :=
 v_setA h h1 h2 (by rw [putK_new h3,putV_new h3 h4]; exact g)
theorem v_setNewR {r:Nat} {m:M} (h0:deref ⟨loc,mu⟩ (.ref r) = .mut_ r m) (h:deref ⟨loc,mu⟩ o = .mut_ k (.inst C ks L)) (h1:ok C j = true) (h2:Nat.ble ks.length 500 = true) (h3:ks.contains j = false) (h4:ks.length = L.length)
  (g:KT ⟨loc,mu.set k (some (.inst C (ks++[j]) (L++[.ref r])))⟩):setAD ok o j (.ref r) ⟨loc,mu⟩ KT :=
 v_setA h h1 h2 (by rw [putK_new h3,putV_new h3 h4]; unfold normD; rw [h0]; exact g)
end
section
variable {Γ:Nat→PT} {loc:List (Option D)} {mu:List (Option M)} {K:D→St→Prop}
theorem wb0 {C:Nat} {ks:List Nat} {fs:List F}:wbM [] [some (.inst C ks (fs.map .fro))] mu = mu++[some (.inst C ks (fs.map .fro))]:=by
 unfold wbM wb
 congr 1
 show [some (M.inst C ks ((fs.map D.fro).map _))] = _
 rw [List.map_map]
 rfl
theorem call_frz {f C:Nat} {ks:List Nat} {fs:List F} {ds:List D} {pt:PT} (hN:Γ f = pt) (hp:passDs [] ⟨loc,mu⟩ ds = some ds) (nd:nodupB ks = true)
  (hpt:∀ K',K' (.ref 0) [some (.inst C ks (fs.map .fro))]→pt ds [] K') (h:K (.fro (.inst C ks fs)) ⟨loc,mu++[some (.fz (.inst C ks fs))]⟩):callK (mkTb Γ) [] f (fun d st'=>frzD d st' K) ds ⟨loc,mu⟩:=by
 refine t_0 hN hp (hpt _ ?_)
 rw [wb0]
 show frzD (.ref (mu.length + (0 - 0))) ⟨loc,mu++_⟩ K
 have fr:∀ st,fzF st (.inst C ks (fs.map .fro)) = some (.inst C ks fs):=fun st=>by
  have:=fz_id fs (st:=st)
  simp only [fzF,Option.map_eq_some_iff] at this ⊢
  rw [if_pos nd]
  obtain ⟨a,e1,e2⟩:=this
  cases e2
  rw [e1]; rfl
 refine f_ref (m:=.inst C ks (fs.map .fro)) (by simp) (fr _) ?_
 have e:(mu++[some (M.inst C ks (fs.map .fro))]).set (mu.length + (0 - 0)) (some (.fz (.inst C ks fs))) = mu++[some (.fz (.inst C ks fs))]:=by
  rw [List.set_append_right _ _ (Nat.le_add_right _ _)]; simp
 rw [e]; exact h
end
theorem f_new {loc:List (Option D)} {mu:List (Option M)} {K:D→St→Prop} {m:M} {f:F} (h:fzF ⟨loc,mu++[some m]⟩ m = some f) (g:K (.fro f) ⟨loc,mu++[some (.fz f)]⟩):frzD (.ref mu.length) ⟨loc,mu++[some m]⟩ K:=by
 refine f_ref (m:=m) (by simp) h ?_
 have e:(mu++[some m]).set mu.length (some (.fz f)) = mu++[some (.fz f)]:=by
  rw [List.set_append_right _ _ (Nat.le_refl _)]; simp
 rw [e]; exact g
noncomputable def thinF (tab:F):F:=.inst 395 [118,119,120,121,122] [tab,.int 0,.int 200,.int 40,.none]
noncomputable def boundF (diags:F):F:=.inst 416 [151,152,153,154,155,150] [.lst [.none],.lst [],.dic [] [],.dic [] [],.dic [] [],diags]
noncomputable def diagsF:F:=.inst 190 [84,81] [.lst [],.str 275]
noncomputable def shaperF:F:=.inst 493 [162] [.dic [] []]
noncomputable def thinPT:PT:=fun ds mu K=>∃ tab,A3 (ds = [.fro tab]) (mu = []) (K (.ref 0) [some (.inst 395 [118,119,120,121,122] ([tab,.int 0,.int 200,.int 40,.none].map .fro))])
noncomputable def boundPT:PT:=fun ds mu K=>∃ diags,A3 (ds = [.fro diags]) (mu = []) (K (.ref 0) [some (.inst 416 [151,152,153,154,155,150] ([.lst [.none],.lst [],.dic [] [],.dic [] [],.dic [] [],diags].map .fro))])
noncomputable def diagsPT:PT:=fun ds mu K=>ds = [.fro (.str 275)]∧mu = []∧K (.ref 0) [some (.inst 190 [84,81] ([.lst [],.str 275].map .fro))]
noncomputable def shaperPT:PT:=fun ds mu K=>ds = []∧mu = []∧K (.ref 0) [some (.inst 493 [162] ([.dic [] []].map .fro))]
noncomputable def barePT (C:Nat):PT:=fun ds mu K=>ds = []∧mu = []∧K (.ref 0) [some (.inst C [] ([].map .fro))]
noncomputable def thinIPT:PT:=fun ds mu K=>∃ tab,A3 (ds = [.ref 0,.fro tab]) (mu = [some (.inst 395 [] [])]) (K (.fro .none) [some (.inst 395 [118,119,120,121,122] ([tab,.int 0,.int 200,.int 40,.none].map .fro))])
noncomputable def boundIPT:PT:=fun ds mu K=>∃ diags,A3 (ds = [.ref 0,.fro diags]) (mu = [some (.inst 416 [] [])]) (K (.fro .none) [some (.inst 416 [151,152,153,154,155,150] ([.lst [.none],.lst [],.dic [] [],.dic [] [],.dic [] [],diags].map .fro))])
noncomputable def shaperIPT:PT:=fun ds mu K=>ds = [.ref 0]∧mu = [some (.inst 493 [] [])]∧K (.fro .none) [some (.inst 493 [162] ([.dic [] []].map .fro))]
noncomputable def diagsIPT:PT:=fun ds mu K=>ds = [.ref 0,.fro (.str 275)]∧mu = [some (.inst 190 [] [])]∧K (.fro .none) [some (.inst 190 [84,81] ([.lst [],.str 275].map .fro))]
theorem thin_ok {w:World} {L:Nat} {Γ:Nat→PT} (h1:1≤L) (hΓ:∀ y∈callT,CallOK w L (.ref y.2) (Γ y.2)):CallOK w (L + 1 + 1) (.ref 395) thinPT:=by
 refine (cls_ok (fI:=266) (pI:=thinIPT) (by kernel_rfl) (by kernel_rfl) (by kernel_rfl) (run_Thin h1 hΓ fun ds mu K h=>?_)).of fun ds mu K h=>?_
 ·obtain ⟨tab,rfl,rfl,hK⟩:=h
  refine ⟨rfl,[],(by decide:(List.range 1++[]).Nodup),by simp,?_⟩
  show wpYs _ _ y_Thin ⟨[some (.ref 0),some (.fro tab)],[some (.inst 395 [] [])]⟩ (endK 1 [] K)
  unfold y_Thin
  refine ys_cons (y_setA (x_loc rfl (x_locR rfl rfl (v_setNew rfl rfl rfl rfl rfl ?_))))
  refine s_next (ys_cons (y_setA (x_int (x_locR rfl rfl (v_setNew rfl rfl rfl rfl rfl ?_)))))
  refine s_next (ys_cons (y_setA (x_glob rfl (x_locR rfl rfl (v_setNew rfl rfl rfl rfl rfl ?_)))))
  refine s_next (ys_cons (y_setA (x_glob rfl (x_locR rfl rfl (v_setNew rfl rfl rfl rfl rfl ?_)))))
  refine s_next (ys_cons (y_setA (x_none (x_locR rfl rfl (v_setNew rfl rfl rfl rfl rfl ?_)))))
  refine s_next (ys_nil (e_none rfl ?_))
  exact hK
 ·obtain ⟨tab,rfl,rfl,hK⟩:=h
  exact ⟨rfl,tab,rfl,rfl,rfl,hK⟩
theorem bound_ok {w:World} {L:Nat} {Γ:Nat→PT} (h1:1≤L) (hΓ:∀ y∈callT,CallOK w L (.ref y.2) (Γ y.2)):CallOK w (L + 1 + 1) (.ref 416) boundPT:=by
 refine (cls_ok (fI:=413) (pI:=boundIPT) (by kernel_rfl) (by kernel_rfl) (by kernel_rfl) (run_Bound h1 hΓ fun ds mu K h=>?_)).of fun ds mu K h=>?_
 ·obtain ⟨diags,rfl,rfl,hK⟩:=h
  refine ⟨rfl,[],(by decide:(List.range 1++[]).Nodup),by simp,?_⟩
  show wpYs _ _ y_Bound ⟨[some (.ref 0),some (.fro diags)],[some (.inst 416 [] [])]⟩ (endK 1 [] K)
  unfold y_Bound
  refine ys_cons (y_setA (x_lst (xs_cons (x_none (xs_nil (t_lst rfl rfl (x_locR rfl rfl (v_setNew rfl rfl rfl rfl rfl ?_))))))))
  refine s_next (ys_cons (y_setA (x_frz (x_mlst (xs_nil (t_mlst rfl (f_new rfl ?_)))))))
  refine x_locR rfl rfl (v_setNew rfl rfl rfl rfl rfl ?_)
  refine s_next (ys_cons (y_setA (x_frz (x_dict0 (f_new rfl ?_)))))
  refine x_locR rfl rfl (v_setNew rfl rfl rfl rfl rfl ?_)
  refine s_next (ys_cons (y_setA (x_frz (x_dict0 (f_new rfl ?_)))))
  refine x_locR rfl rfl (v_setNew rfl rfl rfl rfl rfl ?_)
  refine s_next (ys_cons (y_setA (x_frz (x_dict0 (f_new rfl ?_)))))
  refine x_locR rfl rfl (v_setNew rfl rfl rfl rfl rfl ?_)
  refine s_next (ys_cons (y_setA (x_loc rfl (x_locR rfl rfl (v_setNew rfl rfl rfl rfl rfl ?_)))))
  refine s_next (ys_nil (e_none rfl ?_))
  exact hK
 ·obtain ⟨diags,rfl,rfl,hK⟩:=h
  exact ⟨rfl,diags,rfl,rfl,rfl,hK⟩
theorem shaper_ok {w:World} {L:Nat} {Γ:Nat→PT} (h1:1≤L) (hΓ:∀ y∈callT,CallOK w L (.ref y.2) (Γ y.2)):CallOK w (L + 1 + 1) (.ref 493) shaperPT:=by
 refine (cls_ok (fI:=469) (pI:=shaperIPT) (by kernel_rfl) (by kernel_rfl) (by kernel_rfl) (run_Shaper h1 hΓ fun ds mu K h=>?_)).of fun ds mu K h=>?_
 ·obtain ⟨rfl,rfl,hK⟩:=h
  refine ⟨rfl,[],(by decide:(List.range 1++[]).Nodup),by simp,?_⟩
  show wpYs _ _ y_Shaper ⟨[some (.ref 0)],[some (.inst 493 [] [])]⟩ (endK 1 [] K)
  unfold y_Shaper
  refine ys_cons (y_setA (x_frz (x_dict0 (f_new rfl ?_))))
  refine x_locR rfl rfl (v_setNew rfl rfl rfl rfl rfl ?_)
  refine s_next (ys_nil (e_none rfl ?_))
  exact hK
 ·obtain ⟨rfl,rfl,hK⟩:=h
  exact ⟨rfl,rfl,rfl,rfl,hK⟩
theorem bare_ok {w:World} {L C:Nat} (h1:1≤L) (hm:makesIn (KF w.params) C = true) (hi:findIn (KF w.params) (.ref C) "__init__" = some (some (.builtin "object.__init__"))):CallOK w L (.ref C) (barePT C) :=
 ((cls_ok0 hm hi).of fun ds mu K h=>⟨h.2.1,h.1,h.2.2⟩).le h1
theorem guess_ok {w:World} {L:Nat} (h1:1≤L):CallOK w L (.ref 451) (barePT 451):=bare_ok h1 (by kernel_rfl) (by kernel_rfl)
theorem declarer_ok {w:World} {L:Nat} (h1:1≤L):CallOK w L (.ref 528) (barePT 528):=bare_ok h1 (by kernel_rfl) (by kernel_rfl)
theorem checks_ok {w:World} {L:Nat} (h1:1≤L):CallOK w L (.ref 556) (barePT 556):=bare_ok h1 (by kernel_rfl) (by kernel_rfl)
theorem fn_runB {w:World} {L:Nat} {Γ:Nat→PT} (h1:1≤L) (hΓ:∀ y∈callT,CallOK w L (.ref y.2) (Γ y.2)) {f:Addr} {fd:FuncData} {body:List Stmt} (ns:List Nat) (n:Nat) (ys:Ys) {pt:PT}
  (ho:∃ o,(KF w.params).lookup f = some o∧o.data = .func fd) (hcd:codeIn (KF w.params) fd.code fd.qualname = true) (hb:fd.body = .stmts body)
  (hbind:∀ (s:Shared) (vs:List Value),(KF w.params).In s.heap→vs.length = n→BindsTo s fd ⟨vs,[]⟩ (((ns.map nm).take n).zip vs)) (hf:chkFn fd ns n = true) (hc:chkYs (mkTb Γ) ys ⟨ns,[],fd.scope⟩ body = true)
  (hpt:∀ ds mu K,pt ds mu K→ds.length = n∧∃ ex:List Nat,A3 ((List.range mu.length++ex).Nodup) (∀ i∈ex,mu.length≤i) (wpYs (mkTb Γ) okS ys ⟨ds.map some++List.replicate (ns.length - n) none,mu⟩ (endK mu.length ex K))):CallOK w (L + 1) (.ref f) pt:=by
 unfold chkFn at hf
 refine and_el hf fun g g9=>?_
 refine and_el g fun g g8=>?_
 refine and_el g fun g g7=>?_
 refine and_el g fun g g6=>?_
 refine and_el g fun g g5=>?_
 refine and_el g fun g g4=>?_
 refine and_el g fun g g3=>?_
 refine and_el g fun g1 g2=>?_
 have nl:∀ k∈ns,k < nmL.length∧fd.scope.names.lookup (nm k) = some .local:=fun k hk=>by
  refine and_el (List.all_eq_true.mp g5 k hk) fun y1 y2=>?_
  exact ⟨by rw [nmL_len]; exact Nat.le_of_ble_eq_true y1,eq_of_beq y2⟩
 refine fn_okB (names:=ns.map nm) (n:=n) (wpYs (mkTb Γ) okS ys) ho hcd hb hbind ?_ (by simpa using g2) (by simpa using g3) (eq_of_beq g4) ?_ (nm_nodup (fun k hk=>(nl k hk).1) (nodupB_ok g6)) (by rw [List.length_map]; exact Nat.le_of_ble_eq_true g7) (eq_of_beq g8) (eq_of_beq g9) ?_ ?_
 ·intro x hx e
  have:=List.all_eq_true.mp g1 x hx
  rw [e] at this
  simp at this
 ·intro y hy
  obtain ⟨k,hk,rfl⟩:=List.mem_map.mp hy
  exact (nl k hk).2
 ·intro c A e1 e2 e3 e4 r st
  exact okYs okS_ok (mkTb Γ) (mkOK h1 hΓ) ys ⟨ns,[],fd.scope⟩ body hc ⟨e1,e2,e3,e4⟩ r st
 ·intro ds mu K h
  obtain ⟨a,ex,b,c,d⟩:=hpt ds mu K h
  exact ⟨a,ex,b,c,by rw [List.length_map]; exact d⟩
noncomputable def fd_Diags:FuncData:=⟨s45,s451,a51_0,(.stmts b51_0),c51_0,3,[],(.ref 166),.none,.none,(.str s73 368),none,(.ref 172),.none,0⟩
theorem diags_ok {w:World} {L:Nat} {Γ:Nat→PT} (h1:1≤L) (hΓ:∀ y∈callT,CallOK w L (.ref y.2) (Γ y.2)):CallOK w (L + 1 + 1) (.ref 190) diagsPT:=by
 refine (cls_ok (fI:=173) (pI:=diagsIPT) (by kernel_rfl) (by kernel_rfl) (by kernel_rfl) (fn_runB h1 hΓ (fd:=fd_Diags) (body:=b51_0) n_Diags 2 y_Diags ⟨o173 w.params,by kernel_rfl,rfl⟩ (by kernel_rfl) rfl
  (fun s vs X h=>by revert vs; exact len2 fun _ _=>BindsTo.of_defaults rfl (X 166 (o166 w.params) (by rfl)) rfl rfl (by kernel_rfl)) (by kernel_rfl) (by kernel_rfl) fun ds mu K h=>?_)).of fun ds mu K h=>?_
 ·obtain ⟨rfl,rfl,hK⟩:=h
  refine ⟨rfl,[],(by decide:(List.range 1++[]).Nodup),by simp,?_⟩
  show wpYs _ _ y_Diags ⟨[some (.ref 0),some (.fro (.str 275))],[some (.inst 190 [] [])]⟩ (endK 1 [] K)
  unfold y_Diags
  refine ys_cons (y_setA (x_frz (x_mlst (xs_nil (t_mlst rfl (f_new rfl ?_))))))
  refine x_locR rfl rfl (v_setNew rfl rfl rfl rfl rfl ?_)
  refine s_next (ys_cons (y_setA (x_loc rfl (x_locR rfl rfl (v_setNew rfl rfl rfl rfl rfl ?_)))))
  refine s_next (ys_nil (e_none rfl ?_))
  exact hK
 ·obtain ⟨rfl,rfl,hK⟩:=h
  exact ⟨rfl,rfl,rfl,rfl,hK⟩
theorem one_eq {g:Group} (hg:g.Ok):(oneM g).map nidOf = g.mades.flatMap (oneMd g):=by
 unfold oneM
 match hm:g.mades with
 | []=>rfl
 | [m] =>
  have mok:=hg.mades m (by rw [hm]; simp)
  have ef:(g.faces.filter fun f=>promB f m) = g.faces.filter fun f=>promL f m:=List.filter_congr fun f hf=>by rw [prom_eq (hg.faces f hf) mok]
  simp only [List.flatMap_cons,List.flatMap_nil,List.append_nil]
  unfold oneMd
  rw [mok.opn]
  cases hasB m.fl 4194304
  ·rw [if_neg (by decide),if_pos (by decide),List.map_append,nids_lone,ef,List.map_map]
   rfl
  ·rw [if_pos rfl,if_neg (by decide)]; rfl
 | _ :: _ :: _=>exact absurd hg.lm (by rw [hm]; simp)
theorem look_none {z:Int}:∀ {nds:List (Int × Group)},z ∉ nds.map (·.1)→lookG nds z = none
 | [],_=>rfl
 | (d,g) :: l,h=>by
  simp only [List.map_cons,List.mem_cons,not_or] at h
  unfold lookG
  rw [if_neg (fun e=>h.1 e.symm),look_none h.2]
theorem due_none {d:Nat}:∀ {nds:List (Int × Group)},(d:Int) ∉ nds.map (·.1)→nds.flatMap (oneH d) = []
 | [],_=>rfl
 | (e,g) :: l,h=>by
  simp only [List.map_cons,List.mem_cons,not_or] at h
  rw [List.flatMap_cons,due_none h.2]
  unfold oneH
  rw [if_neg (fun q=>h.1 q.symm)]; rfl
theorem due_one {d:Nat}:∀ {nds:List (Int × Group)},(nds.map (·.1)).Nodup→(∀ x∈nds,x.2.Ok)→nds.flatMap (oneH d) = (resM nds (d:Int)).map nidOf
 | [],_,_=>rfl
 | (e,g) :: l,nd,h=>by
  simp only [List.map_cons,List.nodup_cons] at nd
  have ih:=due_one (d:=d) nd.2 (fun x hx=>h x (by simp [hx]))
  rw [List.flatMap_cons]
  unfold resM lookG
  by_cases q:e = (d:Int)
  ·rw [if_pos q,due_none (by rw [← q]; exact nd.1),List.append_nil]
   dsimp only
   rw [one_eq (h (e,g) (by simp))]
   unfold oneH
   rw [if_pos q]
  ·rw [if_neg q,ih]
   unfold oneH
   rw [if_neg q]
   rfl
theorem merge_due {nds:List (Int × Group)} (nd:(nds.map (·.1)).Nodup) (hd:∀ d∈nds.map (·.1),0≤d∧d < 10) (ok:∀ x∈nds,x.2.Ok) {ns':List Int} (hp:ns'.Perm (nds.map (·.1))) (hs:ns'.Pairwise (·≤·)) :
  (ns'.flatMap (resM nds)).map nidOf = dueN nds:=by
 have e1:ns' = ((List.range 10).map Int.ofNat).filter fun d=>decide (d∈nds.map (·.1)):=by
  have srt:((List.range 10).map Int.ofNat).Pairwise (· < ·):=by decide
  refine List.Perm.eq_of_pairwise (le:=(·≤·)) (fun a b _ _ h1 h2=>Int.le_antisymm h1 h2) hs ((srt.sublist List.filter_sublist).imp fun q=>Int.le_of_lt q) ?_
  refine (List.perm_ext_iff_of_nodup (hp.nodup_iff.mpr nd) ((srt.sublist List.filter_sublist).imp fun q=>Int.ne_of_lt q)).mpr fun x=>?_
  rw [hp.mem_iff,List.mem_filter,decide_eq_true_iff]
  constructor
  ·intro h
   obtain ⟨a,b⟩:=hd x h
   exact ⟨List.mem_map.mpr ⟨x.toNat,List.mem_range.mpr (by omega),by show ((x.toNat:Nat):Int) = x; omega⟩,h⟩
  ·exact fun h=>h.2
 have e2:∀ l:List Nat,(((l.map Int.ofNat).filter fun d=>decide (d∈nds.map (·.1))).flatMap (resM nds)).map nidOf = l.flatMap fun d=>nds.flatMap (oneH d):=by
  intro l
  induction l with
  | nil=>rfl
  | cons d l ih =>
   rw [List.map_cons,List.flatMap_cons]
   by_cases q:Int.ofNat d∈nds.map (·.1)
   ·rw [List.filter_cons_of_pos (by simpa using q),List.flatMap_cons,List.map_append,ih,due_one nd ok]
    rfl
   ·rw [List.filter_cons_of_neg (by simpa using q),ih,due_none q]
    rfl
 rw [e1]
 exact e2 (List.range 10)
noncomputable def emp:F:=.dic [] []
noncomputable def namerKs:List Nat:=[118,177,135,150,178,126,179,180,181,182,183,184,185,186,187,188,55,189,190,191,192,193,194,195,196,119,197,198,199,200,201,202,203,204,205]
noncomputable def namerA (host tab bound diags:F):List F:=[tab,host,bound,diags,emp,emp,emp,.inst 451 [] [],emp,emp,shaperF,.inst 528 [] [],.inst 556 [] [],.lst [],.lst [],emp]
noncomputable def namerB:List F:=[emp,emp,emp,.lst [],emp,.lst [],.lst [],.lst [],.int 0,emp,emp,emp,emp,.lst [],.lst [],.int 0,emp,emp]
noncomputable def namerM (tab diags:F) (r:Nat):M:=.inst 612 namerKs ((namerA (thinF tab) tab (boundF diags) diags).map .fro++.ref r :: namerB.map .fro)
noncomputable def namerIPT:PT:=fun ds mu K=>E2 fun tab diags=>A3 (ds = [.ref 0,.fro (thinF tab),.fro (boundF diags),.fro diags]) (mu = [some (.inst 612 [] [])]) (K (.fro .none) [some (namerM tab diags 1),some (.dicI [] [])])
noncomputable def namerPT:PT:=fun ds mu K=>E2 fun tab diags=>A3 (ds = [.fro (thinF tab),.fro (boundF diags),.fro diags]) (mu = []) (K (.ref 0) [some (namerM tab diags 1),some (.dicI [] [])])
local macro_rules | `(tactic| walk_at "D")=>`(tactic| dsimp only [List.set_cons_zero,List.set_cons_succ,List.cons_append,List.nil_append,emptyM])
set_option maxHeartbeats 8000000 in
theorem namer_ok {w:World} {L:Nat} {Γ:Nat→PT} (h1:1≤L) (hΓ:∀ y∈callT,CallOK w L (.ref y.2) (Γ y.2)) (hG:Γ 451 = barePT 451) (hS:Γ 493 = shaperPT) (hD:Γ 528 = barePT 528) (hC:Γ 556 = barePT 556):CallOK w (L + 1 + 1) (.ref 612) namerPT:=by
 refine (cls_ok (fI:=574) (pI:=namerIPT) (by kernel_rfl) (by kernel_rfl) (by kernel_rfl) (run_Namer h1 hΓ fun ds mu K h=>?_)).of fun ds mu K h=>?_
 ·obtain ⟨tab,diags,rfl,rfl,hK⟩:=h
  refine ⟨rfl,[13],(by decide:(List.range 1++[13]).Nodup),by simp,?_⟩
  show wpYs _ _ y_Namer ⟨[some (.ref 0),some (.fro (thinF tab)),some (.fro (boundF diags)),some (.fro diags)],[some (.inst 612 [] [])]⟩ (endK 1 [13] K)
  unfold y_Namer
  refine ys_cons (y_setA (x_attr (x_loc rfl ?_)))
  refine n_inst (f:=tab) rfl rfl ?_
  refine x_locR rfl rfl (v_setNew rfl rfl rfl rfl rfl ?_)
  walk_at "D"
  refine s_next (ys_cons (y_setA (x_loc rfl (x_locR rfl rfl (v_setNew rfl rfl rfl rfl rfl ?_)))))
  walk_at "D"
  refine s_next (ys_cons (y_setA (x_loc rfl (x_locR rfl rfl (v_setNew rfl rfl rfl rfl rfl ?_)))))
  walk_at "D"
  refine s_next (ys_cons (y_setA (x_loc rfl (x_locR rfl rfl (v_setNew rfl rfl rfl rfl rfl ?_)))))
  walk_at "D"
  refine s_next (ys_cons (y_setA (x_frz (x_dict0 (f_new rfl ?_)))))
  walk_at "D"
  refine x_locR rfl rfl (v_setNew rfl rfl rfl rfl rfl ?_)
  walk_at "D"
  refine s_next (ys_cons (y_setA (x_frz (x_dict0 (f_new rfl ?_)))))
  walk_at "D"
  refine x_locR rfl rfl (v_setNew rfl rfl rfl rfl rfl ?_)
  walk_at "D"
  refine s_next (ys_cons (y_setA (x_frz (x_dict0 (f_new rfl ?_)))))
  walk_at "D"
  refine x_locR rfl rfl (v_setNew rfl rfl rfl rfl rfl ?_)
  walk_at "D"
  refine s_next (ys_cons (y_setA (x_frz (x_call rfl (xs_nil ?_)))))
  refine call_frz (C:=451) (ks:=[]) (fs:=[]) hG rfl rfl (fun K' h=>⟨rfl,rfl,h⟩) ?_
  dsimp only [List.cons_append,List.nil_append]
  refine x_locR rfl rfl (v_setNew rfl rfl rfl rfl rfl ?_)
  walk_at "D"
  refine s_next (ys_cons (y_setA (x_frz (x_dict0 (f_new rfl ?_)))))
  walk_at "D"
  refine x_locR rfl rfl (v_setNew rfl rfl rfl rfl rfl ?_)
  walk_at "D"
  refine s_next (ys_cons (y_setA (x_frz (x_dict0 (f_new rfl ?_)))))
  walk_at "D"
  refine x_locR rfl rfl (v_setNew rfl rfl rfl rfl rfl ?_)
  walk_at "D"
  refine s_next (ys_cons (y_setA (x_frz (x_call rfl (xs_nil ?_)))))
  refine call_frz (C:=493) (ks:=[162]) (fs:=[.dic [] []]) hS rfl rfl (fun K' h=>⟨rfl,rfl,h⟩) ?_
  dsimp only [List.cons_append,List.nil_append]
  refine x_locR rfl rfl (v_setNew rfl rfl rfl rfl rfl ?_)
  walk_at "D"
  refine s_next (ys_cons (y_setA (x_frz (x_call rfl (xs_nil ?_)))))
  refine call_frz (C:=528) (ks:=[]) (fs:=[]) hD rfl rfl (fun K' h=>⟨rfl,rfl,h⟩) ?_
  dsimp only [List.cons_append,List.nil_append]
  refine x_locR rfl rfl (v_setNew rfl rfl rfl rfl rfl ?_)
  walk_at "D"
  refine s_next (ys_cons (y_setA (x_frz (x_call rfl (xs_nil ?_)))))
  refine call_frz (C:=556) (ks:=[]) (fs:=[]) hC rfl rfl (fun K' h=>⟨rfl,rfl,h⟩) ?_
  dsimp only [List.cons_append,List.nil_append]
  refine x_locR rfl rfl (v_setNew rfl rfl rfl rfl rfl ?_)
  walk_at "D"
  refine s_next (ys_cons (y_setA (x_frz (x_mlst (xs_nil (t_mlst rfl (f_new rfl ?_)))))))
  walk_at "D"
  refine x_locR rfl rfl (v_setNew rfl rfl rfl rfl rfl ?_)
  walk_at "D"
  refine s_next (ys_cons (y_setA (x_frz (x_mlst (xs_nil (t_mlst rfl (f_new rfl ?_)))))))
  walk_at "D"
  refine x_locR rfl rfl (v_setNew rfl rfl rfl rfl rfl ?_)
  walk_at "D"
  refine s_next (ys_cons (y_setA (x_frz (x_dict0 (f_new rfl ?_)))))
  walk_at "D"
  refine x_locR rfl rfl (v_setNew rfl rfl rfl rfl rfl ?_)
  walk_at "D"
  refine s_next (ys_cons (y_setA (x_dict0 (x_locR rfl rfl (v_setNewR rfl rfl rfl rfl rfl rfl ?_)))))
  walk_at "D"
  refine s_next (ys_cons (y_setA (x_frz (x_dict0 (f_new rfl ?_)))))
  walk_at "D"
  refine x_locR rfl rfl (v_setNew rfl rfl rfl rfl rfl ?_)
  walk_at "D"
  refine s_next (ys_cons (y_setA (x_frz (x_dict0 (f_new rfl ?_)))))
  walk_at "D"
  refine x_locR rfl rfl (v_setNew rfl rfl rfl rfl rfl ?_)
  walk_at "D"
  refine s_next (ys_cons (y_setA (x_frz (x_dict0 (f_new rfl ?_)))))
  walk_at "D"
  refine x_locR rfl rfl (v_setNew rfl rfl rfl rfl rfl ?_)
  walk_at "D"
  refine s_next (ys_cons (y_setA (x_frz (x_mlst (xs_nil (t_mlst rfl (f_new rfl ?_)))))))
  walk_at "D"
  refine x_locR rfl rfl (v_setNew rfl rfl rfl rfl rfl ?_)
  walk_at "D"
  refine s_next (ys_cons (y_setA (x_frz (x_dict0 (f_new rfl ?_)))))
  walk_at "D"
  refine x_locR rfl rfl (v_setNew rfl rfl rfl rfl rfl ?_)
  walk_at "D"
  refine s_next (ys_cons (y_setA (x_frz (x_mlst (xs_nil (t_mlst rfl (f_new rfl ?_)))))))
  walk_at "D"
  refine x_locR rfl rfl (v_setNew rfl rfl rfl rfl rfl ?_)
  walk_at "D"
  refine s_next (ys_cons (y_setA (x_frz (x_mlst (xs_nil (t_mlst rfl (f_new rfl ?_)))))))
  walk_at "D"
  refine x_locR rfl rfl (v_setNew rfl rfl rfl rfl rfl ?_)
  walk_at "D"
  refine s_next (ys_cons (y_setA (x_frz (x_mlst (xs_nil (t_mlst rfl (f_new rfl ?_)))))))
  walk_at "D"
  refine x_locR rfl rfl (v_setNew rfl rfl rfl rfl rfl ?_)
  walk_at "D"
  refine s_next (ys_cons (y_setA (x_int (x_locR rfl rfl (v_setNew rfl rfl rfl rfl rfl ?_)))))
  walk_at "D"
  refine s_next (ys_cons (y_setA (x_frz (x_dict0 (f_new rfl ?_)))))
  walk_at "D"
  refine x_locR rfl rfl (v_setNew rfl rfl rfl rfl rfl ?_)
  walk_at "D"
  refine s_next (ys_cons (y_setA (x_frz (x_dict0 (f_new rfl ?_)))))
  walk_at "D"
  refine x_locR rfl rfl (v_setNew rfl rfl rfl rfl rfl ?_)
  walk_at "D"
  refine s_next (ys_cons (y_setA (x_frz (x_dict0 (f_new rfl ?_)))))
  walk_at "D"
  refine x_locR rfl rfl (v_setNew rfl rfl rfl rfl rfl ?_)
  walk_at "D"
  refine s_next (ys_cons (y_setA (x_frz (x_dict0 (f_new rfl ?_)))))
  walk_at "D"
  refine x_locR rfl rfl (v_setNew rfl rfl rfl rfl rfl ?_)
  walk_at "D"
  refine s_next (ys_cons (y_setA (x_frz (x_mlst (xs_nil (t_mlst rfl (f_new rfl ?_)))))))
  walk_at "D"
  refine x_locR rfl rfl (v_setNew rfl rfl rfl rfl rfl ?_)
  walk_at "D"
  refine s_next (ys_cons (y_setA (x_frz (x_mlst (xs_nil (t_mlst rfl (f_new rfl ?_)))))))
  walk_at "D"
  refine x_locR rfl rfl (v_setNew rfl rfl rfl rfl rfl ?_)
  walk_at "D"
  refine s_next (ys_cons (y_setA (x_int (x_locR rfl rfl (v_setNew rfl rfl rfl rfl rfl ?_)))))
  walk_at "D"
  refine s_next (ys_cons (y_setA (x_frz (x_dict0 (f_new rfl ?_)))))
  walk_at "D"
  refine x_locR rfl rfl (v_setNew rfl rfl rfl rfl rfl ?_)
  walk_at "D"
  refine s_next (ys_cons (y_setA (x_frz (x_dict0 (f_new rfl ?_)))))
  walk_at "D"
  refine x_locR rfl rfl (v_setNew rfl rfl rfl rfl rfl ?_)
  walk_at "D"
  refine s_next (ys_nil (e_none rfl ?_))
  exact hK
 ·obtain ⟨tab,diags,rfl,rfl,hK⟩:=h
  exact ⟨rfl,tab,diags,rfl,rfl,rfl,hK⟩
section
variable {Γ:Nat→PT} {loc:List (Option D)} {mu:List (Option M)} {K:D→St→Prop}
theorem call_namer (hN:Γ 612 = namerPT) {tab diags:F} (g:K (.ref mu.length) ⟨loc,mu++[some (namerM tab diags (mu.length + 1)),some (.dicI [] [])]⟩):callK (mkTb Γ) [] 612 K [.fro (thinF tab),.fro (boundF diags),.fro diags] ⟨loc,mu⟩:=by
 refine t_0 hN rfl ⟨tab,diags,rfl,rfl,?_⟩
 have e:wbM [] [some (namerM tab diags 1),some (.dicI [] [])] mu = mu++[some (namerM tab diags (mu.length + 1)),some (.dicI [] [])]:=by
  unfold wbM wb
  congr 1
 show K _ ⟨loc,wbM [] [some (namerM tab diags 1),some (.dicI [] [])] mu⟩
 rw [e]; exact g
noncomputable def tabF:F:=.inst 248 [] []
noncomputable def tabPT:PT:=fun ds mu K=>ds = []∧mu = []∧K (.fro tabF) []
theorem call_tab (hN:Γ 248 = tabPT) (g:K (.fro tabF) ⟨loc,mu⟩):callK (mkTb Γ) [] 248 K [] ⟨loc,mu⟩:=t_0 hN rfl ⟨rfl,rfl,back0 g⟩
theorem call_sound (hN:Γ 716 = soundPT) {m:Made} {fs:List Face} (hm:m.Ok) (hf:∀ f∈fs,f.Ok) (g:K (.fro (.bool true)) ⟨loc,mu⟩):callK (mkTb Γ) [] 716 K [.fro m.F,.fro (.lst (fs.map Face.F))] ⟨loc,mu⟩ :=
 t_0 hN rfl ⟨m,fs,rfl,rfl,hm,hf,back0 g⟩
theorem call_due (hN:Γ 721 = duePT) {nds:List (Int × Group)} (h1:∀ x∈nds,x.2.Ok) (h2:nds.length≤3) (g:K (.fro (.lst ((dueN nds).map .int))) ⟨loc,mu⟩):callK (mkTb Γ) [] 721 K [.fro (.lst (nds.map grpF))] ⟨loc,mu⟩ :=
 t_0 hN rfl ⟨nds,rfl,rfl,h1,h2,back0 g⟩
theorem call_merged (hN:Γ 89 = mergedPT) {n:F} {nds:List (Int × Group)} (h0:NIs n nds) (h1:∀ x∈nds,x.2.Ok) (h2:nds.length≤3)
  (g:∀ ns':List Int,ns'.Perm (nds.map (·.1))→ns'.Pairwise (·≤·)→K (.fro (.lst (ns'.flatMap (resM nds)))) ⟨loc,mu⟩):callK (mkTb Γ) [] 89 K [.fro n] ⟨loc,mu⟩ :=
 t_0 hN rfl ⟨n,nds,rfl,rfl,h0,h1,h2,fun ns' a b=>back0 (g ns' a b)⟩
theorem call_group (hN:Γ 704 = groupPT) {name:Nat} {p n:Int} {row:List Int} {rest:List (Option M)} {N:Nat} (hl:N = rest.length + 1) (hp:0≤p) (hr:row.length≤40) (h0:0≤n)
  (g:∀ (g:Group) p' n',g.Ok→0≤p'→n≤n'→K (.ref N) ⟨loc,some (dM p' row n') :: (rest++[some (.dic [265,266,227] [.ref (N + 1),.ref (N + 2),.ref (N + 3)]),some (.fz (.lst g.pieces)),some (.fz (.lst (g.faces.map Face.F))),some (.fz (.lst (g.mades.map Made.F)))])⟩) :
  callK (mkTb Γ) [0] 704 K [.ref 0,.fro (.str name)] ⟨loc,some (dM p row n) :: rest⟩:=by
 refine t_d hN rfl ⟨name,p,row,n,rfl,rfl,hp,hr,h0,fun gr p' n' a b c=>?_⟩
 subst hl
 exact g gr p' n' a b c
end
section
variable {x0 x1 x2 x3 x4 x5 x6 x7 v:Option M} {E B:List (Option M)} {loc:List (Option D)} {i N:Nat}
theorem g8 (hN:N = 8 + E.length + i):(x0 :: x1 :: x2 :: x3 :: x4 :: x5 :: x6 :: x7 :: (E++B))[N]? = B[i]?:=by
 subst hN
 have:(x0 :: x1 :: x2 :: x3 :: x4 :: x5 :: x6 :: x7 :: (E++B)) = ([x0,x1,x2,x3,x4,x5,x6,x7]++E)++B:=by simp
 rw [this,List.getElem?_append_right (by rw [List.length_append]; show 8 + E.length≤_; omega),List.length_append]
 show B[8 + E.length + i - (8 + E.length)]? = B[i]?
 rw [Nat.add_sub_cancel_left]
theorem set8 (hN:N = 8 + E.length + i):(x0 :: x1 :: x2 :: x3 :: x4 :: x5 :: x6 :: x7 :: (E++B)).set N v = x0 :: x1 :: x2 :: x3 :: x4 :: x5 :: x6 :: x7 :: (E++B.set i v):=by
 subst hN
 have:(x0 :: x1 :: x2 :: x3 :: x4 :: x5 :: x6 :: x7 :: (E++B)) = ([x0,x1,x2,x3,x4,x5,x6,x7]++E)++B:=by simp
 rw [this,List.set_append_right _ _ (by rw [List.length_append]; show 8 + E.length≤_; omega),List.length_append]
 show ([x0,x1,x2,x3,x4,x5,x6,x7]++E)++B.set (8 + E.length + i - (8 + E.length)) v = _
 rw [Nat.add_sub_cancel_left]
 simp
theorem d8 {m:M} (hN:N = 8 + E.length + i) (h:B[i]? = some (some m)) (nf:∀ f,m ≠ .fz f):deref ⟨loc,x0 :: x1 :: x2 :: x3 :: x4 :: x5 :: x6 :: x7 :: (E++B)⟩ (.ref N) = .mut_ N m:=by
 cases m with
 | fz f=>exact absurd rfl (nf f)
 | _=>unfold deref; simp only [g8 hN,h]
theorem z8 {f:F} (hN:N = 8 + E.length + i) (h:B[i]? = some (some (.fz f))):deref ⟨loc,x0 :: x1 :: x2 :: x3 :: x4 :: x5 :: x6 :: x7 :: (E++B)⟩ (.ref N) = .fro f:=by
 unfold deref
 simp only [g8 hN,h]
end
theorem u_upto {n:Nat} {d:D} {st:St} {K:D→St→Prop} {l:List F} {ns:List Int} (h1:deref st d = .fro (.lst l)) (h2:l.length≤1048576) (h3:intsF l = some ns) (g:K (.fro (.lst ((ns.take n).map .int))) st):uptoD n d st K:=by
 exact ⟨l,ns,h1,h2,h3,g⟩
theorem n_mut {d:D} {st:St} {KD:D→Prop} {C k i:Nat} {ks:List Nat} {L:List D} {r:D} (h0:deref st d = .mut_ i (.inst C ks L)) (h:attrOk C k = true) (h2:lk ks L k = some r) (g:KD r):attrD d k st KD:=.inr ⟨i,C,ks,L,r,h0,h,h2,g⟩
theorem putKI_new {k:Int}:∀ {ks:List Int},k ∉ ks→putKI ks k = ks++[k]
 | [],_=>rfl
 | k' :: ks,h=>by
  simp only [List.mem_cons,not_or] at h
  unfold putKI
  rw [if_neg (fun e=>h.1 e.symm),putKI_new h.2]; rfl
theorem putVI_new {α:Type} {k:Int} {v:α}:∀ {ks:List Int} {l:List α},k ∉ ks→ks.length = l.length→putVI ks l k v = l++[v]
 | [],[],_,_=>rfl
 | k' :: ks,x :: l,h,e=>by
  simp only [List.mem_cons,not_or] at h
  unfold putVI
  rw [if_neg (fun e=>h.1 e.symm),putVI_new h.2 (by simpa using e)]; rfl
theorem v_setNn {KT:St→Prop} {loc:List (Option D)} {mu:List (Option M)} {ks:List Int} {L:List D} {o v:D} {n:Int} {f:F} {k:Nat} (h:deref ⟨loc,mu⟩ o = .mut_ k (.dicI ks L)) (hv:deref ⟨loc,mu⟩ v = .fro f) (h1:nodupI ks = true) (h2:ks.length≤1000) (h3:n ∉ ks) (h4:ks.length = L.length)
  (g:KT ⟨loc,mu.set k (some (.dicI (ks++[n]) (L++[.fro f])))⟩):setD o (.fro (.int n)) v ⟨loc,mu⟩ KT :=
 v_setN h h1 (Nat.ble_eq_true_of_le h2) (by rw [putKI_new h3,putVI_new h3 h4]; unfold normD; rw [hv]; exact g)
theorem dids_at (q:Int):∃ es:List Int,A7 (es.length = 3) es.Nodup (∀ d∈es,0≤d∧d < 10) (nodupI es = true) (nodupI (es.take 1) = true) (nodupI (es.take 2) = true) (∀ i:Nat,i < 3→∃ d,es[i]? = some d∧idxL [F.int 5,F.int 2,F.int 9] (((i:Int) + q).fmod 3) = some (.int d)):=by
 have e3:q.fmod 3 = 0∨q.fmod 3 = 1∨q.fmod 3 = 2:=below 3 (P:=fun z=>z = 0∨z = 1∨z = 2) (by decide) (fm_rng q (by decide)).1 (fm_rng q (by decide)).2
 have sh:∀ i:Nat,i < 3→((i:Int) + q).fmod 3 = ((i:Int) + q.fmod 3).fmod 3:=fun i _=>by
  rw [Int.fmod_eq_emod_of_nonneg _ (by decide),Int.fmod_eq_emod_of_nonneg _ (by decide),Int.fmod_eq_emod_of_nonneg _ (by decide)]; exact (Int.add_emod_emod _ _ _).symm
 rcases e3 with e | e | e
 ·refine ⟨[5,2,9],rfl,by decide,by decide,rfl,rfl,rfl,fun i hi=>?_⟩
  rw [sh i hi,e]
  rcases i with _ | _ | _ | i
  ·exact ⟨5,rfl,rfl⟩
  ·exact ⟨2,rfl,rfl⟩
  ·exact ⟨9,rfl,rfl⟩
  ·exact absurd hi (by omega)
 ·refine ⟨[2,9,5],rfl,by decide,by decide,rfl,rfl,rfl,fun i hi=>?_⟩
  rw [sh i hi,e]
  rcases i with _ | _ | _ | i
  ·exact ⟨2,rfl,rfl⟩
  ·exact ⟨9,rfl,rfl⟩
  ·exact ⟨5,rfl,rfl⟩
  ·exact absurd hi (by omega)
 ·refine ⟨[9,5,2],rfl,by decide,by decide,rfl,rfl,rfl,fun i hi=>?_⟩
  rw [sh i hi,e]
  rcases i with _ | _ | _ | i
  ·exact ⟨9,rfl,rfl⟩
  ·exact ⟨5,rfl,rfl⟩
  ·exact ⟨2,rfl,rfl⟩
  ·exact absurd hi (by omega)
theorem abc_at {i:Nat} (h:i < 3):∃ k,idxL [279,280,281] (i:Int) = some k:=by
 rcases i with _ | _ | _ | i
 ·exact ⟨_,rfl⟩
 ·exact ⟨_,rfl⟩
 ·exact ⟨_,rfl⟩
 ·exact absurd h (by omega)
theorem nodupI_take {es:List Int} (h3:nodupI es = true) (h1:nodupI (es.take 1) = true) (h2:nodupI (es.take 2) = true) (hl:es.length = 3) {i:Nat} (hi:i≤3):nodupI (es.take i) = true:=by
 match i,hi with
 | 0,_=>rfl
 | 1,_=>exact h1
 | 2,_=>exact h2
 | 3,_=>rw [List.take_of_length_le (by omega)]; exact h3
theorem oneM_node {g:Group} (f:F) (hf:f∈oneM g):isNode f:=by
 unfold oneM at hf
 split at hf
 ·cases hf
 ·split at hf
  ·cases hf
  ·rcases List.mem_append.mp hf with h | h
   ·obtain ⟨x,_,rfl⟩:=List.mem_map.mp h; exact x.isN
   ·obtain ⟨x,_,rfl⟩:=List.mem_map.mp h; exact x.isN
theorem resM_node {nds:List (Int × Group)} (hok:∀ x∈nds,x.2.Ok) {d:Int} (f:F) (hf:f∈resM nds d):isNode f:=by
 unfold resM at hf
 split at hf
 ·exact oneM_node f hf
 ·cases hf
theorem look_ok {nds:List (Int × Group)} (hok:∀ x∈nds,x.2.Ok) {d:Int} {g:Group} (h:lookG nds d = some g):g.Ok:=by
 induction nds with
 | nil=>cases h
 | cons y l ih =>
  obtain ⟨e,g'⟩:=y
  unfold lookG at h
  split at h
  ·cases h; exact hok _ List.mem_cons_self
  ·exact ih (fun x hx=>hok x (List.mem_cons_of_mem _ hx)) h
theorem resM_len {nds:List (Int × Group)} (hok:∀ x∈nds,x.2.Ok) (ns:List Int):(ns.flatMap (resM nds)).length≤11 * ns.length:=by
 induction ns with
 | nil=>simp
 | cons d ns ih =>
  rw [List.flatMap_cons,List.length_append,List.length_cons]
  have:(resM nds d).length≤11:=by
   unfold resM
   split
   ·rename_i g hg
    have gok:=look_ok hok hg
    unfold oneM
    split
    ·simp
    ·rename_i m ms e
     have mok:=gok.mades m (by rw [e]; simp)
     split
     ·simp
     ·rw [List.length_append,List.length_map,List.length_map]
      have h1:=List.length_filter_le (isLone m.ms) m.ms
      have h2:=List.length_filter_le (fun f=>promB f m) g.faces
      have h3:=mok.len
      have h4:=gok.lf
      omega
   ·simp
  omega
noncomputable def lawPT:PT:=fun ds mu K=>∃ row:List Int,A4 (ds = [.fro (.lst (row.map .int))]) (mu = []) (row.length≤1000) (K (.fro (.bool true)) [])
noncomputable def fd_law:FuncData:=⟨s278,s278,a89,(.stmts b89),c89,3,[],.none,.none,.none,(.str s211 1124),none,(.ref 725),.none,0⟩
set_option maxHeartbeats 8000000 in
theorem law_ok {w:World} {L:Nat} {Γ:Nat→PT} (h1:1≤L) (hΓ:∀ y∈callT,CallOK w L (.ref y.2) (Γ y.2)) (hp:Γ 624 = pullPT) (hT:Γ 248 = tabPT) (hDi:Γ 190 = diagsPT) (hTh:Γ 395 = thinPT) (hB:Γ 416 = boundPT) (hNm:Γ 612 = namerPT) (hG:Γ 704 = groupPT) (hS:Γ 716 = soundPT) (hDu:Γ 721 = duePT) (hM:Γ 89 = mergedPT):CallOK w (L + 1) (.ref 726) lawPT:=by
 refine fn_run h1 hΓ (fd:=fd_law) (body:=b89) n_law 1 y_law ⟨o726 w.params,by kernel_rfl,rfl⟩ (by kernel_rfl) rfl (len1 fun _=>by kernel_rfl) (by kernel_rfl) (by kernel_rfl) fun ds mu K h=>?_
 obtain ⟨row,rfl,rfl,hrow,hK⟩:=h
 refine ⟨rfl,[],(by decide:(List.range 0++[]).Nodup),by simp,?_⟩
 show wpYs _ _ y_law ⟨[some (.fro (.lst (row.map .int))),none,none,none,none,none,none,none,none,none,none,none,none],[]⟩ (endK 0 [] K)
 unfold y_law
 refine ys_cons (y_assign (x_upto (x_loc rfl ?_)))
 refine u_upto rfl (by rw [List.length_map]; omega) (intsF_map _) ?_
 have hr40:(row.take 40).length≤40:=List.length_take_le _ _
 generalize row.take 40 = row' at hr40
 refine s_asg ?_
 refine s_next (ys_cons (y_assign (x_dict (xs_cons (x_int (xs_cons (x_loc rfl (xs_cons (x_int (xs_nil ?_))))))))))
 refine t_dic rfl ?_
 refine s_asg ?_
 show seqK _ _ _ _ .next ⟨[some (.fro (.lst (row'.map .int))),some (.ref 0),none,none,none,none,none,none,none,none,none,none,none],[some (dM 0 row' 0)]⟩
 refine s_next (ys_cons (y_assign (x_call rfl (xs_cons (x_locR rfl rfl (xs_nil ?_))))))
 refine call_pull hp (by decide) hr40 fun z hz0 hz1=>?_
 refine s_asg ?_
 refine s_next (ys_cons (y_assign (x_frz (x_call rfl (xs_nil ?_)))))
 refine call_tab hT ?_
 refine f_fro (s_asg ?_)
 refine s_next (ys_cons (y_assign (x_frz (x_call rfl (xs_cons (x_str (xs_nil ?_)))))))
 refine call_frz (C:=190) (ks:=[84,81]) (fs:=[.lst [],.str 275]) hDi rfl rfl (fun K' h=>⟨rfl,rfl,h⟩) ?_
 dsimp only [List.cons_append,List.nil_append]
 refine s_asg ?_
 refine s_next (ys_cons (y_assign (x_call rfl (xs_cons (x_frz (x_call rfl (xs_cons (x_loc rfl (xs_nil ?_)))))))))
 refine call_frz (C:=395) (ks:=[118,119,120,121,122]) (fs:=[tabF,.int 0,.int 200,.int 40,.none]) hTh rfl rfl (fun K' h=>⟨tabF,rfl,rfl,h⟩) ?_
 dsimp only [List.cons_append,List.nil_append]
 refine xs_cons (x_frz (x_call rfl (xs_cons (x_loc rfl (xs_nil ?_)))))
 refine call_frz (C:=416) (ks:=[151,152,153,154,155,150]) (fs:=[.lst [.none],.lst [],.dic [] [],.dic [] [],.dic [] [],diagsF]) hB rfl rfl (fun K' h=>⟨diagsF,rfl,rfl,h⟩) ?_
 dsimp only [List.cons_append,List.nil_append]
 refine xs_cons (x_loc rfl (xs_nil ?_))
 refine call_namer (tab:=tabF) (diags:=diagsF) hNm ?_
 dsimp only [List.cons_append,List.nil_append]
 refine s_asg ?_
 refine s_next (ys_cons (y_assign (x_mlst (xs_nil (t_mlst rfl (s_asg ?_))))))
 refine s_next (ys_cons (y_assign (x_mlst (xs_nil (t_mlst rfl (s_asg ?_))))))
 refine s_next (ys_cons (y_forR (x_bin (x_int (x_bin (x_loc rfl (x_int (v_mod (by decide) (v_add ?_)))))))))
 obtain ⟨c,hc1,hc2,hc3⟩:∃ c:Nat,A3 (1 + z.fmod 3 = (c:Int)) (c≤3) (1≤c):=by
  have:z.fmod 3 = 0∨z.fmod 3 = 1∨z.fmod 3 = 2:=by rw [Int.fmod_eq_emod_of_nonneg z (by decide)]; omega
  rcases this with e | e | e
  ·exact ⟨1,by rw [e]; rfl,by decide,by decide⟩
  ·exact ⟨2,by rw [e]; rfl,by decide,by decide⟩
  ·exact ⟨3,by rw [e]; rfl,by decide,by decide⟩
 rw [hc1]
 refine g_rng (by omega) ?_
 obtain ⟨es,el,end_,erng,en3,en1,en2,eat⟩:=dids_at (z.fdiv 3)
 refine for_ind1 (fun l loc mu=>E7 fun (i:Nat) (nds:List (Int × Group)) (p' n':Int) (E:List (Option M)) (a8 a9:Option D)=>A10 (l = ((List.range c).drop i).map (fun (i:Nat)=>F.int (i:Int))) (i≤c) (nds.length = i) (nds.map (·.1) = es.take i) (∀ x∈nds,x.2.Ok) ((nds.flatMap fun x=>x.2.faces).length≤3 * i) (0≤p') (0≤n') (loc = [some (.fro (.lst (row'.map .int))),some (.ref 0),some (.fro (.int z)),some (.fro tabF),some (.fro diagsF),some (.ref 4),some (.ref 6),some (.ref 7),a8,a9,none,none,none]) (mu = some (dM p' row' n') :: some (.fz diagsF) :: some (.fz (thinF tabF)) :: some (.fz (boundF diagsF)) :: some (namerM tabF diagsF 5) :: some (.dicI (nds.map (·.1)) (nds.map fun x=>.fro (.lst x.2.pieces))) :: some (.lst (nds.map fun x=>.fro (grpF x))) :: some (.lst ((nds.flatMap fun x=>x.2.faces).map fun f=>.fro f.F)) :: E)) ?_ ?_ _ _ _ ⟨0,[],0 + 1,0,[],none,none,rfl,by omega,rfl,rfl,by simp,by simp,by decide,by decide,rfl,rfl⟩
 ·rintro loc mu ⟨i,nds,p',n',E,a8,a9,e,hi,hl,hes,hok,hfl,hp',hn',rfl,rfl⟩
  have hi:i = c:=by
   rcases Nat.lt_or_ge i c with q | q
   ·rw [drop_range q] at e; cases e
   ·omega
  have hl3:nds.length≤3:=by omega
  refine s_next ?_
  refine ys_ghost rfl (fz_lst grpF nds) ?_
  dsimp only [List.set_cons_zero,List.set_cons_succ]
  refine ys_ghost rfl (fz_lst Face.F (nds.flatMap fun x=>x.2.faces)) ?_
  dsimp only [List.set_cons_zero,List.set_cons_succ]
  refine ys_ghost (f:=.dicI (nds.map (·.1)) (nds.map fun x=>.lst x.2.pieces)) rfl (by simp only [fzF,fros_map (fun x:Int × Group=>F.lst x.2.pieces),Option.map_some]) ?_
  dsimp only [List.set_cons_zero,List.set_cons_succ]
  obtain ⟨nF,hnF⟩:∃ nF,nF = (F.inst 612 namerKs (namerA (thinF tabF) tabF (boundF diagsF) diagsF++.dicI (nds.map (·.1)) (nds.map fun x=>.lst x.2.pieces) :: namerB)):=⟨_,rfl⟩
  refine ys_ghost (f:=nF) rfl (by rw [hnF]; rfl) ?_
  dsimp only [List.set_cons_zero,List.set_cons_succ]
  have nis:NIs nF nds:=⟨_,_,hnF,rfl⟩
  clear hnF
  refine ys_cons (y_for (x_locF rfl rfl (g_lst rfl ?_)))
  refine for_ind1 (fun l loc mu=>E3 fun (rest:List (Int × Group)) (a9 a10:Option D)=>A4 (l = rest.map grpF) (∀ x∈rest,x.2.Ok) (loc = [some (.fro (.lst (row'.map .int))),some (.ref 0),some (.fro (.int z)),some (.fro tabF),some (.fro diagsF),some (.ref 4),some (.ref 6),some (.ref 7),a8,a9,a10,none,none]) (mu = some (dM p' row' n') :: some (.fz diagsF) :: some (.fz (thinF tabF)) :: some (.fz (boundF diagsF)) :: some (.fz nF) :: some (.fz (.dicI (nds.map (·.1)) (nds.map fun x=>.lst x.2.pieces))) :: some (.fz (.lst (nds.map grpF))) :: some (.fz (.lst ((nds.flatMap fun x=>x.2.faces).map Face.F))) :: E)) ?_ ?_ _ _ _ ⟨nds,_,_,rfl,hok,rfl,rfl⟩
  ·rintro loc mu ⟨rest,a9,a10,e,_,rfl,rfl⟩
   refine s_next (ys_cons (y_assign (x_call rfl (xs_cons (x_locF rfl rfl (xs_nil ?_))))))
   refine call_due hDu hok hl3 ?_
   refine s_asg ?_
   refine s_next (ys_cons (y_forR (x_int ?_)))
   refine g_rng (by decide) ?_
   refine for_ind1 (fun l loc mu=>E2 fun (E:List (Option M)) (a12:Option D)=>loc = [some (.fro (.lst (row'.map .int))),some (.ref 0),some (.fro (.int z)),some (.fro tabF),some (.fro diagsF),some (.ref 4),some (.ref 6),some (.ref 7),a8,a9,a10,some (.fro (.lst ((dueN nds).map .int))),a12]∧mu = some (dM p' row' n') :: some (.fz diagsF) :: some (.fz (thinF tabF)) :: some (.fz (boundF diagsF)) :: some (.fz nF) :: some (.fz (.dicI (nds.map (·.1)) (nds.map fun x=>.lst x.2.pieces))) :: some (.fz (.lst (nds.map grpF))) :: some (.fz (.lst ((nds.flatMap fun x=>x.2.faces).map Face.F))) :: E) ?_ ?_ _ _ _ ⟨_,_,rfl,rfl⟩
   ·rintro loc mu ⟨E,a12,rfl,rfl⟩
    refine s_next (ys_cons (y_ret (x_cmp2 (x_attr (x_loc rfl ?_)))))
    refine n_inst (f:=.lst []) rfl rfl ?_
    refine x_lst (xs_nil (t_lst rfl rfl ?_))
    refine e_eqL rfl rfl rfl rfl ?_
    refine s_ret (e_ret rfl rfl ?_)
    exact hK
   ·rintro f l loc mu ⟨E,a12,rfl,rfl⟩ ih2
    dsimp only [List.set_cons_zero,List.set_cons_succ]
    refine ys_cons (y_ite (b_cmp2 (x_frz (x_comp (x_call rfl (xs_cons (x_locF rfl rfl (xs_nil ?_))))))))
    refine call_merged hM nis hok hl3 fun ns' q1 q2=>?_
    refine t_comp rfl ?_
    have hmd:=merge_due (nds:=nds) (by rw [hes]; exact (List.take_sublist _ _).nodup end_) (fun d hd=>erng d (by rw [hes] at hd; exact List.mem_of_mem_take hd)) hok q1 q2
    refine comp_nids _ _ ?_ ?_ fun loc=>?_
    ·intro f hf
     obtain ⟨d,_,hf⟩:=List.mem_flatMap.mp hf
     exact resM_node hok f hf
    ·have hln:ns'.length≤3:=by rw [q1.length_eq,List.length_map]; exact hl3
     have:=resM_len hok ns'
     omega
    rw [hmd]
    refine f_new (fz_lst F.int (dueN nds)) ?_
    dsimp only [List.cons_append]
    refine x_loc rfl ?_
    refine e_neL rfl rfl (intsF_map _) (intsF_map _) ?_
    refine if_F (by simp) ?_
    refine ys_nil (s_next (ys_nil (fn_next ?_)))
    exact ih2 _ _ ⟨_,_,rfl,rfl⟩
  ·rintro f l loc mu ⟨rest,a9,a10,e,hok2,rfl,rfl⟩ ih2
   obtain ⟨x,rest,rfl,rfl,rfl⟩:=cons_map e
   dsimp only [List.set_cons_zero,List.set_cons_succ]
   refine ys_cons (y_for (x_idx (x_loc rfl (x_str ?_))))
   refine i_dic (f:=.lst (x.2.mades.map Made.F)) rfl ?_
   refine g_lst rfl ?_
   refine for_ind1 (fun l loc mu=>E2 fun (ms:List Made) (a10:Option D)=>A4 (l = ms.map Made.F) (∀ m∈ms,m.Ok) (loc = [some (.fro (.lst (row'.map .int))),some (.ref 0),some (.fro (.int z)),some (.fro tabF),some (.fro diagsF),some (.ref 4),some (.ref 6),some (.ref 7),a8,some (.fro (grpF x)),a10,none,none]) (mu = some (dM p' row' n') :: some (.fz diagsF) :: some (.fz (thinF tabF)) :: some (.fz (boundF diagsF)) :: some (.fz nF) :: some (.fz (.dicI (nds.map (·.1)) (nds.map fun x=>.lst x.2.pieces))) :: some (.fz (.lst (nds.map grpF))) :: some (.fz (.lst ((nds.flatMap fun x=>x.2.faces).map Face.F))) :: E)) ?_ ?_ _ _ _ ⟨x.2.mades,_,rfl,(hok2 x (by simp)).mades,rfl,rfl⟩
   ·rintro loc mu ⟨ms,a10,e,_,rfl,rfl⟩
    refine s_next (ys_nil (fn_next ?_))
    exact ih2 _ _ ⟨rest,_,_,rfl,fun y hy=>hok2 y (by simp [hy]),rfl,rfl⟩
   ·rintro f l loc mu ⟨ms,a10,e,hm,rfl,rfl⟩ ih3
    obtain ⟨m,ms,rfl,rfl,rfl⟩:=cons_map e
    dsimp only [List.set_cons_zero,List.set_cons_succ]
    refine ys_cons (y_ite (b_not (b_tru (x_call rfl (xs_cons (x_loc rfl (xs_cons (x_locF rfl rfl (xs_nil ?_)))))))))
    refine call_sound (fs:=nds.flatMap fun x=>x.2.faces) hS (hm m (by simp)) (fun f hf=>by obtain ⟨y,hy,hf⟩:=List.mem_flatMap.mp hf; exact (hok y hy).faces f hf) ?_
    refine u_b (if_nt (ys_nil (s_next (ys_nil (fn_next ?_)))))
    exact ih3 _ _ ⟨ms,_,rfl,fun y hy=>hm y (by simp [hy]),rfl,rfl⟩
 ·rintro f l loc mu ⟨i,nds,p',n',E,a8,a9,e,hi,hl,hes,hok,hfl,hp',hn',rfl,rfl⟩ ih
  have hi:i < c:=by
   rcases Nat.lt_or_ge i c with q | q
   ·exact q
   ·rw [List.drop_eq_nil_of_le (by simpa using q)] at e; cases e
  rw [drop_range hi,List.map_cons,List.cons.injEq] at e
  obtain ⟨rfl,rfl⟩:=e
  obtain ⟨nm,hnm⟩:=abc_at (i:=i) (by omega)
  obtain ⟨did,hd1,hd2⟩:=eat i (by omega)
  dsimp only [List.set_cons_zero,List.set_cons_succ]
  refine ys_cons (y_assign (x_call rfl (xs_cons (x_locR rfl rfl (xs_cons (x_pick (x_loc rfl ?_)))))))
  refine p_pick hnm ?_
  refine xs_nil ?_
  refine call_group (N:=8 + E.length) hG (by simp only [List.length_cons]; omega) hp' hr40 hn' fun g p2 n2 gok k1 k2=>?_
  dsimp only [List.cons_append]
  refine s_asg ?_
  refine s_next (ys_cons (y_setI (x_idx (x_tup (xs_cons (x_int (xs_cons (x_int (xs_cons (x_int (xs_nil (t_tup rfl rfl (x_bin (x_bin (x_loc rfl (x_bin (x_loc rfl (x_int (v_fdiv (by decide) (v_add (x_int (v_mod (by decide) ?_))))))))))))))))))))))
  refine i_tup hd2 ?_
  skip
  refine x_locR rfl (d8 (i:=0) rfl rfl (fun f=>by nofun)) ?_
  refine x_str ?_
  refine v_set (d8 (i:=0) rfl rfl (fun f=>by nofun)) rfl rfl ?_
  rw [set8 (N:=8 + E.length) (i:=0) rfl]
  show seqK _ _ _ _ _ ⟨[some (.fro (.lst (row'.map .int))),some (.ref 0),some (.fro (.int z)),some (.fro tabF),some (.fro diagsF),some (.ref 4),some (.ref 6),some (.ref 7),some (.fro (.int (i:Int))),some (.ref (8 + E.length)),none,none,none],some (dM p2 row' n2) :: some (.fz diagsF) :: some (.fz (thinF tabF)) :: some (.fz (boundF diagsF)) :: some (namerM tabF diagsF 5) :: some (.dicI (nds.map (·.1)) (nds.map fun x=>.fro (.lst x.2.pieces))) :: some (.lst (nds.map fun x=>.fro (grpF x))) :: some (.lst ((nds.flatMap fun x=>x.2.faces).map fun f=>.fro f.F)) :: (E++[some (.dic [265,266,227,54] [.ref (8 + E.length + 1),.ref (8 + E.length + 2),.ref (8 + E.length + 3),.fro (.int did)]),some (.fz (.lst g.pieces)),some (.fz (.lst (g.faces.map Face.F))),some (.fz (.lst (g.mades.map Made.F)))])⟩
  refine s_next (ys_cons (y_setI (x_idx ?_)))
  refine x_locR rfl (d8 (i:=0) rfl rfl (fun f=>by nofun)) ?_
  refine x_str ?_
  refine i_mdic (d8 (i:=0) rfl rfl (fun f=>by nofun)) rfl ?_
  refine x_attr (x_locR rfl rfl ?_)
  refine n_mut (i:=4) rfl rfl rfl ?_
  refine x_idx ?_
  refine x_locR rfl (d8 (i:=0) rfl rfl (fun f=>by nofun)) ?_
  refine x_str ?_
  refine i_mdic (d8 (i:=0) rfl rfl (fun f=>by nofun)) rfl ?_
  have hdid:did ∉ nds.map (·.1):=by
   rw [hes]
   intro hm
   obtain ⟨j,hj⟩:=List.mem_iff_getElem?.mp hm
   rw [List.getElem?_take] at hj
   split at hj
   ·rename_i hji
    have:=(List.getElem?_inj (show j < es.length by omega) end_).mp (hj.trans hd1.symm)
    omega
   ·cases hj
  refine v_setNn (k:=5) rfl (z8 (i:=1) rfl rfl) (by rw [hes]; exact nodupI_take en3 en1 en2 el (by omega)) (by rw [List.length_map]; omega) hdid (by rw [List.length_map,List.length_map]) ?_
  show seqK _ _ _ _ _ ⟨[some (.fro (.lst (row'.map .int))),some (.ref 0),some (.fro (.int z)),some (.fro tabF),some (.fro diagsF),some (.ref 4),some (.ref 6),some (.ref 7),some (.fro (.int (i:Int))),some (.ref (8 + E.length)),none,none,none],some (dM p2 row' n2) :: some (.fz diagsF) :: some (.fz (thinF tabF)) :: some (.fz (boundF diagsF)) :: some (namerM tabF diagsF 5) :: some (.dicI (nds.map (·.1)++[did]) ((nds.map fun x=>.fro (.lst x.2.pieces))++[.fro (.lst g.pieces)])) :: some (.lst (nds.map fun x=>.fro (grpF x))) :: some (.lst ((nds.flatMap fun x=>x.2.faces).map fun f=>.fro f.F)) :: (E++[some (.dic [265,266,227,54] [.ref (8 + E.length + 1),.ref (8 + E.length + 2),.ref (8 + E.length + 3),.fro (.int did)]),some (.fz (.lst g.pieces)),some (.fz (.lst (g.faces.map Face.F))),some (.fz (.lst (g.mades.map Made.F)))])⟩
  refine s_next (ys_cons (y_app (x_locR rfl rfl (t_app rfl (x_frz ?_)))))
  refine x_locR rfl (d8 (i:=0) rfl rfl (fun f=>by nofun)) ?_
  refine f_ref (f:=grpF (did,g)) (g8 (i:=0) rfl) (by
   simp only [fzF,fros]
   rw [z8 (i:=1) rfl rfl,z8 (i:=2) rfl rfl,z8 (i:=3) rfl rfl]
   rfl) ?_
  rw [set8 (N:=8 + E.length) (i:=0) rfl]
  show appD _ _ ⟨[some (.fro (.lst (row'.map .int))),some (.ref 0),some (.fro (.int z)),some (.fro tabF),some (.fro diagsF),some (.ref 4),some (.ref 6),some (.ref 7),some (.fro (.int (i:Int))),some (.ref (8 + E.length)),none,none,none],some (dM p2 row' n2) :: some (.fz diagsF) :: some (.fz (thinF tabF)) :: some (.fz (boundF diagsF)) :: some (namerM tabF diagsF 5) :: some (.dicI (nds.map (·.1)++[did]) ((nds.map fun x=>.fro (.lst x.2.pieces))++[.fro (.lst g.pieces)])) :: some (.lst (nds.map fun x=>.fro (grpF x))) :: some (.lst ((nds.flatMap fun x=>x.2.faces).map fun f=>.fro f.F)) :: (E++[some (.fz (grpF (did,g))),some (.fz (.lst g.pieces)),some (.fz (.lst (g.faces.map Face.F))),some (.fz (.lst (g.mades.map Made.F)))])⟩ _
  refine v_app (k:=6) rfl (Nat.ble_eq_true_of_le (by rw [List.length_map]; omega)) ?_
  show seqK _ _ _ _ _ ⟨[some (.fro (.lst (row'.map .int))),some (.ref 0),some (.fro (.int z)),some (.fro tabF),some (.fro diagsF),some (.ref 4),some (.ref 6),some (.ref 7),some (.fro (.int (i:Int))),some (.ref (8 + E.length)),none,none,none],some (dM p2 row' n2) :: some (.fz diagsF) :: some (.fz (thinF tabF)) :: some (.fz (boundF diagsF)) :: some (namerM tabF diagsF 5) :: some (.dicI (nds.map (·.1)++[did]) ((nds.map fun x=>.fro (.lst x.2.pieces))++[.fro (.lst g.pieces)])) :: some (.lst ((nds.map fun x=>.fro (grpF x))++[.fro (grpF (did,g))])) :: some (.lst ((nds.flatMap fun x=>x.2.faces).map fun f=>.fro f.F)) :: (E++[some (.fz (grpF (did,g))),some (.fz (.lst g.pieces)),some (.fz (.lst (g.faces.map Face.F))),some (.fz (.lst (g.mades.map Made.F)))])⟩
  refine s_next (ys_cons (y_ext (x_locR rfl rfl (t_ext rfl (x_idx ?_)))))
  refine x_locF rfl (z8 (i:=0) rfl rfl) ?_
  refine x_str ?_
  refine i_dic (f:=.lst (g.faces.map Face.F)) rfl ?_
  refine v_ext (k:=7) rfl rfl (by have:=gok.lf; rw [List.length_map,List.length_map]; omega) ?_
  show seqK _ _ _ _ _ ⟨[some (.fro (.lst (row'.map .int))),some (.ref 0),some (.fro (.int z)),some (.fro tabF),some (.fro diagsF),some (.ref 4),some (.ref 6),some (.ref 7),some (.fro (.int (i:Int))),some (.ref (8 + E.length)),none,none,none],some (dM p2 row' n2) :: some (.fz diagsF) :: some (.fz (thinF tabF)) :: some (.fz (boundF diagsF)) :: some (namerM tabF diagsF 5) :: some (.dicI (nds.map (·.1)++[did]) ((nds.map fun x=>.fro (.lst x.2.pieces))++[.fro (.lst g.pieces)])) :: some (.lst ((nds.map fun x=>.fro (grpF x))++[.fro (grpF (did,g))])) :: some (.lst (((nds.flatMap fun x=>x.2.faces).map fun f=>.fro f.F)++(g.faces.map Face.F).map .fro)) :: (E++[some (.fz (grpF (did,g))),some (.fz (.lst g.pieces)),some (.fz (.lst (g.faces.map Face.F))),some (.fz (.lst (g.mades.map Made.F)))])⟩
  refine s_next (ys_nil (fn_next ?_))
  refine ih _ _ ⟨i + 1,nds++[(did,g)],p2,n2,E++[some (.fz (grpF (did,g))),some (.fz (.lst g.pieces)),some (.fz (.lst (g.faces.map Face.F))),some (.fz (.lst (g.mades.map Made.F)))],_,_,rfl,by omega,by rw [List.length_append]; show nds.length + 1 = _; omega,?_,?_,?_,k1,by omega,rfl,?_⟩
  ·rw [List.map_append,hes,List.take_add_one,hd1]; rfl
  ·intro x hx
   rcases List.mem_append.mp hx with q | q
   ·exact hok x q
   ·rw [List.mem_singleton] at q; subst q; exact gok
  ·have:=gok.lf
   rw [List.flatMap_append,List.length_append]
   simp only [List.flatMap_cons,List.flatMap_nil,List.append_nil]
   omega
  ·simp only [List.map_append,List.flatMap_append,List.map_cons,List.map_nil,List.flatMap_cons,List.flatMap_nil,List.append_nil,List.map_map]
   rfl
noncomputable def n_put:List Nat:=[38,82,112]
noncomputable def y_put:Ys:=.cons (.ite (.cmp2 .isIn (.loc 1) (.attr (.loc 0) 103)) (.cons (.ret (.idx (.attr (.loc 0) 103) (.loc 1))) .nil) .nil) (.cons (.assign 2 (.len (.attr (.loc 0) 84))) (.cons (.app (.attr (.loc 0) 84) (.loc 1)) (.cons (.setI (.attr (.loc 0) 103) (.loc 1) (.loc 2)) (.cons (.ret (.loc 2)) .nil))))
noncomputable def fd_put:FuncData:=⟨s85,s456,a58_2,(.stmts b58_2),c58_2,3,[],.none,.none,.none,(.str s88 518),none,(.ref 244),.none,0⟩
theorem rowIx_self:∀ k,k < 16→rowIx (rowF k) = some k:=by decide
noncomputable def tabKs:List Nat:=[84,103,104,105,106,107,108,109,110,111]
noncomputable def tabL:List D:=[.ref 1,.ref 2,.fro (.lst [.none]),.fro (.lst []),.fro (.lst []),.fro (.lst []),.fro (.dic [] []),.fro (.dic [] []),.fro (.int 0),.fro (.int 0)]
noncomputable def tabM (l:List Nat):List (Option M):=[some (.inst 248 tabKs tabL),some (.lst (l.map fun k=>D.fro (rowF k))),some (.rd l)]
theorem tab_ok {l:List Nat} {rest:List (Option M)}:okMs [0,1,2] (tabM l++rest) = true:=by
 have h:(l.map fun k=>D.fro (rowF k)).all (okD [0,1,2]) = true:=List.all_eq_true.mpr fun d hd=>by
  obtain ⟨k,_,rfl⟩:=List.mem_map.mp hd; rfl
 simp [okMs,tabM,okM,h,tabL,okD]
theorem tab_map {τ:Nat→Nat} {l:List Nat}:(l.map fun k=>D.fro (rowF k)).map (remD τ) = l.map fun k=>D.fro (rowF k):=by
 rw [List.map_map]; rfl
theorem tab_rem {l:List Nat} {rest:List (Option M)}:remS [0,1,2] (tabM l++rest) = tabM l:=by
 show [some (M.inst 248 tabKs (tabL.map (remD _))),some (M.lst ((l.map fun k=>D.fro (rowF k)).map (remD _))),some (.rd l)] = _
 rw [tab_map]; rfl
theorem tab_wb {l l':List Nat} {rest:List (Option M)}:wbM [0,1,2] (tabM l') (tabM l++rest) = tabM l'++rest:=by
 show (some (M.inst 248 tabKs (tabL.map (remD _))) :: some (M.lst ((l'.map fun k=>D.fro (rowF k)).map (remD _))) :: some (.rd l') :: rest)++[] = _
 rw [tab_map,List.append_nil]; rfl
noncomputable def putPT:PT:=fun ds mu K=>E2 fun l k=>A6 (ds = [.ref 0,.fro (rowF k)]) (mu = tabM l) (k < 16) (l.contains k = false) (l.length≤100) (K (.fro (.int l.length)) (tabM (l++[k])))
theorem e_inR {b:D} {st:St} {K:Bool→Prop} {f:F} {j i:Nat} {l:List Nat} (h:deref st b = .mut_ j (.rd l)) (h2:rowIx f = some i) (g:K (l.contains i)):cmp2 .isIn (.fro f) b st K:=by
 show InD _ _ _
 rw [h]; exact .rd h2 g
theorem v_setR {o v:D} {st:St} {K:St→Prop} {f:F} {j i:Nat} {l:List Nat} (h:deref st o = .mut_ j (.rd l)) (h2:rowIx f = some i) (h3:Nat.ble l.length 1000 = true) (h4:l.contains i = false)
  (g:K { st with mu:=st.mu.set j (some (.rd (l++[i]))) }):setD o (.fro f) v st K:=by
 unfold setD
 rw [h]; exact .rd h2 h3 h4 g
theorem u_lenM {d:D} {st:St} {K:D→St→Prop} {j:Nat} {l:List D} (h:deref st d = .mut_ j (.lst l)) (h2:l.length≤1000000) (g:K (.fro (.int l.length)) st):lenU d st K:=by
 exact .inr ⟨j,l,h,h2,g⟩
theorem n_mu {d:D} {st:St} {KD:D→Prop} {C k i:Nat} {ks:List Nat} {L:List D} {r:D} (h0:deref st d = .mut_ i (.inst C ks L)) (h:attrOk C k = true) (h2:lk ks L k = some r) (g:KD r):attrD d k st KD:=.inr ⟨i,C,ks,L,r,h0,h,h2,g⟩
theorem put_ok {w:World} {L:Nat} {Γ:Nat→PT} (h1:1≤L) (hΓ:∀ y∈callT,CallOK w L (.ref y.2) (Γ y.2)):CallOK w (L + 1) (.ref 245) putPT:=by
 refine fn_run h1 hΓ (fd:=fd_put) (body:=b58_2) n_put 2 y_put ⟨o245 w.params,by kernel_rfl,rfl⟩ (by kernel_rfl) rfl (len2 fun _ _=>by kernel_rfl) (by kernel_rfl) (by kernel_rfl) fun ds mu K h=>?_
 obtain ⟨l,k,rfl,rfl,hk,hn,hl,hK⟩:=h
 refine ⟨rfl,[],by show (List.range 3++[]).Nodup; decide,by simp,?_⟩
 show wpYs _ _ y_put ⟨[some (.ref 0),some (.fro (rowF k)),none],[some (.inst 248 tabKs tabL),some (.lst (l.map fun k=>D.fro (rowF k))),some (.rd l)]⟩ (endK 3 [] K)
 unfold y_put
 refine ys_cons (y_ite (b_cmp2 (x_loc rfl (x_attr (x_locR rfl rfl ?_)))))
 refine n_mu (C:=248) (i:=0) (r:=.ref 2) rfl rfl rfl ?_
 refine e_inR rfl (rowIx_self k hk) ?_
 rw [hn]
 refine if_F rfl (ys_nil (s_next ?_))
 refine ys_cons (y_assign (x_len (x_attr (x_locR rfl rfl ?_))))
 refine n_mu (C:=248) (i:=0) (r:=.ref 1) rfl rfl rfl ?_
 refine u_lenM rfl (by rw [List.length_map]; omega) (s_asg (s_next ?_))
 rw [List.length_map]
 refine ys_cons (y_app (x_attr (x_locR rfl rfl ?_)))
 refine n_mu (C:=248) (i:=0) (r:=.ref 1) rfl rfl rfl ?_
 refine t_app rfl (x_loc rfl ?_)
 refine v_app rfl (Nat.ble_eq_true_of_le (by rw [List.length_map]; omega)) (s_next ?_)
 refine ys_cons (y_setI (x_loc rfl (x_attr (x_locR rfl rfl ?_))))
 refine n_mu (C:=248) (i:=0) (r:=.ref 2) rfl rfl rfl (x_loc rfl ?_)
 refine v_setR rfl (rowIx_self k hk) (Nat.ble_eq_true_of_le (by omega)) hn (s_next ?_)
 refine ys_cons (y_ret (x_loc rfl (s_ret ?_)))
 show endK 3 [] K (.ret (.fro (.int l.length))) ⟨[some (.ref 0),some (.fro (rowF k)),some (.fro (.int l.length))],[some (.inst 248 tabKs tabL),some (.lst ((l.map fun k=>D.fro (rowF k))++[D.fro (rowF k)])),some (.rd (l++[k]))]⟩
 have e:[some (.inst 248 tabKs tabL),some (.lst ((l.map fun k=>D.fro (rowF k))++[D.fro (rowF k)])),some (.rd (l++[k]))] = tabM (l++[k])++[]:=by
  unfold tabM; rw [List.map_append]; rfl
 rw [e]
 refine e_ret (d':=.fro (.int l.length)) ?_ ?_ ?_
 ·exact tab_ok
 ·rfl
 ·exact tab_rem.symm ▸ hK
theorem Ents.noRef:∀ {es:List DictEntry} {ks:List Nat} {vs:List Value},Ents es ks vs→es.any (·.refKey) = false
 | [],[],[],_=>rfl
 | e :: es,k' :: ks,v' :: vs,⟨⟨h0,t,h1⟩,h2,h3⟩=>by
  rw [List.any_cons,Ents.noRef h3]
  unfold DictEntry.refKey
  rw [h1]; rfl
 | [],_ :: _,_,h=>h.elim
 | [],[],_ :: _,h=>h.elim
 | _ :: _,[],_,h=>h.elim
 | _ :: _,_ :: _,[],h=>h.elim
theorem Ents.miss0 {k:Nat} (hk:k < nmL.length):∀ {es:List DictEntry} {ks:List Nat} {vs:List Value},Ents es ks vs→ks.contains k = false→es.find? (fun e=>e.key.isStr (nm k)) = none
 | [],[],[],_,_=>rfl
 | e :: es,k' :: ks,v' :: vs,⟨⟨h0,t,h1⟩,h2,h3⟩,q=>by
  simp only [List.contains_cons,Bool.or_eq_false_iff,beq_eq_false_iff_ne] at q
  rw [List.find?_cons,isStr_nm h1,nm_beq h0 hk]
  have z:(decide (k' = k)) = false:=decide_eq_false fun e=>q.1 e.symm
  simp only [z]
  exact Ents.miss0 hk h3 q.2
 | [],_ :: _,_,h,_=>h.elim
 | [],[],_ :: _,h,_=>h.elim
 | _ :: _,[],_,h,_=>h.elim
 | _ :: _,_ :: _,[],h,_=>h.elim
theorem Ents.miss {k:Nat} (hk:k < nmL.length) {es:List DictEntry} {ks:List Nat} {vs:List Value} (h:Ents es ks vs) (q:ks.contains k = false):getL (nm k) es = some none:=by
 unfold getL
 rw [h.miss0 hk q,h.noRef]
 rfl
section
variable {c:Cx} {A:Around} {st:St} {p:Vw} {h:Heap}
noncomputable def isTab (k:Nat) (d:D) (st:St):Prop:=match deref st d with
 | .mut_ _ (.inst C ks _)=>C = 248∧ks.contains k = false
 | _=>False
theorem Call_meth1 {M:Model} {E:Value→Shared→Prop} {s:Shared} {env:Env} {o e:Expr} {name:Str} {apos pos:Pos} {Q:Value→Shared→Prop} (hbase:attributeBase o name env (eval o env) = eval o env) (hse:starEach [e] env = [(false,eval e env)]) (hline:(apos.endLine == pos.line) = true)
  (h:wpAny M A (eval o env) (fun ov s₁=>wpAny M A (getMethod ov name (do return (← importBound o env).getD true)) (fun fx s₂=>wpAny M A (callWith pos fx.1 fx.2 (backTo pos (starEach [e] env)) []) Q E s₂) E s₁) E s) :
  wpAny M A (eval (.Call (.Attribute o name apos) [e] [] pos) env) Q E s:=by
 rw [arm_eval_Call,hbase]
 refine wpAny_bind (wpAny_mono h (fun ov s₁ h₁=>?_) fun _ _ e=>e)
 refine wpAny_bind (wpAny_standAt ?_)
 have hform:methodCallForm ([e].length + ([]:List Keyword).length) (backTo pos (starEach [e] env)) (backToKw pos (keywordEach [] env)) = true:=by rw [hse]; rfl
 have hpos:methodCallPos true o env apos pos = pure pos:=by unfold methodCallPos; simp [hline]
 unfold methodCall
 rw [hform]
 refine wpAny_bind (wpAny_holding ?_)
 refine wpAny_mono h₁ (fun fx s₂ h₂=>?_) fun _ _ e=>e
 obtain ⟨f,first⟩:=fx
 exact wpAny_bind (wpAny_of_eq hpos h₂)
theorem Sx.meth {o e:Expr} {k:Nat} {apos pos:Pos} {f:Addr} {σ:List Nat} {pt:PT} {L:Nat} {Wo:(D→St→Prop)→Prop} {We:St→(D→St→Prop)→Prop} (ho:Sx c A (eval o c.env) st Wo) (he:∀ st',Sx c A (eval e c.env) st' (We st'))
  (hp:plainBase o = true) (hs:notStar e = true) (hk:k < nmL.length) (hg:plainGet (KF c.w.params) 248 (nm k) = true) (hf:findIn (KF c.w.params) (.ref 248) (nm k) = some (some (.ref f))) (ht:typeIn (KF c.w.params) (.ref f) = some (.type "function"))
  (hkeep:keepIn (KF c.w.params) (.ref f) = true) (hok:CallOK c.w L (.ref f) pt) (room:Room A L) (nd:σ.Nodup) (hl:(apos.endLine == pos.line) = true) :
  Sx c A (eval (.Call (.Attribute o (nm k) apos) [e] [] pos) c.env) st fun K=>Wo fun d st1=>isTab k d st1∧We st1 fun x st2=>callD σ pt [d,x] st2 K:=by
 intro s p K Q a w kk
 have hse:starEach [e] c.env = [(false,eval e c.env)]:=by rw [starEach_cons hs]; rfl
 refine Call_meth1 (attrBase hp) hse hl ?_
 refine ho s p _ _ a w fun d st1 v h1 tk1 q1 k1 a1 ex1 n1=>?_
 obtain ⟨k1,k2⟩:=k1
 unfold isTab at k1
 split at k1
 ·rename_i j C ks L' hd
  obtain ⟨rfl,hks⟩:=k1
  obtain ⟨x,fp,rfl,y1,y2,y3,dx,es,nn,vs,rfl,y4,y5,y6,y7,y8⟩:=deref_mut a1 hd n1
  have X1:(KF c.w.params).In h1:=a1.gnd.K.keeps a1.sub
  refine method_fn (s:={ s with heap:=h1,toks:=tk1 }) X1 (od:=some (dictOf es nn)) ⟨y5,rfl,rfl,y6⟩ (plainGet_of hg).1 (plainGet_of hg).2 hf ht (by show (lookIn _ (dictOf es nn)).map _ = _; rw [lookIn_dict,y7.miss hk hks]; rfl) ?_
  refine callWith_K (h₀:=h1) X1 hkeep ?_ (starEach_cons hs) rfl
  refine (Sxs.cons (l:=[]) (he st1) (fun _=>Sxs.nil) hs) { s with heap:=h1,toks:=tk1 } q1 (fun ds st2=>callD σ pt (d :: ds) st2 K) _ a1 k2 fun ds st2 vs h2 tk2 q2 k3 a2 ex2 n2=>?_
  refine ⟨a2.gnd.K.keeps a2.sub,?_⟩
  exact callD_ok (s:={ s with heap:=h2,toks:=tk2 }) (vs:=.ref x :: vs) hok room nd a2 k3 ⟨ex2.den n1,n2⟩ fun d st3 v h3 tk3 q3 k4 a3 e3 n3=>kk d st3 v h3 tk3 q3 k4 a3 (ex1.trans (ex2.trans e3)) n3
 ·exact k1.elim
theorem Sf.run2 {e:Expr} {pos:Pos} {W:(D→St→Prop)→Prop} (he:Sx c A (eval e c.env) st W) (pv:plainV e = true) :
  Sf c A (exec (.Expr e pos) c.env) st fun K=>W fun d st'=>match d with
   | .fro (.int _)=>K .next st'
   | _=>False:=by
 intro s p K Q a w k
 refine wpAny_Expr (he s p _ _ a w fun d st' v h tk q kd a' ex n=>?_) (interactive_of a.kind) (swaps_of pv)
 split at kd
 ·rename_i z
  have n':Den c.w q.G (.int z) v:=n
  unfold Den at n'
  obtain ⟨t,rfl⟩:=n'
  exact k _ _ _ h tk q kd a' ex rfl
 ·exact kd.elim
theorem At.fz0 (x:At c st p h) {k C:Nat} {ks:List Nat} {l:List D} (hm:st.mu[k]? = some (some (.inst C ks l))) :
  ∃ q,Ext p q∧At c { st with mu:=st.mu.set k (some (.fz (.inst C [] []))) } q h:=by
 obtain ⟨a,fp,hr,hfp,y⟩:=x.mus k _ hm
 have xd:=x.drop k
 have up:∀ (i:Nat) fi,(p.fps.set k [])[i]? = some fi→(i ≠ k∧p.fps[i]? = some fi)∨fi = []:=by
  intro i fi e
  by_cases q:i = k
  ·subst q
   rcases Nat.lt_or_ge i p.fps.length with kl | kl
   ·rw [List.getElem?_set_self kl] at e
    exact .inr (Option.some.inj e).symm
   ·rw [List.getElem?_eq_none (by simpa using kl)] at e; cases e
  ·rw [List.getElem?_set_ne (Ne.symm q)] at e
   exact .inl ⟨q,e⟩
 obtain ⟨G',le,kp,a'⟩:=xd.freeze fp (by
  intro b hb
  refine ⟨?_,fun z=>x.frF k fp hfp (z ▸ hb),fun i fi e hb'=>?_⟩
  ·rcases x.own k fp hfp b hb with r | r
   ·exact .inr (getD_flatten r)
   ·exact .inl r
  ·rcases up i fi e with ⟨q1,q2⟩ | rfl
   ·exact x.sep i k fi fp q1 q2 hfp b hb' hb
   ·cases hb')
 have dn:Den c.w G' (.inst C [] []) (.ref a):=by
  obtain ⟨dx,es,n,vs,rfl,ne,e1,e2,e3,d⟩:=y
  unfold Den
  exact ⟨a,instObj C dx,dictOf es n,[],rfl,⟨kp a (by simp) _ e1,rfl,rfl,kp dx (by simp) _ e2⟩,by unfold Gets; trivial,by unfold Dens; trivial⟩
 refine ⟨⟨p.ρ,p.fps.set k [],G'⟩,⟨⟨[],by simp⟩,le⟩,{ a' with len1:=by simpa using a'.len1,mus:=?_ }⟩
 intro i m' e'
 have l1:=x.len1
 have l2:=x.len2
 by_cases z:i = k
 ·subst z
  have kl:i < st.mu.length:=(List.getElem?_eq_some_iff.mp hm).1
  rw [List.getElem?_set_self kl] at e'
  cases e'
  exact ⟨a,[],hr,by show (p.fps.set i [])[i]? = some []; rw [List.getElem?_set_self (by omega)],rfl,dn⟩
 ·rw [List.getElem?_set_ne (Ne.symm z)] at e'
  exact a'.mus i m' (by show (st.mu.set k none)[i]? = some (some m'); rw [List.getElem?_set_ne (Ne.symm z)]; exact e')
noncomputable def fz0K (k:Nat) (st:St) (K:St→Prop):Prop:=match st.mu[k]? with
 | some (some (.inst C _ _))=>K { st with mu:=st.mu.set k (some (.fz (.inst C [] []))) }
 | _=>False
theorem Sf.fz0 {t:Sem Flow} {k:Nat} {W:(FD→St→Prop)→Prop} (h:Sf c A t st W):Sf c A t st fun K=>W fun fd st'=>match fd with
  | .next=>fz0K k st' fun st2=>K .next st2
  | _=>False:=by
 intro s p K Q a w kk
 refine h s p _ Q a w fun fd st' f h' tk q kd a' ex n=>?_
 cases fd with
 | next =>
  simp only [fz0K] at kd
  split at kd
  ·rename_i C ks l hm
   obtain ⟨q2,ex2,a2⟩:=a'.fz0 hm
   exact kk _ _ f h' tk q2 kd a2 (ex.trans ex2) n
  ·exact kd.elim
 | brk=>exact kd.elim
 | cont=>exact kd.elim
 | ret d=>exact kd.elim
end
section
variable {w:World} {G:Heap}
theorem rows_den (X:(KF w.params).In G):Den w G (.tup rowsF) (.ref 217):=by
 have d195:Den w G (.tup [.int 1,.str 94]) (.ref 195):=den_tup (vs:=[.int 1 520,.str s94 528]) ⟨_,X 195 (o195 w.params) (by rfl),rfl,0,rfl⟩ (dens_cons (di 1 520) (dens_cons (ds 94 528 (by decide)) dens_nil))
 have d196:Den w G (.tup [.int 1,.str 95]) (.ref 196):=den_tup (vs:=[.int 1 520,.str s95 529]) ⟨_,X 196 (o196 w.params) (by rfl),rfl,0,rfl⟩ (dens_cons (di 1 520) (dens_cons (ds 95 529 (by decide)) dens_nil))
 have d197:Den w G (.tup [.int 1,.str 96]) (.ref 197):=den_tup (vs:=[.int 1 520,.str s96 530]) ⟨_,X 197 (o197 w.params) (by rfl),rfl,0,rfl⟩ (dens_cons (di 1 520) (dens_cons (ds 96 530 (by decide)) dens_nil))
 have d198:Den w G (.tup [.int 1,.str 97]) (.ref 198):=den_tup (vs:=[.int 1 520,.str s97 531]) ⟨_,X 198 (o198 w.params) (by rfl),rfl,0,rfl⟩ (dens_cons (di 1 520) (dens_cons (ds 97 531 (by decide)) dens_nil))
 have d199:Den w G (.tup [.int 1,.str 98]) (.ref 199):=den_tup (vs:=[.int 1 520,.str s98 532]) ⟨_,X 199 (o199 w.params) (by rfl),rfl,0,rfl⟩ (dens_cons (di 1 520) (dens_cons (ds 98 532 (by decide)) dens_nil))
 have d200:Den w G (.tup [.int 1,.str 99]) (.ref 200):=den_tup (vs:=[.int 1 520,.str s99 533]) ⟨_,X 200 (o200 w.params) (by rfl),rfl,0,rfl⟩ (dens_cons (di 1 520) (dens_cons (ds 99 533 (by decide)) dens_nil))
 have d201:Den w G (.tup [.int 1,.str 100]) (.ref 201):=den_tup (vs:=[.int 1 520,.str s100 534]) ⟨_,X 201 (o201 w.params) (by rfl),rfl,0,rfl⟩ (dens_cons (di 1 520) (dens_cons (ds 100 534 (by decide)) dens_nil))
 have d202:Den w G (.tup [.int 1,.str 76]) (.ref 202):=den_tup (vs:=[.int 1 520,.str s76 535]) ⟨_,X 202 (o202 w.params) (by rfl),rfl,0,rfl⟩ (dens_cons (di 1 520) (dens_cons (ds 76 535 (by decide)) dens_nil))
 have d203:Den w G (.tup [.int 2,.int 0,.int 0]) (.ref 203):=den_tup (vs:=[.int 2 522,.int 0 536,.int 0 537]) ⟨_,X 203 (o203 w.params) (by rfl),rfl,0,rfl⟩ (dens_cons (di 2 522) (dens_cons (di 0 536) (dens_cons (di 0 537) dens_nil)))
 have d204:Den w G (.tup [.int 2,.int 1,.int 0]) (.ref 204):=den_tup (vs:=[.int 2 522,.int 1 538,.int 0 539]) ⟨_,X 204 (o204 w.params) (by rfl),rfl,0,rfl⟩ (dens_cons (di 2 522) (dens_cons (di 1 538) (dens_cons (di 0 539) dens_nil)))
 have d205:Den w G (.tup [.int 1,.str 101]) (.ref 205):=den_tup (vs:=[.int 1 520,.str s101 540]) ⟨_,X 205 (o205 w.params) (by rfl),rfl,0,rfl⟩ (dens_cons (di 1 520) (dens_cons (ds 101 540 (by decide)) dens_nil))
 have d206:Den w G (.tup []) (.ref 206):=den_tup (vs:=[]) ⟨_,X 206 (o206 w.params) (by rfl),rfl,0,rfl⟩ dens_nil
 have d207:Den w G (.tup []) (.ref 207):=den_tup (vs:=[]) ⟨_,X 207 (o207 w.params) (by rfl),rfl,0,rfl⟩ dens_nil
 have d208:Den w G (.tup []) (.ref 208):=den_tup (vs:=[]) ⟨_,X 208 (o208 w.params) (by rfl),rfl,0,rfl⟩ dens_nil
 have d209:Den w G (.tup []) (.ref 209):=den_tup (vs:=[]) ⟨_,X 209 (o209 w.params) (by rfl),rfl,0,rfl⟩ dens_nil
 have d210:Den w G (.tup []) (.ref 210):=den_tup (vs:=[]) ⟨_,X 210 (o210 w.params) (by rfl),rfl,0,rfl⟩ dens_nil
 have d211:Den w G (.tup [.int 8,.tup [],.tup [],.tup [],.tup [],.tup [],.int 0]) (.ref 211):=den_tup (vs:=[.int 8 526,.ref 206,.ref 207,.ref 208,.ref 209,.ref 210,.int 0 541]) ⟨_,X 211 (o211 w.params) (by rfl),rfl,0,rfl⟩ (dens_cons (di 8 526) (dens_cons d206 (dens_cons d207 (dens_cons d208 (dens_cons d209 (dens_cons d210 (dens_cons (di 0 541) dens_nil)))))))
 have d212:Den w G (.tup [.int 8,.int 9]) (.ref 212):=den_tup (vs:=[.int 8 542,.int 9 543]) ⟨_,X 212 (o212 w.params) (by rfl),rfl,0,rfl⟩ (dens_cons (di 8 542) (dens_cons (di 9 543) dens_nil))
 have d213:Den w G (.tup [.int 6,.tup [.int 8,.int 9]]) (.ref 213):=den_tup (vs:=[.int 6 524,.ref 212]) ⟨_,X 213 (o213 w.params) (by rfl),rfl,0,rfl⟩ (dens_cons (di 6 524) (dens_cons d212 dens_nil))
 have d214:Den w G (.tup [.int 1,.str 102]) (.ref 214):=den_tup (vs:=[.int 1 520,.str s102 544]) ⟨_,X 214 (o214 w.params) (by rfl),rfl,0,rfl⟩ (dens_cons (di 1 520) (dens_cons (ds 102 544 (by decide)) dens_nil))
 have d215:Den w G (.tup [.int 2,.int 0,.int 1]) (.ref 215):=den_tup (vs:=[.int 2 522,.int 0 545,.int 1 546]) ⟨_,X 215 (o215 w.params) (by rfl),rfl,0,rfl⟩ (dens_cons (di 2 522) (dens_cons (di 0 545) (dens_cons (di 1 546) dens_nil)))
 have d216:Den w G (.tup [.int 2,.int 1,.int 1]) (.ref 216):=den_tup (vs:=[.int 2 522,.int 1 547,.int 1 548]) ⟨_,X 216 (o216 w.params) (by rfl),rfl,0,rfl⟩ (dens_cons (di 2 522) (dens_cons (di 1 547) (dens_cons (di 1 548) dens_nil)))
 have d217:Den w G (.tup [.tup [.int 1,.str 94],.tup [.int 1,.str 95],.tup [.int 1,.str 96],.tup [.int 1,.str 97],.tup [.int 1,.str 98],.tup [.int 1,.str 99],.tup [.int 1,.str 100],.tup [.int 1,.str 76],.tup [.int 2,.int 0,.int 0],.tup [.int 2,.int 1,.int 0],.tup [.int 1,.str 101],.tup [.int 8,.tup [],.tup [],.tup [],.tup [],.tup [],.int 0],.tup [.int 6,.tup [.int 8,.int 9]],.tup [.int 1,.str 102],.tup [.int 2,.int 0,.int 1],.tup [.int 2,.int 1,.int 1]]) (.ref 217):=den_tup (vs:=[.ref 195,.ref 196,.ref 197,.ref 198,.ref 199,.ref 200,.ref 201,.ref 202,.ref 203,.ref 204,.ref 205,.ref 211,.ref 213,.ref 214,.ref 215,.ref 216]) ⟨_,X 217 (o217 w.params) (by rfl),rfl,0,rfl⟩ (dens_cons d195 (dens_cons d196 (dens_cons d197 (dens_cons d198 (dens_cons d199 (dens_cons d200 (dens_cons d201 (dens_cons d202 (dens_cons d203 (dens_cons d204 (dens_cons d205 (dens_cons d211 (dens_cons d213 (dens_cons d214 (dens_cons d215 (dens_cons d216 dens_nil))))))))))))))))
 exact d217
end
noncomputable def tabYs:List Y:=[.setA (.loc 0) 84 (.mlst .nil),.setA (.loc 0) 103 (.dict0 .row),.setA (.loc 0) 104 (.frz (.mlst (.cons .cnone .nil))),.setA (.loc 0) 105 (.frz (.mlst .nil)),.setA (.loc 0) 106 (.frz (.mlst .nil)),.setA (.loc 0) 107 (.frz (.mlst .nil)),
 .setA (.loc 0) 108 (.frz (.dict0 .str)),.setA (.loc 0) 109 (.frz (.dict0 .str)),.setA (.loc 0) 110 (.cint 0),.setA (.loc 0) 111 (.cint 0)]
noncomputable def chkPre (T:Tb) (p:List Stmt→Bool) (cf:Cf):List Y→List Stmt→Bool
 | [],l=>p l
 | y :: r,l=>match l with
  | []=>false
  | s :: l=>chkY T y cf s && chkPre T p cf r l
noncomputable def wpPre (T:Tb) (ok:Nat→Nat→Bool) (Wl:St→(FD→St→Prop)→Prop):List Y→St→(FD→St→Prop)→Prop
 | [],st,K=>Wl st K
 | y :: r,st,K=>wpY T ok y st fun fd st'=>match fd with
  | .next=>wpPre T ok Wl r st' K
  | fd=>K fd st'
theorem okPre {w:World} {L:Nat} {T:Tb} (tb:TbOK T w L) {p:List Stmt→Bool} {cf:Cf} {c:Cx} {A:Around} (f:Fits w cf c) (r:Room A L) {Wl:St→(FD→St→Prop)→Prop} (hp:∀ l,p l = true→∀ st,Sf c A (execs l c.env) st (Wl st)) :
  ∀ (ys:List Y) (l:List Stmt),chkPre T p cf ys l = true→∀ st,Sf c A (execs l c.env) st (wpPre T okS Wl ys st)
 | [],l,h,st=>hp l h st
 | y :: ys,[],h,st=>Bool.noConfusion h
 | y :: ys,s :: l,h,st=>by
  refine and_el h fun h1 h2=>?_
  exact Sf.cons (okY okS_ok T tb y cf _ h1 f r st) fun st'=>okPre tb f r hp ys _ h2 st'
noncomputable def chkLoop (cf:Cf) (l:List Stmt):Bool:=one l fun s=>onFor s fun t g b m _=>m.isEmpty && onName t fun r0 _=>onName g fun g _=>one b fun c=>onExpr c fun c _=>onCall c fun a es kw cp=>kw.isEmpty && onAttr a fun v x ap=>onName v fun s0 _=>one es fun y=>onName y fun r1 _ =>
 (nameAt cf 1 r0 && nameAt cf 1 r1 && nameAt cf 0 s0) && (isNm x 85 && isNm g 93) && (globOK cf g && (ap.endLine == cp.line))
noncomputable def bodyW (T:Tb) (st:St) (K:FD→St→Prop):Prop:=wpX T (.loc 0) st fun d st1=>isTab 85 d st1∧wpX T (.loc 1) st1 fun x st2=>callD [0,1,2] putPT [d,x] st2 fun d st3=>match d with
 | .fro (.int _)=>K .next st3
 | _=>False
noncomputable def loopW (T:Tb) (st:St) (K:FD→St→Prop):Prop:=forW (.one 1) (bodyW T) rowsF st fun fd st'=>match fd with
 | .next=>fz0K 0 st' fun st2=>K .next st2
 | _=>False
theorem okLoop {w:World} {L:Nat} {T:Tb} (tb:TbOK T w L) {cf:Cf} {c:Cx} {A:Around} (f:Fits w cf c) (r:Room A L) (hput:CallOK w L (.ref 245) putPT) (l:List Stmt) (h:chkLoop cf l = true) (st:St):Sf c A (execs l c.env) st (loopW T st):=by
 apply one_el h
 intro _ j1
 apply onFor_el j1
 intro _ _ _ _ fp j2
 refine and_el j2 fun j3 j4=>?_
 apply onName_el j4
 intro r0 p0 j5
 apply onName_el j5
 intro g pg j6
 apply one_el j6
 intro _ j7
 apply onExpr_el j7
 intro _ ep j8
 apply onCall_el j8
 intro _ _ _ cp j9
 refine and_el j9 fun jA jB=>?_
 apply onAttr_el jB
 intro _ x ap jC
 apply onName_el jC
 intro s0 ps jD
 apply one_el jD
 intro _ jE
 apply onName_el jE
 intro r1 p1 jF
 apply isEmpty_el j3
 apply isEmpty_el jA
 refine and_el3 jF fun q1 q2 q3=>?_
 refine and_el3 q1 fun h1 h2 h3=>?_
 refine and_el q2 fun h4 h5=>?_
 refine and_el q3 fun h6 h7=>?_
 obtain ⟨i4,rfl⟩:=isNm_ok h4
 obtain ⟨i5,rfl⟩:=isNm_ok h5
 obtain ⟨g1,g2⟩:=globOK_ok f h6
 have fw:=f.w
 have hn:nsIn (KF c.w.params) mainGlobals (nm 93) = some (some (.ref 217)):=by rw [fw]; kernel_rfl
 have gl:Sx c A (eval (.Name (nm 93) pg) c.env) st fun K=>K (.fro (.tup rowsF)) st:=Sx.glob hn g1 (okName_ok g2).1 fun G X=>rows_den X
 have x0:∀ (c':Cx) (A:Around),Fits w cf c'→Room A L→∀ st',Sx c' A (eval (.Name s0 ps) c'.env) st' (wpX T (.loc 0) st'):=fun c' A f' r' st'=>okX T (.loc 0) cf (.Name s0 ps) h3 tb f' r' st'
 have x1:∀ (c':Cx) (A:Around),Fits w cf c'→Room A L→∀ st',Sx c' A (eval (.Name r1 p1) c'.env) st' (wpX T (.loc 1) st'):=fun c' A f' r' st'=>okX T (.loc 1) cf (.Name r1 p1) h2 tb f' r' st'
 have lp:=Sf.forF (t:=.one 1) (te:=.Name r0 p0) (body:=[.Expr (.Call (.Attribute (.Name s0 ps) (nm 85) ap) [.Name r1 p1] [] cp) ep]) (pos:=fp) (W:=bodyW T) r.1 gl rfl (.one (nameAt_ok f h1).1) fun c' e1 e2 e3 e4 st'=>by
  have f':=f.again e1 e2 e3 e4
  have fw':=f'.w
  have m:=Sx.meth (k:=85) (f:=245) (σ:=[0,1,2]) (pt:=putPT) (L:=L) (apos:=ap) (pos:=cp) (x0 c' A f' r st') (x1 c' A f' r) rfl rfl i4 (by rw [fw']; kernel_rfl) (by rw [fw']; kernel_rfl) (by rw [fw']; kernel_rfl) (by rw [fw']; kernel_rfl) (by rw [fw']; exact hput) r (by decide) h7
  exact (Sf.cons (Sf.run2 m rfl) fun st2=>Sf.nil).of fun K k=>by
   unfold bodyW at k
   exact k
 exact (Sf.cons (Sf.fz0 (k:=0) lp) fun st2=>Sf.nil).of fun K k=>by
  unfold loopW at k
  exact ⟨rfl,k⟩
theorem fn_runW {w:World} {L:Nat} {f:Addr} {fd:FuncData} {body:List Stmt} (ns:List Nat) (n:Nat) (W:St→(FD→St→Prop)→Prop) {pt:PT}
  (ho:∃ o,(KF w.params).lookup f = some o∧o.data = .func fd) (hcd:codeIn (KF w.params) fd.code fd.qualname = true) (hb:fd.body = .stmts body)
  (hbind:∀ vs:List Value,vs.length = n→bindArgs fd ⟨vs,[]⟩ = pure (((ns.map nm).take n).zip vs)) (hf:chkFn fd ns n = true) (hW:∀ (c:Cx) (A:Around),Fits w ⟨ns,[],fd.scope⟩ c→Room A L→∀ st,Sf c A (execs body c.env) st (W st))
  (hpt:∀ ds mu K,pt ds mu K→ds.length = n∧∃ ex:List Nat,A3 ((List.range mu.length++ex).Nodup) (∀ i∈ex,mu.length≤i) (W ⟨ds.map some++List.replicate (ns.length - n) none,mu⟩ (endK mu.length ex K))):CallOK w (L + 1) (.ref f) pt:=by
 unfold chkFn at hf
 refine and_el hf fun g g9=>?_
 refine and_el g fun g g8=>?_
 refine and_el g fun g g7=>?_
 refine and_el g fun g g6=>?_
 refine and_el g fun g g5=>?_
 refine and_el g fun g g4=>?_
 refine and_el g fun g g3=>?_
 refine and_el g fun g1 g2=>?_
 have nl:∀ k∈ns,k < nmL.length∧fd.scope.names.lookup (nm k) = some .local:=fun k hk=>by
  refine and_el (List.all_eq_true.mp g5 k hk) fun y1 y2=>?_
  exact ⟨by rw [nmL_len]; exact Nat.le_of_ble_eq_true y1,eq_of_beq y2⟩
 refine fn_ok (names:=ns.map nm) (n:=n) W ho hcd hb hbind ?_ (by simpa using g2) (by simpa using g3) (eq_of_beq g4) ?_ (nm_nodup (fun k hk=>(nl k hk).1) (nodupB_ok g6)) (by rw [List.length_map]; exact Nat.le_of_ble_eq_true g7) (eq_of_beq g8) (eq_of_beq g9) ?_ ?_
 ·intro x hx e
  have:=List.all_eq_true.mp g1 x hx
  rw [e] at this
  simp at this
 ·intro y hy
  obtain ⟨k,hk,rfl⟩:=List.mem_map.mp hy
  exact (nl k hk).2
 ·intro c A e1 e2 e3 e4 r st
  exact hW c A ⟨e1,e2,e3,e4⟩ r st
 ·intro ds mu K h
  obtain ⟨a,ex,b,c,d⟩:=hpt ds mu K h
  exact ⟨a,ex,b,c,by rw [List.length_map]; exact d⟩
noncomputable def tabF0:F:=.inst 248 [] []
noncomputable def tabIPT:PT:=fun ds mu K=>ds = [.ref 0]∧mu = [some (.inst 248 [] [])]∧K (.fro .none) [some (.fz tabF0)]
noncomputable def tabR:List (Option M):=[some (.fz (.lst [.none])),some (.fz (.lst [])),some (.fz (.lst [])),some (.fz (.lst [])),some (.fz (.dic [] [])),some (.fz (.dic [] []))]
theorem body_one {T:Tb} {l:List Nat} {k:Nat} {K:FD→St→Prop} {f:F} (e:rowF k = f) (hk:k < 16) (hn:l.contains k = false) (hl:l.length≤100) (g:K .next ⟨[some (.ref 0),some (.fro f)],tabM (l++[k])++tabR⟩):bodyW T ⟨[some (.ref 0),some (.fro f)],tabM l++tabR⟩ K:=by
 subst e
 unfold bodyW
 refine x_locR (m:=.inst 248 tabKs tabL) rfl rfl ⟨⟨rfl,rfl⟩,x_loc rfl ?_⟩
 refine ⟨tab_ok,?_⟩
 show putPT [.ref 0,.fro (rowF k)] (remS [0,1,2] (tabM l++tabR)) _
 rw [tab_rem]
 refine ⟨l,k,rfl,rfl,hk,hn,hl,?_⟩
 show K .next ⟨[some (.ref 0),some (.fro (rowF k))],wbM [0,1,2] (tabM (l++[k])) (tabM l++tabR)⟩
 rw [tab_wb]
 exact g
theorem setT_one {i:Nat} {f:F} {st:St} {K:St→Prop}:setT (.one i) f st K = K { st with loc:=st.loc.set i (some (.fro f)) }:=by unfold setT; rfl
theorem p_cons {T:Tb} {ok:Nat→Nat→Bool} {Wl:St→(FD→St→Prop)→Prop} {y:Y} {r:List Y} {st:St} {K:FD→St→Prop} (h:wpY T ok y st (fun fd st'=>match fd with
  | .next=>wpPre T ok Wl r st' K
  | fd=>K fd st')):wpPre T ok Wl (y :: r) st K:=h
theorem p_setA {T:Tb} {ok:Nat→Nat→Bool} {Wl:St→(FD→St→Prop)→Prop} {o v:X} {k:Nat} {r:List Y} {st:St} {K:FD→St→Prop} (h:wpX T v st fun d st1=>wpX T o st1 fun y st2=>setAD ok y k d st2 fun st'=>wpPre T ok Wl r st' K):wpPre T ok Wl (.setA o k v :: r) st K :=
 p_cons (y_setA h)
theorem loop_go {T:Tb} {K:FD→St→Prop}:∀ (n k:Nat) {v:Option D},n + k = 16→(∀ v,K .next ⟨[some (.ref 0),v],tabM (List.range 16)++tabR⟩)→forW (.one 1) (bodyW T) (rowsF.drop k) ⟨[some (.ref 0),v],tabM (List.range k)++tabR⟩ K
 | 0,k,v,e,g=>by
  obtain rfl:k = 16:=by omega
  exact g v
 | n + 1,k,v,e,g=>by
  have hk:k < 16:=by omega
  have hd:rowsF.drop k = rowF k :: rowsF.drop (k + 1):=by
   have:∀ k,k < 16→rowsF[k]? = some (rowF k):=by
    intro k hk
    unfold rowF
    rw [List.getD_eq_getElem?_getD,List.getElem?_eq_getElem (show k < rowsF.length from hk)]; rfl
   obtain ⟨h1,h2⟩:=List.getElem?_eq_some_iff.mp (this k hk)
   rw [List.drop_eq_getElem_cons h1,h2]
  rw [hd]
  unfold forW
  rw [setT_one]
  dsimp only [List.set_cons_zero,List.set_cons_succ]
  refine body_one rfl hk (by simp) (by rw [List.length_range]; omega) ?_
  rw [← List.range_succ]
  exact loop_go n (k + 1) (by omega) g
noncomputable def fd_tab:FuncData:=⟨s45,s454,a58_0,(.stmts b58_0),c58_0,3,[],.none,.none,.none,(.str s88 518),none,(.ref 230),.none,0⟩
theorem tabI_ok {w:World} {L:Nat} {Γ:Nat→PT} (h1:1≤L) (hΓ:∀ y∈callT,CallOK w L (.ref y.2) (Γ y.2)) (hput:CallOK w L (.ref 245) putPT):CallOK w (L + 1) (.ref 231) tabIPT:=by
 have hc:chkPre (mkTb Γ) (chkLoop ⟨[38,82],[],c58_0⟩) ⟨[38,82],[],c58_0⟩ tabYs b58_0 = true:=by kernel_rfl
 refine fn_runW (fd:=fd_tab) (body:=b58_0) [38,82] 1 (wpPre (mkTb Γ) okS (loopW (mkTb Γ)) tabYs) ⟨o231 w.params,by kernel_rfl,rfl⟩ (by kernel_rfl) rfl (len1 fun _=>by kernel_rfl) (by kernel_rfl) (fun c A f r st=>okPre (mkOK h1 hΓ) f r (okLoop (mkOK h1 hΓ) f r hput) tabYs b58_0 hc st) fun ds mu K h=>?_
 obtain ⟨rfl,rfl,hK⟩:=h
 refine ⟨rfl,[],(by decide:(List.range 1++[]).Nodup),by simp,?_⟩
 show wpPre (mkTb Γ) okS (loopW (mkTb Γ)) tabYs ⟨[some (.ref 0),none],[some (.inst 248 [] [])]⟩ (endK 1 [] K)
 unfold tabYs
 refine p_setA (x_mlst (xs_nil (t_mlst rfl (x_locR rfl rfl (v_setNewR rfl rfl rfl rfl rfl rfl ?_)))))
 refine p_setA (x_dict0 (x_locR rfl rfl (v_setNewR rfl rfl rfl rfl rfl rfl ?_)))
 refine p_setA (x_frz (x_mlst (xs_cons (x_none (xs_nil (t_mlst rfl (f_new rfl (x_locR rfl rfl (v_setNew rfl rfl rfl rfl rfl ?_)))))))))
 refine p_setA (x_frz (x_mlst (xs_nil (t_mlst rfl (f_new rfl (x_locR rfl rfl (v_setNew rfl rfl rfl rfl rfl ?_)))))))
 refine p_setA (x_frz (x_mlst (xs_nil (t_mlst rfl (f_new rfl (x_locR rfl rfl (v_setNew rfl rfl rfl rfl rfl ?_)))))))
 refine p_setA (x_frz (x_mlst (xs_nil (t_mlst rfl (f_new rfl (x_locR rfl rfl (v_setNew rfl rfl rfl rfl rfl ?_)))))))
 refine p_setA (x_frz (x_dict0 (f_new rfl (x_locR rfl rfl (v_setNew rfl rfl rfl rfl rfl ?_)))))
 refine p_setA (x_frz (x_dict0 (f_new rfl (x_locR rfl rfl (v_setNew rfl rfl rfl rfl rfl ?_)))))
 refine p_setA (x_int (x_locR rfl rfl (v_setNew rfl rfl rfl rfl rfl ?_)))
 refine p_setA (x_int (x_locR rfl rfl (v_setNew rfl rfl rfl rfl rfl ?_)))
 show forW (.one 1) (bodyW (mkTb Γ)) (rowsF.drop 0) ⟨[some (.ref 0),none],tabM (List.range 0)++tabR⟩ _
 refine loop_go 16 0 rfl fun v=>?_
 show endK 1 [] K .next ⟨[some (.ref 0),v],some (.fz tabF0) :: some (.lst ((List.range 16).map fun k=>D.fro (rowF k))) :: some (.rd (List.range 16)) :: tabR⟩
 exact ⟨rfl,hK⟩
theorem tab_cls {w:World} {L:Nat} (h:CallOK w (L + 1) (.ref 231) tabIPT):CallOK w (L + 1 + 1) (.ref 248) tabPT:=by
 have hc:=cls_ok (fI:=231) (pI:=tabIPT) (C:=248) (by kernel_rfl) (by kernel_rfl) (by kernel_rfl) h
 intro A s p mu ds vs K Q room x dn hp k
 unfold tabPT at hp
 obtain ⟨rfl,rfl,hK⟩:=hp
 refine hc A s p [] [] vs (fun d mu'=>d = .ref 0∧mu' = [some (.fz tabF0)]) Q room x dn ⟨rfl,rfl,rfl,rfl,rfl,rfl⟩ fun d mu' q v h' tk hd bk dv=>?_
 obtain ⟨rfl,rfl⟩:=hd
 have x1:=x.len1
 have hρ:p.ρ = []:=by simpa using x1.symm
 obtain ⟨a,e1,rfl⟩:=dv
 obtain ⟨a',fp,y1,y2,y3,y4⟩:=bk.at_.mus 0 _ rfl
 rw [e1] at y1
 cases y1
 refine k (.fro tabF0) [] ⟨[],[],q.G⟩ (.ref a) h' tk hK ?_ y4
 refine ⟨⟨bk.at_.gnd,bk.at_.sub,rfl,rfl,fun k m e=>by simp at e,fun i j fi fj _ e=>by simp at e,fun i fi e=>by simp at e⟩,⟨⟨[],by rw [hρ]; rfl⟩,bk.ext.2⟩,bk.new,bk.keep,bk.live,fun i fi e=>by simp at e⟩
noncomputable def augK (y z:D) (KY:FD→St→Prop) (old x:D) (st:St):Prop:=match old,x with
 | .fro (.int a),.fro (.int b)=>setD y z (.fro (.int (a + b))) st fun st'=>KY .next st'
 | _,_=>False
theorem y_aug {Γ:Nat→PT} {o i v:X} {st:St} {KY:FD→St→Prop} (g:wpX (mkTb Γ) o st fun y st1=>wpX (mkTb Γ) i st1 fun z st2=>idxD y z st2 fun old=>wpX (mkTb Γ) v st2 fun x st3=>augK y z KY old x st3):wpY (mkTb Γ) okS (.aug o i v) st KY:=g
theorem t_aug {y z:D} {a b:Int} {st:St} {KY:FD→St→Prop} (g:setD y z (.fro (.int (a + b))) st fun st'=>KY .next st'):augK y z KY (.fro (.int a)) (.fro (.int b)) st:=g
section
variable {a a' n n':Int} {row:List Int} {rest:List (Option M)} {loc:List (Option D)} {KT:St→Prop}
theorem d_at (g:KT ⟨loc,some (dM a' row n) :: rest⟩):setD (.ref 0) (.fro (.str 43)) (.fro (.int a')) ⟨loc,some (dM a row n) :: rest⟩ KT:=SetD.dic rfl rfl g
theorem d_n (g:KT ⟨loc,some (dM a row n') :: rest⟩):setD (.ref 0) (.fro (.str 44)) (.fro (.int n')) ⟨loc,some (dM a row n) :: rest⟩ KT:=SetD.dic rfl rfl g
end
theorem has_ok {w:World} {L:Nat} {Γ:Nat→PT} (h1:1≤L) (hΓ:∀ y∈callT,CallOK w L (.ref y.2) (Γ y.2)):CallOK w (L + 1) (.ref 49) hasPT:=by
 refine run_has h1 hΓ fun ds mu K h=>?_
 obtain ⟨k,a,ks,fl,at_,nid,g,rfl,rfl,hK⟩:=h
 refine ⟨rfl,[],by decide,by simp,?_⟩
 show wpYs _ _ y_has ⟨[some (.fro (nodeF k a ks fl at_ nid)),some (.fro (.int g))],[]⟩ (endK 0 [] K)
 unfold y_has
 refine ys_cons (y_ret (x_cmp (x_bin (x_attr (x_loc rfl (n_flags (x_loc rfl (v_band (x_int (c_ne (s_ret (e_ret rfl rfl ?_))))))))))))
 exact hK
theorem pull_ok {w:World} {L:Nat} {Γ:Nat→PT} (h1:1≤L) (hΓ:∀ y∈callT,CallOK w L (.ref y.2) (Γ y.2)):CallOK w (L + 1) (.ref 624) pullPT:=by
 refine run_law_pull h1 hΓ fun ds mu K h=>?_
 obtain ⟨a,n,row,rfl,rfl,ha,hr,hK⟩:=h
 refine ⟨rfl,[],by simp,by simp,?_⟩
 show wpYs _ _ y_law_pull ⟨[some (.ref 0),none,none],[some (dM a row n)]⟩ (endK 1 [] K)
 unfold y_law_pull
 refine ys_cons (y_assign (x_idx (x_locR rfl rfl (x_str (i_mdic rfl rfl (s_asg ?_))))))
 refine s_next (ys_cons (y_setI (x_bin (x_loc rfl (x_int (v_add (x_locR rfl rfl (x_str ?_))))))))
 refine d_at ?_
 refine s_next (ys_cons (y_assign (x_ite (b_cmp (x_loc rfl (x_len (x_idx (x_locR rfl rfl (x_str (i_mdic rfl rfl ?_))))))))))
 refine .inl ⟨_,rfl,by rw [List.length_map]; omega,?_⟩
 rw [List.length_map]
 refine c_lt ?_
 refine if_by (fun hlt=>?_) (fun hlt=>?_)
 ·have hlt:=of_decide_eq_true hlt
  obtain ⟨m,rfl⟩:∃ m:Nat,a = (m:Int):=⟨a.toNat,by omega⟩
  have hm:m < row.length:=by omega
  refine x_idx (x_idx (x_locR rfl rfl (x_str (i_mdic rfl rfl (x_loc rfl ?_)))))
  refine i_lst (idxL_int hm (by omega)) ?_
  refine s_asg ?_
  refine s_next (ys_cons (y_ret (x_bin (x_loc rfl (x_int (v_mod (by decide) (s_ret (e_ret rfl rfl ?_))))))))
  exact hK _ (fmod_rng _).1 (fmod_rng _).2
 ·refine x_bin (x_bin (x_loc rfl (x_int (v_mulR (by decide) (x_int (v_add (s_asg ?_)))))))
  refine s_next (ys_cons (y_ret (x_bin (x_loc rfl (x_int (v_mod (by decide) (s_ret (e_ret rfl rfl ?_))))))))
  exact hK _ (fmod_rng _).1 (fmod_rng _).2
theorem nodeI_ok {w:World} {L:Nat} {Γ:Nat→PT} (h1:1≤L) (hΓ:∀ y∈callT,CallOK w L (.ref y.2) (Γ y.2)):CallOK w (L + 1) (.ref 35) nodeIPT:=by
 refine run_Node h1 hΓ fun ds mu K h=>?_
 obtain ⟨k,a,ks,fl,at_,rfl,rfl,hK⟩:=h
 refine ⟨rfl,[],by simp,by simp,?_⟩
 show wpYs _ _ y_Node ⟨[some (.ref 0),some (.fro (.int k)),some (.fro (.str a)),some (.fro (.lst ks)),some (.fro (.int fl)),some (.fro (.int at_))],[some (.inst 38 [] [])]⟩ (endK 1 [] K)
 unfold y_Node
 refine ys_cons (y_setA (x_loc rfl (x_locR rfl rfl (v_setNew rfl rfl rfl rfl rfl ?_))))
 refine s_next (ys_cons (y_setA (x_loc rfl (x_locR rfl rfl (v_setNew rfl rfl rfl rfl rfl ?_)))))
 refine s_next (ys_cons (y_setA (x_loc rfl (x_locR rfl rfl (v_setNew rfl rfl rfl rfl rfl ?_)))))
 refine s_next (ys_cons (y_setA (x_loc rfl (x_locR rfl rfl (v_setNew rfl rfl rfl rfl rfl ?_)))))
 refine s_next (ys_cons (y_setA (x_loc rfl (x_locR rfl rfl (v_setNew rfl rfl rfl rfl rfl ?_)))))
 refine s_next (ys_cons (y_setA (x_int (x_locR rfl rfl (v_setNew rfl rfl rfl rfl rfl ?_)))))
 refine s_next (ys_nil (e_none rfl ?_))
 exact hK
theorem nodeC_ok {w:World} {L:Nat} {Γ:Nat→PT} (h1:1≤L) (hΓ:∀ y∈callT,CallOK w L (.ref y.2) (Γ y.2)):CallOK w (L + 1 + 1) (.ref 38) nodeCPT:=by
 refine (cls_ok (fI:=35) (by kernel_rfl) (by kernel_rfl) (by kernel_rfl) (nodeI_ok h1 hΓ)).of fun ds mu K h=>?_
 obtain ⟨k,a,ks,fl,at_,rfl,rfl,hK⟩:=h
 exact ⟨rfl,k,a,ks,fl,at_,rfl,rfl,rfl,hK⟩
theorem node_ok {w:World} {L:Nat} {Γ:Nat→PT} (h1:1≤L) (hΓ:∀ y∈callT,CallOK w L (.ref y.2) (Γ y.2)) (hN:Γ 38 = nodeCPT):CallOK w (L + 1) (.ref 631) nodePT:=by
 refine run_law_node h1 hΓ fun ds mu K h=>?_
 obtain ⟨k,a,ks,fl,p,row,n,rfl,rfl,hK⟩:=h
 refine ⟨rfl,[],by simp,by simp,?_⟩
 show wpYs _ _ y_law_node ⟨[some (.ref 0),some (.fro (.int k)),some (.fro (.str a)),some (.fro (.lst ks)),some (.fro (.int fl)),none],[some (dM p row n)]⟩ (endK 1 [] K)
 unfold y_law_node
 refine ys_cons ?_
 refine y_aug ?_
 refine x_locR rfl rfl (x_str (i_mdic rfl rfl (x_int ?_)))
 refine t_aug (d_n ?_)
 refine s_next (ys_cons (y_assign (x_call rfl (xs_cons (x_loc rfl (xs_cons (x_loc rfl (xs_cons (x_loc rfl (xs_cons (x_loc rfl (xs_cons (x_bin (x_int (x_idx (x_locR rfl rfl (x_str (i_mdic rfl rfl (v_mulL (by decide) (xs_nil ?_))))))))))))))))))))
 refine t_0 hN rfl ⟨k,a,ks,fl,_,rfl,rfl,?_⟩
 show asgK _ _ (.ref 1) ⟨[some (.ref 0),some (.fro (.int k)),some (.fro (.str a)),some (.fro (.lst ks)),some (.fro (.int fl)),none],[some (dM p row (n + 1)),some (M.inst 38 [39,40,41,42,43,44]
  [D.fro (F.int k),D.fro (F.str a),D.fro (F.lst ks),D.fro (F.int fl),D.fro (F.int (3 * (n + 1))),D.fro (F.int 0)])]⟩
 refine s_asg ?_
 refine s_next (ys_cons (y_setA (x_idx (x_locR rfl rfl (x_str (i_mdic rfl rfl (x_locR rfl rfl ?_)))))))
 refine v_setA rfl rfl rfl ?_
 show seqK _ _ _ _ _ ⟨[some (.ref 0),some (.fro (.int k)),some (.fro (.str a)),some (.fro (.lst ks)),some (.fro (.int fl)),some (.ref 1)],[some (dM p row (n + 1)),some (M.inst 38 [39,40,41,42,43,44]
  [D.fro (F.int k),D.fro (F.str a),D.fro (F.lst ks),D.fro (F.int fl),D.fro (F.int (3 * (n + 1))),D.fro (F.int (n + 1))])]⟩
 refine s_next (ys_ghost rfl rfl ?_)
 dsimp only [List.set_cons_zero,List.set_cons_succ]
 refine ys_cons (y_ret (x_locF rfl rfl (s_ret (e_ret rfl rfl ?_))))
 exact hK
theorem func_ok {w:World} {L:Nat} {Γ:Nat→PT} (h1:1≤L) (hΓ:∀ y∈callT,CallOK w L (.ref y.2) (Γ y.2)) (hN:Γ 631 = nodePT):CallOK w (L + 1) (.ref 638) funcPT:=by
 refine run_law_func h1 hΓ fun ds mu K h=>?_
 obtain ⟨name,flags,params,body,p,row,n,rfl,rfl,hK⟩:=h
 refine ⟨rfl,[],by simp,by simp,?_⟩
 cases body
 ·show wpYs _ _ y_law_func ⟨[some (.ref 0),some (.fro (.str name)),some (.fro (.int flags)),some (.fro (.lst params)),some (.fro (.bool false)),none],[some (dM p row n)]⟩ (endK 1 [] K)
  unfold y_law_func
  refine ys_cons (y_assign (x_ite (b_tru (x_loc rfl (u_b (if_f (x_none (s_asg ?_))))))))
  refine s_next (ys_cons (y_ret (x_call rfl (xs_cons (x_locR rfl rfl (xs_cons (x_glob rfl (xs_cons (x_loc rfl (xs_cons (x_lst (xs_cons (x_none (xs_cons (x_call rfl (xs_cons (x_locR rfl rfl (xs_cons (x_glob rfl (xs_cons (x_str (xs_cons (x_loc rfl (xs_cons (x_int (xs_nil (call_node (by assumption) (xs_cons (x_none (xs_cons (x_loc rfl (xs_nil (t_lst rfl rfl (xs_cons (x_loc rfl (xs_nil (call_node (by assumption) (s_ret (e_ret rfl rfl ?_)))))))))))))))))))))))))))))))))))))))
  exact hK
 ·show wpYs _ _ y_law_func ⟨[some (.ref 0),some (.fro (.str name)),some (.fro (.int flags)),some (.fro (.lst params)),some (.fro (.bool true)),none],[some (dM p row n)]⟩ (endK 1 [] K)
  unfold y_law_func
  refine ys_cons (y_assign (x_ite (b_tru (x_loc rfl (u_b (if_t (x_call rfl (xs_cons (x_locR rfl rfl (xs_cons (x_glob rfl (xs_cons (x_str (xs_cons (x_lst (xs_nil (t_lst rfl rfl (xs_cons (x_int (xs_nil (call_node (by assumption) (s_asg ?_))))))))))))))))))))))
  refine s_next (ys_cons (y_ret (x_call rfl (xs_cons (x_locR rfl rfl (xs_cons (x_glob rfl (xs_cons (x_loc rfl (xs_cons (x_lst (xs_cons (x_none (xs_cons (x_call rfl (xs_cons (x_locR rfl rfl (xs_cons (x_glob rfl (xs_cons (x_str (xs_cons (x_loc rfl (xs_cons (x_int (xs_nil (call_node (by assumption) (xs_cons (x_none (xs_cons (x_loc rfl (xs_nil (t_lst rfl rfl (xs_cons (x_loc rfl (xs_nil (call_node (by assumption) (s_ret (e_ret rfl rfl ?_)))))))))))))))))))))))))))))))))))))))
  exact hK
set_option maxHeartbeats 8000000 in
theorem param_ok {w:World} {L:Nat} {Γ:Nat→PT} (h1:1≤L) (hΓ:∀ y∈callT,CallOK w L (.ref y.2) (Γ y.2)) (hN:Γ 631 = nodePT):CallOK w (L + 1) (.ref 645) paramPT:=by
 refine run_law_param h1 hΓ fun ds mu K h=>?_
 obtain ⟨q,p,row,n,rfl,rfl,hK⟩:=h
 refine ⟨rfl,[],by simp,by simp,?_⟩
 show wpYs _ _ y_law_param ⟨[some (.ref 0),some (.fro (.int q)),none,none,none,none,none,none],[some (dM p row n)]⟩ (endK 1 [] K)
 unfold y_law_param
 refine ys_cons (y_assign (x_pick (x_bin (x_loc rfl (x_int (v_mod (by decide) ?_))))))
 refine p_pick (nm_at q) ?_
 refine s_asg ?_
 refine s_next (ys_cons (y_assign (x_bin (x_bin (x_loc rfl (x_int (v_fdiv (by decide) (x_int (v_mod (by decide) (s_asg ?_))))))))))
 refine s_next (ys_cons (y_assign (x_idx (x_tup (xs_cons (x_glob rfl (xs_cons (x_int (xs_cons (x_glob rfl (xs_cons (x_glob rfl (xs_cons (x_glob rfl (xs_cons (x_bin (x_glob rfl (x_glob rfl (v_add (xs_cons (x_glob rfl (xs_cons (x_glob rfl (xs_nil (t_tup rfl rfl (x_loc rfl ?_))))))))))))))))))))))))))
 refine i_tup (word_at _) ?_
 have e8:=fm8 (q.fdiv 2)
 have hm:nmq q = 213∨nmq q = 214:=by unfold nmq; split <;> simp
 have key:∀ {nn:Int} {kk ka ks kf kat knid},n < nn→kk ≠ 8→hasB (wordOf (q.fdiv 2)) 245760 = hasB (wordOf (q.fdiv 2)) 245760 →
   K (.fro (.tup [nodeF 28 75 [nodeF kk ka ks kf kat knid,.none,.none] (wordOf (q.fdiv 2)) (3 * nn) nn,.str 228])) [some (dM p row nn)] :=
  fun h1 h2 _=>hK _ _ _ h1 ⟨_,_,_,_,_,_,_,_,_,rfl,by simp,by simp [h2],fun h=>absurd rfl h⟩
 have key2:K (.fro (.tup [nodeF 28 75 [nodeF 8 (nmq q) [] 0 (3 * (n + 1)) (n + 1),.none,.none] (wordOf (q.fdiv 2)) (3 * (n + 1 + 1)) (n + 1 + 1),.str (if [(0:Int),2,3,4,5].any (fun x=>x == (q.fdiv 2).fmod 8) = true then nmq q else 228)])) [some (dM p row (n + 1 + 1))]:=by
  refine hK _ _ _ (by omega) ⟨_,_,_,_,_,_,_,_,_,rfl,?_,?_,fun h=>?_⟩
  ·split
   ·rcases hm with e | e <;> simp [e]
   ·simp
  ·rw [word_has]
   rcases e8 with e | e | e | e | e | e | e | e <;> rw [e] <;> rcases hm with h | h <;> simp [h]
  ·split
   ·rfl
   ·rename_i hc; rw [if_neg hc] at h; exact absurd rfl h
 rcases fm4 (q.fdiv 16) with e4 | e4 | e4 | e4
 ·refine s_asg ?_
  refine s_next (ys_cons (y_assign (x_bin (x_bin (x_loc rfl (x_int (v_fdiv (by decide) (x_int (v_mod (by decide) (s_asg ?_))))))))))
  refine s_next (ys_cons (y_assign (x_call rfl (xs_cons (x_locR rfl rfl (xs_cons (x_glob rfl (xs_cons (x_loc rfl (xs_cons (x_lst (xs_nil (t_lst rfl rfl (xs_cons (x_int (xs_nil (call_node (by assumption) (s_asg ?_))))))))))))))))))
  refine s_next (ys_cons (y_ite (b_cmp (x_loc rfl (x_int (c_eq ?_))))))
  rw [e4]
  refine if_F (by decide) (ys_nil (s_next (ys_cons (y_ite (b_cmp (x_loc rfl (x_int (c_eqF (by decide) (if_f (ys_nil (s_next (ys_cons (y_assign (x_ite (b_and (a_cons (b_cmp (x_loc rfl (x_int (c_lt (if_T (by decide) (a_cons (b_cmp2 (x_loc rfl (x_tup (xs_cons (x_int (xs_cons (x_int (xs_cons (x_int (xs_cons (x_int (xs_cons (x_int (xs_nil (t_tup rfl rfl (e_inT rfl ?_))))))))))))))))))))))))))))))))))))))
  refine if_by (fun hc=>?_) (fun hc=>?_)
  ·refine a_nil (if_t (x_loc rfl (s_asg ?_)))
   refine s_next (ys_cons (y_ret (x_tup (xs_cons (x_call rfl (xs_cons (x_locR rfl rfl (xs_cons (x_glob rfl (xs_cons (x_str (xs_cons (x_lst (xs_cons (x_loc rfl (xs_cons (x_none (xs_cons (x_none (xs_nil (t_lst rfl rfl (xs_cons (x_loc rfl (xs_nil (call_node (by assumption) (xs_cons (x_loc rfl (xs_nil (t_tup rfl rfl (s_ret (e_ret rfl rfl ?_)))))))))))))))))))))))))))))))
   rw [if_pos hc] at key2; exact key2
  ·refine if_f (x_str (s_asg ?_))
   refine s_next (ys_cons (y_ret (x_tup (xs_cons (x_call rfl (xs_cons (x_locR rfl rfl (xs_cons (x_glob rfl (xs_cons (x_str (xs_cons (x_lst (xs_cons (x_loc rfl (xs_cons (x_none (xs_cons (x_none (xs_nil (t_lst rfl rfl (xs_cons (x_loc rfl (xs_nil (call_node (by assumption) (xs_cons (x_loc rfl (xs_nil (t_tup rfl rfl (s_ret (e_ret rfl rfl ?_)))))))))))))))))))))))))))))))
   rw [if_neg (by rw [hc]; decide)] at key2; exact key2
 ·refine s_asg ?_
  refine s_next (ys_cons (y_assign (x_bin (x_bin (x_loc rfl (x_int (v_fdiv (by decide) (x_int (v_mod (by decide) (s_asg ?_))))))))))
  refine s_next (ys_cons (y_assign (x_call rfl (xs_cons (x_locR rfl rfl (xs_cons (x_glob rfl (xs_cons (x_loc rfl (xs_cons (x_lst (xs_nil (t_lst rfl rfl (xs_cons (x_int (xs_nil (call_node (by assumption) (s_asg ?_))))))))))))))))))
  refine s_next (ys_cons (y_ite (b_cmp (x_loc rfl (x_int (c_eq ?_))))))
  rw [e4]
  refine if_F (by decide) (ys_nil (s_next (ys_cons (y_ite (b_cmp (x_loc rfl (x_int (c_eqF (by decide) (if_f (ys_nil (s_next (ys_cons (y_assign (x_ite (b_and (a_cons (b_cmp (x_loc rfl (x_int (c_lt (if_T (by decide) (a_cons (b_cmp2 (x_loc rfl (x_tup (xs_cons (x_int (xs_cons (x_int (xs_cons (x_int (xs_cons (x_int (xs_cons (x_int (xs_nil (t_tup rfl rfl (e_inT rfl ?_))))))))))))))))))))))))))))))))))))))
  refine if_by (fun hc=>?_) (fun hc=>?_)
  ·refine a_nil (if_t (x_loc rfl (s_asg ?_)))
   refine s_next (ys_cons (y_ret (x_tup (xs_cons (x_call rfl (xs_cons (x_locR rfl rfl (xs_cons (x_glob rfl (xs_cons (x_str (xs_cons (x_lst (xs_cons (x_loc rfl (xs_cons (x_none (xs_cons (x_none (xs_nil (t_lst rfl rfl (xs_cons (x_loc rfl (xs_nil (call_node (by assumption) (xs_cons (x_loc rfl (xs_nil (t_tup rfl rfl (s_ret (e_ret rfl rfl ?_)))))))))))))))))))))))))))))))
   rw [if_pos hc] at key2; exact key2
  ·refine if_f (x_str (s_asg ?_))
   refine s_next (ys_cons (y_ret (x_tup (xs_cons (x_call rfl (xs_cons (x_locR rfl rfl (xs_cons (x_glob rfl (xs_cons (x_str (xs_cons (x_lst (xs_cons (x_loc rfl (xs_cons (x_none (xs_cons (x_none (xs_nil (t_lst rfl rfl (xs_cons (x_loc rfl (xs_nil (call_node (by assumption) (xs_cons (x_loc rfl (xs_nil (t_tup rfl rfl (s_ret (e_ret rfl rfl ?_)))))))))))))))))))))))))))))))
   rw [if_neg (by rw [hc]; decide)] at key2; exact key2
 ·refine s_asg ?_
  refine s_next (ys_cons (y_assign (x_bin (x_bin (x_loc rfl (x_int (v_fdiv (by decide) (x_int (v_mod (by decide) (s_asg ?_))))))))))
  refine s_next (ys_cons (y_assign (x_call rfl (xs_cons (x_locR rfl rfl (xs_cons (x_glob rfl (xs_cons (x_loc rfl (xs_cons (x_lst (xs_nil (t_lst rfl rfl (xs_cons (x_int (xs_nil (call_node (by assumption) (s_asg ?_))))))))))))))))))
  refine s_next (ys_cons (y_ite (b_cmp (x_loc rfl (x_int (c_eq ?_))))))
  rw [e4]
  refine if_T (by decide) (ys_cons (y_assign (x_call rfl (xs_cons (x_locR rfl rfl (xs_cons (x_glob rfl (xs_cons (x_str (xs_cons (x_lst (xs_cons (x_call rfl (xs_cons (x_locR rfl rfl (xs_cons (x_glob rfl (xs_cons (x_loc rfl (xs_cons (x_lst (xs_cons (x_loc rfl (xs_cons (x_none (xs_nil (t_lst rfl rfl (xs_cons (x_int (xs_nil (call_node (by assumption) (xs_nil (t_lst rfl rfl (xs_cons (x_int (xs_nil (call_node (by assumption) (s_asg ?_))))))))))))))))))))))))))))))))))))))
  refine s_next (ys_nil (s_next (ys_cons (y_ite (b_cmp (x_loc rfl (x_int (c_eqF (by decide) (if_f (ys_nil (s_next (ys_cons (y_assign (x_ite (b_and (a_cons (b_cmp (x_loc rfl (x_int (c_lt (if_F (by decide) (if_f (x_str (s_asg ?_))))))))))))))))))))))))
  refine s_next (ys_cons (y_ret (x_tup (xs_cons (x_call rfl (xs_cons (x_locR rfl rfl (xs_cons (x_glob rfl (xs_cons (x_str (xs_cons (x_lst (xs_cons (x_loc rfl (xs_cons (x_none (xs_cons (x_none (xs_nil (t_lst rfl rfl (xs_cons (x_loc rfl (xs_nil (call_node (by assumption) (xs_cons (x_loc rfl (xs_nil (t_tup rfl rfl (s_ret (e_ret rfl rfl ?_)))))))))))))))))))))))))))))))
  exact key (nn:=n + 1 + 1 + 1 + 1) (by omega) (by decide) rfl
 ·refine s_asg ?_
  refine s_next (ys_cons (y_assign (x_bin (x_bin (x_loc rfl (x_int (v_fdiv (by decide) (x_int (v_mod (by decide) (s_asg ?_))))))))))
  refine s_next (ys_cons (y_assign (x_call rfl (xs_cons (x_locR rfl rfl (xs_cons (x_glob rfl (xs_cons (x_loc rfl (xs_cons (x_lst (xs_nil (t_lst rfl rfl (xs_cons (x_int (xs_nil (call_node (by assumption) (s_asg ?_))))))))))))))))))
  refine s_next (ys_cons (y_ite (b_cmp (x_loc rfl (x_int (c_eq ?_))))))
  rw [e4]
  refine if_F (by decide) (ys_nil (s_next (ys_cons (y_ite (b_cmp (x_loc rfl (x_int (c_eqT (by decide) (if_t (ys_cons (y_assign (x_call rfl (xs_cons (x_locR rfl rfl (xs_cons (x_glob rfl (xs_cons (x_str (xs_cons (x_lst (xs_cons (x_call rfl (xs_cons (x_locR rfl rfl (xs_cons (x_glob rfl (xs_cons (x_str (xs_cons (x_lst (xs_cons (x_loc rfl (xs_cons (x_none (xs_nil (t_lst rfl rfl (xs_cons (x_int (xs_nil ?_)))))))))))))))))))))))))))))))))))))))
  refine call_node (by assumption) (xs_nil (t_lst rfl rfl (xs_cons (x_int (xs_nil (call_node (by assumption) (s_asg ?_)))))))
  refine s_next (ys_nil (s_next (ys_cons (y_assign (x_ite (b_and (a_cons (b_cmp (x_loc rfl (x_int (c_lt (if_F (by decide) (if_f (x_str (s_asg ?_)))))))))))))))
  refine s_next (ys_cons (y_ret (x_tup (xs_cons (x_call rfl (xs_cons (x_locR rfl rfl (xs_cons (x_glob rfl (xs_cons (x_str (xs_cons (x_lst (xs_cons (x_loc rfl (xs_cons (x_none (xs_cons (x_none (xs_nil (t_lst rfl rfl (xs_cons (x_loc rfl (xs_nil (call_node (by assumption) (xs_cons (x_loc rfl (xs_nil (t_tup rfl rfl (s_ret (e_ret rfl rfl ?_)))))))))))))))))))))))))))))))
  exact key (nn:=n + 1 + 1 + 1 + 1) (by omega) (by decide) rfl
noncomputable def never:PT:=fun _ _ _=>False
theorem never_ok {w:World} {L:Nat} {f:Value}:CallOK w L f never:=fun A s p mu ds vs K Q r a b h=>h.elim
noncomputable def gam:List (Nat × PT)→Nat→PT
 | [],_=>never
 | (a,p) :: l,b=>if a = b then p else gam l b
noncomputable def AllOK (w:World) (L:Nat):List (Nat × PT)→Prop
 | []=>True
 | (a,p) :: l=>CallOK w L (.ref a) p∧AllOK w L l
theorem gam_ok {w:World} {L:Nat}:∀ {l:List (Nat × PT)},AllOK w L l→∀ b,CallOK w L (.ref b) (gam l b)
 | [],_,b=>never_ok
 | (a,p) :: l,h,b=>by
  unfold gam
  split
  ·rename_i e; subst e; exact h.1
  ·exact gam_ok h.2 b
theorem gam_all {w:World} {L:Nat} {l:List (Nat × PT)} (h:AllOK w L l):∀ y∈callT,CallOK w L (.ref y.2) (gam l y.2):=fun y _=>gam_ok h y.2
section
variable (w:World)
theorem k_has:CallOK w 2 (.ref 49) hasPT:=has_ok (L:=1) (Nat.le_refl _) (gam_all (l:=[]) trivial)
theorem k_pull:CallOK w 2 (.ref 624) pullPT:=pull_ok (L:=1) (Nat.le_refl _) (gam_all (l:=[]) trivial)
theorem k_lay:CallOK w 2 (.ref 652) layPT:=lay_ok (L:=1) (Nat.le_refl _)
theorem k_nodeC:CallOK w 3 (.ref 38) nodeCPT:=nodeC_ok (L:=1) (Nat.le_refl _) (gam_all (l:=[]) trivial)
theorem k_node:CallOK w 4 (.ref 631) nodePT:=node_ok (L:=3) (by decide) (gam_all (l:=[(38,nodeCPT)]) ⟨k_nodeC w,trivial⟩) rfl
theorem k_func:CallOK w 5 (.ref 638) funcPT:=func_ok (L:=4) (by decide) (gam_all (l:=[(631,nodePT)]) ⟨k_node w,trivial⟩) rfl
theorem k_param:CallOK w 5 (.ref 645) paramPT:=param_ok (L:=4) (by decide) (gam_all (l:=[(631,nodePT)]) ⟨k_node w,trivial⟩) rfl
theorem k_half:CallOK w 6 (.ref 659) halfPT:=half_ok (L:=5) (by decide) (gam_all (l:=[(638,funcPT),(652,layPT)]) ⟨k_func w,(k_lay w).le (by decide),trivial⟩) rfl rfl
theorem k_acc:CallOK w 7 (.ref 666) accPT:=acc_ok (L:=6) (by decide) (gam_all (l:=[(659,halfPT)]) ⟨k_half w,trivial⟩) rfl
theorem k_ctor:CallOK w 6 (.ref 671) ctorPT:=ctor_ok (L:=5) (by decide) (gam_all (l:=[(638,funcPT),(652,layPT),(645,paramPT)]) ⟨k_func w,(k_lay w).le (by decide),k_param w,trivial⟩) rfl rfl rfl
theorem k_deed:CallOK w 8 (.ref 678) deedPT:=deed_ok (L:=7) (by decide) (gam_all (l:=[(624,pullPT),(631,nodePT),(638,funcPT),(652,layPT),(645,paramPT),(666,accPT),(671,ctorPT)])
 ⟨(k_pull w).le (by decide),(k_node w).le (by decide),(k_func w).le (by decide),(k_lay w).le (by decide),(k_param w).le (by decide),k_acc w,(k_ctor w).le (by decide),trivial⟩) rfl rfl rfl rfl rfl rfl rfl
theorem k_class:CallOK w 9 (.ref 685) classPT:=class_ok (L:=8) (by decide) (gam_all (l:=[(631,nodePT),(678,deedPT)]) ⟨(k_node w).le (by decide),k_deed w,trivial⟩) rfl rfl
theorem k_said:CallOK w 6 (.ref 692) saidPT:=said_ok (L:=5) (by decide) (gam_all (l:=[(631,nodePT),(638,funcPT)]) ⟨(k_node w).le (by decide),k_func w,trivial⟩) rfl rfl
theorem k_face:CallOK w 7 (.ref 697) facePT:=face_ok (L:=6) (by decide) (gam_all (l:=[(624,pullPT),(631,nodePT),(692,saidPT)]) ⟨(k_pull w).le (by decide),(k_node w).le (by decide),k_said w,trivial⟩) rfl rfl rfl
theorem k_group:CallOK w 10 (.ref 704) groupPT:=group_ok (L:=9) (by decide) (gam_all (l:=[(624,pullPT),(631,nodePT),(685,classPT),(697,facePT)]) ⟨(k_pull w).le (by decide),(k_node w).le (by decide),k_class w,(k_face w).le (by decide),trivial⟩) rfl rfl rfl rfl
theorem k_isCtor:CallOK w 3 (.ref 56) isCtorPT:=isCtor_ok (L:=2) (by decide) (gam_all (l:=[(49,hasPT)]) ⟨k_has w,trivial⟩) rfl
theorem k_classHas:CallOK w 4 (.ref 70) classHasPT:=classHas_ok (L:=3) (by decide) (gam_all (l:=[(49,hasPT),(56,isCtorPT)]) ⟨(k_has w).le (by decide),k_isCtor w,trivial⟩) rfl rfl
theorem k_promises:CallOK w 5 (.ref 77) promisesPT:=promises_ok (L:=4) (by decide) (gam_all (l:=[(49,hasPT),(70,classHasPT)]) ⟨(k_has w).le (by decide),k_classHas w,trivial⟩) rfl rfl
theorem k_promised:CallOK w 2 (.ref 711) promisedPT:=promised_ok (L:=1) (by decide) (gam_all (l:=[]) trivial)
theorem k_classNode:CallOK w 2 (.ref 63) classNodePT:=classNode_ok (L:=1) (by decide) (gam_all (l:=[]) trivial)
theorem k_lone:CallOK w 3 (.ref 82) lonePT:=lone_ok (L:=2) (by decide) (gam_all (l:=[(49,hasPT)]) ⟨k_has w,trivial⟩) rfl
theorem k_merged:CallOK w 6 (.ref 89) mergedPT:=merged_ok (L:=5) (by decide) (gam_all (l:=[(49,hasPT),(63,classNodePT),(77,promisesPT),(82,lonePT)]) ⟨(k_has w).le (by decide),(k_classNode w).le (by decide),k_promises w,(k_lone w).le (by decide),trivial⟩) rfl rfl rfl rfl
theorem k_sound:CallOK w 6 (.ref 716) soundPT:=sound_ok (L:=5) (by decide) (gam_all (l:=[(70,classHasPT),(77,promisesPT),(82,lonePT),(711,promisedPT)]) ⟨(k_classHas w).le (by decide),k_promises w,(k_lone w).le (by decide),(k_promised w).le (by decide),trivial⟩) rfl rfl rfl rfl
theorem k_due:CallOK w 3 (.ref 721) duePT:=due_ok (L:=2) (by decide) (gam_all (l:=[(711,promisedPT)]) ⟨k_promised w,trivial⟩) rfl
theorem k_thin:CallOK w 3 (.ref 395) thinPT:=thin_ok (L:=1) (by decide) (gam_all (l:=[]) trivial)
theorem k_bound:CallOK w 3 (.ref 416) boundPT:=bound_ok (L:=1) (by decide) (gam_all (l:=[]) trivial)
theorem k_shaper:CallOK w 3 (.ref 493) shaperPT:=shaper_ok (L:=1) (by decide) (gam_all (l:=[]) trivial)
theorem k_diags:CallOK w 3 (.ref 190) diagsPT:=diags_ok (L:=1) (by decide) (gam_all (l:=[]) trivial)
theorem k_namer:CallOK w 5 (.ref 612) namerPT:=namer_ok (L:=3) (by decide) (gam_all (l:=[(451,barePT 451),(493,shaperPT),(528,barePT 528),(556,barePT 556)]) ⟨guess_ok (by decide),k_shaper w,declarer_ok (by decide),checks_ok (by decide),trivial⟩) rfl rfl rfl rfl
theorem k_put:CallOK w 2 (.ref 245) putPT:=put_ok (L:=1) (by decide) (gam_all (l:=[]) trivial)
theorem k_tab:CallOK w 4 (.ref 248) tabPT:=tab_cls (L:=2) (tabI_ok (L:=2) (by decide) (gam_all (l:=[]) trivial) (k_put w))
theorem k_law:CallOK w 11 (.ref 726) lawPT:=law_ok (L:=10) (by decide) (gam_all (l:=[(624,pullPT),(248,tabPT),(190,diagsPT),(395,thinPT),(416,boundPT),(612,namerPT),(704,groupPT),(716,soundPT),(721,duePT),(89,mergedPT)])
 ⟨(k_pull w).le (by decide),(k_tab w).le (by decide),(k_diags w).le (by decide),(k_thin w).le (by decide),(k_bound w).le (by decide),(k_namer w).le (by decide),k_group w,(k_sound w).le (by decide),(k_due w).le (by decide),(k_merged w).le (by decide),trivial⟩) rfl rfl rfl rfl rfl rfl rfl rfl rfl rfl
end
theorem law_run {w:World} {s:Shared} {x:Addr} {vs:List Value} {ns:List Int} {n:Nat} {mg mb:Str→Option Value} (Y:(KF w.params).In s.heap) (g:s.heap.Ns mainGlobals mg) (b:s.heap.Ns builtinsNs mb) (bb:∀ x:Str,x ≠ "__name__"→mb x = bootBuiltins x) (lim:s.heap.NoLimit)
  (hx:s.heap.get? x = some (lobj vs n)) (hI:IntsAre vs ns) (hn:ns.length≤1000) {Q:Value→Shared→Prop} (k:∀ h' tk,(∀ b o,s.heap.get? b = some o→h'.get? b = some o)→Q (.bool true) { s with heap:=h',toks:=tk }) :
  wpAny (model PM w) callerA (call (.ref 726) [.ref x]) Q NoE s:=by
 have at0:SAt w [] ⟨[],[],s.heap⟩ s.heap:=⟨⟨Y,⟨mg,mb,g,b,bb⟩,lim⟩,Le.refl _,rfl,rfl,fun k m e=>by simp at e,fun i j fi fj _ e=>by simp at e,fun i fi e=>by simp at e⟩
 have dn:DenDs w [] s.heap [.fro (.lst (ns.map .int))] [.ref x]:=⟨by show Den _ _ _ _; unfold Den; exact ⟨x,vs,rfl,⟨n,hx⟩,ints_dens hI⟩,trivial⟩
 refine wpAny_call (k_law w callerA s ⟨[],[],s.heap⟩ [] _ _ (fun d mu=>d = .fro (.bool true)∧mu = []) Q ⟨rfl,by decide,by decide⟩ at0 dn ⟨ns,rfl,rfl,hn,rfl,rfl⟩ ?_)
 rintro d mu' q v h' tk ⟨rfl,rfl⟩ bk dv
 have dv':Den w q.G (.bool true) v:=dv
 unfold Den at dv'
 subst dv'
 exact k h' tk fun b o e=>bk.keep b o e (by simp)
theorem law_walk:WalkO qF looseF (fun _ _=>True) (fun w h=>(KF w.params).In h) PySem.Challenge.rw_xw0122_01.row.toRowW lawRec [] fun f vs=>PySem.call f vs:=by
 intro w s₀ s₁ mg mb G Y fa o pm cd doc dV kV ho hd hcd hD hmg hg args vals as hpre hlay hrd hwl hlo
 wrow_args hpre hlay hrd hwl hlo
 rename_i ns _ _ _ _ _ _ _ x vs _ hL _ w1 _ hI _ hlen _
 have T:=G.T
 have e1:mg lawRec.name = some (.ref 726):=mg_of Y T.g (by kernel_rfl)
 have e2:Value.ref fa = .ref 726:=Option.some.inj (hmg.symm.trans e1)
 obtain rfl:fa = 726:=by injection e2
 obtain ⟨vs',hv⟩:∃ vs',s₁.heap.get? x = some (lobj vs' 0):=by
  have w2:Well w.params s₁.heap (.ref x) (.list (ofPys (ns.map PyData.int))):=w1
  cases w2 with
  | list e _=>exact ⟨_,e⟩
 obtain ⟨o',h1,h2,n,h3⟩:=hL
 rw [hv] at h1
 cases h1
 have h4:Data.seq vs'.toArray 0 = Data.seq vs.toArray n:=h3
 injection h4 with h5 h6
 have h7:vs' = vs:=by simpa using congrArg Array.toList h5
 subst h7
 refine wpAny_mono (law_run Y T.g T.b T.builtins T.nolimit hv hI (by omega) fun h' tk kp=>?_) (fun _ _ z=>z) fun e s' z=>z.elim
 refine GoodW.toG ⟨.inl ⟨.bool true,.bool true,[],rfl,raisesW_false (by wrow_none_raised),.bool true,?_,unshared_nil⟩,kp,rfl,hg⟩
 wrow_post
end Mine
theorem PySem.Challenge.cw_xw0122_01_holds : PySem.Challenge.rw_xw0122_01.Holds :=
 Mine.head Mine.law_walk
