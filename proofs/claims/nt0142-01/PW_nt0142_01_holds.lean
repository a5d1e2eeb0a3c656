import PyProof.Rows.All
import Wide.All
import OpenK.AllK
import OpenK.ZGo
import KE.KIntText
import KE.KFromBytes
import KE.KIsBytes
import KE.IntBitsLaws
import Wide.BytesRules
import PySem.Challenge.RW_nt0142_01
set_option Elab.async false
set_option maxRecDepth 100000
set_option linter.all false
set_option maxHeartbeats 0
set_option genInjectivity false
set_option genSizeOf false
set_option compiler.extract_closed false
set_option bootstrap.genMatcherCode false
set_option genCtorIdx false
noncomputable section
namespace MineS
noncomputable section
open PySem
noncomputable def kq0:List Nat:=[115,105,103,110]
noncomputable def kq1:List Nat:=[101,110,100]
noncomputable def kq2:List Nat:=[79,82]
noncomputable def kq3:List Nat:=[65,78,68]
noncomputable def kq4:List Nat:=[73,83]
noncomputable def kq5:List Nat:=[73,78]
noncomputable def kq6:List Nat:=[76,73,75,69]
noncomputable def kq7:List Nat:=[71,76,79,66]
noncomputable def kq8:List Nat:=[66,69,84,87,69,69,78]
noncomputable def kq9:List Nat:=[67,79,76,76,65,84,69]
noncomputable def aQ:List Nat:=[87,72,69,78]
noncomputable def aZ:List Nat:=[84,72,69,78]
noncomputable def bK:List Nat:=[69,76,83,69]
noncomputable def bm:List Nat:=[69,78,68]
noncomputable def gz:List Nat:=[65,83]
noncomputable def bE:List Nat:=[69,83,67,65,80,69]
noncomputable def an:List Nat:=[110,97,109,101]
noncomputable def bT:List Nat:=[78,79,84]
noncomputable def jT:List Nat:=[83,69,76,69,67,84]
noncomputable def jU:List Nat:=[86,65,76,85,69,83]
noncomputable def eJ:List Nat:=[110,117,109,98,101,114]
noncomputable def bN:List Nat:=[116,101,120,116]
noncomputable def gZ:List Nat:=[98,108,111,98]
noncomputable def dh:List Nat:=[118,97,114,105,97,98,108,101]
noncomputable def cU:List Nat:=[78,85,76,76]
noncomputable abbrev ad:List Nat:=[40]
noncomputable abbrev ac:List Nat:=[41]
noncomputable def bF:List Nat:=[45]
noncomputable def g0:List Nat:=[43]
noncomputable def jV:List Nat:=[126]
noncomputable def ei:List Nat:=[110,111,116]
noncomputable def E0:List Nat:=[65,68,68]
noncomputable def E1:List Nat:=[65,76,76]
noncomputable def E2:List Nat:=[65,76,84,69,82]
noncomputable def E3:List Nat:=[65,85,84,79,73,78,67,82,69,77,69,78,84]
noncomputable def aj:List Nat:=[67,65,83,69]
noncomputable def E4:List Nat:=[67,72,69,67,75]
noncomputable def E5:List Nat:=[67,79,77,77,73,84]
noncomputable def E6:List Nat:=[67,79,78,83,84,82,65,73,78,84]
noncomputable def E7:List Nat:=[67,82,69,65,84,69]
noncomputable def E8:List Nat:=[68,69,70,65,85,76,84]
noncomputable def E9:List Nat:=[68,69,70,69,82,82,65,66,76,69]
noncomputable def Fa:List Nat:=[68,69,76,69,84,69]
noncomputable def gC:List Nat:=[68,73,83,84,73,78,67,84]
noncomputable def Fb:List Nat:=[68,82,79,80]
noncomputable def Fc:List Nat:=[69,88,67,69,80,84]
noncomputable def As:List Nat:=[69,88,73,83,84,83]
noncomputable def Fd:List Nat:=[70,79,82,69,73,71,78]
noncomputable def Fe:List Nat:=[70,82,79,77]
noncomputable def Ff:List Nat:=[71,82,79,85,80]
noncomputable def Fg:List Nat:=[72,65,86,73,78,71]
noncomputable def Fh:List Nat:=[73,78,68,69,88]
noncomputable def Fi:List Nat:=[73,78,83,69,82,84]
noncomputable def Fj:List Nat:=[73,78,84,69,82,83,69,67,84]
noncomputable def Fk:List Nat:=[73,78,84,79]
noncomputable def Au:List Nat:=[73,83,78,85,76,76]
noncomputable def Fm:List Nat:=[74,79,73,78]
noncomputable def Fp:List Nat:=[76,73,77,73,84]
noncomputable def Fq:List Nat:=[78,79,84,72,73,78,71]
noncomputable def Av:List Nat:=[78,79,84,78,85,76,76]
noncomputable def Fr:List Nat:=[79,78]
noncomputable def Fs:List Nat:=[79,82,68,69,82]
noncomputable def Ft:List Nat:=[80,82,73,77,65,82,89]
noncomputable def Fu:List Nat:=[82,69,70,69,82,69,78,67,69,83]
noncomputable def Fw:List Nat:=[82,69,84,85,82,78,73,78,71]
noncomputable def Fx:List Nat:=[83,69,84]
noncomputable def Fy:List Nat:=[84,65,66,76,69]
noncomputable def Aw:List Nat:=[84,79]
noncomputable def Ax:List Nat:=[84,82,65,78,83,65,67,84,73,79,78]
noncomputable def FA:List Nat:=[85,78,73,79,78]
noncomputable def FC:List Nat:=[85,78,73,81,85,69]
noncomputable def FD:List Nat:=[85,80,68,65,84,69]
noncomputable def FE:List Nat:=[85,83,73,78,71]
noncomputable def FF:List Nat:=[87,72,69,82,69]
noncomputable def FG:List Nat:=[67,82,79,83,83]
noncomputable def FH:List Nat:=[70,85,76,76]
noncomputable def FI:List Nat:=[73,78,68,69,88,69,68]
noncomputable def FJ:List Nat:=[73,78,78,69,82]
noncomputable def FK:List Nat:=[76,69,70,84]
noncomputable def FL:List Nat:=[78,65,84,85,82,65,76]
noncomputable def FM:List Nat:=[79,85,84,69,82]
noncomputable def FN:List Nat:=[82,73,71,72,84]
noncomputable def fM:List Nat:=[67,65,83,84]
noncomputable def nW:List Nat:=[44]
noncomputable def tA:List Nat:=[111,114]
noncomputable def tC:List Nat:=[97,110,100]
noncomputable def iD:List Nat:=[105,115]
noncomputable def jW:List Nat:=[105,115,32,110,111,116]
noncomputable def jX:List Nat:=[108,105,107,101]
noncomputable def jY:List Nat:=[103,108,111,98]
noncomputable def fO:List Nat:=[46]
noncomputable abbrev fD:List Nat:=[42]
noncomputable def FO:List Nat:=[118,97,114,99,104,97,114]
noncomputable def lD:List Nat:=[118,97,114,99,104,97,114,40,49,48,41]
noncomputable def FP:List Nat:=[66,105,103]
noncomputable def FQ:List Nat:=[73,110,116]
noncomputable def jZ:List Nat:=[66,105,103,32,73,110,116]
noncomputable def Nk:List Nat:=[97,98,99,100,101,102,103,104,105,106,107,108,109,110,111,112,113,114,115,116,117,118,119,120,121,122,65,66,67,68,69,70,71,72,73,74,75,76,77,78,79,80,81,82,83,84,85,86,87,88,89,90,95]
noncomputable def Nl:List Nat:=[48,49,50,51,52,53,54,55,56,57]
noncomputable def Nm:List Nat:=[97,98,99,100,101,102,103,104,105,106,107,108,109,110,111,112,113,114,115,116,117,118,119,120,121,122,65,66,67,68,69,70,71,72,73,74,75,76,77,78,79,80,81,82,83,84,85,86,87,88,89,90,95,48,49,50,51,52,53,54,55,56,57,36]
noncomputable def kE:List Nat:=[60,61]
noncomputable def kF:List Nat:=[62,61]
noncomputable def iU:List Nat:=[60,62]
noncomputable def vE:List Nat:=[33,61]
noncomputable def vF:List Nat:=[61,61]
noncomputable def kG:List Nat:=[124,124]
noncomputable def kH:List Nat:=[60,60]
noncomputable def kI:List Nat:=[62,62]
noncomputable def IU:List Nat:=[40,41,44,46,59,43,45,42,47,37,61,60,62,38,124,126]
noncomputable def IV:List Nat:=[32,9,10,13,12]
noncomputable def IW:List Nat:=[39,34,96,91]
noncomputable def ij:List Nat:=[45,45]
noncomputable def ik:List Nat:=[47,42]
noncomputable def Cb:List Nat:=[120,88]
noncomputable def f7:List Nat:=[48]
noncomputable def mc:List Nat:=[48,120]
noncomputable def md:List Nat:=[48,88]
noncomputable def vH:List Nat:=[102,101,49,48]
noncomputable def vI:List Nat:=[70,69,49,48]
noncomputable def cE:List Nat:=[108,105,116,101,114,97,108]
noncomputable def iV:List Nat:=[110,117,108,108]
noncomputable def iW:List Nat:=[105,110,116,101,103,101,114]
noncomputable def im:List Nat:=[117,110,97,114,121]
noncomputable def gM:List Nat:=[98,105,110,97,114,121]
noncomputable def pY:List Nat:=[98,101,116,119,101,101,110]
noncomputable def gN:List Nat:=[99,97,115,116]
noncomputable def pZ:List Nat:=[99,111,108,108,97,116,101]
noncomputable def qa:List Nat:=[105,115,110,117,108,108]
noncomputable def io:List Nat:=[105,110]
noncomputable def f8:List Nat:=[99,97,108,108]
noncomputable def iX:List Nat:=[109,97,116,99,104]
noncomputable def bD:List Nat:=[99,97,115,101]
noncomputable def IX:List Nat:=[32,78,79,84,32]
noncomputable def aH:List Nat:=[32]
noncomputable def cG:List Nat:=[32,40]
noncomputable def iY:List Nat:=[41,32]
noncomputable def kJ:List Nat:=[67,65,83,84,32,40]
noncomputable def dT:List Nat:=[32,65,83,32]
noncomputable def qb:List Nat:=[41,32,67,79,76,76,65,84,69,32]
noncomputable def me:List Nat:=[41,32,73,83]
noncomputable def iZ:List Nat:=[66,69,84,87,69,69,78,32,40]
noncomputable def mf:List Nat:=[41,32,65,78,68,32,40]
noncomputable def cH:List Nat:=[73,78,32,40]
noncomputable abbrev bW:List Nat:=[44,32]
noncomputable def mh:List Nat:=[32,69,83,67,65,80,69,32,40]
noncomputable def d7:List Nat:=[102]
noncomputable def kK:List Nat:=[34,102,34]
noncomputable def d8:List Nat:=[109,97,120]
noncomputable def kL:List Nat:=[34,109,97,120,34]
noncomputable def f9:List Nat:=[68,73,83,84,73,78,67,84,32]
noncomputable abbrev eA:List Nat:=[99,111,117,110,116]
noncomputable def kM:List Nat:=[34,99,111,117,110,116,34]
noncomputable def kN:List Nat:=[114,101,112,108,97,99,101]
noncomputable abbrev eZ:List Nat:=[34,114,101,112,108,97,99,101,34]
noncomputable def aB:List Nat:=[67,65,83,69,32]
noncomputable def am:List Nat:=[32,87,72,69,78,32,40]
noncomputable def ay:List Nat:=[41,32,84,72,69,78,32,40]
noncomputable def ba:List Nat:=[32,69,78,68]
noncomputable def cg:List Nat:=[32,69,76,83,69,32,40]
noncomputable def qc:List Nat:=[105,116,39,115]
noncomputable def qd:List Nat:=[120]
noncomputable def mj:List Nat:=[97]
noncomputable def qe:List Nat:=[111,114,100,101,114]
noncomputable def qf:List Nat:=[116,32,50]
noncomputable def qg:List Nat:=[67,111,108]
noncomputable def qh:List Nat:=[113,34,116]
noncomputable def qi:List Nat:=[98]
noncomputable def i4:List Nat:=[55]
noncomputable def Cc:List Nat:=[45,51]
noncomputable def ml:List Nat:=[57,50,50,51,51,55,50,48,51,54,56,53,52,55,55,53,56,48,55]
noncomputable def Cd:List Nat:=[45,57,50,50,51,51,55,50,48,51,54,56,53,52,55,55,53,56,48,56]
noncomputable def i5:List Nat:=[49]
noncomputable def Ce:List Nat:=[39,105,116,39,39,115,39]
noncomputable def Cf:List Nat:=[39,39]
noncomputable def Cg:List Nat:=[39,120,39]
noncomputable def IY:List Nat:=[120,39,102,101,49,48,39]
noncomputable def IZ:List Nat:=[120,39,39]
noncomputable def Ch:List Nat:=[63,49]
noncomputable def Ci:List Nat:=[63,50]
noncomputable def Cj:List Nat:=[63,51]
noncomputable def Ck:List Nat:=[63,52]
noncomputable def Cl:List Nat:=[63,53]
noncomputable def Cm:List Nat:=[63,54]
noncomputable def Cn:List Nat:=[63,55]
noncomputable def Co:List Nat:=[63,56]
noncomputable def Cp:List Nat:=[63,57]
noncomputable def Cq:List Nat:=[63,49,48]
noncomputable def Cr:List Nat:=[63,49,49]
noncomputable def Cs:List Nat:=[63,49,50]
noncomputable def I0:List Nat:=[34,97,34]
noncomputable def Cu:List Nat:=[34,111,114,100,101,114,34]
noncomputable def I7:List Nat:=[34,116,32,50,34,46,34,67,111,108,34]
noncomputable def Cv:List Nat:=[34,113,34,34,116,34]
noncomputable def I8:List Nat:=[34,98,34,46,34,101,110,100,34]
noncomputable def I9:List Nat:=[88,39,70,69,49,48,39]
noncomputable def Ja:List Nat:=[88,39,39]
noncomputable def Jb:List Nat:=[34,116,32,50,34,46,67,111,108]
noncomputable def Jc:List Nat:=[98,46,34,101,110,100,34]
noncomputable def vJ:List Nat:=[78,79,84,32]
noncomputable def d9:List Nat:=[110,111,99,97,115,101]
noncomputable def qj:List Nat:=[32,67,79,76,76,65,84,69,32]
noncomputable def Jd:List Nat:=[32,73,83,32,78,79,84,32,78,85,76,76]
noncomputable def Je:List Nat:=[32,73,83,32,78,85,76,76]
noncomputable def kO:List Nat:=[66,69,84,87,69,69,78,32]
noncomputable def qk:List Nat:=[32,65,78,68,32]
noncomputable def ql:List Nat:=[32,69,83,67,65,80,69,32]
noncomputable def e8:List Nat:=[67,65,83,84,40]
noncomputable def qm:List Nat:=[34,118,97,114,99,104,97,114,40,49,48,41,34]
noncomputable def ar:List Nat:=[32,87,72,69,78,32]
noncomputable def aD:List Nat:=[32,84,72,69,78,32]
noncomputable def cR:List Nat:=[32,69,76,83,69,32]
noncomputable def vK:List Nat:=[61]
noncomputable def vL:List Nat:=[60]
noncomputable def vN:List Nat:=[62]
noncomputable def vP:List Nat:=[38]
noncomputable def vQ:List Nat:=[124]
noncomputable def vS:List Nat:=[47]
noncomputable def vT:List Nat:=[37]
noncomputable def Jf:List Nat:=[73,83,32,78,79,84]
noncomputable def Jg:List Nat:=[45,78,85,76,76]
noncomputable def Jh:List Nat:=[45,40,48,41]
noncomputable def Ji:List Nat:=[45,40,55,41]
noncomputable def Jj:List Nat:=[45,32,45,51]
noncomputable def Jk:List Nat:=[45,40,57,50,50,51,51,55,50,48,51,54,56,53,52,55,55,53,56,48,55,41]
noncomputable def Jl:List Nat:=[45,32,45,57,50,50,51,51,55,50,48,51,54,56,53,52,55,55,53,56,48,56]
noncomputable def Jm:List Nat:=[45,40,49,41]
noncomputable def Jn:List Nat:=[45,39,105,116,39,39,115,39]
noncomputable def Jo:List Nat:=[45,39,39]
noncomputable def Jp:List Nat:=[45,39,120,39]
noncomputable def Jq:List Nat:=[45,88,39,70,69,49,48,39]
noncomputable def Jr:List Nat:=[45,88,39,39]
noncomputable def mn:List Nat:=[51]
noncomputable def vV:List Nat:=[57,50,50,51,51,55,50,48,51,54,56,53,52,55,55,53,56,48,56]
noncomputable def vW:List Nat:=[50]
noncomputable def vZ:List Nat:=[52]
noncomputable def wa:List Nat:=[53]
noncomputable def wb:List Nat:=[54]
noncomputable def wc:List Nat:=[56]
noncomputable def we:List Nat:=[57]
noncomputable def qn:List Nat:=[49,48]
noncomputable def wf:List Nat:=[49,49]
noncomputable def wg:List Nat:=[49,50]
noncomputable def Js:List Nat:=[65]
noncomputable def Jt:List Nat:=[67,79,76]
noncomputable def Ju:List Nat:=[66]
noncomputable def Jv:List Nat:=[86,65,82,67,72,65,82]
noncomputable def Jw:List Nat:=[66,73,71]
noncomputable def Jx:List Nat:=[73,78,84]
noncomputable def Cw:List Nat:=[70]
noncomputable def Cy:List Nat:=[77,65,88]
noncomputable def Jy:List Nat:=[67,79,85,78,84]
noncomputable def kP:List Nat:=[78,79,67,65,83,69]
noncomputable def ah:List Nat:=[47,99,108,97,105,109,47,99,117,116,46,112,121]
noncomputable def av:List Nat:=[112,97,103,101,98,97,115,101,46,110,111,100,101,115]
noncomputable def aC:List Nat:=[115,101,108,102]
noncomputable def aM:List Nat:=[95,95,105,110,105,116,95,95]
noncomputable def aR:List Nat:=[114,111,119]
noncomputable def aW:List Nat:=[95,95,109,111,100,117,108,101,95,95]
noncomputable def aX:List Nat:=[95,95,102,105,114,115,116,108,105,110,101,110,111,95,95]
noncomputable def aY:List Nat:=[95,95,115,116,97,116,105,99,95,97,116,116,114,105,98,117,116,101,115,95,95]
noncomputable def bt:List Nat:=[112,97,103,101,98,97,115,101,46,119,111,114,100,115]
noncomputable def bP:List Nat:=[95,95,113,117,97,108,110,97,109,101,95,95]
noncomputable def bQ:List Nat:=[95,95,100,111,99,95,95]
noncomputable def bR:List Nat:=[118,97,108,117,101]
noncomputable def bX:List Nat:=[112,97,103,101,98,97,115,101,46,101,120,112,114,101,115,115,105,111,110,115]
noncomputable def ch:List Nat:=[112,97,103,101,98,97,115,101,46,115,116,114,101,97,109]
noncomputable def dC:List Nat:=[116,121,112,101,46,95,95,115,117,98,99,108,97,115,115,101,115,95,95,46,69,120,99,101,112,116,105,111,110,46,48]
noncomputable def dD:List Nat:=[116,121,112,101,46,95,95,115,117,98,99,108,97,115,115,101,115,95,95,46,69,120,99,101,112,116,105,111,110,46,110]
noncomputable def dE:List Nat:=[110,101,103,97,116,101,100]
noncomputable def ec:List Nat:=[95,95,119,101,97,107,114,101,102,95,95]
noncomputable def ed:List Nat:=[112,97,103,101,98,97,115,101,46,101,114,114,111,114,115]
noncomputable def ef:List Nat:=[112,97,103,101,98,97,115,101,46,112,114,105,110,116,95,101,120,112,114,101,115,115,105,111,110,115]
noncomputable def fe:List Nat:=[95,95,100,105,99,116,95,95]
noncomputable def eC:List Nat:=[108,97,119,95,110,116,48,49,52,50,95,48,49]
noncomputable def gc:List Nat:=[110,111,100,101]
noncomputable def ge:List Nat:=[119,111,114,100]
noncomputable def iq:List Nat:=[78,111,100,101]
noncomputable def ir:List Nat:=[69,120,112,114]
noncomputable def i6:List Nat:=[76,105,116,101,114,97,108]
noncomputable def i8:List Nat:=[78,97,109,101]
noncomputable def i9:List Nat:=[86,97,114,105,97,98,108,101]
noncomputable def ja:List Nat:=[85,110,97,114,121]
noncomputable def jb:List Nat:=[66,105,110,97,114,121]
noncomputable def iu:List Nat:=[108,101,102,116]
noncomputable def jc:List Nat:=[66,101,116,119,101,101,110]
noncomputable def jd:List Nat:=[73,110,76,105,115,116]
noncomputable def je:List Nat:=[73,110,83,101,108,101,99,116]
noncomputable def jf:List Nat:=[69,120,105,115,116,115]
noncomputable def jg:List Nat:=[83,99,97,108,97,114]
noncomputable def jh:List Nat:=[67,97,115,101]
noncomputable def ji:List Nat:=[67,97,108,108]
noncomputable def jj:List Nat:=[67,97,115,116]
noncomputable def jk:List Nat:=[67,111,108,108,97,116,101]
noncomputable def jl:List Nat:=[73,115,78,117,108,108]
noncomputable def jm:List Nat:=[77,97,116,99,104]
noncomputable def jo:List Nat:=[80,97,103,101,98,97,115,101,69,114,114,111,114]
noncomputable def jp:List Nat:=[83,113,108,69,114,114,111,114]
noncomputable def kQ:List Nat:=[80,97,114,115,101,69,114,114,111,114]
noncomputable def jq:List Nat:=[87,111,114,100]
noncomputable def jr:List Nat:=[83,99,97,110,110,101,114]
noncomputable def js:List Nat:=[69,120,112,114,101,115,115,105,111,110,82,101,97,100,101,114]
noncomputable def jt:List Nat:=[69,120,112,114,101,115,115,105,111,110,87,114,105,116,101,114]
noncomputable def ju:List Nat:=[87,111,114,100,83,116,114,101,97,109]
noncomputable def jw:List Nat:=[112,108,97,99,101]
noncomputable def jx:List Nat:=[115,111,117,114,99,101]
noncomputable def kR:List Nat:=[115,101,108,101,99,116]
noncomputable def kS:List Nat:=[109,101,115,115,97,103,101]
noncomputable def jy:List Nat:=[105,115,95,115,105,103,110]
noncomputable def jz:List Nat:=[105,115,95,107,101,121]
noncomputable def kT:List Nat:=[114,101,102,117,115,101]
noncomputable def jA:List Nat:=[102,111,117,110,100]
noncomputable def jB:List Nat:=[108,101,118,101,108]
noncomputable def kU:List Nat:=[115,116,114,101,97,109]
noncomputable def kW:List Nat:=[97,104,101,97,100]
noncomputable def mq:List Nat:=[114,111,119,95,111,102]
noncomputable def mr:List Nat:=[114,111,119,115,95,111,102]
noncomputable def ms:List Nat:=[111,116,104,101,114]
noncomputable def mu:List Nat:=[116,121,112,101,95,110,97,109,101]
noncomputable def mv:List Nat:=[114,101,97,100,95,116,121,112,101]
noncomputable def mw:List Nat:=[114,101,97,100,95,115,105,122,101]
noncomputable def mx:List Nat:=[102,111,108,100,101,100]
noncomputable def my:List Nat:=[98,101,103,105,110,115,95,110,97,109,101]
noncomputable def mz:List Nat:=[103,111,101,115,95,111,110,95,110,97,109,101]
noncomputable def mA:List Nat:=[107,105,110,100]
noncomputable def mB:List Nat:=[98,101,103,105,110]
noncomputable def mC:List Nat:=[114,101,97,100,95,119,111,114,100,115]
noncomputable def mD:List Nat:=[115,101,108,101,99,116,115]
noncomputable def mE:List Nat:=[105,115,95,98,97,114,101]
noncomputable def mF:List Nat:=[112,97,103,101,98,97,115,101,46,112,114,105,110,116,95,110,97,109,101,115]
noncomputable def mG:List Nat:=[119,114,105,116,101,95,110,97,109,101]
noncomputable def mH:List Nat:=[119,114,105,116,101,95,118,97,108,117,101]
noncomputable def mI:List Nat:=[119,114,105,116,101,95,116,121,112,101]
noncomputable def mJ:List Nat:=[108,101,118,101,108,95,111,102]
noncomputable def mK:List Nat:=[95,108,97,119,95,112,111,111,108]
noncomputable def mL:List Nat:=[95,108,97,119,95,116,97,107,101]
noncomputable def mM:List Nat:=[95,108,97,119,95,111,110,101]
noncomputable def mN:List Nat:=[95,108,97,119,95,108,101,97,102]
noncomputable def mO:List Nat:=[95,108,97,119,95,101,120,112,114]
noncomputable def mP:List Nat:=[95,108,97,119,95,110,97,109,101]
noncomputable def mQ:List Nat:=[95,108,97,119,95,118,97,108,117,101]
noncomputable def mR:List Nat:=[95,108,97,119,95,116,101,120,116]
noncomputable def mS:List Nat:=[95,108,97,119,95,116,101,115,116]
noncomputable def mT:List Nat:=[95,108,97,119,95,114,101,97,100]
noncomputable def wj:List Nat:=[95,95,109,97,105,110,95,95]
noncomputable def wk:List Nat:=[78,111,100,101,46,114,111,119]
noncomputable def qo:List Nat:=[76,105,116,101,114,97,108,46,95,95,105,110,105,116,95,95]
noncomputable def qp:List Nat:=[76,105,116,101,114,97,108,46,114,111,119]
noncomputable def qq:List Nat:=[78,97,109,101,46,95,95,105,110,105,116,95,95]
noncomputable def qr:List Nat:=[78,97,109,101,46,114,111,119]
noncomputable def qs:List Nat:=[86,97,114,105,97,98,108,101,46,95,95,105,110,105,116,95,95]
noncomputable def qt:List Nat:=[86,97,114,105,97,98,108,101,46,114,111,119]
noncomputable def qu:List Nat:=[111,112,101,114,97,110,100]
noncomputable def qw:List Nat:=[85,110,97,114,121,46,95,95,105,110,105,116,95,95]
noncomputable def qx:List Nat:=[85,110,97,114,121,46,114,111,119]
noncomputable def qy:List Nat:=[114,105,103,104,116]
noncomputable def qz:List Nat:=[66,105,110,97,114,121,46,95,95,105,110,105,116,95,95]
noncomputable def qA:List Nat:=[66,105,110,97,114,121,46,114,111,119]
noncomputable def qB:List Nat:=[66,101,116,119,101,101,110,46,95,95,105,110,105,116,95,95]
noncomputable def qC:List Nat:=[66,101,116,119,101,101,110,46,114,111,119]
noncomputable def qD:List Nat:=[73,110,76,105,115,116,46,95,95,105,110,105,116,95,95]
noncomputable def qE:List Nat:=[73,110,76,105,115,116,46,114,111,119]
noncomputable def wm:List Nat:=[73,110,83,101,108,101,99,116,46,95,95,105,110,105,116,95,95]
noncomputable def wq:List Nat:=[73,110,83,101,108,101,99,116,46,114,111,119]
noncomputable def wu:List Nat:=[69,120,105,115,116,115,46,95,95,105,110,105,116,95,95]
noncomputable def wv:List Nat:=[69,120,105,115,116,115,46,114,111,119]
noncomputable def ww:List Nat:=[83,99,97,108,97,114,46,95,95,105,110,105,116,95,95]
noncomputable def wy:List Nat:=[83,99,97,108,97,114,46,114,111,119]
noncomputable def qF:List Nat:=[119,104,101,110,115]
noncomputable def qG:List Nat:=[67,97,115,101,46,95,95,105,110,105,116,95,95]
noncomputable def qH:List Nat:=[67,97,115,101,46,114,111,119]
noncomputable def qI:List Nat:=[97,114,103,117,109,101,110,116,115]
noncomputable def qJ:List Nat:=[100,105,115,116,105,110,99,116]
noncomputable def qK:List Nat:=[67,97,108,108,46,95,95,105,110,105,116,95,95]
noncomputable def qL:List Nat:=[67,97,108,108,46,114,111,119]
noncomputable def qM:List Nat:=[67,97,115,116,46,95,95,105,110,105,116,95,95]
noncomputable def qN:List Nat:=[67,97,115,116,46,114,111,119]
noncomputable def qO:List Nat:=[67,111,108,108,97,116,101,46,95,95,105,110,105,116,95,95]
noncomputable def qP:List Nat:=[67,111,108,108,97,116,101,46,114,111,119]
noncomputable def qQ:List Nat:=[73,115,78,117,108,108,46,95,95,105,110,105,116,95,95]
noncomputable def qR:List Nat:=[73,115,78,117,108,108,46,114,111,119]
noncomputable def qS:List Nat:=[112,97,116,116,101,114,110]
noncomputable def qT:List Nat:=[101,115,99,97,112,101]
noncomputable def qU:List Nat:=[77,97,116,99,104,46,95,95,105,110,105,116,95,95]
noncomputable def qV:List Nat:=[77,97,116,99,104,46,114,111,119]
noncomputable def wz:List Nat:=[80,97,103,101,98,97,115,101,69,114,114,111,114,46,95,95,105,110,105,116,95,95]
noncomputable def wA:List Nat:=[80,97,114,115,101,69,114,114,111,114,46,95,95,105,110,105,116,95,95]
noncomputable def qW:List Nat:=[105,115,95,102,114,101,101]
noncomputable def qX:List Nat:=[105,115,95,112,108,97,105,110]
noncomputable def qY:List Nat:=[87,111,114,100,46,95,95,105,110,105,116,95,95]
noncomputable def qZ:List Nat:=[87,111,114,100,46,105,115,95,115,105,103,110]
noncomputable def q8:List Nat:=[87,111,114,100,46,105,115,95,107,101,121]
noncomputable def q9:List Nat:=[87,111,114,100,46,105,115,95,102,114,101,101]
noncomputable def rc:List Nat:=[87,111,114,100,46,105,115,95,112,108,97,105,110]
noncomputable def wB:List Nat:=[87,111,114,100,46,114,111,119]
noncomputable def re:List Nat:=[103,97,116,104,101,114]
noncomputable def rg:List Nat:=[101,110,100,95,111,102]
noncomputable def rh:List Nat:=[99,108,111,115,105,110,103]
noncomputable def ri:List Nat:=[113,117,111,116,101,100,95,119,111,114,100]
noncomputable def rj:List Nat:=[118,97,108,117,101,95,111,102]
noncomputable def rk:List Nat:=[83,99,97,110,110,101,114,46,95,95,105,110,105,116,95,95]
noncomputable def rm:List Nat:=[83,99,97,110,110,101,114,46,103,97,116,104,101,114]
noncomputable def wC:List Nat:=[83,99,97,110,110,101,114,46,114,101,102,117,115,101]
noncomputable def rn:List Nat:=[83,99,97,110,110,101,114,46,114,117,110]
noncomputable def rp:List Nat:=[83,99,97,110,110,101,114,46,101,110,100,95,111,102]
noncomputable def rt:List Nat:=[83,99,97,110,110,101,114,46,98,97,114,101]
noncomputable def rA:List Nat:=[83,99,97,110,110,101,114,46,99,108,111,115,105,110,103]
noncomputable def rB:List Nat:=[83,99,97,110,110,101,114,46,113,117,111,116,101,100,95,119,111,114,100]
noncomputable def rC:List Nat:=[83,99,97,110,110,101,114,46,98,108,111,98]
noncomputable def rD:List Nat:=[83,99,97,110,110,101,114,46,110,117,109,98,101,114]
noncomputable def rF:List Nat:=[83,99,97,110,110,101,114,46,118,97,108,117,101,95,111,102]
noncomputable def rG:List Nat:=[83,99,97,110,110,101,114,46,109,97,114,107]
noncomputable def rH:List Nat:=[83,99,97,110,110,101,114,46,118,97,114,105,97,98,108,101]
noncomputable def rI:List Nat:=[101,120,112,114,101,115,115,105,111,110]
noncomputable def rJ:List Nat:=[111,112,101,114,97,116,101,100]
noncomputable def rK:List Nat:=[116,111,108,100,95,105,115]
noncomputable def rL:List Nat:=[116,101,115,116,101,100]
noncomputable def rM:List Nat:=[109,101,109,98,101,114]
noncomputable def rN:List Nat:=[101,120,112,114,101,115,115,105,111,110,115]
noncomputable def rO:List Nat:=[112,114,101,102,105,120]
noncomputable def rQ:List Nat:=[112,114,105,109,97,114,121]
noncomputable def rR:List Nat:=[98,114,97,99,107,101,116,101,100]
noncomputable def wD:List Nat:=[98,114,97,99,107,101,116,101,100,95,115,101,108,101,99,116]
noncomputable def wE:List Nat:=[98,101,116,119,101,101,110,95,98,114,97,99,107,101,116,115]
noncomputable def rS:List Nat:=[69,120,112,114,101,115,115,105,111,110,82,101,97,100,101,114,46,95,95,105,110,105,116,95,95]
noncomputable def rT:List Nat:=[69,120,112,114,101,115,115,105,111,110,82,101,97,100,101,114,46,101,120,112,114,101,115,115,105,111,110]
noncomputable def rU:List Nat:=[69,120,112,114,101,115,115,105,111,110,82,101,97,100,101,114,46,108,101,118,101,108]
noncomputable def rV:List Nat:=[69,120,112,114,101,115,115,105,111,110,82,101,97,100,101,114,46,111,112,101,114,97,116,101,100]
noncomputable def rW:List Nat:=[69,120,112,114,101,115,115,105,111,110,82,101,97,100,101,114,46,116,111,108,100,95,105,115]
noncomputable def rX:List Nat:=[69,120,112,114,101,115,115,105,111,110,82,101,97,100,101,114,46,116,101,115,116,101,100]
noncomputable def rY:List Nat:=[69,120,112,114,101,115,115,105,111,110,82,101,97,100,101,114,46,109,101,109,98,101,114]
noncomputable def rZ:List Nat:=[69,120,112,114,101,115,115,105,111,110,82,101,97,100,101,114,46,101,120,112,114,101,115,115,105,111,110,115]
noncomputable def r0:List Nat:=[69,120,112,114,101,115,115,105,111,110,82,101,97,100,101,114,46,112,114,101,102,105,120]
noncomputable def r6:List Nat:=[69,120,112,114,101,115,115,105,111,110,82,101,97,100,101,114,46,112,114,105,109,97,114,121]
noncomputable def r7:List Nat:=[69,120,112,114,101,115,115,105,111,110,82,101,97,100,101,114,46,98,114,97,99,107,101,116,101,100]
noncomputable def wF:List Nat:=[69,120,112,114,101,115,115,105,111,110,82,101,97,100,101,114,46,98,114,97,99,107,101,116,101,100,95,115,101,108,101,99,116]
noncomputable def sd:List Nat:=[69,120,112,114,101,115,115,105,111,110,82,101,97,100,101,114,46,99,97,115,101]
noncomputable def si:List Nat:=[69,120,112,114,101,115,115,105,111,110,82,101,97,100,101,114,46,99,97,115,116]
noncomputable def sj:List Nat:=[69,120,112,114,101,115,115,105,111,110,82,101,97,100,101,114,46,110,97,109,101,100]
noncomputable def wG:List Nat:=[69,120,112,114,101,115,115,105,111,110,82,101,97,100,101,114,46,98,101,116,119,101,101,110,95,98,114,97,99,107,101,116,115]
noncomputable def sk:List Nat:=[119,114,105,116,101]
noncomputable def sn:List Nat:=[108,105,115,116,101,100]
noncomputable def so:List Nat:=[69,120,112,114,101,115,115,105,111,110,87,114,105,116,101,114,46,95,95,105,110,105,116,95,95]
noncomputable def sv:List Nat:=[69,120,112,114,101,115,115,105,111,110,87,114,105,116,101,114,46,119,114,105,116,101]
noncomputable def sw:List Nat:=[69,120,112,114,101,115,115,105,111,110,87,114,105,116,101,114,46,108,105,115,116,101,100]
noncomputable def sx:List Nat:=[69,120,112,114,101,115,115,105,111,110,87,114,105,116,101,114,46,102,114,101,101]
noncomputable def sy:List Nat:=[69,120,112,114,101,115,115,105,111,110,87,114,105,116,101,114,46,117,110,97,114,121]
noncomputable def sz:List Nat:=[69,120,112,114,101,115,115,105,111,110,87,114,105,116,101,114,46,116,101,115,116]
noncomputable def sA:List Nat:=[69,120,112,114,101,115,115,105,111,110,87,114,105,116,101,114,46,99,97,115,101]
noncomputable def sB:List Nat:=[105,115,95,111,118,101,114]
noncomputable def wH:List Nat:=[105,115,95,111,110,101,95,111,102]
noncomputable def sC:List Nat:=[105,115,95,115,101,108,101,99,116]
noncomputable def sD:List Nat:=[116,97,107,101,95,107,101,121]
noncomputable def sE:List Nat:=[116,97,107,101,95,115,105,103,110]
noncomputable def sF:List Nat:=[110,101,101,100,95,107,101,121]
noncomputable def sG:List Nat:=[110,101,101,100,95,115,105,103,110]
noncomputable def sH:List Nat:=[110,101,101,100,95,110,97,109,101]
noncomputable def sI:List Nat:=[100,101,101,112,101,114]
noncomputable def sJ:List Nat:=[104,105,103,104,101,114]
noncomputable def sK:List Nat:=[87,111,114,100,83,116,114,101,97,109,46,95,95,105,110,105,116,95,95]
noncomputable def sM:List Nat:=[87,111,114,100,83,116,114,101,97,109,46,104,101,114,101]
noncomputable def sN:List Nat:=[87,111,114,100,83,116,114,101,97,109,46,97,104,101,97,100]
noncomputable def sO:List Nat:=[87,111,114,100,83,116,114,101,97,109,46,103,111]
noncomputable def wJ:List Nat:=[87,111,114,100,83,116,114,101,97,109,46,114,101,102,117,115,101]
noncomputable def sP:List Nat:=[87,111,114,100,83,116,114,101,97,109,46,105,115,95,111,118,101,114]
noncomputable def sQ:List Nat:=[87,111,114,100,83,116,114,101,97,109,46,105,115,95,107,101,121]
noncomputable def sR:List Nat:=[87,111,114,100,83,116,114,101,97,109,46,105,115,95,115,105,103,110]
noncomputable def wK:List Nat:=[87,111,114,100,83,116,114,101,97,109,46,105,115,95,111,110,101,95,111,102]
noncomputable def sS:List Nat:=[87,111,114,100,83,116,114,101,97,109,46,105,115,95,115,101,108,101,99,116]
noncomputable def sT:List Nat:=[87,111,114,100,83,116,114,101,97,109,46,116,97,107,101,95,107,101,121]
noncomputable def sU:List Nat:=[87,111,114,100,83,116,114,101,97,109,46,116,97,107,101,95,115,105,103,110]
noncomputable def sV:List Nat:=[87,111,114,100,83,116,114,101,97,109,46,110,101,101,100,95,107,101,121]
noncomputable def sW:List Nat:=[87,111,114,100,83,116,114,101,97,109,46,110,101,101,100,95,115,105,103,110]
noncomputable def sX:List Nat:=[87,111,114,100,83,116,114,101,97,109,46,110,101,101,100,95,110,97,109,101]
noncomputable def sY:List Nat:=[87,111,114,100,83,116,114,101,97,109,46,100,101,101,112,101,114]
noncomputable def sZ:List Nat:=[87,111,114,100,83,116,114,101,97,109,46,104,105,103,104,101,114]
noncomputable def wL:List Nat:=[99,111,108,108,97,116,105,111,110]
noncomputable def wN:List Nat:=[112,97,103,101,98,97,115,101,46,114,101,97,100,95,116,121,112,101,115]
noncomputable def kz0:Str:=⟨⟨mq⟩⟩
noncomputable def kz1:Str:=⟨⟨mr⟩⟩
noncomputable def kz2:Str:=⟨⟨iq⟩⟩
noncomputable def kz3:Str:=⟨⟨ir⟩⟩
noncomputable def kz4:Str:=⟨⟨i6⟩⟩
noncomputable def kz5:Str:=⟨⟨i8⟩⟩
noncomputable def kz6:Str:=⟨⟨i9⟩⟩
noncomputable def kz7:Str:=⟨⟨ja⟩⟩
noncomputable def kz8:Str:=⟨⟨jb⟩⟩
noncomputable def kz9:Str:=⟨⟨jc⟩⟩
noncomputable def Nn:Str:=⟨⟨jd⟩⟩
noncomputable def No:Str:=⟨⟨je⟩⟩
noncomputable def Np:Str:=⟨⟨jf⟩⟩
noncomputable def Nq:Str:=⟨⟨jg⟩⟩
noncomputable def Nr:Str:=⟨⟨jh⟩⟩
noncomputable def Nt:Str:=⟨⟨ji⟩⟩
noncomputable def Nv:Str:=⟨⟨jj⟩⟩
noncomputable def Nw:Str:=⟨⟨jk⟩⟩
noncomputable def Nx:Str:=⟨⟨jl⟩⟩
noncomputable def Ny:Str:=⟨⟨jm⟩⟩
noncomputable def FS:Str:=⟨⟨mv⟩⟩
noncomputable def FT:Str:=⟨⟨mw⟩⟩
noncomputable def Nz:Str:=⟨⟨[76,73,75,69,95,83,73,71,78,83]⟩⟩
noncomputable def FU:Str:=⟨⟨mx⟩⟩
noncomputable def FV:Str:=⟨⟨my⟩⟩
noncomputable def FW:Str:=⟨⟨mz⟩⟩
noncomputable def NA:Str:=⟨⟨jq⟩⟩
noncomputable def NB:Str:=⟨⟨jr⟩⟩
noncomputable def FX:Str:=⟨⟨mC⟩⟩
noncomputable def NC:Str:=⟨⟨[83,73,71,78,95,76,69,86,69,76,83]⟩⟩
noncomputable def ND:Str:=⟨⟨[75,69,89,95,76,69,86,69,76,83]⟩⟩
noncomputable def NE:Str:=⟨⟨js⟩⟩
noncomputable def FY:Str:=⟨⟨mE⟩⟩
noncomputable def FZ:Str:=⟨⟨mG⟩⟩
noncomputable def F6:Str:=⟨⟨mH⟩⟩
noncomputable def F7:Str:=⟨⟨mI⟩⟩
noncomputable def Ga:Str:=⟨⟨mJ⟩⟩
noncomputable def NG:Str:=⟨⟨jt⟩⟩
noncomputable def NH:Str:=⟨⟨ju⟩⟩
noncomputable def Gb:Str:=⟨⟨mK⟩⟩
noncomputable def Gc:Str:=⟨⟨mL⟩⟩
noncomputable def Gd:Str:=⟨⟨mM⟩⟩
noncomputable def Ge:Str:=⟨⟨mN⟩⟩
noncomputable def Gf:Str:=⟨⟨mO⟩⟩
noncomputable def Gg:Str:=⟨⟨mP⟩⟩
noncomputable def Gh:Str:=⟨⟨mQ⟩⟩
noncomputable def Gi:Str:=⟨⟨mR⟩⟩
noncomputable def Gj:Str:=⟨⟨mS⟩⟩
noncomputable def Gk:Str:=⟨⟨mT⟩⟩
noncomputable def Gm:Str:=⟨⟨[108,97,119]⟩⟩
noncomputable def NI:Str:=⟨⟨[81,85,79,84,69,83]⟩⟩
noncomputable def NJ:Str:=⟨⟨[66,76,65,78,75,83]⟩⟩
noncomputable def NK:Str:=⟨⟨[70,73,71,85,82,69,83]⟩⟩
noncomputable def NL:Str:=⟨⟨[72,69,88,95,70,73,71,85,82,69,83]⟩⟩
noncomputable def NM:Str:=⟨⟨[76,69,84,84,69,82,83]⟩⟩
noncomputable def NN:Str:=⟨⟨[78,65,77,69,95,83,73,71,78,83]⟩⟩
noncomputable def NO:Str:=⟨⟨[83,73,71,78,83,95,79,70,95,79,78,69]⟩⟩
noncomputable def NP:Str:=⟨⟨[77,79,83,84,95,86,65,82,73,65,66,76,69]⟩⟩
noncomputable def NQ:Str:=⟨⟨[71,82,69,65,84,69,83,84]⟩⟩
noncomputable def NR:Str:=⟨⟨[76,79,87,69,83,84]⟩⟩
noncomputable def NS:Str:=⟨⟨[78,79,84,95,76,69,86,69,76]⟩⟩
noncomputable def NT:Str:=⟨⟨[69,81,85,65,76,95,76,69,86,69,76]⟩⟩
noncomputable def NU:Str:=⟨⟨[76,69,83,83,95,76,69,86,69,76]⟩⟩
noncomputable def NV:Str:=⟨⟨[67,79,76,76,65,84,69,95,76,69,86,69,76]⟩⟩
noncomputable def NW:Str:=⟨⟨[65,72,69,65,68,95,76,69,86,69,76]⟩⟩
noncomputable def NX:Str:=⟨⟨[65,76,79,78,69,95,76,69,86,69,76]⟩⟩
noncomputable def NY:Str:=⟨⟨[77,79,83,84,95,68,69,80,84,72]⟩⟩
noncomputable def Gn:Str:=⟨⟨[83,73,71,78,83,95,79,70,95,84,87,79]⟩⟩
noncomputable def Go:Str:=⟨⟨[82,69,83,69,82,86,69,68]⟩⟩
noncomputable def Gp:Str:=⟨⟨[74,79,73,78,73,78,71]⟩⟩
noncomputable def Gq:Str:=⟨⟨[66,69,72,73,78,68,95,78,79,84]⟩⟩
noncomputable def Gr:Str:=⟨⟨[65,72,69,65,68,95,83,73,71,78,83]⟩⟩
noncomputable def Gs:Str:=⟨⟨[81,85,79,84,69,68,95,65,76,87,65,89,83]⟩⟩
noncomputable def wP:Str:=⟨⟨mA⟩⟩
noncomputable def cW:Str:=⟨⟨bN⟩⟩
noncomputable def cP:Str:=⟨⟨bR⟩⟩
noncomputable def lF:Str:=⟨⟨jw⟩⟩
noncomputable def Ay:Str:=⟨⟨jA⟩⟩
noncomputable def Gu:Str:=⟨⟨[103,114,101,97,116,101,115,116]⟩⟩
noncomputable def tD:Str:=⟨⟨kU⟩⟩
noncomputable def nX:Str:=⟨⟨mD⟩⟩
noncomputable def Gv:Str:=⟨⟨[119,111,114,100,115]⟩⟩
noncomputable def Gw:Str:=⟨⟨[97,116]⟩⟩
noncomputable def wQ:Str:=⟨⟨[100,101,112,116,104]⟩⟩
noncomputable def Az:Str:=⟨⟨[116,97,98,108,101]⟩⟩
noncomputable def AA:Str:=⟨⟨[99,111,108,117,109,110]⟩⟩
noncomputable def nY:Str:=⟨⟨jx⟩⟩
noncomputable def wR:Str:=⟨⟨eJ⟩⟩
noncomputable def nZ:Str:=⟨⟨[111,112]⟩⟩
noncomputable def AB:Str:=⟨⟨qu⟩⟩
noncomputable def lH:Str:=⟨⟨iu⟩⟩
noncomputable def AC:Str:=⟨⟨qy⟩⟩
noncomputable def AD:Str:=⟨⟨[108,111,119]⟩⟩
noncomputable def AE:Str:=⟨⟨[104,105,103,104]⟩⟩
noncomputable def fE:Str:=⟨⟨dE⟩⟩
noncomputable def AF:Str:=⟨⟨[105,116,101,109,115]⟩⟩
noncomputable def wS:Str:=⟨⟨[98,97,115,101]⟩⟩
noncomputable def AG:Str:=⟨⟨qF⟩⟩
noncomputable def AH:Str:=⟨⟨ms⟩⟩
noncomputable def n7:Str:=⟨⟨an⟩⟩
noncomputable def wT:Str:=⟨⟨qI⟩⟩
noncomputable def wU:Str:=⟨⟨qJ⟩⟩
noncomputable def wV:Str:=⟨⟨[115,116,97,114]⟩⟩
noncomputable def tc:Str:=⟨⟨mu⟩⟩
noncomputable def wY:Str:=⟨⟨wL⟩⟩
noncomputable def wZ:Str:=⟨⟨ge⟩⟩
noncomputable def w0:Str:=⟨⟨qS⟩⟩
noncomputable def w4:Str:=⟨⟨qT⟩⟩
noncomputable def Cz:Str:=⟨⟨jy⟩⟩
noncomputable def CA:Str:=⟨⟨jz⟩⟩
noncomputable def Jz:Str:=⟨⟨qW⟩⟩
noncomputable def JA:Str:=⟨⟨qX⟩⟩
noncomputable def JB:Str:=⟨⟨re⟩⟩
noncomputable def JC:Str:=⟨⟨[114,117,110]⟩⟩
noncomputable def JD:Str:=⟨⟨rg⟩⟩
noncomputable def JE:Str:=⟨⟨[98,97,114,101]⟩⟩
noncomputable def JF:Str:=⟨⟨rh⟩⟩
noncomputable def JG:Str:=⟨⟨ri⟩⟩
noncomputable def JH:Str:=⟨⟨gZ⟩⟩
noncomputable def JI:Str:=⟨⟨rj⟩⟩
noncomputable def JJ:Str:=⟨⟨[109,97,114,107]⟩⟩
noncomputable def JK:Str:=⟨⟨dh⟩⟩
noncomputable def JL:Str:=⟨⟨rI⟩⟩
noncomputable def w5:Str:=⟨⟨jB⟩⟩
noncomputable def JM:Str:=⟨⟨rJ⟩⟩
noncomputable def JN:Str:=⟨⟨rK⟩⟩
noncomputable def JO:Str:=⟨⟨rL⟩⟩
noncomputable def JP:Str:=⟨⟨rM⟩⟩
noncomputable def JQ:Str:=⟨⟨rN⟩⟩
noncomputable def JR:Str:=⟨⟨rO⟩⟩
noncomputable def JS:Str:=⟨⟨rQ⟩⟩
noncomputable def JT:Str:=⟨⟨rR⟩⟩
noncomputable def CB:Str:=⟨⟨bD⟩⟩
noncomputable def JU:Str:=⟨⟨gN⟩⟩
noncomputable def JV:Str:=⟨⟨[110,97,109,101,100]⟩⟩
noncomputable def te:Str:=⟨⟨sk⟩⟩
noncomputable def JW:Str:=⟨⟨sn⟩⟩
noncomputable def JX:Str:=⟨⟨[102,114,101,101]⟩⟩
noncomputable def JY:Str:=⟨⟨im⟩⟩
noncomputable def JZ:Str:=⟨⟨[116,101,115,116]⟩⟩
noncomputable def J0:Str:=⟨⟨[104,101,114,101]⟩⟩
noncomputable def J1:Str:=⟨⟨kW⟩⟩
noncomputable def J2:Str:=⟨⟨[103,111]⟩⟩
noncomputable def J3:Str:=⟨⟨sB⟩⟩
noncomputable def J4:Str:=⟨⟨sC⟩⟩
noncomputable def J5:Str:=⟨⟨sD⟩⟩
noncomputable def J6:Str:=⟨⟨sE⟩⟩
noncomputable def J7:Str:=⟨⟨sF⟩⟩
noncomputable def J8:Str:=⟨⟨sG⟩⟩
noncomputable def J9:Str:=⟨⟨sH⟩⟩
noncomputable def Ka:Str:=⟨⟨sI⟩⟩
noncomputable def Kb:Str:=⟨⟨sJ⟩⟩
noncomputable def eg:Str:=⟨⟨aR⟩⟩
noncomputable def Kc:Str:=⟨⟨[105,110,116]⟩⟩
noncomputable def Kd:Str:=⟨⟨[115,116,114]⟩⟩
noncomputable def Ke:Str:=⟨⟨[116,117,112,108,101]⟩⟩
noncomputable def Kf:Str:=⟨⟨[98,121,116,101,115]⟩⟩
noncomputable def Kg:Str:=⟨⟨[114,97,110,103,101]⟩⟩
noncomputable def Kh:Str:=⟨⟨av⟩⟩
noncomputable def Ki:Str:=⟨⟨bt⟩⟩
noncomputable def Kj:Str:=⟨⟨ch⟩⟩
noncomputable def mU:Str:=⟨⟨bX⟩⟩
noncomputable def Kk:Str:=⟨⟨eC⟩⟩
noncomputable def kX:Str:=⟨⟨ef⟩⟩
noncomputable def Kl:Str:=⟨⟨mF⟩⟩
noncomputable def Km:Str:=⟨⟨wN⟩⟩
noncomputable def dF:Str:=⟨⟨gc⟩⟩
noncomputable def cN:Str:=⟨⟨[110,111,100,101,115]⟩⟩
noncomputable def au:Str:=⟨⟨aC⟩⟩
noncomputable def Kn:Str:=⟨⟨qo⟩⟩
noncomputable def Ko:Str:=⟨⟨qp⟩⟩
noncomputable def Kp:Str:=⟨⟨qq⟩⟩
noncomputable def Kq:Str:=⟨⟨qr⟩⟩
noncomputable def Kr:Str:=⟨⟨qs⟩⟩
noncomputable def Ks:Str:=⟨⟨qt⟩⟩
noncomputable def Kt:Str:=⟨⟨qw⟩⟩
noncomputable def Ku:Str:=⟨⟨qx⟩⟩
noncomputable def Kv:Str:=⟨⟨qz⟩⟩
noncomputable def Kw:Str:=⟨⟨qA⟩⟩
noncomputable def Kx:Str:=⟨⟨qB⟩⟩
noncomputable def Ky:Str:=⟨⟨qC⟩⟩
noncomputable def Kz:Str:=⟨⟨qD⟩⟩
noncomputable def KA:Str:=⟨⟨qE⟩⟩
noncomputable def KB:Str:=⟨⟨qG⟩⟩
noncomputable def KC:Str:=⟨⟨qH⟩⟩
noncomputable def KD:Str:=⟨⟨qK⟩⟩
noncomputable def KF:Str:=⟨⟨qL⟩⟩
noncomputable def KG:Str:=⟨⟨qM⟩⟩
noncomputable def KH:Str:=⟨⟨qN⟩⟩
noncomputable def KI:Str:=⟨⟨qO⟩⟩
noncomputable def KJ:Str:=⟨⟨qP⟩⟩
noncomputable def KL:Str:=⟨⟨qQ⟩⟩
noncomputable def KM:Str:=⟨⟨qR⟩⟩
noncomputable def KN:Str:=⟨⟨qU⟩⟩
noncomputable def KO:Str:=⟨⟨qV⟩⟩
noncomputable def kY:Str:=⟨⟨kq0⟩⟩
noncomputable def KP:Str:=⟨⟨qY⟩⟩
noncomputable def KQ:Str:=⟨⟨qZ⟩⟩
noncomputable def KR:Str:=⟨⟨q8⟩⟩
noncomputable def KS:Str:=⟨⟨q9⟩⟩
noncomputable def KT:Str:=⟨⟨rc⟩⟩
noncomputable def KU:Str:=⟨⟨rk⟩⟩
noncomputable def mV:Str:=⟨⟨kq1⟩⟩
noncomputable def KX:Str:=⟨⟨rm⟩⟩
noncomputable def KY:Str:=⟨⟨rn⟩⟩
noncomputable def CC:Str:=⟨⟨[115,105,103,110,115]⟩⟩
noncomputable def KZ:Str:=⟨⟨rp⟩⟩
noncomputable def K1:Str:=⟨⟨rt⟩⟩
noncomputable def CD:Str:=⟨⟨[113,117,111,116,101]⟩⟩
noncomputable def CE:Str:=⟨⟨mB⟩⟩
noncomputable def K2:Str:=⟨⟨rA⟩⟩
noncomputable def K3:Str:=⟨⟨rB⟩⟩
noncomputable def K4:Str:=⟨⟨rC⟩⟩
noncomputable def K5:Str:=⟨⟨rD⟩⟩
noncomputable def K6:Str:=⟨⟨rF⟩⟩
noncomputable def K7:Str:=⟨⟨rG⟩⟩
noncomputable def K8:Str:=⟨⟨rH⟩⟩
noncomputable def K9:Str:=⟨⟨rS⟩⟩
noncomputable def mW:Str:=⟨⟨[108,101,97,115,116]⟩⟩
noncomputable def tf:Str:=⟨⟨rT⟩⟩
noncomputable def La:Str:=⟨⟨rU⟩⟩
noncomputable def Lb:Str:=⟨⟨rV⟩⟩
noncomputable def Lc:Str:=⟨⟨rW⟩⟩
noncomputable def Ld:Str:=⟨⟨rX⟩⟩
noncomputable def Le:Str:=⟨⟨rY⟩⟩
noncomputable def Lg:Str:=⟨⟨rZ⟩⟩
noncomputable def Lh:Str:=⟨⟨r0⟩⟩
noncomputable def Li:Str:=⟨⟨r6⟩⟩
noncomputable def Lj:Str:=⟨⟨r7⟩⟩
noncomputable def Lk:Str:=⟨⟨sd⟩⟩
noncomputable def Ll:Str:=⟨⟨si⟩⟩
noncomputable def Lm:Str:=⟨⟨sj⟩⟩
noncomputable def Ln:Str:=⟨⟨so⟩⟩
noncomputable def th:Str:=⟨⟨sv⟩⟩
noncomputable def Lo:Str:=⟨⟨sx⟩⟩
noncomputable def Lp:Str:=⟨⟨sy⟩⟩
noncomputable def Lq:Str:=⟨⟨sz⟩⟩
noncomputable def Lr:Str:=⟨⟨sA⟩⟩
noncomputable def Ls:Str:=⟨⟨sK⟩⟩
noncomputable def Lu:Str:=⟨⟨sM⟩⟩
noncomputable def Lv:Str:=⟨⟨[109,97,110,121]⟩⟩
noncomputable def Lw:Str:=⟨⟨sN⟩⟩
noncomputable def Lx:Str:=⟨⟨sO⟩⟩
noncomputable def Ly:Str:=⟨⟨sP⟩⟩
noncomputable def Lz:Str:=⟨⟨sQ⟩⟩
noncomputable def LA:Str:=⟨⟨sR⟩⟩
noncomputable def LB:Str:=⟨⟨sS⟩⟩
noncomputable def LC:Str:=⟨⟨sT⟩⟩
noncomputable def LD:Str:=⟨⟨sU⟩⟩
noncomputable def LE:Str:=⟨⟨sV⟩⟩
noncomputable def LG:Str:=⟨⟨sW⟩⟩
noncomputable def LH:Str:=⟨⟨sX⟩⟩
noncomputable def LI:Str:=⟨⟨sY⟩⟩
noncomputable def LJ:Str:=⟨⟨sZ⟩⟩
noncomputable def CF:Str:=⟨⟨[115,99,114,105,112,116]⟩⟩
noncomputable def LK:Str:=⟨⟨[107]⟩⟩
noncomputable def LL:Str:=⟨⟨[116,111,112]⟩⟩
noncomputable def LM:Str:=⟨⟨[116,104,105,110,103,115]⟩⟩
noncomputable def LP:Str:=⟨⟨[102,117,101,108]⟩⟩
noncomputable def w6:Str:=⟨⟨[116,114,101,101]⟩⟩
noncomputable def CG:Str:=⟨⟨[115,105,122,101]⟩⟩
noncomputable def CH:Str:=⟨⟨bW⟩⟩
noncomputable def CI:Str:=⟨⟨[106,111,105,110]⟩⟩
noncomputable def w7:Str:=⟨⟨[46,48]⟩⟩
noncomputable def LQ:Str:=⟨⟨sw⟩⟩
end
end MineS
set_option backward.match.sparseCases false
namespace Mine
open PySem PySem.W PySem.Calls PyProof.Rows MineS
noncomputable abbrev pq:Program:=PySem.Challenge.pw_nt0142_01
theorem mX:PySem.Challenge.pw_nt0142_01=pq:=rfl
noncomputable def z (l:List Nat):Str:=⟨⟨l⟩⟩
noncomputable def kh (P:Params) (s:Str):Int:=reduceHash (P.strHash s.cps)
noncomputable def e (P:Params) (l:List Nat) (t:Nat) (v:Value):DictEntry:=⟨kh P (z l),.str (z l) t,v⟩
noncomputable abbrev r (a:Nat):Value:= .ref a
noncomputable abbrev x (l:List Nat) (t:Nat):Value:= .str (z l) t
noncomputable abbrev i (n:Int) (t:Nat):Value:= .int n t
noncomputable def tp (l:List Value):Obj:=⟨.type "tuple",none,.seq ⟨l⟩ 0,#[]⟩
noncomputable def fB:Stmt→List Stmt
 | .FunctionDef _ _ b _ _ _ _ _ _ _=>b
 | .ClassDef _ _ _ b _ _ _ _ _ _ _=>b
 |_=>[]
noncomputable def fA:Stmt→Arguments
 | .FunctionDef _ a _ _ _ _ _ _ _ _=>a
 |_=>⟨[],[],none,[],[],none,[]⟩
noncomputable def fN:Stmt→Str
 | .FunctionDef n _ _ _ _ _ _ _ _ _=>n
 |_=>z []
noncomputable def fS:Stmt→Scope
 | .FunctionDef _ _ _ _ _ _ s _ _ _=>s
 |_=>default
noncomputable def nth:List Stmt→Nat→Stmt
 |[],_=> .Pass ⟨0,0,0,0⟩
 |s::_,0=>s
 |_::l,n+1=>nth l n
noncomputable def st (n:Nat):Stmt:=nth pq.main.body n
noncomputable def mt (n j:Nat):Stmt:=nth (fB (nth pq.main.body n)) j
noncomputable def fr (s:Stmt) (q:Str):Obj:=⟨.none,none,.func {name:=fN s,qualname:=q,params:=fA s,body:= .stmts (fB s),scope:=fS s,globals:=0,closure:=[],defaults:= .none,kwdefaults:= .none},#[]⟩
noncomputable def fn (s:Stmt) (q:Str) (dV cd pm:Value):Obj:=⟨.type "function",none,.func {name:=fN s,qualname:=q,params:=fA s,body:= .stmts (fB s),scope:=fS s,globals:=3,closure:=[],defaults:=dV,kwdefaults:= .none,pyModule:=pm,code:=cd},#[]⟩
noncomputable def bb:Env:={scope:=pq.main.scope,locals:=3,globals:=3,cells:=[],code:= .ref 13,frame:=some 14}
noncomputable abbrev pc (b:List Stmt) (l:List Stmt) (p:Pos):Thread:=⟨(PySem.W.Fast.tw12563942051412417395 l bb).wrap doneF deadEnd id id,.body b bb,p,[topFrame ⟨0,0,0,0⟩]⟩
noncomputable abbrev sg (w:World) (n:Nat) (S:SharedT) (t:Thread):Option (Flow×SharedT×Code×Pos):=PySem.W.Fast.tw10110043849684766642 PySem.W.Fast.tw14364793385576792824 pq w 11 (some (.ref 6)) 1 n S t
noncomputable def sl (k n:Nat):List Stmt:=(pq.main.body.drop k).take n
noncomputable def ev:Bool→List Obj→List Obj
 |_,[]=>[]
 |true,x::r=>x::ev false r
 |false,_::r=>ev true r
noncomputable def tE:Nat→List Obj→BT
 |0,_=> .nil
 |_+1,[]=> .nil
 |n+1,x::r=> .node x (tE n (ev true r)) (tE n (ev false r))
noncomputable def tr (l:List Obj):BT:=tE 12 l
noncomputable def gA (P:Params):List DictEntry:=[e P [95,95,100,111,99,95,95] 166 .none,e P [95,95,112,97,99,107,97,103,101,95,95] 167 .none,e P [95,95,108,111,97,100,101,114,95,95] 168 (.builtin "__main__.__loader__#opaque"),e P [95,95,115,112,101,99,95,95] 169 .none,e P [95,95,97,110,110,111,116,97,116,105,111,110,115,95,95] 170 (r 6),e P [95,95,98,117,105,108,116,105,110,115,95,95] 171 (r 4),e P [95,95,102,105,108,101,95,95] 173 (x [47,99,108,97,105,109,47,99,117,116,46,112,121] 172),e P [95,95,99,97,99,104,101,100,95,95] 174 .none]
noncomputable def gB0 (P:Params):List DictEntry:=[e P [95,119,97,108,108] 193 (r 21),e P [114,111,119,95,111,102] 202 (r 28),e P [114,111,119,115,95,111,102] 208 (r 33),e P [78,111,100,101] 235 (r 50),e P [69,120,112,114] 251 (r 64),e P [76,105,116,101,114,97,108] 283 (r 90),e P [78,97,109,101] 320 (r 116),e P [86,97,114,105,97,98,108,101] 352 (r 142),e P [85,110,97,114,121] 386 (r 168),e P [66,105,110,97,114,121] 422 (r 194),e P [66,101,116,119,101,101,110] 460 (r 220),e P [73,110,76,105,115,116] 496 (r 246),e P [73,110,83,101,108,101,99,116] 532 (r 272),e P [69,120,105,115,116,115] 566 (r 298),e P [83,99,97,108,97,114] 598 (r 324),e P [67,97,115,101] 633 (r 348),e P [67,97,108,108] 671 (r 374),e P [67,97,115,116] 705 (r 400),e P [67,111,108,108,97,116,101] 739 (r 426),e P [73,115,78,117,108,108] 773 (r 452)]
noncomputable def gB1 (P:Params):List DictEntry:=[e P [77,97,116,99,104] 814 (r 478),e P [114,101,97,100,95,116,121,112,101] 825 (r 487),e P [114,101,97,100,95,115,105,122,101] 833 (r 494),e P [80,97,103,101,98,97,115,101,69,114,114,111,114] 864 (r 511),e P [83,113,108,69,114,114,111,114] 880 (r 524),e P [80,97,114,115,101,69,114,114,111,114] 907 (r 543),e P [81,85,79,84,69,83] 911 (x [39,34,96,91] 910),e P [66,76,65,78,75,83] 913 (x [32,9,10,13,12] 912),e P [70,73,71,85,82,69,83] 915 (x [48,49,50,51,52,53,54,55,56,57] 914),e P [72,69,88,95,70,73,71,85,82,69,83] 917 (x [48,49,50,51,52,53,54,55,56,57,97,98,99,100,101,102,65,66,67,68,69,70] 916),e P [76,69,84,84,69,82,83] 919 (x [97,98,99,100,101,102,103,104,105,106,107,108,109,110,111,112,113,114,115,116,117,118,119,120,121,122,65,66,67,68,69,70,71,72,73,74,75,76,77,78,79,80,81,82,83,84,85,86,87,88,89,90,95] 918),e P [78,65,77,69,95,83,73,71,78,83] 923 (x [97,98,99,100,101,102,103,104,105,106,107,108,109,110,111,112,113,114,115,116,117,118,119,120,121,122,65,66,67,68,69,70,71,72,73,74,75,76,77,78,79,80,81,82,83,84,85,86,87,88,89,90,95,48,49,50,51,52,53,54,55,56,57,36] 922),e P [83,73,71,78,83,95,79,70,95,84,87,79] 932 (r 546),e P [83,73,71,78,83,95,79,70,95,79,78,69] 934 (x [40,41,44,46,59,43,45,42,47,37,61,60,62,38,124,126] 933),e P [76,73,75,69,95,83,73,71,78,83] 941 (r 547),e P [77,79,83,84,95,86,65,82,73,65,66,76,69] 943 (i 999 942),e P [71,82,69,65,84,69,83,84] 947 (i 9223372036854775808 946),e P [82,69,83,69,82,86,69,68] 1006 (r 548),e P [74,79,73,78,73,78,71] 1015 (r 549),e P [102,111,108,100,101,100] 1021 (r 554)]
noncomputable def gB2 (P:Params):List DictEntry:=[e P [98,101,103,105,110,115,95,110,97,109,101] 1028 (r 561),e P [103,111,101,115,95,111,110,95,110,97,109,101] 1035 (r 568),e P [87,111,114,100] 1107 (r 620),e P [83,99,97,110,110,101,114] 1262 (r 725),e P [114,101,97,100,95,119,111,114,100,115] 1269 (r 736),e P [76,79,87,69,83,84] 1273 (i 1 1272),e P [78,79,84,95,76,69,86,69,76] 1275 (i 3 1274),e P [69,81,85,65,76,95,76,69,86,69,76] 1277 (i 4 1276),e P [76,69,83,83,95,76,69,86,69,76] 1279 (i 5 1278),e P [83,73,71,78,95,76,69,86,69,76,83] 1328 (r 737),e P [75,69,89,95,76,69,86,69,76,83] 1362 (r 738),e P [66,69,72,73,78,68,95,78,79,84] 1368 (r 739),e P [65,72,69,65,68,95,83,73,71,78,83] 1372 (r 740),e P [69,120,112,114,101,115,115,105,111,110,82,101,97,100,101,114] 1544 (r 863),e P [81,85,79,84,69,68,95,65,76,87,65,89,83] 1574 (r 868),e P [105,115,95,98,97,114,101] 1583 (r 875),e P [119,114,105,116,101,95,110,97,109,101] 1590 (r 882),e P [119,114,105,116,101,95,118,97,108,117,101] 1597 (r 889),e P [119,114,105,116,101,95,116,121,112,101] 1605 (r 896),e P [67,79,76,76,65,84,69,95,76,69,86,69,76] 1609 (i 10 1608)]
noncomputable def gB3 (P:Params):List DictEntry:=[e P [65,72,69,65,68,95,76,69,86,69,76] 1611 (i 11 1610),e P [65,76,79,78,69,95,76,69,86,69,76] 1613 (i 12 1612),e P [108,101,118,101,108,95,111,102] 1620 (r 903),e P [69,120,112,114,101,115,115,105,111,110,87,114,105,116,101,114] 1708 (r 961),e P [77,79,83,84,95,68,69,80,84,72] 1712 (i 50 1711),e P [87,111,114,100,83,116,114,101,97,109] 1866 (r 1094),e P [95,108,97,119,95,112,111,111,108] 1879 (r 1105),e P [95,108,97,119,95,116,97,107,101] 1888 (r 1112),e P [95,108,97,119,95,111,110,101] 1896 (r 1119),e P [95,108,97,119,95,108,101,97,102] 1904 (r 1126),e P [95,108,97,119,95,101,120,112,114] 1921 (r 1133),e P [95,108,97,119,95,110,97,109,101] 1928 (r 1140),e P [95,108,97,119,95,118,97,108,117,101] 1937 (r 1147),e P [95,108,97,119,95,116,101,120,116] 1943 (r 1152),e P [95,108,97,119,95,116,101,115,116] 1949 (r 1157),e P [95,108,97,119,95,114,101,97,100] 1958 (r 1164),e P [108,97,119] 1971 (r 1171)]
noncomputable def gB (P:Params):List DictEntry:=gB0 P++gB1 P++gB2 P++gB3 P
noncomputable def gd (P:Params) (nm:Value) (k n:Nat):Obj:=⟨.type "dict",none,.dict (((e P [95,95,110,97,109,101,95,95] 165 nm)::gA P)++(gB P).take k).toArray n,#[]⟩
noncomputable def tB:List Value:=[(i 1 0),(i 0 0),(r 20),(i 5 0),(i 0 0),(r 27),(i 7 0),(i 0 0),(r 32),(i 9 0),(i 0 0),(r 39),(i 13 0),(i 0 0),(r 60),(i 15 0),(i 0 0),(r 72),(i 26 0),(i 0 0),(r 98),(i 37 0),(i 0 0),(r 124),(i 44 0),(i 0 0),(r 150),(i 52 0),(i 0 0),(r 176),(i 61 0),(i 0 0),(r 202),(i 71 0),(i 0 0),(r 228),(i 80 0),(i 0 0),(r 254),(i 89 0),(i 0 0),(r 280),(i 97 0),(i 0 0),(r 306),(i 104 0),(i 0 0),(r 332),(i 114 0),(i 0 0),(r 356),(i 124 0),(i 0 0),(r 382),(i 132 0),(i 0 0),(r 408),(i 140 0),(i 0 0),(r 434),(i 148 0),(i 0 0),(r 460),(i 161 0),(i 0 0),(r 486),(i 175 0),(i 0 0),(r 493),(i 185 0),(i 0 0),(r 500),(i 189 0),(i 0 0),(r 520),(i 191 0),(i 0 0),(r 532),(i 210 0),(i 0 0),(r 553),(i 214 0),(i 0 0),(r 560),(i 216 0),(i 0 0),(r 567),(i 218 0),(i 0 0),(r 574),(i 240 0),(i 0 0),(r 630),(i 373 0),(i 0 0),(r 735),(i 384 0),(i 0 0),(r 746),(i 575 0),(i 0 0),(r 874),(i 585 0),(i 0 0),(r 881),(i 587 0),(i 0 0),(r 888),(i 595 0),(i 0 0),(r 895),(i 604 0),(i 0 0),(r 902),(i 618 0),(i 0 0),(r 909),(i 695 0),(i 0 0),(r 971),(i 766 0),(i 0 0),(r 1104),(i 773 0),(i 0 0),(r 1111),(i 780 0),(i 0 0),(r 1118),(i 782 0),(i 0 0),(r 1125),(i 788 0),(i 0 0),(r 1132),(i 815 0),(i 0 0),(r 1139),(i 817 0),(i 0 0),(r 1146),(i 824 0),(i 0 0),(r 1151),(i 849 0),(i 0 0),(r 1156),(i 860 0),(i 0 0),(r 1163),(i 864 0),(i 0 0),(r 1170)]
noncomputable def td (k:Nat):Obj:=⟨.none,none,.fields (tB.take k).toArray,#[]⟩
noncomputable def bp:Obj:=⟨.type "builtin_function_or_method",none,.fields #[.builtin "type.__prepare__",.type "type"],#[]⟩
noncomputable def bi (n:Nat):Obj:=⟨.type "builtin_function_or_method",none,.fields #[.builtin "object.__init_subclass__",r n],#[]⟩
noncomputable def su (n:Nat):Obj:=⟨.type "super",none,.fields #[r n,r n,r n],#[]⟩
noncomputable def f1 (l:List Value):Obj:=⟨.none,none,.fields ⟨l⟩,#[]⟩
noncomputable def f0:Obj:=f1 []
noncomputable def fm (a b:Nat) (l:List Nat) (t:Nat):Obj:=⟨.type "frame",none,.plain,#[some (r a),some (r 3),some (r b),none,some (x l t),none,some (r 0)]⟩
noncomputable def dc (l:List DictEntry) (n:Nat):Obj:=⟨.type "dict",none,.dict ⟨l⟩ n,#[]⟩
noncomputable def cl (q:List Nat) (b m:List Value) (n:Nat) (s:List Value) (l:List (Option Value)):Obj:=⟨.type "type",none,.cls {name:=z q,bases:=b,mro:=m,ns:=n,qualname:=z q,hasDict:=true,slotNames:=[],subclasses:=s,abstract:=false,collection:=none,hasDel:=false},⟨l⟩⟩
noncomputable def co (A B:List Nat) (a L n m f k:Nat) (b:Bool) (p q u v:Value) (t:Nat) (D:List Nat) (d:Nat):Obj:=⟨.type "code",none,.fields #[x A a,x B (a+1),x ah (a+2),i L 0,i n 0,i 0 0,i m 0,i f 0,r k,.bool b,i 181 0,r (k+1),p,q,u,v,i t 0,i L 0,x D d],#[]⟩
noncomputable def cp (A B:List Nat) (a L n k t:Nat) (D:List Nat) (d:Nat):Obj:=co A B a L n 0 3 k true .none (r (k+2)) (r (k+3)) (r (k+4)) t D d
noncomputable def c0x0 (P:Params) (m:Nat→Nat):List Obj:=[tp [],
 f0,
 tp [(x [107] 190)],
 tp [],
 fr (st 0) (z [95,119,97,108,108]),
 cp [95,119,97,108,108] [95,119,97,108,108] 187 1 1 15 191 ah 192,
 fn (st 0) (z [95,119,97,108,108]) .none (r 20) (x wj 164),
 tp [],
 f0,
 tp [(x gc 199)],
 tp [],
 fr (st 2) (z mq),
 cp mq mq 196 5 1 22 200 ah 201,
 fn (st 2) (z mq) .none (r 27) (x av 194),
 tp [],
 f0,
 fr (st 3) (z mr),
 co mr mr 203 7 1 0 3 29 true .none .none .none (r 31) 206 ah 207,
 fn (st 3) (z mr) .none (r 32) (x av 194),
 tp [],
 bp,
 dc [e P aW 216 (x av 194),e P bP 218 (x iq 217),e P aX 220 (i 9 219),e P aR 227 (r 47),e P aY 228 (r 48)] 5,
 tp [],
 f1 [(i 11 0),(i 4 0),(r 46)],
 co iq iq 211 9 0 0 0 37 false .none .none .none .none 214 ah 215,
 fm 39 36 av 194,
 tp [],
 f0,
 tp [(x aC 224)],
 tp [],
 fr (mt 4 0) (z wk),
 cp aR wk 221 11 1 41 225 ah 226,
 fn (mt 4 0) (z wk) .none (r 46) (x av 194),
 tp [],
 dc [e P aW 216 (x av 194),e P aX 220 (i 9 219),e P aR 227 (r 47),e P aY 228 (r 48),e P fe 230 (r 51),e P ec 232 (r 52),e P bQ 233 .none] 4,
 ⟨(.type "type"),none,.cls {name:=(z iq),bases:=[(.type "object")],mro:=[(r 50),(.type "object")],ns:=49,qualname:=(z iq),hasDict:=true,slotNames:=[],subclasses:=([(r 64)]:List Value).take (m 50),abstract:=false,collection:=none,hasDel:=false},#[none,none,(some (x iq 209)),(some (x iq 217)),(some (.builtin "object.__new__")),(some (.bool true))]⟩,
 ⟨(.type "getset_descriptor"),none,.fields #[(x fe 229),(r 50),(.builtin "function.__dict__"),(.builtin "function.__dict__#set")],#[]⟩,
 ⟨(.type "getset_descriptor"),none,.fields #[(x ec 231),(r 50),(.builtin "ExceptionGroup.__weakref__"),.none],#[]⟩,
 su 50,
 bi 50]
noncomputable def c0 (P:Params) (m:Nat→Nat):List Obj:=c0x0 P m
noncomputable def c1x0 (P:Params) (m:Nat→Nat):List Obj:=[tp [(r 50)],
 bp,
 dc [e P aW 243 (x av 194),e P bP 245 (x ir 244),e P aX 247 (i 13 246),e P aY 248 (r 62)] 4,
 tp [],
 f0,
 co ir ir 238 13 0 0 0 58 false .none .none .none .none 241 ah 242,
 fm 60 57 av 194,
 tp [],
 dc [e P aW 243 (x av 194),e P aX 247 (i 13 246),e P aY 248 (r 62),e P bQ 249 .none] 2,
 ⟨(.type "type"),none,.cls {name:=(z ir),bases:=[(r 50)],mro:=[(r 64),(r 50),(.type "object")],ns:=63,qualname:=(z ir),hasDict:=true,slotNames:=[],subclasses:=([(r 90),(r 116),(r 142),(r 168),(r 194),(r 220),(r 246),(r 272),(r 298),(r 324),(r 348),(r 374),(r 400),(r 426),(r 452),(r 478)]:List Value).take (m 64),abstract:=false,collection:=none,hasDel:=false},#[(some (r 55)),none,(some (x ir 236)),(some (x ir 244)),(some (.builtin "object.__new__")),(some (.bool true))]⟩,
 su 64,
 bi 64]
noncomputable def c1 (P:Params) (m:Nat→Nat):List Obj:=c1x0 P m
noncomputable def c2x0 (P:Params):List Obj:=[tp [(r 64)],
 bp,
 dc [e P aW 259 (x av 194),e P bP 261 (x i6 260),e P aX 263 (i 15 262),e P aM 271 (r 80),e P aR 278 (r 87),e P aY 280 (r 88)] 6,
 tp [],
 f1 [(i 17 0),(i 4 0),(r 79),(i 20 0),(i 4 0),(r 86)],
 co i6 i6 254 15 0 0 0 70 false .none .none .none .none 257 ah 258,
 fm 72 69 av 194,
 tp [],
 f0,
 tp [(x aC 267),(x bR 268)],
 tp [],
 fr (mt 6 0) (z qo),
 cp aM qo 264 17 2 74 269 ah 270,
 fn (mt 6 0) (z qo) .none (r 79) (x av 194),
 tp [],
 f0,
 tp [(x aC 275)],
 tp [],
 fr (mt 6 1) (z qp),
 cp aR qp 272 20 1 81 276 ah 277,
 fn (mt 6 1) (z qp) .none (r 86) (x av 194),
 tp [(x bR 279)],
 dc [e P aW 259 (x av 194),e P aX 263 (i 15 262),e P aM 271 (r 80),e P aR 278 (r 87),e P aY 280 (r 88),e P bQ 281 .none] 2,
 cl i6 [(r 64)] [(r 90),(r 64),(r 50),(.type "object")] 89 [] [(some (r 67)),none,(some (x i6 252)),(some (x i6 260)),(some (.builtin "object.__new__")),(some (.bool true))],
 su 90,
 bi 90]
noncomputable def c2 (P:Params) (m:Nat→Nat):List Obj:=c2x0 P
noncomputable def c3x0 (P:Params):List Obj:=[tp [(r 64)],
 bp,
 dc [e P aW 291 (x av 194),e P bP 293 (x i8 292),e P aX 295 (i 26 294),e P aM 304 (r 106),e P aR 311 (r 113),e P aY 317 (r 114)] 6,
 tp [],
 f1 [(i 28 0),(i 4 0),(r 105),(i 35 0),(i 4 0),(r 112)],
 co i8 i8 286 26 0 0 0 96 false .none .none .none .none 289 ah 290,
 fm 98 95 av 194,
 tp [],
 f0,
 tp [(x aC 299),(x [116,97,98,108,101] 300),(x [99,111,108,117,109,110] 301)],
 tp [],
 fr (mt 7 0) (z qq),
 cp aM qq 296 28 3 100 302 ah 303,
 fn (mt 7 0) (z qq) .none (r 105) (x av 194),
 tp [],
 f0,
 tp [(x aC 308)],
 tp [],
 fr (mt 7 1) (z qr),
 cp aR qr 305 35 1 107 309 ah 310,
 fn (mt 7 1) (z qr) .none (r 112) (x av 194),
 tp [(x [99,111,108,117,109,110] 312),(x [100,101,112,116,104] 313),(x jw 314),(x jx 315),(x [116,97,98,108,101] 316)],
 dc [e P aW 291 (x av 194),e P aX 295 (i 26 294),e P aM 304 (r 106),e P aR 311 (r 113),e P aY 317 (r 114),e P bQ 318 .none] 2,
 cl i8 [(r 64)] [(r 116),(r 64),(r 50),(.type "object")] 115 [] [(some (r 93)),none,(some (x i8 284)),(some (x i8 292)),(some (.builtin "object.__new__")),(some (.bool true))],
 su 116,
 bi 116]
noncomputable def c3 (P:Params) (m:Nat→Nat):List Obj:=c3x0 P
noncomputable def c4x0 (P:Params):List Obj:=[tp [(r 64)],
 bp,
 dc [e P aW 328 (x av 194),e P bP 330 (x i9 329),e P aX 332 (i 37 331),e P aM 340 (r 132),e P aR 347 (r 139),e P aY 349 (r 140)] 6,
 tp [],
 f1 [(i 39 0),(i 4 0),(r 131),(i 42 0),(i 4 0),(r 138)],
 co i9 i9 323 37 0 0 0 122 false .none .none .none .none 326 ah 327,
 fm 124 121 av 194,
 tp [],
 f0,
 tp [(x aC 336),(x eJ 337)],
 tp [],
 fr (mt 8 0) (z qs),
 cp aM qs 333 39 2 126 338 ah 339,
 fn (mt 8 0) (z qs) .none (r 131) (x av 194),
 tp [],
 f0,
 tp [(x aC 344)],
 tp [],
 fr (mt 8 1) (z qt),
 cp aR qt 341 42 1 133 345 ah 346,
 fn (mt 8 1) (z qt) .none (r 138) (x av 194),
 tp [(x eJ 348)],
 dc [e P aW 328 (x av 194),e P aX 332 (i 37 331),e P aM 340 (r 132),e P aR 347 (r 139),e P aY 349 (r 140),e P bQ 350 .none] 2,
 cl i9 [(r 64)] [(r 142),(r 64),(r 50),(.type "object")] 141 [] [(some (r 119)),none,(some (x i9 321)),(some (x i9 329)),(some (.builtin "object.__new__")),(some (.bool true))],
 su 142,
 bi 142]
noncomputable def c4 (P:Params) (m:Nat→Nat):List Obj:=c4x0 P
noncomputable def c5x0 (P:Params):List Obj:=[tp [(r 64)],
 bp,
 dc [e P aW 360 (x av 194),e P bP 362 (x ja 361),e P aX 364 (i 44 363),e P aM 373 (r 158),e P aR 380 (r 165),e P aY 383 (r 166)] 6,
 tp [],
 f1 [(i 46 0),(i 4 0),(r 157),(i 50 0),(i 4 0),(r 164)],
 co ja ja 355 44 0 0 0 148 false .none .none .none .none 358 ah 359,
 fm 150 147 av 194,
 tp [],
 f0,
 tp [(x aC 368),(x [111,112] 369),(x qu 370)],
 tp [],
 fr (mt 9 0) (z qw),
 cp aM qw 365 46 3 152 371 ah 372,
 fn (mt 9 0) (z qw) .none (r 157) (x av 194),
 tp [],
 f0,
 tp [(x aC 377)],
 tp [],
 fr (mt 9 1) (z qx),
 cp aR qx 374 50 1 159 378 ah 379,
 fn (mt 9 1) (z qx) .none (r 164) (x av 194),
 tp [(x [111,112] 381),(x qu 382)],
 dc [e P aW 360 (x av 194),e P aX 364 (i 44 363),e P aM 373 (r 158),e P aR 380 (r 165),e P aY 383 (r 166),e P bQ 384 .none] 2,
 cl ja [(r 64)] [(r 168),(r 64),(r 50),(.type "object")] 167 [] [(some (r 145)),none,(some (x ja 353)),(some (x ja 361)),(some (.builtin "object.__new__")),(some (.bool true))],
 su 168,
 bi 168]
noncomputable def c5 (P:Params) (m:Nat→Nat):List Obj:=c5x0 P
noncomputable def c6x0 (P:Params):List Obj:=[tp [(r 64)],
 bp,
 dc [e P aW 394 (x av 194),e P bP 396 (x jb 395),e P aX 398 (i 52 397),e P aM 408 (r 184),e P aR 415 (r 191),e P aY 419 (r 192)] 6,
 tp [],
 f1 [(i 54 0),(i 4 0),(r 183),(i 59 0),(i 4 0),(r 190)],
 co jb jb 389 52 0 0 0 174 false .none .none .none .none 392 ah 393,
 fm 176 173 av 194,
 tp [],
 f0,
 tp [(x aC 402),(x [111,112] 403),(x iu 404),(x qy 405)],
 tp [],
 fr (mt 10 0) (z qz),
 cp aM qz 399 54 4 178 406 ah 407,
 fn (mt 10 0) (z qz) .none (r 183) (x av 194),
 tp [],
 f0,
 tp [(x aC 412)],
 tp [],
 fr (mt 10 1) (z qA),
 cp aR qA 409 59 1 185 413 ah 414,
 fn (mt 10 1) (z qA) .none (r 190) (x av 194),
 tp [(x iu 416),(x [111,112] 417),(x qy 418)],
 dc [e P aW 394 (x av 194),e P aX 398 (i 52 397),e P aM 408 (r 184),e P aR 415 (r 191),e P aY 419 (r 192),e P bQ 420 .none] 2,
 cl jb [(r 64)] [(r 194),(r 64),(r 50),(.type "object")] 193 [] [(some (r 171)),none,(some (x jb 387)),(some (x jb 395)),(some (.builtin "object.__new__")),(some (.bool true))],
 su 194,
 bi 194]
noncomputable def c6 (P:Params) (m:Nat→Nat):List Obj:=c6x0 P
noncomputable def c7x0 (P:Params):List Obj:=[tp [(r 64)],
 bp,
 dc [e P aW 430 (x av 194),e P bP 432 (x jc 431),e P aX 434 (i 61 433),e P aM 445 (r 210),e P aR 452 (r 217),e P aY 457 (r 218)] 6,
 tp [],
 f1 [(i 63 0),(i 4 0),(r 209),(i 69 0),(i 4 0),(r 216)],
 co jc jc 425 61 0 0 0 200 false .none .none .none .none 428 ah 429,
 fm 202 199 av 194,
 tp [],
 f0,
 tp [(x aC 438),(x bR 439),(x [108,111,119] 440),(x [104,105,103,104] 441),(x dE 442)],
 tp [],
 fr (mt 11 0) (z qB),
 cp aM qB 435 63 5 204 443 ah 444,
 fn (mt 11 0) (z qB) .none (r 209) (x av 194),
 tp [],
 f0,
 tp [(x aC 449)],
 tp [],
 fr (mt 11 1) (z qC),
 cp aR qC 446 69 1 211 450 ah 451,
 fn (mt 11 1) (z qC) .none (r 216) (x av 194),
 tp [(x [104,105,103,104] 453),(x [108,111,119] 454),(x dE 455),(x bR 456)],
 dc [e P aW 430 (x av 194),e P aX 434 (i 61 433),e P aM 445 (r 210),e P aR 452 (r 217),e P aY 457 (r 218),e P bQ 458 .none] 2,
 cl jc [(r 64)] [(r 220),(r 64),(r 50),(.type "object")] 219 [] [(some (r 197)),none,(some (x jc 423)),(some (x jc 431)),(some (.builtin "object.__new__")),(some (.bool true))],
 su 220,
 bi 220]
noncomputable def c7 (P:Params) (m:Nat→Nat):List Obj:=c7x0 P
noncomputable def c8x0 (P:Params):List Obj:=[tp [(r 64)],
 bp,
 dc [e P aW 468 (x av 194),e P bP 470 (x jd 469),e P aX 472 (i 71 471),e P aM 482 (r 236),e P aR 489 (r 243),e P aY 493 (r 244)] 6,
 tp [],
 f1 [(i 73 0),(i 4 0),(r 235),(i 78 0),(i 4 0),(r 242)],
 co jd jd 463 71 0 0 0 226 false .none .none .none .none 466 ah 467,
 fm 228 225 av 194,
 tp [],
 f0,
 tp [(x aC 476),(x bR 477),(x [105,116,101,109,115] 478),(x dE 479)],
 tp [],
 fr (mt 12 0) (z qD),
 cp aM qD 473 73 4 230 480 ah 481,
 fn (mt 12 0) (z qD) .none (r 235) (x av 194),
 tp [],
 f0,
 tp [(x aC 486)],
 tp [],
 fr (mt 12 1) (z qE),
 cp aR qE 483 78 1 237 487 ah 488,
 fn (mt 12 1) (z qE) .none (r 242) (x av 194),
 tp [(x [105,116,101,109,115] 490),(x dE 491),(x bR 492)],
 dc [e P aW 468 (x av 194),e P aX 472 (i 71 471),e P aM 482 (r 236),e P aR 489 (r 243),e P aY 493 (r 244),e P bQ 494 .none] 2,
 cl jd [(r 64)] [(r 246),(r 64),(r 50),(.type "object")] 245 [] [(some (r 223)),none,(some (x jd 461)),(some (x jd 469)),(some (.builtin "object.__new__")),(some (.bool true))],
 su 246,
 bi 246]
noncomputable def c8 (P:Params) (m:Nat→Nat):List Obj:=c8x0 P
noncomputable def c9x0 (P:Params):List Obj:=[tp [(r 64)],
 bp,
 dc [e P aW 504 (x av 194),e P bP 506 (x je 505),e P aX 508 (i 80 507),e P aM 518 (r 262),e P aR 525 (r 269),e P aY 529 (r 270)] 6,
 tp [],
 f1 [(i 82 0),(i 4 0),(r 261),(i 87 0),(i 4 0),(r 268)],
 co je je 499 80 0 0 0 252 false .none .none .none .none 502 ah 503,
 fm 254 251 av 194,
 tp [],
 f0,
 tp [(x aC 512),(x bR 513),(x kR 514),(x dE 515)],
 tp [],
 fr (mt 13 0) (z wm),
 cp aM wm 509 82 4 256 516 ah 517,
 fn (mt 13 0) (z wm) .none (r 261) (x av 194),
 tp [],
 f0,
 tp [(x aC 522)],
 tp [],
 fr (mt 13 1) (z wq),
 cp aR wq 519 87 1 263 523 ah 524,
 fn (mt 13 1) (z wq) .none (r 268) (x av 194),
 tp [(x dE 526),(x kR 527),(x bR 528)],
 dc [e P aW 504 (x av 194),e P aX 508 (i 80 507),e P aM 518 (r 262),e P aR 525 (r 269),e P aY 529 (r 270),e P bQ 530 .none] 2,
 cl je [(r 64)] [(r 272),(r 64),(r 50),(.type "object")] 271 [] [(some (r 249)),none,(some (x je 497)),(some (x je 505)),(some (.builtin "object.__new__")),(some (.bool true))],
 su 272,
 bi 272]
noncomputable def c9 (P:Params) (m:Nat→Nat):List Obj:=c9x0 P
noncomputable def c10x0 (P:Params):List Obj:=[tp [(r 64)],
 bp,
 dc [e P aW 540 (x av 194),e P bP 542 (x jf 541),e P aX 544 (i 89 543),e P aM 553 (r 288),e P aR 560 (r 295),e P aY 563 (r 296)] 6,
 tp [],
 f1 [(i 91 0),(i 4 0),(r 287),(i 95 0),(i 4 0),(r 294)],
 co jf jf 535 89 0 0 0 278 false .none .none .none .none 538 ah 539,
 fm 280 277 av 194,
 tp [],
 f0,
 tp [(x aC 548),(x kR 549),(x dE 550)],
 tp [],
 fr (mt 14 0) (z wu),
 cp aM wu 545 91 3 282 551 ah 552,
 fn (mt 14 0) (z wu) .none (r 287) (x av 194),
 tp [],
 f0,
 tp [(x aC 557)],
 tp [],
 fr (mt 14 1) (z wv),
 cp aR wv 554 95 1 289 558 ah 559,
 fn (mt 14 1) (z wv) .none (r 294) (x av 194),
 tp [(x dE 561),(x kR 562)],
 dc [e P aW 540 (x av 194),e P aX 544 (i 89 543),e P aM 553 (r 288),e P aR 560 (r 295),e P aY 563 (r 296),e P bQ 564 .none] 2,
 cl jf [(r 64)] [(r 298),(r 64),(r 50),(.type "object")] 297 [] [(some (r 275)),none,(some (x jf 533)),(some (x jf 541)),(some (.builtin "object.__new__")),(some (.bool true))],
 su 298,
 bi 298]
noncomputable def c10 (P:Params) (m:Nat→Nat):List Obj:=c10x0 P
noncomputable def c11x0 (P:Params):List Obj:=[tp [(r 64)],
 bp,
 dc [e P aW 574 (x av 194),e P bP 576 (x jg 575),e P aX 578 (i 97 577),e P aM 586 (r 314),e P aR 593 (r 321),e P aY 595 (r 322)] 6,
 tp [],
 f1 [(i 99 0),(i 4 0),(r 313),(i 102 0),(i 4 0),(r 320)],
 co jg jg 569 97 0 0 0 304 false .none .none .none .none 572 ah 573,
 fm 306 303 av 194,
 tp [],
 f0,
 tp [(x aC 582),(x kR 583)],
 tp [],
 fr (mt 15 0) (z ww),
 cp aM ww 579 99 2 308 584 ah 585,
 fn (mt 15 0) (z ww) .none (r 313) (x av 194),
 tp [],
 f0,
 tp [(x aC 590)],
 tp [],
 fr (mt 15 1) (z wy),
 cp aR wy 587 102 1 315 591 ah 592,
 fn (mt 15 1) (z wy) .none (r 320) (x av 194),
 tp [(x kR 594)],
 dc [e P aW 574 (x av 194),e P aX 578 (i 97 577),e P aM 586 (r 314),e P aR 593 (r 321),e P aY 595 (r 322),e P bQ 596 .none] 2,
 cl jg [(r 64)] [(r 324),(r 64),(r 50),(.type "object")] 323 [] [(some (r 301)),none,(some (x jg 567)),(some (x jg 575)),(some (.builtin "object.__new__")),(some (.bool true))],
 su 324,
 bi 324]
noncomputable def c11 (P:Params) (m:Nat→Nat):List Obj:=c11x0 P
noncomputable def c12x0 (P:Params):List Obj:=[tp [(r 64)],
 bp,
 dc [e P aW 606 (x av 194),e P bP 608 (x jh 607),e P aX 610 (i 104 609),e P aM 620 (r 340),e P aR 626 (r 345),e P aY 630 (r 346)] 6,
 tp [],
 f1 [(i 106 0),(i 4 0),(r 339),(i 111 0),(i 4 0),(r 344)],
 co jh jh 601 104 0 0 0 330 false .none .none .none .none 604 ah 605,
 fm 332 329 av 194,
 tp [],
 f0,
 tp [(x aC 614),(x [98,97,115,101] 615),(x qF 616),(x ms 617)],
 tp [],
 fr (mt 16 0) (z qG),
 cp aM qG 611 106 4 334 618 ah 619,
 fn (mt 16 0) (z qG) .none (r 339) (x av 194),
 tp [],
 f0,
 fr (mt 16 1) (z qH),
 co aR qH 621 111 1 0 3 341 true .none .none .none (r 343) 624 ah 625,
 fn (mt 16 1) (z qH) .none (r 344) (x av 194),
 tp [(x [98,97,115,101] 627),(x ms 628),(x qF 629)],
 dc [e P aW 606 (x av 194),e P aX 610 (i 104 609),e P aM 620 (r 340),e P aR 626 (r 345),e P aY 630 (r 346),e P bQ 631 .none] 2,
 cl jh [(r 64)] [(r 348),(r 64),(r 50),(.type "object")] 347 [] [(some (r 327)),none,(some (x jh 599)),(some (x jh 607)),(some (.builtin "object.__new__")),(some (.bool true))],
 su 348,
 bi 348]
noncomputable def c12 (P:Params) (m:Nat→Nat):List Obj:=c12x0 P
noncomputable def c13x0 (P:Params):List Obj:=[tp [(r 64)],
 bp,
 dc [e P aW 641 (x av 194),e P bP 643 (x ji 642),e P aX 645 (i 114 644),e P aM 656 (r 364),e P aR 663 (r 371),e P aY 668 (r 372)] 6,
 tp [],
 f1 [(i 116 0),(i 4 0),(r 363),(i 122 0),(i 4 0),(r 370)],
 co ji ji 636 114 0 0 0 354 false .none .none .none .none 639 ah 640,
 fm 356 353 av 194,
 tp [],
 f0,
 tp [(x aC 649),(x an 650),(x qI 651),(x qJ 652),(x [115,116,97,114] 653)],
 tp [],
 fr (mt 17 0) (z qK),
 cp aM qK 646 116 5 358 654 ah 655,
 fn (mt 17 0) (z qK) .none (r 363) (x av 194),
 tp [],
 f0,
 tp [(x aC 660)],
 tp [],
 fr (mt 17 1) (z qL),
 cp aR qL 657 122 1 365 661 ah 662,
 fn (mt 17 1) (z qL) .none (r 370) (x av 194),
 tp [(x qI 664),(x qJ 665),(x an 666),(x [115,116,97,114] 667)],
 dc [e P aW 641 (x av 194),e P aX 645 (i 114 644),e P aM 656 (r 364),e P aR 663 (r 371),e P aY 668 (r 372),e P bQ 669 .none] 2,
 cl ji [(r 64)] [(r 374),(r 64),(r 50),(.type "object")] 373 [] [(some (r 351)),none,(some (x ji 634)),(some (x ji 642)),(some (.builtin "object.__new__")),(some (.bool true))],
 su 374,
 bi 374]
noncomputable def c13 (P:Params) (m:Nat→Nat):List Obj:=c13x0 P
noncomputable def c14x0 (P:Params):List Obj:=[tp [(r 64)],
 bp,
 dc [e P aW 679 (x av 194),e P bP 681 (x jj 680),e P aX 683 (i 124 682),e P aM 692 (r 390),e P aR 699 (r 397),e P aY 702 (r 398)] 6,
 tp [],
 f1 [(i 126 0),(i 4 0),(r 389),(i 130 0),(i 4 0),(r 396)],
 co jj jj 674 124 0 0 0 380 false .none .none .none .none 677 ah 678,
 fm 382 379 av 194,
 tp [],
 f0,
 tp [(x aC 687),(x bR 688),(x mu 689)],
 tp [],
 fr (mt 18 0) (z qM),
 cp aM qM 684 126 3 384 690 ah 691,
 fn (mt 18 0) (z qM) .none (r 389) (x av 194),
 tp [],
 f0,
 tp [(x aC 696)],
 tp [],
 fr (mt 18 1) (z qN),
 cp aR qN 693 130 1 391 697 ah 698,
 fn (mt 18 1) (z qN) .none (r 396) (x av 194),
 tp [(x mu 700),(x bR 701)],
 dc [e P aW 679 (x av 194),e P aX 683 (i 124 682),e P aM 692 (r 390),e P aR 699 (r 397),e P aY 702 (r 398),e P bQ 703 .none] 2,
 cl jj [(r 64)] [(r 400),(r 64),(r 50),(.type "object")] 399 [] [(some (r 377)),none,(some (x jj 672)),(some (x jj 680)),(some (.builtin "object.__new__")),(some (.bool true))],
 su 400,
 bi 400]
noncomputable def c14 (P:Params) (m:Nat→Nat):List Obj:=c14x0 P
noncomputable def c15x0 (P:Params):List Obj:=[tp [(r 64)],
 bp,
 dc [e P aW 713 (x av 194),e P bP 715 (x jk 714),e P aX 717 (i 132 716),e P aM 726 (r 416),e P aR 733 (r 423),e P aY 736 (r 424)] 6,
 tp [],
 f1 [(i 134 0),(i 4 0),(r 415),(i 138 0),(i 4 0),(r 422)],
 co jk jk 708 132 0 0 0 406 false .none .none .none .none 711 ah 712,
 fm 408 405 av 194,
 tp [],
 f0,
 tp [(x aC 721),(x bR 722),(x wL 723)],
 tp [],
 fr (mt 19 0) (z qO),
 cp aM qO 718 134 3 410 724 ah 725,
 fn (mt 19 0) (z qO) .none (r 415) (x av 194),
 tp [],
 f0,
 tp [(x aC 730)],
 tp [],
 fr (mt 19 1) (z qP),
 cp aR qP 727 138 1 417 731 ah 732,
 fn (mt 19 1) (z qP) .none (r 422) (x av 194),
 tp [(x wL 734),(x bR 735)],
 dc [e P aW 713 (x av 194),e P aX 717 (i 132 716),e P aM 726 (r 416),e P aR 733 (r 423),e P aY 736 (r 424),e P bQ 737 .none] 2,
 cl jk [(r 64)] [(r 426),(r 64),(r 50),(.type "object")] 425 [] [(some (r 403)),none,(some (x jk 706)),(some (x jk 714)),(some (.builtin "object.__new__")),(some (.bool true))],
 su 426,
 bi 426]
noncomputable def c15 (P:Params) (m:Nat→Nat):List Obj:=c15x0 P
noncomputable def c16x0 (P:Params):List Obj:=[tp [(r 64)],
 bp,
 dc [e P aW 747 (x av 194),e P bP 749 (x jl 748),e P aX 751 (i 140 750),e P aM 760 (r 442),e P aR 767 (r 449),e P aY 770 (r 450)] 6,
 tp [],
 f1 [(i 142 0),(i 4 0),(r 441),(i 146 0),(i 4 0),(r 448)],
 co jl jl 742 140 0 0 0 432 false .none .none .none .none 745 ah 746,
 fm 434 431 av 194,
 tp [],
 f0,
 tp [(x aC 755),(x bR 756),(x dE 757)],
 tp [],
 fr (mt 20 0) (z qQ),
 cp aM qQ 752 142 3 436 758 ah 759,
 fn (mt 20 0) (z qQ) .none (r 441) (x av 194),
 tp [],
 f0,
 tp [(x aC 764)],
 tp [],
 fr (mt 20 1) (z qR),
 cp aR qR 761 146 1 443 765 ah 766,
 fn (mt 20 1) (z qR) .none (r 448) (x av 194),
 tp [(x dE 768),(x bR 769)],
 dc [e P aW 747 (x av 194),e P aX 751 (i 140 750),e P aM 760 (r 442),e P aR 767 (r 449),e P aY 770 (r 450),e P bQ 771 .none] 2,
 cl jl [(r 64)] [(r 452),(r 64),(r 50),(.type "object")] 451 [] [(some (r 429)),none,(some (x jl 740)),(some (x jl 748)),(some (.builtin "object.__new__")),(some (.bool true))],
 su 452,
 bi 452]
noncomputable def c16 (P:Params) (m:Nat→Nat):List Obj:=c16x0 P
noncomputable def c17x0 (P:Params):List Obj:=[tp [(r 64)],
 bp,
 dc [e P aW 781 (x av 194),e P bP 783 (x jm 782),e P aX 785 (i 148 784),e P aM 797 (r 468),e P aR 805 (r 475),e P aY 811 (r 476)] 6,
 tp [],
 f1 [(i 150 0),(i 4 0),(r 467),(i 157 0),(i 4 0),(r 474)],
 co jm jm 776 148 0 0 0 458 false .none .none .none .none 779 ah 780,
 fm 460 457 av 194,
 tp [],
 f0,
 tp [(x aC 789),(x ge 790),(x bR 791),(x qS 792),(x qT 793),(x dE 794)],
 tp [],
 fr (mt 21 0) (z qU),
 cp aM qU 786 150 6 462 795 ah 796,
 fn (mt 21 0) (z qU) .none (r 467) (x av 194),
 tp [],
 f0,
 tp [(x aC 801),(x [116,111,108,100] 802)],
 tp [],
 fr (mt 21 1) (z qV),
 cp aR qV 798 157 1 469 803 ah 804,
 fn (mt 21 1) (z qV) .none (r 474) (x av 194),
 tp [(x qT 806),(x dE 807),(x qS 808),(x bR 809),(x ge 810)],
 dc [e P aW 781 (x av 194),e P aX 785 (i 148 784),e P aM 797 (r 468),e P aR 805 (r 475),e P aY 811 (r 476),e P bQ 812 .none] 2,
 cl jm [(r 64)] [(r 478),(r 64),(r 50),(.type "object")] 477 [] [(some (r 455)),none,(some (x jm 774)),(some (x jm 782)),(some (.builtin "object.__new__")),(some (.bool true))],
 su 478,
 bi 478,
 tp [],
 f0,
 tp [(x kU 820),(x [112,97,114,116,115] 821),(x [116,111,108,100] 822)],
 tp [],
 fr (st 23) (z mv),
 cp mv mv 817 161 1 481 823 ah 824,
 fn (st 23) (z mv) .none (r 486) (x wN 815),
 tp [],
 f0,
 tp [(x kU 829),(x kW 830)],
 tp [],
 fr (st 24) (z mw),
 cp mw mw 826 175 1 488 831 ah 832,
 fn (st 24) (z mw) .none (r 493) (x wN 815)]
noncomputable def c17 (P:Params) (m:Nat→Nat):List Obj:=c17x0 P
noncomputable def LR (P:Params) (m:Nat→Nat):List Obj:=[tp [(.type "Exception")],
 bp,
 dc [e P aW 843 (x ed 834),e P bP 845 (x jo 844),e P aX 847 (i 185 846),e P aM 855 (r 508),e P aY 857 (r 509)] 5,
 tp [],
 f1 [(i 187 0),(i 4 0),(r 507)],
 co jo jo 838 185 0 0 0 498 false .none .none .none .none 841 ah 842,
 fm 500 497 ed 834,
 tp [],
 f0,
 tp [(x aC 851),(x kS 852)],
 tp [],
 fr (mt 26 0) (z wz),
 cp aM wz 848 187 2 502 853 ah 854,
 fn (mt 26 0) (z wz) .none (r 507) (x ed 834),
 tp [(x kS 856)],
 dc [e P aW 843 (x ed 834),e P aX 847 (i 185 846),e P aM 855 (r 508),e P aY 857 (r 509),e P ec 859 (r 512),e P bQ 860 .none] 3,
 ⟨(.type "type"),none,.cls {name:=(z jo),bases:=[(.type "Exception")],mro:=[(r 511),(.type "Exception"),(.type "BaseException"),(.type "object")],ns:=510,qualname:=(z jo),hasDict:=true,slotNames:=[],subclasses:=([(r 524)]:List Value).take (m 511),abstract:=false,collection:=none,hasDel:=false},#[(some (r 495)),none,(some (x jo 836)),(some (x jo 844)),(some (.builtin "Exception.__new__")),(some (.bool true))]⟩,
 ⟨(.type "getset_descriptor"),none,.fields #[(x ec 858),(r 511),(.builtin "ExceptionGroup.__weakref__"),.none],#[]⟩,
 su 511,
 bi 511]
noncomputable def c18 (P:Params) (m:Nat→Nat):List Obj:=LR P m
noncomputable def LU (P:Params) (m:Nat→Nat):List Obj:=[tp [(r 511)],
 bp,
 dc [e P aW 872 (x ed 834),e P bP 874 (x jp 873),e P aX 876 (i 189 875),e P aY 877 (r 522)] 4,
 tp [],
 f0,
 co jp jp 867 189 0 0 0 518 false .none .none .none .none 870 ah 871,
 fm 520 517 ed 834,
 tp [],
 dc [e P aW 872 (x ed 834),e P aX 876 (i 189 875),e P aY 877 (r 522),e P bQ 878 .none] 2,
 ⟨(.type "type"),none,.cls {name:=(z jp),bases:=[(r 511)],mro:=[(r 524),(r 511),(.type "Exception"),(.type "BaseException"),(.type "object")],ns:=523,qualname:=(z jp),hasDict:=true,slotNames:=[],subclasses:=([(r 543)]:List Value).take (m 524),abstract:=false,collection:=none,hasDel:=false},#[(some (r 515)),none,(some (x jp 865)),(some (x jp 873)),(some (.builtin "Exception.__new__")),(some (.bool true))]⟩,
 su 524,
 bi 524]
noncomputable def c19 (P:Params) (m:Nat→Nat):List Obj:=LU P m
noncomputable def c20x0 (P:Params):List Obj:=[tp [(r 524)],
 bp,
 dc [e P aW 888 (x ed 834),e P bP 890 (x kQ 889),e P aX 892 (i 191 891),e P aM 901 (r 540),e P aY 904 (r 541)] 5,
 tp [],
 f1 [(i 193 0),(i 4 0),(r 539)],
 co kQ kQ 883 191 0 0 0 530 false .none .none .none .none 886 ah 887,
 fm 532 529 ed 834,
 tp [],
 f0,
 tp [(x aC 896),(x kS 897),(x jw 898)],
 tp [],
 fr (mt 28 0) (z wA),
 cp aM wA 893 193 3 534 899 ah 900,
 fn (mt 28 0) (z wA) .none (r 539) (x ed 834),
 tp [(x kS 902),(x jw 903)],
 dc [e P aW 888 (x ed 834),e P aX 892 (i 191 891),e P aM 901 (r 540),e P aY 904 (r 541),e P bQ 905 .none] 2,
 cl kQ [(r 524)] [(r 543),(r 524),(r 511),(.type "Exception"),(.type "BaseException"),(.type "object")] 542 [] [(some (r 527)),none,(some (x kQ 881)),(some (x kQ 889)),(some (.builtin "Exception.__new__")),(some (.bool true))],
 su 543,
 bi 543,
 tp [(x kE 924),(x kF 925),(x iU 926),(x vE 927),(x vF 928),(x kG 929),(x kH 930),(x kI 931)]]
noncomputable def c20 (P:Params) (m:Nat→Nat):List Obj:=c20x0 P
noncomputable def c21x0 (P:Params):List Obj:=[dc [e P vF 935 (x [61] 936),e P vE 937 (x iU 938)] 2]
noncomputable def c21 (P:Params) (m:Nat→Nat):List Obj:=c21x0 P
noncomputable def c22x0 (P:Params):List Obj:=[tp [(x E0 948),(x E1 949),(x E2 950),(x kq3 951),(x gz 952),(x E3 953),(x kq8 954),(x aj 955),(x E4 956),(x kq9 957),(x E5 958),(x E6 959),(x E7 960),(x E8 961),(x E9 962),(x Fa 963),(x gC 964),(x Fb 965),(x bK 966),(x bE 967),(x Fc 968),(x As 969),(x Fd 970),(x Fe 971),(x Ff 972),(x Fg 973),(x kq5 974),(x Fh 975),(x Fi 976),(x Fj 977),(x Fk 978),(x kq4 979),(x Au 980),(x Fm 981),(x Fp 982),(x bT 983),(x Fq 984),(x Av 985),(x cU 986),(x Fr 987),(x kq2 988),(x Fs 989),(x Ft 990),(x Fu 991),(x Fw 992),(x jT 993),(x Fx 994),(x Fy 995),(x aZ 996),(x Aw 997),(x Ax 998),(x FA 999),(x FC 1000),(x FD 1001),(x FE 1002),(x jU 1003),(x aQ 1004),(x FF 1005)],
 tp [(x FG 1007),(x FH 1008),(x FI 1009),(x FJ 1010),(x FK 1011),(x FL 1012),(x FM 1013),(x FN 1014)],
 tp [],
 f0,
 fr (st 43) (z mx),
 co mx mx 1016 210 1 0 3 550 true .none .none .none (r 552) 1019 ah 1020,
 fn (st 43) (z mx) .none (r 553) (x bt 908),
 tp [],
 f0,
 tp [(x kq0 1025)],
 tp [],
 fr (st 44) (z my),
 cp my my 1022 214 1 555 1026 ah 1027,
 fn (st 44) (z my) .none (r 560) (x bt 908),
 tp [],
 f0,
 tp [(x kq0 1032)],
 tp [],
 fr (st 45) (z mz),
 cp mz mz 1029 216 1 562 1033 ah 1034,
 fn (st 45) (z mz) .none (r 567) (x bt 908)]
noncomputable def c22 (P:Params) (m:Nat→Nat):List Obj:=c22x0 P
noncomputable def c23x0 (P:Params):List Obj:=[tp [],
 bp,
 dc [e P aW 1043 (x bt 908),e P bP 1045 (x jq 1044),e P aX 1047 (i 218 1046),e P aM 1058 (r 582),e P jy 1066 (r 589),e P jz 1074 (r 596),e P qW 1081 (r 603),e P qX 1088 (r 610),e P aR 1095 (r 617),e P aY 1100 (r 618)] 10,
 tp [],
 f1 [(i 220 0),(i 4 0),(r 581),(i 226 0),(i 4 0),(r 588),(i 229 0),(i 4 0),(r 595),(i 232 0),(i 4 0),(r 602),(i 235 0),(i 4 0),(r 609),(i 238 0),(i 4 0),(r 616)],
 co jq jq 1038 218 0 0 0 572 false .none .none .none .none 1041 ah 1042,
 fm 574 571 bt 908,
 tp [],
 f0,
 tp [(x aC 1051),(x mA 1052),(x bN 1053),(x bR 1054),(x jw 1055)],
 tp [],
 fr (mt 46 0) (z qY),
 cp aM qY 1048 220 5 576 1056 ah 1057,
 fn (mt 46 0) (z qY) .none (r 581) (x bt 908),
 tp [],
 f0,
 tp [(x aC 1062),(x bN 1063)],
 tp [],
 fr (mt 46 1) (z qZ),
 cp jy qZ 1059 226 2 583 1064 ah 1065,
 fn (mt 46 1) (z qZ) .none (r 588) (x bt 908),
 tp [],
 f0,
 tp [(x aC 1070),(x bN 1071)],
 tp [],
 fr (mt 46 2) (z q8),
 cp jz q8 1067 229 2 590 1072 ah 1073,
 fn (mt 46 2) (z q8) .none (r 595) (x bt 908),
 tp [],
 f0,
 tp [(x aC 1078)],
 tp [],
 fr (mt 46 3) (z q9),
 cp qW q9 1075 232 1 597 1079 ah 1080,
 fn (mt 46 3) (z q9) .none (r 602) (x bt 908),
 tp [],
 f0,
 tp [(x aC 1085)],
 tp [],
 fr (mt 46 4) (z rc)]
noncomputable def c23x1 (P:Params):List Obj:=[cp qX rc 1082 235 1 604 1086 ah 1087,
 fn (mt 46 4) (z rc) .none (r 609) (x bt 908),
 tp [],
 f0,
 tp [(x aC 1092)],
 tp [],
 fr (mt 46 5) (z wB),
 cp aR wB 1089 238 1 611 1093 ah 1094,
 fn (mt 46 5) (z wB) .none (r 616) (x bt 908),
 tp [(x mA 1096),(x jw 1097),(x bN 1098),(x bR 1099)],
 dc [e P aW 1043 (x bt 908),e P aX 1047 (i 218 1046),e P aM 1058 (r 582),e P jy 1066 (r 589),e P jz 1074 (r 596),e P qW 1081 (r 603),e P qX 1088 (r 610),e P aR 1095 (r 617),e P aY 1100 (r 618),e P fe 1102 (r 621),e P ec 1104 (r 622),e P bQ 1105 .none] 4,
 cl jq [(.type "object")] [(r 620),(.type "object")] 619 [] [none,none,(some (x jq 1036)),(some (x jq 1044)),(some (.builtin "object.__new__")),(some (.bool true))],
 ⟨(.type "getset_descriptor"),none,.fields #[(x fe 1101),(r 620),(.builtin "function.__dict__"),(.builtin "function.__dict__#set")],#[]⟩,
 ⟨(.type "getset_descriptor"),none,.fields #[(x ec 1103),(r 620),(.builtin "ExceptionGroup.__weakref__"),.none],#[]⟩,
 su 620,
 bi 620]
noncomputable def c23 (P:Params) (m:Nat→Nat):List Obj:=c23x0 P++c23x1 P
noncomputable def c24x0 (P:Params):List Obj:=[tp [],
 bp,
 dc [e P aW 1115 (x bt 908),e P bP 1117 (x jr 1116),e P aX 1119 (i 240 1118),e P aM 1127 (r 638),e P re 1138 (r 645),e P kT 1146 (r 652),e P [114,117,110] 1155 (r 659),e P rg 1165 (r 666),e P [98,97,114,101] 1176 (r 673),e P rh 1187 (r 680),e P ri 1197 (r 687),e P gZ 1207 (r 694),e P eJ 1218 (r 701),e P rj 1229 (r 708),e P [109,97,114,107] 1240 (r 715),e P dh 1250 (r 722),e P aY 1255 (r 723)] 17,
 tp [],
 f1 [(i 242 0),(i 4 0),(r 637),(i 248 0),(i 4 0),(r 644),(i 252 0),(i 4 0),(r 651),(i 255 0),(i 4 0),(r 658),(i 272 0),(i 4 0),(r 665),(i 278 0),(i 4 0),(r 672),(i 289 0),(i 4 0),(r 679),(i 301 0),(i 4 0),(r 686),(i 311 0),(i 4 0),(r 693),(i 320 0),(i 4 0),(r 700),(i 339 0),(i 4 0),(r 707),(i 347 0),(i 4 0),(r 714),(i 365 0),(i 4 0),(r 721)],
 co jr jr 1110 240 0 0 0 628 false .none .none .none .none 1113 ah 1114,
 fm 630 627 bt 908,
 tp [],
 f0,
 tp [(x aC 1123),(x bN 1124)],
 tp [],
 fr (mt 47 0) (z rk),
 cp aM rk 1120 242 2 632 1125 ah 1126,
 fn (mt 47 0) (z rk) .none (r 637) (x bt 908),
 tp [],
 f0,
 tp [(x aC 1131),(x mA 1132),(x bN 1133),(x bR 1134),(x kq1 1135)],
 tp [],
 fr (mt 47 1) (z rm),
 cp re rm 1128 248 5 639 1136 ah 1137,
 fn (mt 47 1) (z rm) .none (r 644) (x bt 908),
 tp [],
 f0,
 tp [(x aC 1142),(x kS 1143)],
 tp [],
 fr (mt 47 2) (z wC),
 cp kT wC 1139 252 2 646 1144 ah 1145,
 fn (mt 47 2) (z wC) .none (r 651) (x bt 908),
 tp [],
 f0,
 tp [(x aC 1150),(x [115,105,122,101] 1151),(x kq0 1152)],
 tp [],
 fr (mt 47 3) (z rn),
 cp [114,117,110] rn 1147 255 1 653 1153 ah 1154,
 fn (mt 47 3) (z rn) .none (r 658) (x bt 908),
 tp [],
 f0,
 tp [(x aC 1159),(x [115,105,103,110,115] 1160),(x kq1 1161),(x bN 1162)],
 tp [],
 fr (mt 47 4) (z rp)]
noncomputable def c24x1 (P:Params):List Obj:=[cp rg rp 1156 272 3 660 1163 ah 1164,
 fn (mt 47 4) (z rp) .none (r 665) (x bt 908),
 tp [],
 f0,
 tp [(x aC 1169),(x kq0 1170),(x bN 1171),(x kq1 1172),(x [119,114,105,116,116,101,110] 1173)],
 tp [],
 fr (mt 47 5) (z rt),
 cp [98,97,114,101] rt 1166 278 2 667 1174 ah 1175,
 fn (mt 47 5) (z rt) .none (r 672) (x bt 908),
 tp [],
 f0,
 tp [(x aC 1180),(x [113,117,111,116,101] 1181),(x mB 1182),(x [112,97,114,116,115] 1183),(x kq1 1184)],
 tp [],
 fr (mt 47 6) (z rA),
 cp rh rA 1177 289 3 674 1185 ah 1186,
 fn (mt 47 6) (z rA) .none (r 679) (x bt 908),
 tp [],
 f0,
 tp [(x aC 1191),(x [113,117,111,116,101] 1192),(x kq1 1193),(x bR 1194)],
 tp [],
 fr (mt 47 7) (z rB),
 cp ri rB 1188 301 2 681 1195 ah 1196,
 fn (mt 47 7) (z rB) .none (r 686) (x bt 908),
 tp [],
 f0,
 tp [(x aC 1201),(x [102,105,103,117,114,101,115] 1202),(x kq1 1203),(x kq0 1204)],
 tp [],
 fr (mt 47 8) (z rC),
 cp gZ rC 1198 311 1 688 1205 ah 1206,
 fn (mt 47 8) (z rC) .none (r 693) (x bt 908),
 tp [],
 f0,
 tp [(x aC 1211),(x mB 1212),(x kq1 1213),(x bR 1214),(x [98,101,104,105,110,100] 1215)],
 tp [],
 fr (mt 47 9) (z rD),
 cp eJ rD 1208 320 1 695 1216 ah 1217,
 fn (mt 47 9) (z rD) .none (r 700) (x bt 908),
 tp [],
 f0,
 tp [(x aC 1222),(x mB 1223),(x kq1 1224),(x [98,97,115,101] 1225),(x [102,105,103,117,114,101,115] 1226)]]
noncomputable def c24x2 (P:Params):List Obj:=[tp [],
 fr (mt 47 10) (z rF),
 cp rj rF 1219 339 4 702 1227 ah 1228,
 fn (mt 47 10) (z rF) .none (r 707) (x bt 908),
 tp [],
 f0,
 tp [(x aC 1233),(x kq0 1234),(x bN 1235),(x [112,97,105,114] 1236),(x kq1 1237)],
 tp [],
 fr (mt 47 11) (z rG),
 cp [109,97,114,107] rG 1230 347 2 709 1238 ah 1239,
 fn (mt 47 11) (z rG) .none (r 714) (x bt 908),
 tp [],
 f0,
 tp [(x aC 1244),(x mB 1245),(x kq1 1246),(x eJ 1247)],
 tp [],
 fr (mt 47 12) (z rH),
 cp dh rH 1241 365 1 716 1248 ah 1249,
 fn (mt 47 12) (z rH) .none (r 721) (x bt 908),
 tp [(x jA 1251),(x [103,114,101,97,116,101,115,116] 1252),(x jw 1253),(x bN 1254)],
 dc [e P aW 1115 (x bt 908),e P aX 1119 (i 240 1118),e P aM 1127 (r 638),e P re 1138 (r 645),e P kT 1146 (r 652),e P [114,117,110] 1155 (r 659),e P rg 1165 (r 666),e P [98,97,114,101] 1176 (r 673),e P rh 1187 (r 680),e P ri 1197 (r 687),e P gZ 1207 (r 694),e P eJ 1218 (r 701),e P rj 1229 (r 708),e P [109,97,114,107] 1240 (r 715),e P dh 1250 (r 722),e P aY 1255 (r 723),e P fe 1257 (r 726),e P ec 1259 (r 727),e P bQ 1260 .none] 4,
 cl jr [(.type "object")] [(r 725),(.type "object")] 724 [] [none,none,(some (x jr 1108)),(some (x jr 1116)),(some (.builtin "object.__new__")),(some (.bool true))],
 ⟨(.type "getset_descriptor"),none,.fields #[(x fe 1256),(r 725),(.builtin "function.__dict__"),(.builtin "function.__dict__#set")],#[]⟩,
 ⟨(.type "getset_descriptor"),none,.fields #[(x ec 1258),(r 725),(.builtin "ExceptionGroup.__weakref__"),.none],#[]⟩,
 su 725,
 bi 725]
noncomputable def c24 (P:Params) (m:Nat→Nat):List Obj:=c24x0 P++c24x1 P++c24x2 P
noncomputable def c25x0 (P:Params):List Obj:=[tp [],
 f0,
 tp [(x bN 1266)],
 tp [],
 fr (st 48) (z mC),
 cp mC mC 1263 373 1 730 1267 ah 1268,
 fn (st 48) (z mC) .none (r 735) (x bt 908)]
noncomputable def c25 (P:Params) (m:Nat→Nat):List Obj:=c25x0 P
noncomputable def c26x0 (P:Params):List Obj:=[dc [e P [61] 1280 (i 4 1281),e P iU 1283 (i 4 1284),e P [60] 1286 (i 5 1287),e P kE 1289 (i 5 1290),e P [62] 1292 (i 5 1293),e P kF 1295 (i 5 1296),e P [38] 1298 (i 6 1299),e P [124] 1301 (i 6 1302),e P kH 1304 (i 6 1305),e P kI 1307 (i 6 1308),e P [43] 1310 (i 7 1311),e P [45] 1313 (i 7 1314),e P [42] 1316 (i 8 1317),e P [47] 1319 (i 8 1320),e P [37] 1322 (i 8 1323),e P kG 1325 (i 9 1326)] 16]
noncomputable def c26 (P:Params) (m:Nat→Nat):List Obj:=c26x0 P
noncomputable def c27x0 (P:Params):List Obj:=[dc [e P kq2 1329 (i 1 1330),e P kq3 1331 (i 2 1332),e P kq4 1333 (i 4 1334),e P kq5 1335 (i 4 1336),e P kq6 1337 (i 4 1338),e P kq7 1339 (i 4 1340),e P kq8 1341 (i 4 1342),e P Au 1343 (i 4 1344),e P Av 1345 (i 4 1346),e P bT 1347 (i 4 1348),e P kq9 1349 (i 10 1350)] 11]
noncomputable def c27 (P:Params) (m:Nat→Nat):List Obj:=c27x0 P
noncomputable def c28x0 (P:Params):List Obj:=[tp [(x kq5 1363),(x kq6 1364),(x kq7 1365),(x kq8 1366),(x cU 1367)],
 tp [(x [45] 1369),(x [43] 1370),(x [126] 1371)]]
noncomputable def c28 (P:Params) (m:Nat→Nat):List Obj:=c28x0 P
noncomputable def c29x0 (P:Params):List Obj:=[tp [],
 bp,
 dc [e P aW 1380 (x bX 1270),e P bP 1382 (x js 1381),e P aX 1384 (i 384 1383),e P aM 1393 (r 754),e P rI 1403 (r 762),e P jB 1412 (r 769),e P rJ 1422 (r 776),e P rK 1432 (r 783),e P rL 1445 (r 790),e P rM 1456 (r 797),e P rN 1464 (r 804),e P rO 1473 (r 811),e P rQ 1481 (r 818),e P rR 1489 (r 825),e P wD 1497 (r 832),e P bD 1508 (r 839),e P gN 1517 (r 846),e P [110,97,109,101,100] 1527 (r 853),e P wE 1534 (r 860),e P aY 1537 (r 861)] 20,
 tp [],
 f1 [(i 386 0),(i 4 0),(r 753),(i 390 0),(i 4 0),(r 761),(i 400 0),(i 4 0),(r 768),(i 412 0),(i 4 0),(r 775),(i 430 0),(i 4 0),(r 782),(i 437 0),(i 4 0),(r 789),(i 452 0),(i 4 0),(r 796),(i 465 0),(i 4 0),(r 803),(i 471 0),(i 4 0),(r 810),(i 489 0),(i 4 0),(r 817),(i 511 0),(i 4 0),(r 824),(i 520 0),(i 4 0),(r 831),(i 526 0),(i 4 0),(r 838),(i 544 0),(i 4 0),(r 845),(i 555 0),(i 4 0),(r 852),(i 571 0),(i 4 0),(r 859)],
 co js js 1375 384 0 0 0 744 false .none .none .none .none 1378 ah 1379,
 fm 746 743 bX 1270,
 tp [],
 f0,
 tp [(x aC 1388),(x kU 1389),(x mD 1390)],
 tp [],
 fr (mt 58 0) (z rS),
 cp aM rS 1385 386 3 748 1391 ah 1392,
 fn (mt 58 0) (z rS) .none (r 753) (x bX 1270),
 tp [(i 1 1272)],
 tp [],
 f0,
 tp [(x aC 1397),(x [108,101,97,115,116] 1398),(x jA 1399),(x jB 1400)],
 tp [],
 fr (mt 58 1) (z rT),
 cp rI rT 1394 390 2 756 1401 ah 1402,
 fn (mt 58 1) (z rT) (r 755) (r 761) (x bX 1270),
 tp [],
 f0,
 tp [(x aC 1407),(x ge 1408),(x [98,101,104,105,110,100] 1409)],
 tp [],
 fr (mt 58 2) (z rU),
 cp jB rU 1404 400 1 763 1410 ah 1411,
 fn (mt 58 2) (z rU) .none (r 768) (x bX 1270),
 tp [],
 f0,
 tp [(x aC 1416),(x iu 1417),(x jB 1418),(x ge 1419)],
 tp [],
 fr (mt 58 3) (z rV),
 cp rJ rV 1413 412 3 770 1420 ah 1421,
 fn (mt 58 3) (z rV) .none (r 775) (x bX 1270),
 tp [],
 f0,
 tp [(x aC 1426),(x iu 1427),(x dE 1428),(x qy 1429)],
 tp []]
noncomputable def c29x1 (P:Params):List Obj:=[fr (mt 58 4) (z rW),
 cp rK rW 1423 430 2 777 1430 ah 1431,
 fn (mt 58 4) (z rW) .none (r 782) (x bX 1270),
 tp [],
 f0,
 tp [(x aC 1436),(x iu 1437),(x bN 1438),(x dE 1439),(x [108,111,119] 1440),(x qS 1441),(x qT 1442)],
 tp [],
 fr (mt 58 5) (z rX),
 cp rL rX 1433 437 4 784 1443 ah 1444,
 fn (mt 58 5) (z rX) .none (r 789) (x bX 1270),
 tp [],
 f0,
 tp [(x aC 1449),(x iu 1450),(x dE 1451),(x an 1452),(x jA 1453)],
 tp [],
 fr (mt 58 6) (z rY),
 cp rM rY 1446 452 3 791 1454 ah 1455,
 fn (mt 58 6) (z rY) .none (r 796) (x bX 1270),
 tp [],
 f0,
 tp [(x aC 1460),(x jA 1461)],
 tp [],
 fr (mt 58 7) (z rZ),
 cp rN rZ 1457 465 1 798 1462 ah 1463,
 fn (mt 58 7) (z rZ) .none (r 803) (x bX 1270),
 tp [],
 f0,
 tp [(x aC 1468),(x ge 1469),(x qu 1470)],
 tp [],
 fr (mt 58 8) (z r0),
 cp rO r0 1465 471 1 805 1471 ah 1472,
 fn (mt 58 8) (z r0) .none (r 810) (x bX 1270),
 tp [],
 f0,
 tp [(x aC 1477),(x ge 1478)],
 tp [],
 fr (mt 58 9) (z r6),
 cp rQ r6 1474 489 1 812 1479 ah 1480,
 fn (mt 58 9) (z r6) .none (r 817) (x bX 1270),
 tp [],
 f0]
noncomputable def c29x2 (P:Params):List Obj:=[tp [(x aC 1485),(x jA 1486)],
 tp [],
 fr (mt 58 10) (z r7),
 cp rR r7 1482 511 1 819 1487 ah 1488,
 fn (mt 58 10) (z r7) .none (r 824) (x bX 1270),
 tp [],
 f0,
 tp [(x aC 1493),(x jA 1494)],
 tp [],
 fr (mt 58 11) (z wF),
 cp wD wF 1490 520 1 826 1495 ah 1496,
 fn (mt 58 11) (z wF) .none (r 831) (x bX 1270),
 tp [],
 f0,
 tp [(x aC 1501),(x [98,97,115,101] 1502),(x qF 1503),(x [119,104,101,110] 1504),(x ms 1505)],
 tp [],
 fr (mt 58 12) (z sd),
 cp bD sd 1498 526 1 833 1506 ah 1507,
 fn (mt 58 12) (z sd) .none (r 838) (x bX 1270),
 tp [],
 f0,
 tp [(x aC 1512),(x bR 1513),(x mu 1514)],
 tp [],
 fr (mt 58 13) (z si),
 cp gN si 1509 544 1 840 1515 ah 1516,
 fn (mt 58 13) (z si) .none (r 845) (x bX 1270),
 tp [],
 f0,
 tp [(x aC 1521),(x an 1522),(x qJ 1523),(x qI 1524)],
 tp [],
 fr (mt 58 14) (z sj),
 cp [110,97,109,101,100] sj 1518 555 1 847 1525 ah 1526,
 fn (mt 58 14) (z sj) .none (r 852) (x bX 1270),
 tp [],
 f0,
 tp [(x aC 1531)],
 tp [],
 fr (mt 58 15) (z wG),
 cp wE wG 1528 571 1 854 1532 ah 1533,
 fn (mt 58 15) (z wG) .none (r 859) (x bX 1270)]
noncomputable def c29x3 (P:Params):List Obj:=[tp [(x mD 1535),(x kU 1536)],
 dc [e P aW 1380 (x bX 1270),e P aX 1384 (i 384 1383),e P aM 1393 (r 754),e P rI 1403 (r 762),e P jB 1412 (r 769),e P rJ 1422 (r 776),e P rK 1432 (r 783),e P rL 1445 (r 790),e P rM 1456 (r 797),e P rN 1464 (r 804),e P rO 1473 (r 811),e P rQ 1481 (r 818),e P rR 1489 (r 825),e P wD 1497 (r 832),e P bD 1508 (r 839),e P gN 1517 (r 846),e P [110,97,109,101,100] 1527 (r 853),e P wE 1534 (r 860),e P aY 1537 (r 861),e P fe 1539 (r 864),e P ec 1541 (r 865),e P bQ 1542 .none] 4,
 cl js [(.type "object")] [(r 863),(.type "object")] 862 [] [none,none,(some (x js 1373)),(some (x js 1381)),(some (.builtin "object.__new__")),(some (.bool true))],
 ⟨(.type "getset_descriptor"),none,.fields #[(x fe 1538),(r 863),(.builtin "function.__dict__"),(.builtin "function.__dict__#set")],#[]⟩,
 ⟨(.type "getset_descriptor"),none,.fields #[(x ec 1540),(r 863),(.builtin "ExceptionGroup.__weakref__"),.none],#[]⟩,
 su 863,
 bi 863]
noncomputable def c29 (P:Params) (m:Nat→Nat):List Obj:=c29x0 P++c29x1 P++c29x2 P++c29x3 P
noncomputable def c30x0 (P:Params):List Obj:=[tp [(x [65,66,79,82,84] 1547),(x [65,83,67] 1548),(x [66,69,71,73,78] 1549),(x [66,89] 1550),(x fM 1551),(x [68,69,70,69,82,82,69,68] 1552),(x [68,69,83,67] 1553),(x bm 1554),(x [69,88,67,76,85,83,73,86,69] 1555),(x [69,88,80,76,65,73,78] 1556),(x [70,65,73,76] 1557),(x kq7 1558),(x [73,70] 1559),(x [73,71,78,79,82,69] 1560),(x [73,77,77,69,68,73,65,84,69] 1561),(x [75,69,89] 1562),(x kq6 1563),(x [79,70,70,83,69,84] 1564),(x [80,82,65,71,77,65] 1565),(x [82,69,76,69,65,83,69] 1566),(x [82,69,80,76,65,67,69] 1567),(x [82,79,76,76,66,65,67,75] 1568),(x [83,65,86,69,80,79,73,78,84] 1569),(x Aw 1570),(x Ax 1571),(x [86,65,67,85,85,77] 1572),(x [87,73,84,72,79,85,84] 1573)],
 tp [],
 f0,
 tp [(x an 1578),(x ge 1579),(x kq0 1580)],
 tp [],
 fr (st 61) (z mE),
 cp mE mE 1575 575 1 869 1581 ah 1582,
 fn (st 61) (z mE) .none (r 874) (x mF 1545),
 tp [],
 f0,
 tp [(x an 1587)],
 tp [],
 fr (st 62) (z mG),
 cp mG mG 1584 585 1 876 1588 ah 1589,
 fn (st 62) (z mG) .none (r 881) (x mF 1545),
 tp [],
 f0,
 tp [(x bR 1594)],
 tp [],
 fr (st 63) (z mH),
 cp mH mH 1591 587 1 883 1595 ah 1596,
 fn (st 63) (z mH) .none (r 888) (x mF 1545),
 tp [],
 f0,
 tp [(x mu 1601),(x ge 1602)],
 tp [],
 fr (st 64) (z mI),
 cp mI mI 1598 595 1 890 1603 ah 1604,
 fn (st 64) (z mI) .none (r 895) (x mF 1545),
 tp [],
 f0,
 tp [(x gc 1617)],
 tp [],
 fr (st 69) (z mJ),
 cp mJ mJ 1614 604 1 897 1618 ah 1619,
 fn (st 69) (z mJ) .none (r 902) (x ef 1606)]
noncomputable def c30 (P:Params) (m:Nat→Nat):List Obj:=c30x0 P
noncomputable def c31x0 (P:Params):List Obj:=[tp [],
 bp,
 dc [e P aW 1628 (x ef 1606),e P bP 1630 (x jt 1629),e P aX 1632 (i 618 1631),e P aM 1640 (r 917),e P sk 1650 (r 925),e P sn 1656 (r 930),e P [102,114,101,101] 1668 (r 937),e P im 1677 (r 944),e P [116,101,115,116] 1688 (r 951),e P bD 1699 (r 958),e P aY 1701 (r 959)] 11,
 tp [],
 f1 [(i 620 0),(i 4 0),(r 916),(i 623 0),(i 4 0),(r 924),(i 627 0),(i 4 0),(r 929),(i 630 0),(i 4 0),(r 936),(i 659 0),(i 4 0),(r 943),(i 667 0),(i 4 0),(r 950),(i 684 0),(i 4 0),(r 957)],
 co jt jt 1623 618 0 0 0 907 false .none .none .none .none 1626 ah 1627,
 fm 909 906 ef 1606,
 tp [],
 f0,
 tp [(x aC 1636),(x mD 1637)],
 tp [],
 fr (mt 70 0) (z so),
 cp aM so 1633 620 2 911 1638 ah 1639,
 fn (mt 70 0) (z so) .none (r 916) (x ef 1606),
 tp [(i 1 1272)],
 tp [],
 f0,
 tp [(x aC 1644),(x gc 1645),(x [108,101,97,115,116] 1646),(x bN 1647)],
 tp [],
 fr (mt 70 1) (z sv),
 cp sk sv 1641 623 3 919 1648 ah 1649,
 fn (mt 70 1) (z sv) (r 918) (r 924) (x ef 1606),
 tp [],
 f0,
 fr (mt 70 2) (z sw),
 co sn sw 1651 627 2 0 3 926 true .none .none .none (r 928) 1654 ah 1655,
 fn (mt 70 2) (z sw) .none (r 929) (x ef 1606),
 tp [],
 f0,
 tp [(x aC 1660),(x gc 1661),(x kW 1662),(x jB 1663),(x iu 1664),(x [105,110,115,105,100,101] 1665)],
 tp [],
 fr (mt 70 3) (z sx),
 cp [102,114,101,101] sx 1657 630 2 931 1666 ah 1667,
 fn (mt 70 3) (z sx) .none (r 936) (x ef 1606),
 tp [],
 f0,
 tp [(x aC 1672),(x gc 1673),(x bN 1674)],
 tp [],
 fr (mt 70 4) (z sy),
 cp im sy 1669 659 2 938 1675 ah 1676]
noncomputable def c31x1 (P:Params):List Obj:=[fn (mt 70 4) (z sy) .none (r 943) (x ef 1606),
 tp [],
 f0,
 tp [(x aC 1681),(x gc 1682),(x bR 1683),(x bN 1684),(x [108,111,119] 1685)],
 tp [],
 fr (mt 70 5) (z sz),
 cp [116,101,115,116] sz 1678 667 2 945 1686 ah 1687,
 fn (mt 70 5) (z sz) .none (r 950) (x ef 1606),
 tp [],
 f0,
 tp [(x aC 1692),(x gc 1693),(x bN 1694),(x [119,104,101,110] 1695),(x [116,104,101,110] 1696)],
 tp [],
 fr (mt 70 6) (z sA),
 cp bD sA 1689 684 2 952 1697 ah 1698,
 fn (mt 70 6) (z sA) .none (r 957) (x ef 1606),
 tp [(x mD 1700)],
 dc [e P aW 1628 (x ef 1606),e P aX 1632 (i 618 1631),e P aM 1640 (r 917),e P sk 1650 (r 925),e P sn 1656 (r 930),e P [102,114,101,101] 1668 (r 937),e P im 1677 (r 944),e P [116,101,115,116] 1688 (r 951),e P bD 1699 (r 958),e P aY 1701 (r 959),e P fe 1703 (r 962),e P ec 1705 (r 963),e P bQ 1706 .none] 4,
 cl jt [(.type "object")] [(r 961),(.type "object")] 960 [] [none,none,(some (x jt 1621)),(some (x jt 1629)),(some (.builtin "object.__new__")),(some (.bool true))],
 ⟨(.type "getset_descriptor"),none,.fields #[(x fe 1702),(r 961),(.builtin "function.__dict__"),(.builtin "function.__dict__#set")],#[]⟩,
 ⟨(.type "getset_descriptor"),none,.fields #[(x ec 1704),(r 961),(.builtin "ExceptionGroup.__weakref__"),.none],#[]⟩,
 su 961,
 bi 961]
noncomputable def c31 (P:Params) (m:Nat→Nat):List Obj:=c31x0 P++c31x1 P
noncomputable def c32 (P:Params) (m:Nat→Nat):List Obj:=[]
noncomputable def c33x0 (P:Params):List Obj:=[tp [],
 bp,
 dc [e P aW 1720 (x ch 1709),e P bP 1722 (x ju 1721),e P aX 1724 (i 695 1723),e P aM 1732 (r 979),e P [104,101,114,101] 1739 (r 986),e P kW 1747 (r 993),e P [103,111] 1755 (r 1000),e P kT 1763 (r 1007),e P sB 1770 (r 1014),e P jz 1778 (r 1021),e P jy 1786 (r 1028),e P wH 1794 (r 1035),e P sC 1801 (r 1042),e P sD 1809 (r 1049),e P sE 1817 (r 1056),e P sF 1825 (r 1063),e P sG 1833 (r 1070),e P sH 1840 (r 1077),e P sI 1847 (r 1084),e P sJ 1854 (r 1091),e P aY 1859 (r 1092)] 21,
 tp [],
 f1 [(i 697 0),(i 4 0),(r 978),(i 703 0),(i 4 0),(r 985),(i 706 0),(i 4 0),(r 992),(i 709 0),(i 4 0),(r 999),(i 715 0),(i 4 0),(r 1006),(i 718 0),(i 4 0),(r 1013),(i 721 0),(i 4 0),(r 1020),(i 724 0),(i 4 0),(r 1027),(i 727 0),(i 4 0),(r 1034),(i 730 0),(i 4 0),(r 1041),(i 733 0),(i 4 0),(r 1048),(i 739 0),(i 4 0),(r 1055),(i 745 0),(i 4 0),(r 1062),(i 749 0),(i 4 0),(r 1069),(i 753 0),(i 4 0),(r 1076),(i 758 0),(i 4 0),(r 1083),(i 763 0),(i 4 0),(r 1090)],
 co ju ju 1715 695 0 0 0 969 false .none .none .none .none 1718 ah 1719,
 fm 971 968 ch 1709,
 tp [],
 f0,
 tp [(x aC 1728),(x bN 1729)],
 tp [],
 fr (mt 73 0) (z sK),
 cp aM sK 1725 697 2 973 1730 ah 1731,
 fn (mt 73 0) (z sK) .none (r 978) (x ch 1709),
 tp [],
 f0,
 tp [(x aC 1736)],
 tp [],
 fr (mt 73 1) (z sM),
 cp [104,101,114,101] sM 1733 703 1 980 1737 ah 1738,
 fn (mt 73 1) (z sM) .none (r 985) (x ch 1709),
 tp [],
 f0,
 tp [(x aC 1743),(x [109,97,110,121] 1744)],
 tp [],
 fr (mt 73 2) (z sN),
 cp kW sN 1740 706 2 987 1745 ah 1746,
 fn (mt 73 2) (z sN) .none (r 992) (x ch 1709),
 tp [],
 f0,
 tp [(x aC 1751),(x ge 1752)],
 tp [],
 fr (mt 73 3) (z sO),
 cp [103,111] sO 1748 709 1 994 1753 ah 1754,
 fn (mt 73 3) (z sO) .none (r 999) (x ch 1709),
 tp [],
 f0,
 tp [(x aC 1759),(x kS 1760)],
 tp [],
 fr (mt 73 4) (z wJ)]
noncomputable def c33x1 (P:Params):List Obj:=[cp kT wJ 1756 715 2 1001 1761 ah 1762,
 fn (mt 73 4) (z wJ) .none (r 1006) (x ch 1709),
 tp [],
 f0,
 tp [(x aC 1767)],
 tp [],
 fr (mt 73 5) (z sP),
 cp sB sP 1764 718 1 1008 1768 ah 1769,
 fn (mt 73 5) (z sP) .none (r 1013) (x ch 1709),
 tp [],
 f0,
 tp [(x aC 1774),(x bN 1775)],
 tp [],
 fr (mt 73 6) (z sQ),
 cp jz sQ 1771 721 2 1015 1776 ah 1777,
 fn (mt 73 6) (z sQ) .none (r 1020) (x ch 1709),
 tp [],
 f0,
 tp [(x aC 1782),(x bN 1783)],
 tp [],
 fr (mt 73 7) (z sR),
 cp jy sR 1779 724 2 1022 1784 ah 1785,
 fn (mt 73 7) (z sR) .none (r 1027) (x ch 1709),
 tp [],
 f0,
 tp [(x aC 1790),(x [107,101,121,115] 1791)],
 tp [],
 fr (mt 73 8) (z wK),
 cp wH wK 1787 727 2 1029 1792 ah 1793,
 fn (mt 73 8) (z wK) .none (r 1034) (x ch 1709),
 tp [],
 f0,
 tp [(x aC 1798)],
 tp [],
 fr (mt 73 9) (z sS),
 cp sC sS 1795 730 1 1036 1799 ah 1800,
 fn (mt 73 9) (z sS) .none (r 1041) (x ch 1709),
 tp [],
 f0,
 tp [(x aC 1805),(x bN 1806)]]
noncomputable def c33x2 (P:Params):List Obj:=[tp [],
 fr (mt 73 10) (z sT),
 cp sD sT 1802 733 2 1043 1807 ah 1808,
 fn (mt 73 10) (z sT) .none (r 1048) (x ch 1709),
 tp [],
 f0,
 tp [(x aC 1813),(x bN 1814)],
 tp [],
 fr (mt 73 11) (z sU),
 cp sE sU 1810 739 2 1050 1815 ah 1816,
 fn (mt 73 11) (z sU) .none (r 1055) (x ch 1709),
 tp [],
 f0,
 tp [(x aC 1821),(x bN 1822)],
 tp [],
 fr (mt 73 12) (z sV),
 cp sF sV 1818 745 2 1057 1823 ah 1824,
 fn (mt 73 12) (z sV) .none (r 1062) (x ch 1709),
 tp [],
 f0,
 tp [(x aC 1829),(x bN 1830)],
 tp [],
 fr (mt 73 13) (z sW),
 cp sG sW 1826 749 2 1064 1831 ah 1832,
 fn (mt 73 13) (z sW) .none (r 1069) (x ch 1709),
 tp [],
 f0,
 tp [(x aC 1837)],
 tp [],
 fr (mt 73 14) (z sX),
 cp sH sX 1834 753 1 1071 1838 ah 1839,
 fn (mt 73 14) (z sX) .none (r 1076) (x ch 1709),
 tp [],
 f0,
 tp [(x aC 1844)],
 tp [],
 fr (mt 73 15) (z sY),
 cp sI sY 1841 758 1 1078 1845 ah 1846,
 fn (mt 73 15) (z sY) .none (r 1083) (x ch 1709),
 tp []]
noncomputable def c33x3 (P:Params):List Obj:=[f0,
 tp [(x aC 1851)],
 tp [],
 fr (mt 73 16) (z sZ),
 cp sJ sZ 1848 763 1 1085 1852 ah 1853,
 fn (mt 73 16) (z sZ) .none (r 1090) (x ch 1709),
 tp [(x [97,116] 1855),(x [100,101,112,116,104] 1856),(x bN 1857),(x [119,111,114,100,115] 1858)],
 dc [e P aW 1720 (x ch 1709),e P aX 1724 (i 695 1723),e P aM 1732 (r 979),e P [104,101,114,101] 1739 (r 986),e P kW 1747 (r 993),e P [103,111] 1755 (r 1000),e P kT 1763 (r 1007),e P sB 1770 (r 1014),e P jz 1778 (r 1021),e P jy 1786 (r 1028),e P wH 1794 (r 1035),e P sC 1801 (r 1042),e P sD 1809 (r 1049),e P sE 1817 (r 1056),e P sF 1825 (r 1063),e P sG 1833 (r 1070),e P sH 1840 (r 1077),e P sI 1847 (r 1084),e P sJ 1854 (r 1091),e P aY 1859 (r 1092),e P fe 1861 (r 1095),e P ec 1863 (r 1096),e P bQ 1864 .none] 4,
 cl ju [(.type "object")] [(r 1094),(.type "object")] 1093 [] [none,none,(some (x ju 1713)),(some (x ju 1721)),(some (.builtin "object.__new__")),(some (.bool true))],
 ⟨(.type "getset_descriptor"),none,.fields #[(x fe 1860),(r 1094),(.builtin "function.__dict__"),(.builtin "function.__dict__#set")],#[]⟩,
 ⟨(.type "getset_descriptor"),none,.fields #[(x ec 1862),(r 1094),(.builtin "ExceptionGroup.__weakref__"),.none],#[]⟩,
 su 1094,
 bi 1094]
noncomputable def c33 (P:Params) (m:Nat→Nat):List Obj:=c33x0 P++c33x1 P++c33x2 P++c33x3 P
noncomputable def c34x0 (P:Params):List Obj:=[tp [],
 f0,
 tp [(x [115,99,114,105,112,116] 1872),(x [107] 1873),(x [99,101,108,108] 1874),(x [98,105,103] 1875),(x [109,105,120,101,100] 1876)],
 tp [],
 fr (st 75) (z mK),
 cp mK mK 1869 766 2 1099 1877 ah 1878,
 fn (st 75) (z mK) .none (r 1104) (x eC 1867),
 tp [],
 f0,
 tp [(x jx 1883),(x [116,111,112] 1884),(x [100,114,97,119,110] 1885)],
 tp [],
 fr (st 76) (z mL),
 cp mL mL 1880 773 2 1106 1886 ah 1887,
 fn (st 76) (z mL) .none (r 1111) (x eC 1867),
 tp [],
 f0,
 tp [(x jx 1892),(x [116,104,105,110,103,115] 1893)],
 tp [],
 fr (st 77) (z mM),
 cp mM mM 1889 780 2 1113 1894 ah 1895,
 fn (st 77) (z mM) .none (r 1118) (x eC 1867),
 tp [],
 f0,
 tp [(x jx 1900),(x [109,101,110,117] 1901)],
 tp [],
 fr (st 78) (z mN),
 cp mN mN 1897 782 1 1120 1902 ah 1903,
 fn (st 78) (z mN) .none (r 1125) (x eC 1867),
 tp [],
 f0,
 tp [(x jx 1908),(x [102,117,101,108] 1909),(x [119,97,121] 1910),(x [111,110,101] 1911),(x ms 1912),(x [115,105,103,110,115] 1913),(x [111,112] 1914),(x [105,115,95,110,117,108,108] 1915),(x dE 1916),(x [112,97,105,114,115] 1917),(x [109,101,110,117] 1918)],
 tp [],
 fr (st 79) (z mO),
 cp mO mO 1905 788 2 1127 1919 ah 1920,
 fn (st 79) (z mO) .none (r 1132) (x eC 1867),
 tp [],
 f0,
 tp [(x an 1925)],
 tp [],
 fr (st 80) (z mP)]
noncomputable def c34x1 (P:Params):List Obj:=[cp mP mP 1922 815 1 1134 1926 ah 1927,
 fn (st 80) (z mP) .none (r 1139) (x eC 1867),
 tp [],
 f0,
 tp [(x [116,114,101,101] 1932),(x mA 1933),(x bR 1934)],
 tp [],
 fr (st 81) (z mQ),
 cp mQ mQ 1929 817 1 1141 1935 ah 1936,
 fn (st 81) (z mQ) .none (r 1146) (x eC 1867),
 tp [],
 f0,
 fr (st 82) (z mR),
 co mR mR 1938 824 1 0 3 1148 true .none .none .none (r 1150) 1941 ah 1942,
 fn (st 82) (z mR) .none (r 1151) (x eC 1867),
 tp [],
 f0,
 fr (st 83) (z mS),
 co mS mS 1944 849 1 0 3 1153 true .none .none .none (r 1155) 1947 ah 1948,
 fn (st 83) (z mS) .none (r 1156) (x eC 1867),
 tp [],
 f0,
 tp [(x bN 1953),(x kU 1954),(x gc 1955)],
 tp [],
 fr (st 84) (z mT),
 cp mT mT 1950 860 1 1158 1956 ah 1957,
 fn (st 84) (z mT) .none (r 1163) (x eC 1867),
 tp [],
 f0,
 tp [(x [115,99,114,105,112,116] 1962),(x [107] 1963),(x jx 1964),(x [116,114,101,101] 1965),(x gc 1966),(x [116,111,108,100] 1967),(x [98,97,99,107] 1968)],
 tp [],
 fr (st 85) (z [108,97,119]),
 cp [108,97,119] [108,97,119] 1959 864 1 1165 1969 ah 1970,
 fn (st 85) (z [108,97,119]) .none (r 1170) (x eC 1867)]
noncomputable def c34 (P:Params) (m:Nat→Nat):List Obj:=c34x0 P++c34x1 P
noncomputable def cs (P:Params) (m:Nat→Nat) (k:Nat):List Obj:=([c0 P m,c1 P m,c2 P m,c3 P m,c4 P m,c5 P m,c6 P m,c7 P m,c8 P m,c9 P m,c10 P m,c11 P m,c12 P m,c13 P m,c14 P m,c15 P m,c16 P m,c17 P m,c18 P m,c19 P m,c20 P m,c21 P m,c22 P m,c23 P m,c24 P m,c25 P m,c26 P m,c27 P m,c28 P m,c29 P m,c30 P m,c31 P m,c32 P m,c33 P m,c34 P m].take k).flatten
noncomputable def cB (P:Params) (k:Nat):List Obj:=[tp [],td k,co [60,109,111,100,117,108,101,62] [60,109,111,100,117,108,101,62] 182 1 0 0 0 11 false .none .none .none .none 185 ah 186,fm 13 3 wj 164]
noncomputable def ob0 (P:Params):List Obj:=let m:Nat→Nat:=fun a=>0; [boot_o_0 P,boot_o_1 P,boot_o_2 P,gd P (x wj 164) 0 9,boot_o_4 P,boot_o_5 P,boot_o_6 P,boot_o_7 P,boot_o_8 P,boot_o_9 P,boot_o_10 P]++(cB P 0)
noncomputable def S0 (w:World) (os:OsState):SharedT:=⟨tr (ob0 w.params),15,{},#[],boot_drawn,187,os⟩
noncomputable def ob1 (P:Params):List Obj:=let m:Nat→Nat:=fun a=>if a=50 then 0 else 0; [boot_o_0 P,boot_o_1 P,boot_o_2 P,gd P (x av 194) 4 13,boot_o_4 P,boot_o_5 P,boot_o_6 P,boot_o_7 P,boot_o_8 P,boot_o_9 P,boot_o_10 P]++(cB P 12)++cs P m 1
noncomputable def S1 (w:World) (os:OsState):SharedT:=⟨tr (ob1 w.params),55,{},#[],boot_drawn,236,os⟩
theorem p0 (w:World) (os:OsState) (b:List Stmt):sg w 314 (S0 w os) (pc b (sl 0 5) ⟨0,0,0,0⟩)=some (.next,S1 w os,.body b bb,⟨9,0,12,24⟩):=by kernel_rfl
noncomputable def ob2 (P:Params):List Obj:=let m:Nat→Nat:=fun a=>if a=50 then 1 else if a=64 then 0 else 0; [boot_o_0 P,boot_o_1 P,boot_o_2 P,gd P (x av 194) 5 14,boot_o_4 P,boot_o_5 P,boot_o_6 P,boot_o_7 P,boot_o_8 P,boot_o_9 P,boot_o_10 P]++(cB P 15)++cs P m 2
noncomputable def S2 (w:World) (os:OsState):SharedT:=⟨tr (ob2 w.params),67,{},#[],boot_drawn,252,os⟩
theorem p1 (w:World) (os:OsState) (b:List Stmt):sg w 214 (S1 w os) (pc b (sl 5 1) ⟨9,0,12,24⟩)=some (.next,S2 w os,.body b bb,⟨13,0,14,8⟩):=by kernel_rfl
noncomputable def ob3 (P:Params):List Obj:=let m:Nat→Nat:=fun a=>if a=50 then 1 else if a=64 then 1 else 0; [boot_o_0 P,boot_o_1 P,boot_o_2 P,gd P (x av 194) 6 15,boot_o_4 P,boot_o_5 P,boot_o_6 P,boot_o_7 P,boot_o_8 P,boot_o_9 P,boot_o_10 P]++(cB P 18)++cs P m 3
noncomputable def S3 (w:World) (os:OsState):SharedT:=⟨tr (ob3 w.params),93,{},#[],boot_drawn,284,os⟩
theorem p2 (w:World) (os:OsState) (b:List Stmt):sg w 291 (S2 w os) (pc b (sl 6 1) ⟨13,0,14,8⟩)=some (.next,S3 w os,.body b bb,⟨15,0,25,89⟩):=by kernel_rfl
noncomputable def ob4 (P:Params):List Obj:=let m:Nat→Nat:=fun a=>if a=50 then 1 else if a=64 then 2 else 0; [boot_o_0 P,boot_o_1 P,boot_o_2 P,gd P (x av 194) 7 16,boot_o_4 P,boot_o_5 P,boot_o_6 P,boot_o_7 P,boot_o_8 P,boot_o_9 P,boot_o_10 P]++(cB P 21)++cs P m 4
noncomputable def S4 (w:World) (os:OsState):SharedT:=⟨tr (ob4 w.params),119,{},#[],boot_drawn,321,os⟩
theorem p3 (w:World) (os:OsState) (b:List Stmt):sg w 296 (S3 w os) (pc b (sl 7 1) ⟨15,0,25,89⟩)=some (.next,S4 w os,.body b bb,⟨26,0,36,48⟩):=by kernel_rfl
noncomputable def ob5 (P:Params):List Obj:=let m:Nat→Nat:=fun a=>if a=50 then 1 else if a=64 then 3 else 0; [boot_o_0 P,boot_o_1 P,boot_o_2 P,gd P (x av 194) 8 17,boot_o_4 P,boot_o_5 P,boot_o_6 P,boot_o_7 P,boot_o_8 P,boot_o_9 P,boot_o_10 P]++(cB P 24)++cs P m 5
noncomputable def S5 (w:World) (os:OsState):SharedT:=⟨tr (ob5 w.params),145,{},#[],boot_drawn,353,os⟩
theorem p4 (w:World) (os:OsState) (b:List Stmt):sg w 291 (S4 w os) (pc b (sl 8 1) ⟨26,0,36,48⟩)=some (.next,S5 w os,.body b bb,⟨37,0,43,40⟩):=by kernel_rfl
noncomputable def ob6 (P:Params):List Obj:=let m:Nat→Nat:=fun a=>if a=50 then 1 else if a=64 then 4 else 0; [boot_o_0 P,boot_o_1 P,boot_o_2 P,gd P (x av 194) 9 18,boot_o_4 P,boot_o_5 P,boot_o_6 P,boot_o_7 P,boot_o_8 P,boot_o_9 P,boot_o_10 P]++(cB P 27)++cs P m 6
noncomputable def S6 (w:World) (os:OsState):SharedT:=⟨tr (ob6 w.params),171,{},#[],boot_drawn,387,os⟩
theorem p5 (w:World) (os:OsState) (b:List Stmt):sg w 293 (S5 w os) (pc b (sl 9 1) ⟨37,0,43,40⟩)=some (.next,S6 w os,.body b bb,⟨44,0,51,53⟩):=by kernel_rfl
noncomputable def ob7 (P:Params):List Obj:=let m:Nat→Nat:=fun a=>if a=50 then 1 else if a=64 then 5 else 0; [boot_o_0 P,boot_o_1 P,boot_o_2 P,gd P (x av 194) 10 19,boot_o_4 P,boot_o_5 P,boot_o_6 P,boot_o_7 P,boot_o_8 P,boot_o_9 P,boot_o_10 P]++(cB P 30)++cs P m 7
noncomputable def S7 (w:World) (os:OsState):SharedT:=⟨tr (ob7 w.params),197,{},#[],boot_drawn,423,os⟩
theorem p6 (w:World) (os:OsState) (b:List Stmt):sg w 295 (S6 w os) (pc b (sl 10 1) ⟨44,0,51,53⟩)=some (.next,S7 w os,.body b bb,⟨52,0,60,69⟩):=by kernel_rfl
noncomputable def ob8 (P:Params):List Obj:=let m:Nat→Nat:=fun a=>if a=50 then 1 else if a=64 then 6 else 0; [boot_o_0 P,boot_o_1 P,boot_o_2 P,gd P (x av 194) 11 20,boot_o_4 P,boot_o_5 P,boot_o_6 P,boot_o_7 P,boot_o_8 P,boot_o_9 P,boot_o_10 P]++(cB P 33)++cs P m 8
noncomputable def S8 (w:World) (os:OsState):SharedT:=⟨tr (ob8 w.params),223,{},#[],boot_drawn,461,os⟩
theorem p7 (w:World) (os:OsState) (b:List Stmt):sg w 297 (S7 w os) (pc b (sl 11 1) ⟨52,0,60,69⟩)=some (.next,S8 w os,.body b bb,⟨61,0,70,91⟩):=by kernel_rfl
noncomputable def ob9 (P:Params):List Obj:=let m:Nat→Nat:=fun a=>if a=50 then 1 else if a=64 then 7 else 0; [boot_o_0 P,boot_o_1 P,boot_o_2 P,gd P (x av 194) 12 21,boot_o_4 P,boot_o_5 P,boot_o_6 P,boot_o_7 P,boot_o_8 P,boot_o_9 P,boot_o_10 P]++(cB P 36)++cs P m 9
noncomputable def S9 (w:World) (os:OsState):SharedT:=⟨tr (ob9 w.params),249,{},#[],boot_drawn,497,os⟩
theorem p8 (w:World) (os:OsState) (b:List Stmt):sg w 295 (S8 w os) (pc b (sl 12 1) ⟨61,0,70,91⟩)=some (.next,S9 w os,.body b bb,⟨71,0,79,74⟩):=by kernel_rfl
noncomputable def NZ (P:Params):List Obj:=let m:Nat→Nat:=fun a=>if a=50 then 1 else if a=64 then 8 else 0; [boot_o_0 P,boot_o_1 P,boot_o_2 P,gd P (x av 194) 13 22,boot_o_4 P,boot_o_5 P,boot_o_6 P,boot_o_7 P,boot_o_8 P,boot_o_9 P,boot_o_10 P]++(cB P 39)++cs P m 10
noncomputable def S10 (w:World) (os:OsState):SharedT:=⟨tr (NZ w.params),275,{},#[],boot_drawn,533,os⟩
theorem p9 (w:World) (os:OsState) (b:List Stmt):sg w 295 (S9 w os) (pc b (sl 13 1) ⟨71,0,79,74⟩)=some (.next,S10 w os,.body b bb,⟨80,0,88,78⟩):=by kernel_rfl
noncomputable def N0 (P:Params):List Obj:=let m:Nat→Nat:=fun a=>if a=50 then 1 else if a=64 then 9 else 0; [boot_o_0 P,boot_o_1 P,boot_o_2 P,gd P (x av 194) 14 23,boot_o_4 P,boot_o_5 P,boot_o_6 P,boot_o_7 P,boot_o_8 P,boot_o_9 P,boot_o_10 P]++(cB P 42)++cs P m 11
noncomputable def S11 (w:World) (os:OsState):SharedT:=⟨tr (N0 w.params),301,{},#[],boot_drawn,567,os⟩
theorem p10 (w:World) (os:OsState) (b:List Stmt):sg w 293 (S10 w os) (pc b (sl 14 1) ⟨80,0,88,78⟩)=some (.next,S11 w os,.body b bb,⟨89,0,96,58⟩):=by kernel_rfl
noncomputable def N3 (P:Params):List Obj:=let m:Nat→Nat:=fun a=>if a=50 then 1 else if a=64 then 10 else 0; [boot_o_0 P,boot_o_1 P,boot_o_2 P,gd P (x av 194) 15 24,boot_o_4 P,boot_o_5 P,boot_o_6 P,boot_o_7 P,boot_o_8 P,boot_o_9 P,boot_o_10 P]++(cB P 45)++cs P m 12
noncomputable def S12 (w:World) (os:OsState):SharedT:=⟨tr (N3 w.params),327,{},#[],boot_drawn,599,os⟩
theorem p11 (w:World) (os:OsState) (b:List Stmt):sg w 291 (S11 w os) (pc b (sl 15 1) ⟨89,0,96,58⟩)=some (.next,S12 w os,.body b bb,⟨97,0,103,44⟩):=by kernel_rfl
noncomputable def N4 (P:Params):List Obj:=let m:Nat→Nat:=fun a=>if a=50 then 1 else if a=64 then 11 else 0; [boot_o_0 P,boot_o_1 P,boot_o_2 P,gd P (x av 194) 16 25,boot_o_4 P,boot_o_5 P,boot_o_6 P,boot_o_7 P,boot_o_8 P,boot_o_9 P,boot_o_10 P]++(cB P 48)++cs P m 13
noncomputable def S13 (w:World) (os:OsState):SharedT:=⟨tr (N4 w.params),351,{},#[],boot_drawn,634,os⟩
theorem p12 (w:World) (os:OsState) (b:List Stmt):sg w 292 (S12 w os) (pc b (sl 16 1) ⟨97,0,103,44⟩)=some (.next,S13 w os,.body b bb,⟨104,0,113,69⟩):=by kernel_rfl
noncomputable def N5 (P:Params):List Obj:=let m:Nat→Nat:=fun a=>if a=50 then 1 else if a=64 then 12 else 0; [boot_o_0 P,boot_o_1 P,boot_o_2 P,gd P (x av 194) 17 26,boot_o_4 P,boot_o_5 P,boot_o_6 P,boot_o_7 P,boot_o_8 P,boot_o_9 P,boot_o_10 P]++(cB P 51)++cs P m 14
noncomputable def S14 (w:World) (os:OsState):SharedT:=⟨tr (N5 w.params),377,{},#[],boot_drawn,672,os⟩
theorem p13 (w:World) (os:OsState) (b:List Stmt):sg w 297 (S13 w os) (pc b (sl 17 1) ⟨104,0,113,69⟩)=some (.next,S14 w os,.body b bb,⟨114,0,123,85⟩):=by kernel_rfl
noncomputable def N6 (P:Params):List Obj:=let m:Nat→Nat:=fun a=>if a=50 then 1 else if a=64 then 13 else 0; [boot_o_0 P,boot_o_1 P,boot_o_2 P,gd P (x av 194) 18 27,boot_o_4 P,boot_o_5 P,boot_o_6 P,boot_o_7 P,boot_o_8 P,boot_o_9 P,boot_o_10 P]++(cB P 54)++cs P m 15
noncomputable def S15 (w:World) (os:OsState):SharedT:=⟨tr (N6 w.params),403,{},#[],boot_drawn,706,os⟩
theorem p14 (w:World) (os:OsState) (b:List Stmt):sg w 293 (S14 w os) (pc b (sl 18 1) ⟨114,0,123,85⟩)=some (.next,S15 w os,.body b bb,⟨124,0,131,57⟩):=by kernel_rfl
noncomputable def N7 (P:Params):List Obj:=let m:Nat→Nat:=fun a=>if a=50 then 1 else if a=64 then 14 else 0; [boot_o_0 P,boot_o_1 P,boot_o_2 P,gd P (x av 194) 19 28,boot_o_4 P,boot_o_5 P,boot_o_6 P,boot_o_7 P,boot_o_8 P,boot_o_9 P,boot_o_10 P]++(cB P 57)++cs P m 16
noncomputable def S16 (w:World) (os:OsState):SharedT:=⟨tr (N7 w.params),429,{},#[],boot_drawn,740,os⟩
theorem p15 (w:World) (os:OsState) (b:List Stmt):sg w 293 (S15 w os) (pc b (sl 19 1) ⟨124,0,131,57⟩)=some (.next,S16 w os,.body b bb,⟨132,0,139,60⟩):=by kernel_rfl
noncomputable def N8 (P:Params):List Obj:=let m:Nat→Nat:=fun a=>if a=50 then 1 else if a=64 then 15 else 0; [boot_o_0 P,boot_o_1 P,boot_o_2 P,gd P (x av 194) 20 29,boot_o_4 P,boot_o_5 P,boot_o_6 P,boot_o_7 P,boot_o_8 P,boot_o_9 P,boot_o_10 P]++(cB P 60)++cs P m 17
noncomputable def S17 (w:World) (os:OsState):SharedT:=⟨tr (N8 w.params),455,{},#[],boot_drawn,774,os⟩
theorem p16 (w:World) (os:OsState) (b:List Stmt):sg w 293 (S16 w os) (pc b (sl 20 1) ⟨132,0,139,60⟩)=some (.next,S17 w os,.body b bb,⟨140,0,147,57⟩):=by kernel_rfl
noncomputable def N9 (P:Params):List Obj:=let m:Nat→Nat:=fun a=>if a=50 then 1 else if a=64 then 16 else 0; [boot_o_0 P,boot_o_1 P,boot_o_2 P,gd P (x ed 834) 23 32,boot_o_4 P,boot_o_5 P,boot_o_6 P,boot_o_7 P,boot_o_8 P,boot_o_9 P,boot_o_10 P]++(cB P 69)++cs P m 18
noncomputable def S18 (w:World) (os:OsState):SharedT:=⟨tr (N9 w.params),495,{},#[],boot_drawn,836,os⟩
theorem p17 (w:World) (os:OsState) (b:List Stmt):sg w 379 (S17 w os) (pc b (sl 21 5) ⟨140,0,147,57⟩)=some (.next,S18 w os,.body b bb,⟨184,0,184,8⟩):=by kernel_rfl
noncomputable def Oa (P:Params):List Obj:=let m:Nat→Nat:=fun a=>if a=50 then 1 else if a=64 then 16 else if a=511 then 0 else 0; [boot_o_0 P,boot_o_1 P,⟨.none,none,.dict #[e P dC 861 (i 511 0),e P dD 862 (i 1 0)] 2,#[]⟩,gd P (x ed 834) 24 33,boot_o_4 P,boot_o_5 P,boot_o_6 P,boot_o_7 P,boot_o_8 P,boot_o_9 P,boot_o_10 P]++(cB P 72)++cs P m 19
noncomputable def S19 (w:World) (os:OsState):SharedT:=⟨tr (Oa w.params),515,{},#[],boot_drawn,865,os⟩
theorem p18 (w:World) (os:OsState) (b:List Stmt):sg w 229 (S18 w os) (pc b (sl 26 1) ⟨184,0,184,8⟩)=some (.next,S19 w os,.body b bb,⟨185,0,188,30⟩):=by kernel_rfl
noncomputable def Oc (P:Params):List Obj:=let m:Nat→Nat:=fun a=>if a=50 then 1 else if a=64 then 16 else if a=511 then 1 else if a=524 then 0 else 0; [boot_o_0 P,boot_o_1 P,⟨.none,none,.dict #[e P dC 861 (i 511 0),e P dD 862 (i 1 0)] 2,#[]⟩,gd P (x ed 834) 25 34,boot_o_4 P,boot_o_5 P,boot_o_6 P,boot_o_7 P,boot_o_8 P,boot_o_9 P,boot_o_10 P]++(cB P 75)++cs P m 20
noncomputable def S20 (w:World) (os:OsState):SharedT:=⟨tr (Oc w.params),527,{},#[],boot_drawn,881,os⟩
theorem p19 (w:World) (os:OsState) (b:List Stmt):sg w 214 (S19 w os) (pc b (sl 27 1) ⟨185,0,188,30⟩)=some (.next,S20 w os,.body b bb,⟨189,0,190,8⟩):=by kernel_rfl
noncomputable def Od (P:Params):List Obj:=let m:Nat→Nat:=fun a=>if a=50 then 1 else if a=64 then 16 else if a=511 then 1 else if a=524 then 1 else 0; [boot_o_0 P,boot_o_1 P,⟨.none,none,.dict #[e P dC 861 (i 511 0),e P dD 862 (i 1 0)] 2,#[]⟩,gd P (x bt 908) 34 43,boot_o_4 P,boot_o_5 P,boot_o_6 P,boot_o_7 P,boot_o_8 P,boot_o_9 P,boot_o_10 P]++(cB P 78)++cs P m 21
noncomputable def S21 (w:World) (os:OsState):SharedT:=⟨tr (Od w.params),547,{},#[],boot_drawn,935,os⟩
theorem p20 (w:World) (os:OsState) (b:List Stmt):sg w 368 (S20 w os) (pc b (sl 28 10) ⟨189,0,190,8⟩)=some (.next,S21 w os,.body b bb,⟨204,0,204,12⟩):=by kernel_rfl
noncomputable def Oe (P:Params):List Obj:=let m:Nat→Nat:=fun a=>if a=50 then 1 else if a=64 then 16 else if a=511 then 1 else if a=524 then 1 else 0; [boot_o_0 P,boot_o_1 P,⟨.none,none,.dict #[e P dC 861 (i 511 0),e P dD 862 (i 1 0)] 2,#[]⟩,gd P (x bt 908) 35 44,boot_o_4 P,boot_o_5 P,boot_o_6 P,boot_o_7 P,boot_o_8 P,boot_o_9 P,boot_o_10 P]++(cB P 78)++cs P m 22
noncomputable def S22 (w:World) (os:OsState):SharedT:=⟨tr (Oe w.params),548,{},#[],boot_drawn,942,os⟩
theorem Of (w:World) (os:OsState) (b:List Stmt):sg (w.withFollow "special-get-raises" false) 41 (S21 (w.withFollow "special-get-raises" false) os) (pc b (sl 38 1) ⟨204,0,204,12⟩)=some (.next,S22 (w.withFollow "special-get-raises" false) os,.body b bb,⟨205,0,205,10⟩):=by kernel_rfl
theorem Og (w:World) (os:OsState) (b:List Stmt):sg (w.withFollow "special-get-raises" true) 41 (S21 (w.withFollow "special-get-raises" true) os) (pc b (sl 38 1) ⟨204,0,204,12⟩)=some (.next,S22 (w.withFollow "special-get-raises" true) os,.body b bb,⟨205,0,205,10⟩):=by kernel_rfl
theorem p21 (w:World) (os:OsState) (b:List Stmt):sg w 41 (S21 w os) (pc b (sl 38 1) ⟨204,0,204,12⟩)=some (.next,S22 w os,.body b bb,⟨205,0,205,10⟩):=byRow2 (P:=fun w=>sg w 41 (S21 w os) (pc b (sl 38 1) ⟨204,0,204,12⟩)=some (.next,S22 w os,.body b bb,⟨205,0,205,10⟩)) "special-get-raises" (fun w=>Of w os b) (fun w=>Og w os b) w
noncomputable def Oh (P:Params):List Obj:=let m:Nat→Nat:=fun a=>if a=50 then 1 else if a=64 then 16 else if a=511 then 1 else if a=524 then 1 else 0; [boot_o_0 P,boot_o_1 P,⟨.none,none,.dict #[e P dC 861 (i 511 0),e P dD 862 (i 1 0)] 2,#[]⟩,gd P (x bt 908) 42 51,boot_o_4 P,boot_o_5 P,boot_o_6 P,boot_o_7 P,boot_o_8 P,boot_o_9 P,boot_o_10 P]++(cB P 87)++cs P m 23
noncomputable def S23 (w:World) (os:OsState):SharedT:=⟨tr (Oh w.params),569,{},#[],boot_drawn,1036,os⟩
theorem p22 (w:World) (os:OsState) (b:List Stmt):sg w 195 (S22 w os) (pc b (sl 39 7) ⟨205,0,205,10⟩)=some (.next,S23 w os,.body b bb,⟨216,0,217,48⟩):=by kernel_rfl
noncomputable def Oi (P:Params):List Obj:=let m:Nat→Nat:=fun a=>if a=50 then 1 else if a=64 then 16 else if a=511 then 1 else if a=524 then 1 else 0; [boot_o_0 P,boot_o_1 P,⟨.none,none,.dict #[e P dC 861 (i 511 0),e P dD 862 (i 1 0)] 2,#[]⟩,gd P (x bt 908) 43 52,boot_o_4 P,boot_o_5 P,boot_o_6 P,boot_o_7 P,boot_o_8 P,boot_o_9 P,boot_o_10 P]++(cB P 90)++cs P m 24
noncomputable def S24 (w:World) (os:OsState):SharedT:=⟨tr (Oi w.params),625,{},#[],boot_drawn,1108,os⟩
theorem p23 (w:World) (os:OsState) (b:List Stmt):sg w 386 (S23 w os) (pc b (sl 46 1) ⟨216,0,217,48⟩)=some (.next,S24 w os,.body b bb,⟨218,0,239,49⟩):=by kernel_rfl
noncomputable def Oj (P:Params):List Obj:=let m:Nat→Nat:=fun a=>if a=50 then 1 else if a=64 then 16 else if a=511 then 1 else if a=524 then 1 else 0; [boot_o_0 P,boot_o_1 P,⟨.none,none,.dict #[e P dC 861 (i 511 0),e P dD 862 (i 1 0)] 2,#[]⟩,gd P (x bt 908) 44 53,boot_o_4 P,boot_o_5 P,boot_o_6 P,boot_o_7 P,boot_o_8 P,boot_o_9 P,boot_o_10 P]++(cB P 93)++cs P m 25
noncomputable def S25 (w:World) (os:OsState):SharedT:=⟨tr (Oj w.params),730,{},#[],boot_drawn,1263,os⟩
theorem p24 (w:World) (os:OsState) (b:List Stmt):sg w 637 (S24 w os) (pc b (sl 47 1) ⟨218,0,239,49⟩)=some (.next,S25 w os,.body b bb,⟨240,0,372,48⟩):=by kernel_rfl
noncomputable def Ok (P:Params):List Obj:=let m:Nat→Nat:=fun a=>if a=50 then 1 else if a=64 then 16 else if a=511 then 1 else if a=524 then 1 else 0; [boot_o_0 P,boot_o_1 P,⟨.none,none,.dict #[e P dC 861 (i 511 0),e P dD 862 (i 1 0)] 2,#[]⟩,gd P (x bX 1270) 49 58,boot_o_4 P,boot_o_5 P,boot_o_6 P,boot_o_7 P,boot_o_8 P,boot_o_9 P,boot_o_10 P]++(cB P 96)++cs P m 26
noncomputable def S26 (w:World) (os:OsState):SharedT:=⟨tr (Ok w.params),737,{},#[],boot_drawn,1280,os⟩
theorem p25 (w:World) (os:OsState) (b:List Stmt):sg w 75 (S25 w os) (pc b (sl 48 6) ⟨240,0,372,48⟩)=some (.next,S26 w os,.body b bb,⟨379,0,379,10⟩):=by kernel_rfl
noncomputable def Ol (P:Params):List Obj:=let m:Nat→Nat:=fun a=>if a=50 then 1 else if a=64 then 16 else if a=511 then 1 else if a=524 then 1 else 0; [boot_o_0 P,boot_o_1 P,⟨.none,none,.dict #[e P dC 861 (i 511 0),e P dD 862 (i 1 0)] 2,#[]⟩,gd P (x bX 1270) 50 59,boot_o_4 P,boot_o_5 P,boot_o_6 P,boot_o_7 P,boot_o_8 P,boot_o_9 P,boot_o_10 P]++(cB P 96)++cs P m 27
noncomputable def S27 (w:World) (os:OsState):SharedT:=⟨tr (Ol w.params),738,{},#[],boot_drawn,1329,os⟩
theorem Om (w:World) (os:OsState) (b:List Stmt):sg (w.withFollow "special-get-raises" false) 252 (S26 (w.withFollow "special-get-raises" false) os) (pc b (sl 54 1) ⟨379,0,379,10⟩)=some (.next,S27 (w.withFollow "special-get-raises" false) os,.body b bb,⟨380,0,380,11⟩):=by kernel_rfl
theorem On (w:World) (os:OsState) (b:List Stmt):sg (w.withFollow "special-get-raises" true) 252 (S26 (w.withFollow "special-get-raises" true) os) (pc b (sl 54 1) ⟨379,0,379,10⟩)=some (.next,S27 (w.withFollow "special-get-raises" true) os,.body b bb,⟨380,0,380,11⟩):=by kernel_rfl
theorem p26 (w:World) (os:OsState) (b:List Stmt):sg w 252 (S26 w os) (pc b (sl 54 1) ⟨379,0,379,10⟩)=some (.next,S27 w os,.body b bb,⟨380,0,380,11⟩):=byRow2 (P:=fun w=>sg w 252 (S26 w os) (pc b (sl 54 1) ⟨379,0,379,10⟩)=some (.next,S27 w os,.body b bb,⟨380,0,380,11⟩)) "special-get-raises" (fun w=>Om w os b) (fun w=>On w os b) w
noncomputable def Oo (P:Params):List Obj:=let m:Nat→Nat:=fun a=>if a=50 then 1 else if a=64 then 16 else if a=511 then 1 else if a=524 then 1 else 0; [boot_o_0 P,boot_o_1 P,⟨.none,none,.dict #[e P dC 861 (i 511 0),e P dD 862 (i 1 0)] 2,#[]⟩,gd P (x bX 1270) 51 60,boot_o_4 P,boot_o_5 P,boot_o_6 P,boot_o_7 P,boot_o_8 P,boot_o_9 P,boot_o_10 P]++(cB P 96)++cs P m 28
noncomputable def S28 (w:World) (os:OsState):SharedT:=⟨tr (Oo w.params),739,{},#[],boot_drawn,1363,os⟩
theorem Op (w:World) (os:OsState) (b:List Stmt):sg (w.withFollow "special-get-raises" false) 176 (S27 (w.withFollow "special-get-raises" false) os) (pc b (sl 55 1) ⟨380,0,380,11⟩)=some (.next,S28 (w.withFollow "special-get-raises" false) os,.body b bb,⟨381,0,381,10⟩):=by kernel_rfl
theorem Oq (w:World) (os:OsState) (b:List Stmt):sg (w.withFollow "special-get-raises" true) 176 (S27 (w.withFollow "special-get-raises" true) os) (pc b (sl 55 1) ⟨380,0,380,11⟩)=some (.next,S28 (w.withFollow "special-get-raises" true) os,.body b bb,⟨381,0,381,10⟩):=by kernel_rfl
theorem p27 (w:World) (os:OsState) (b:List Stmt):sg w 176 (S27 w os) (pc b (sl 55 1) ⟨380,0,380,11⟩)=some (.next,S28 w os,.body b bb,⟨381,0,381,10⟩):=byRow2 (P:=fun w=>sg w 176 (S27 w os) (pc b (sl 55 1) ⟨380,0,380,11⟩)=some (.next,S28 w os,.body b bb,⟨381,0,381,10⟩)) "special-get-raises" (fun w=>Op w os b) (fun w=>Oq w os b) w
noncomputable def Ot (P:Params):List Obj:=let m:Nat→Nat:=fun a=>if a=50 then 1 else if a=64 then 16 else if a=511 then 1 else if a=524 then 1 else 0; [boot_o_0 P,boot_o_1 P,⟨.none,none,.dict #[e P dC 861 (i 511 0),e P dD 862 (i 1 0)] 2,#[]⟩,gd P (x bX 1270) 53 62,boot_o_4 P,boot_o_5 P,boot_o_6 P,boot_o_7 P,boot_o_8 P,boot_o_9 P,boot_o_10 P]++(cB P 96)++cs P m 29
noncomputable def S29 (w:World) (os:OsState):SharedT:=⟨tr (Ot w.params),741,{},#[],boot_drawn,1373,os⟩
theorem p28 (w:World) (os:OsState) (b:List Stmt):sg w 29 (S28 w os) (pc b (sl 56 2) ⟨381,0,381,10⟩)=some (.next,S29 w os,.body b bb,⟨383,0,383,11⟩):=by kernel_rfl
noncomputable def Ou (P:Params):List Obj:=let m:Nat→Nat:=fun a=>if a=50 then 1 else if a=64 then 16 else if a=511 then 1 else if a=524 then 1 else 0; [boot_o_0 P,boot_o_1 P,⟨.none,none,.dict #[e P dC 861 (i 511 0),e P dD 862 (i 1 0)] 2,#[]⟩,gd P (x bX 1270) 54 63,boot_o_4 P,boot_o_5 P,boot_o_6 P,boot_o_7 P,boot_o_8 P,boot_o_9 P,boot_o_10 P]++(cB P 99)++cs P m 30
noncomputable def S30 (w:World) (os:OsState):SharedT:=⟨tr (Ou w.params),868,{},#[],boot_drawn,1545,os⟩
theorem p29 (w:World) (os:OsState) (b:List Stmt):sg w 731 (S29 w os) (pc b (sl 58 1) ⟨383,0,383,11⟩)=some (.next,S30 w os,.body b bb,⟨384,0,572,16⟩):=by kernel_rfl
noncomputable def Ov (P:Params):List Obj:=let m:Nat→Nat:=fun a=>if a=50 then 1 else if a=64 then 16 else if a=511 then 1 else if a=524 then 1 else 0; [boot_o_0 P,boot_o_1 P,⟨.none,none,.dict #[e P dC 861 (i 511 0),e P dD 862 (i 1 0)] 2,#[]⟩,gd P (x ef 1606) 63 72,boot_o_4 P,boot_o_5 P,boot_o_6 P,boot_o_7 P,boot_o_8 P,boot_o_9 P,boot_o_10 P]++(cB P 114)++cs P m 31
noncomputable def S31 (w:World) (os:OsState):SharedT:=⟨tr (Ov w.params),904,{},#[],boot_drawn,1621,os⟩
theorem p30 (w:World) (os:OsState) (b:List Stmt):sg w 231 (S30 w os) (pc b (sl 59 11) ⟨384,0,572,16⟩)=some (.next,S31 w os,.body b bb,⟨604,0,617,22⟩):=by kernel_rfl
noncomputable def Ow (P:Params):List Obj:=let m:Nat→Nat:=fun a=>if a=50 then 1 else if a=64 then 16 else if a=511 then 1 else if a=524 then 1 else 0; [boot_o_0 P,boot_o_1 P,⟨.none,none,.dict #[e P dC 861 (i 511 0),e P dD 862 (i 1 0)] 2,#[]⟩,gd P (x ef 1606) 64 73,boot_o_4 P,boot_o_5 P,boot_o_6 P,boot_o_7 P,boot_o_8 P,boot_o_9 P,boot_o_10 P]++(cB P 117)++cs P m 32
noncomputable def S32 (w:World) (os:OsState):SharedT:=⟨tr (Ow w.params),966,{},#[],boot_drawn,1709,os⟩
theorem p31 (w:World) (os:OsState) (b:List Stmt):sg w 429 (S31 w os) (pc b (sl 70 1) ⟨604,0,617,22⟩)=some (.next,S32 w os,.body b bb,⟨618,0,692,28⟩):=by kernel_rfl
noncomputable def Ox (P:Params):List Obj:=let m:Nat→Nat:=fun a=>if a=50 then 1 else if a=64 then 16 else if a=511 then 1 else if a=524 then 1 else 0; [boot_o_0 P,boot_o_1 P,⟨.none,none,.dict #[e P dC 861 (i 511 0),e P dD 862 (i 1 0)] 2,#[]⟩,gd P (x ch 1709) 65 74,boot_o_4 P,boot_o_5 P,boot_o_6 P,boot_o_7 P,boot_o_8 P,boot_o_9 P,boot_o_10 P]++(cB P 117)++cs P m 33
noncomputable def S33 (w:World) (os:OsState):SharedT:=⟨tr (Ox w.params),966,{},#[],boot_drawn,1713,os⟩
theorem p32 (w:World) (os:OsState) (b:List Stmt):sg w 19 (S32 w os) (pc b (sl 71 2) ⟨618,0,692,28⟩)=some (.next,S33 w os,.body b bb,⟨694,0,694,10⟩):=by kernel_rfl
noncomputable def Oy (P:Params):List Obj:=let m:Nat→Nat:=fun a=>if a=50 then 1 else if a=64 then 16 else if a=511 then 1 else if a=524 then 1 else 0; [boot_o_0 P,boot_o_1 P,⟨.none,none,.dict #[e P dC 861 (i 511 0),e P dD 862 (i 1 0)] 2,#[]⟩,gd P (x ch 1709) 66 75,boot_o_4 P,boot_o_5 P,boot_o_6 P,boot_o_7 P,boot_o_8 P,boot_o_9 P,boot_o_10 P]++(cB P 120)++cs P m 34
noncomputable def S34 (w:World) (os:OsState):SharedT:=⟨tr (Oy w.params),1099,{},#[],boot_drawn,1867,os⟩
theorem p33 (w:World) (os:OsState) (b:List Stmt):sg w 732 (S33 w os) (pc b (sl 73 1) ⟨694,0,694,10⟩)=some (.next,S34 w os,.body b bb,⟨695,0,764,35⟩):=by kernel_rfl
noncomputable def ob35 (P:Params):List Obj:=let m:Nat→Nat:=fun a=>if a=50 then 1 else if a=64 then 16 else if a=511 then 1 else if a=524 then 1 else 0; [boot_o_0 P,boot_o_1 P,⟨.none,none,.dict #[e P dC 861 (i 511 0),e P dD 862 (i 1 0)] 2,#[]⟩,gd P (x eC 1867) 77 86,boot_o_4 P,boot_o_5 P,boot_o_6 P,boot_o_7 P,boot_o_8 P,boot_o_9 P,boot_o_10 P]++(cB P 153)++cs P m 35
noncomputable def S35 (w:World) (os:OsState):SharedT:=⟨tr (ob35 w.params),1172,{},#[],boot_drawn,1972,os⟩
theorem p34 (w:World) (os:OsState) (b:List Stmt):sg w 351 (S34 w os) (pc b (sl 74 12) ⟨695,0,764,35⟩)=some (.next,S35 w os,.body b bb,⟨864,0,875,15⟩):=by kernel_rfl
end Mine
set_option backward.match.sparseCases true
namespace Mine
open PySem PySem.W PySem.Calls PyProof.Rows
theorem Oz (w:World) (n:Nat) (S:SharedT) (b l:List Stmt) (p:Pos):segRunT treeTable pq w 11 (some (.ref 6)) 1 n S (piecesOf l bb (.body b bb) p [topFrame ⟨0,0,0,0⟩])=sg w n S (pc b l p):=by
 unfold sg pc piecesOf
 rw [←PySem.W.Fast.te10110043849684766642,←PySem.W.Fast.te14364793385576792824,←PySem.W.Fast.te12563942051412417395]
theorem bu {w:World} {os:OsState} {n N:Nat} {S S':SharedT} {r:Shared} {b l rest:List Stmt} {p p':Pos} (h:sg w n S (pc b l p)=some (.next,S',.body b bb,p'))
  (k:topRun treeTable pq w 11 (some (.ref 6)) N S'.abs (restOf rest bb (.body b bb) p' [topFrame ⟨0,0,0,0⟩])=some r):
  topRun treeTable pq w 11 (some (.ref 6)) (n+N) S.abs (restOf (l++rest) bb (.body b bb) p [topFrame ⟨0,0,0,0⟩])=some r:=
 piece_app (segRun_of ((Oz w n S b l p).trans h)) k
noncomputable def bq:List Stmt:=behindTheImports pq
noncomputable def cq:Code:= .body bq bb
noncomputable def hA (P:Params):Heap:=⟨⟨[boot_o_0 P,boot_o_1 P,boot_o_2 P,gd P (x [95,95,109,97,105,110,95,95] 164) 0 9,boot_o_4 P,boot_o_5 P,boot_o_6 P,boot_o_7 P,boot_o_8 P,boot_o_9 P,boot_o_10 P]++cB P 0⟩,{}⟩
theorem OA (w:World) (os:OsState):PySem.W.Fast.tw15667345088766844465 PySem.W.Fast.tw14364793385576792824 pq w 11 (some (.ref 6)) 12 ⟨boot_heap w.params,#[],boot_drawn,boot_toks,os⟩ (topStub pq)=
  some (⟨hA w.params,#[],boot_drawn,187,os⟩,⟨PySem.W.Fast.tw11892475500146522536 PySem.W.Fast.tw14364793385576792824 cq,cq,⟨0,0,0,0⟩,[topFrame ⟨0,0,0,0⟩]⟩):=by kernel_rfl
theorem pre (w:World) (os:OsState):topGo treeTable pq w 11 (some (.ref 6)) 12 ⟨boot_heap w.params,#[],boot_drawn,boot_toks,os⟩ (topStub pq)=
  some (⟨hA w.params,#[],boot_drawn,187,os⟩,⟨denote treeTable cq,cq,⟨0,0,0,0⟩,[topFrame ⟨0,0,0,0⟩]⟩):=by
 have h:=OA w os
 rw [←PySem.W.Fast.te15667345088766844465,←PySem.W.Fast.te14364793385576792824,←PySem.W.Fast.te11892475500146522536] at h
 exact h
theorem blk (w:World) (os:OsState):segRun treeTable pq w 11 (some (.ref 6)) 1 1 ⟨hA w.params,#[],boot_drawn,187,os⟩ (blockOf bq bb cq ⟨0,0,0,0⟩ [topFrame ⟨0,0,0,0⟩])=some (.next,(S0 w os).abs,cq,⟨0,0,0,0⟩):=by kernel_rfl
noncomputable def hZ (P:Params):Heap:=absHeap (tr (ob35 P)) 1172 {}
theorem fin (w:World) (os:OsState):topRun treeTable pq w 11 (some (.ref 6)) 2 (S35 w os).abs ⟨doneF .next,cq,⟨864,0,875,15⟩,[topFrame ⟨0,0,0,0⟩]⟩=some ⟨hZ w.params,#[],boot_drawn,1972,os⟩:=by kernel_rfl
theorem LW:bq=sl 0 5++(sl 5 1++(sl 6 1++(sl 7 1++(sl 8 1++(sl 9 1++(sl 10 1++(sl 11 1++(sl 12 1++(sl 13 1++(sl 14 1++(sl 15 1++(sl 16 1++(sl 17 1++(sl 18 1++(sl 19 1++(sl 20 1++(sl 21 5++(sl 26 1++(sl 27 1++(sl 28 10++(sl 38 1++(sl 39 7++(sl 46 1++(sl 47 1++(sl 48 6++(sl 54 1++(sl 55 1++(sl 56 2++(sl 58 1++(sl 59 11++(sl 70 1++(sl 71 2++(sl 73 1++(sl 74 12++[])))))))))))))))))))))))))))))))))):=by kernel_rfl
theorem chain (w:World) (os:OsState):topRun treeTable pq w 11 (some (.ref 6)) (314+(214+(291+(296+(291+(293+(295+(297+(295+(295+(293+(291+(292+(297+(293+(293+(293+(379+(229+(214+(368+(41+(195+(386+(637+(75+(252+(176+(29+(731+(231+(429+(19+(732+(351+2))))))))))))))))))))))))))))))))))) (S0 w os).abs (restOf bq bb cq ⟨0,0,0,0⟩ [topFrame ⟨0,0,0,0⟩])=some ⟨hZ w.params,#[],boot_drawn,1972,os⟩:=by
 show topRun treeTable pq w 11 (some (.ref 6)) (314+(214+(291+(296+(291+(293+(295+(297+(295+(295+(293+(291+(292+(297+(293+(293+(293+(379+(229+(214+(368+(41+(195+(386+(637+(75+(252+(176+(29+(731+(231+(429+(19+(732+(351+2))))))))))))))))))))))))))))))))))) (S0 w os).abs (restOf bq bb (.body bq bb) ⟨0,0,0,0⟩ [topFrame ⟨0,0,0,0⟩])=_
 have h:=fin w os
 have h:=piece_nil (env:=bb) (q:=⟨0,0,0,0⟩) h
 have h:=bu (b:=bq) (os:=os) (p34 w os bq) h
 have h:=bu (b:=bq) (os:=os) (p33 w os bq) h
 have h:=bu (b:=bq) (os:=os) (p32 w os bq) h
 have h:=bu (b:=bq) (os:=os) (p31 w os bq) h
 have h:=bu (b:=bq) (os:=os) (p30 w os bq) h
 have h:=bu (b:=bq) (os:=os) (p29 w os bq) h
 have h:=bu (b:=bq) (os:=os) (p28 w os bq) h
 have h:=bu (b:=bq) (os:=os) (p27 w os bq) h
 have h:=bu (b:=bq) (os:=os) (p26 w os bq) h
 have h:=bu (b:=bq) (os:=os) (p25 w os bq) h
 have h:=bu (b:=bq) (os:=os) (p24 w os bq) h
 have h:=bu (b:=bq) (os:=os) (p23 w os bq) h
 have h:=bu (b:=bq) (os:=os) (p22 w os bq) h
 have h:=bu (b:=bq) (os:=os) (p21 w os bq) h
 have h:=bu (b:=bq) (os:=os) (p20 w os bq) h
 have h:=bu (b:=bq) (os:=os) (p19 w os bq) h
 have h:=bu (b:=bq) (os:=os) (p18 w os bq) h
 have h:=bu (b:=bq) (os:=os) (p17 w os bq) h
 have h:=bu (b:=bq) (os:=os) (p16 w os bq) h
 have h:=bu (b:=bq) (os:=os) (p15 w os bq) h
 have h:=bu (b:=bq) (os:=os) (p14 w os bq) h
 have h:=bu (b:=bq) (os:=os) (p13 w os bq) h
 have h:=bu (b:=bq) (os:=os) (p12 w os bq) h
 have h:=bu (b:=bq) (os:=os) (p11 w os bq) h
 have h:=bu (b:=bq) (os:=os) (p10 w os bq) h
 have h:=bu (b:=bq) (os:=os) (p9 w os bq) h
 have h:=bu (b:=bq) (os:=os) (p8 w os bq) h
 have h:=bu (b:=bq) (os:=os) (p7 w os bq) h
 have h:=bu (b:=bq) (os:=os) (p6 w os bq) h
 have h:=bu (b:=bq) (os:=os) (p5 w os bq) h
 have h:=bu (b:=bq) (os:=os) (p4 w os bq) h
 have h:=bu (b:=bq) (os:=os) (p3 w os bq) h
 have h:=bu (b:=bq) (os:=os) (p2 w os bq) h
 have h:=bu (b:=bq) (os:=os) (p1 w os bq) h
 have h:=bu (b:=bq) (os:=os) (p0 w os bq) h
 rw [←LW] at h
 exact h
theorem run (w:World) (os:OsState):topRun treeTable pq w 11 (some (.ref 6)) (12+(1+(314+(214+(291+(296+(291+(293+(295+(297+(295+(295+(293+(291+(292+(297+(293+(293+(293+(379+(229+(214+(368+(41+(195+(386+(637+(75+(252+(176+(29+(731+(231+(429+(19+(732+(351+2))))))))))))))))))))))))))))))))))))) ⟨boot_heap w.params,#[],boot_drawn,boot_toks,os⟩ (topStub pq)=some ⟨hZ w.params,#[],boot_drawn,1972,os⟩:=
 go_top (pre w os) (piece_block (env:=bb) (blk w os) (chain w os))
noncomputable def loo:List Str:=[z [95,119,97,108,108],z [114,111,119,95,111,102],z [114,111,119,115,95,111,102],z [78,111,100,101],z [69,120,112,114],z [76,105,116,101,114,97,108],z [78,97,109,101],z [86,97,114,105,97,98,108,101],z [85,110,97,114,121],z [66,105,110,97,114,121],z [66,101,116,119,101,101,110],z [73,110,76,105,115,116],z [73,110,83,101,108,101,99,116],z [69,120,105,115,116,115],z [83,99,97,108,97,114],z [67,97,115,101],z [67,97,108,108],z [67,97,115,116],z [67,111,108,108,97,116,101],z [73,115,78,117,108,108],z [77,97,116,99,104],z [114,101,97,100,95,116,121,112,101],z [114,101,97,100,95,115,105,122,101],z [80,97,103,101,98,97,115,101,69,114,114,111,114],z [83,113,108,69,114,114,111,114],z [80,97,114,115,101,69,114,114,111,114],z [81,85,79,84,69,83],z [66,76,65,78,75,83],z [70,73,71,85,82,69,83],z [72,69,88,95,70,73,71,85,82,69,83],z [76,69,84,84,69,82,83],z [78,65,77,69,95,83,73,71,78,83],z [83,73,71,78,83,95,79,70,95,84,87,79],z [83,73,71,78,83,95,79,70,95,79,78,69],z [76,73,75,69,95,83,73,71,78,83],z [77,79,83,84,95,86,65,82,73,65,66,76,69],z [71,82,69,65,84,69,83,84],z [82,69,83,69,82,86,69,68],z [74,79,73,78,73,78,71],z [102,111,108,100,101,100],z [98,101,103,105,110,115,95,110,97,109,101],z [103,111,101,115,95,111,110,95,110,97,109,101],z [87,111,114,100],z [83,99,97,110,110,101,114],z [114,101,97,100,95,119,111,114,100,115],z [76,79,87,69,83,84],z [78,79,84,95,76,69,86,69,76],z [69,81,85,65,76,95,76,69,86,69,76],z [76,69,83,83,95,76,69,86,69,76],z [83,73,71,78,95,76,69,86,69,76,83],z [75,69,89,95,76,69,86,69,76,83],z [66,69,72,73,78,68,95,78,79,84],z [65,72,69,65,68,95,83,73,71,78,83],z [69,120,112,114,101,115,115,105,111,110,82,101,97,100,101,114],z [81,85,79,84,69,68,95,65,76,87,65,89,83],z [105,115,95,98,97,114,101],z [119,114,105,116,101,95,110,97,109,101],z [119,114,105,116,101,95,118,97,108,117,101],z [119,114,105,116,101,95,116,121,112,101],z [67,79,76,76,65,84,69,95,76,69,86,69,76],z [65,72,69,65,68,95,76,69,86,69,76],z [65,76,79,78,69,95,76,69,86,69,76],z [108,101,118,101,108,95,111,102],z [69,120,112,114,101,115,115,105,111,110,87,114,105,116,101,114],z [77,79,83,84,95,68,69,80,84,72],z [87,111,114,100,83,116,114,101,97,109],z [95,108,97,119,95,112,111,111,108],z [95,108,97,119,95,116,97,107,101],z [95,108,97,119,95,111,110,101],z [95,108,97,119,95,108,101,97,102],z [95,108,97,119,95,101,120,112,114],z [95,108,97,119,95,110,97,109,101],z [95,108,97,119,95,118,97,108,117,101],z [95,108,97,119,95,116,101,120,116],z [95,108,97,119,95,116,101,115,116],z [95,108,97,119,95,114,101,97,100]]
noncomputable def qv:Program:={pq with main:={pq.main with body:=[st 85]}}
end Mine
namespace Mine
open PySem PySem.W PySem.Calls PyProof.Rows
noncomputable abbrev Yf (s:Shared):Heap×Nat:=(s.heap,s.toks)
noncomputable abbrev Ya (w:World):Heap×Nat:=(hZ w.params,1972)
noncomputable abbrev Xt (s:Shared):Bool:=recOk [] s
theorem LY:opening pq=plainProg pq.main.scope.names:=by kernel_rfl
theorem LZ (s:Shared):fenceModules? pq s=some s:=by kernel_rfl
theorem L3 (w:World):((boot_heap w.params).isNs mainGlobals && (#[]:Array GenState).size==0,(boot_heap w.params).objs.size,(boot_heap w.params).nsMap mainGlobals (Str.ofString "__annotations__"))=(true,11,some (.ref 6)):=by kernel_rfl
theorem lk1 (w:World) (os:OsState):(staticsOk (importedModules pq.main.body) (boot_heap w.params) (hZ w.params) && namesBound pq (hZ w.params) && gensDone ⟨hZ w.params,#[],boot_drawn,1972,os⟩ && laidKept (boot_heap w.params) (hZ w.params))=true:=by kernel_rfl
theorem OB (w:World) (os:OsState):PySem.W.Fast.tw4187177175401517315 qv loo (importedModules pq.main.body) Xt true ⟨hZ w.params,#[],boot_drawn,1972,os⟩=openGood qv loo:=by kernel_rfl
end Mine
namespace Mine
open PySem PySem.W PySem.Calls PyProof.Rows
theorem lk2 (w:World) (os:OsState):openSeen qv loo (importedModules pq.main.body) Xt true ⟨hZ w.params,#[],boot_drawn,1972,os⟩=openGood qv loo:=by
 rw [PySem.W.Fast.te4187177175401517315]; exact OB w os
theorem L4:LeftO pq qv loo Xt Yf Ya 20000:=
 LeftO.of_pieces (boot_open LY (by kernel_rfl) LZ) L3 run (by kernel_rfl) fun w=>funext fun os=>by rw [lk1 w os,lk2 w os]
theorem left:LeftO PySem.Challenge.pw_nt0142_01 qv loo Xt Yf Ya 20000:=by rw [mX]; exact L4
noncomputable def lawD:DefRec:=⟨z [108,97,119],fA (st 85),fB (st 85),fS (st 85),match st 85 with| .FunctionDef _ _ _ _ _ _ _ _ _ p=>p|_=>⟨0,0,0,0⟩⟩
theorem OC:defOf qv (PySem.Str.ofString "law")=some (lawD,[]):=by kernel_rfl
theorem hpQ:pq.theDef (PySem.Str.ofString "law")=some (lawD.params,lawD.body,lawD.scope):=by kernel_rfl
theorem hp:PySem.Challenge.pw_nt0142_01.theDef (PySem.Str.ofString "law")=some (lawD.params,lawD.body,lawD.scope):=by rw [mX]; exact hpQ
theorem hk:kwWritten? lawD.params.kwonlyargs lawD.params.kw_defaults=some []:=by kernel_rfl
theorem okQ:(chainsOk qv)=true:=by kernel_rfl
end Mine
namespace Mine
open PySem PySem.W PySem.Calls PyProof.Rows
abbrev ro:OpenRow:=PySem.Challenge.rw_nt0142_01.row
theorem promised:ro.toRowW.promised:=by w_witness2
theorem Gx:(frees ro.toRowW && ro.within.isEmpty)=true:=by kernel_rfl
theorem L5:opensWell PySem.Challenge.pw_nt0142_01=true:=by rw [mX]; kernel_rfl
theorem bare:ro.prog.bare:=⟨rfl,rfl,rfl,rfl,rfl,by show PySem.Challenge.pw_nt0142_01.tablesWhole=true; rw [mX]; kernel_rfl⟩
noncomputable def rq:OpenLaw:={prog:=pq,name:=PySem.Str.ofString "law",about:=[z [69,120,112,114,101,115,115,105,111,110,82,101,97,100,101,114],z [101,120,112,114,101,115,115,105,111,110]],foot:=11,most:=some 63,bound:=none,writes:=false}
theorem L6:PySem.Challenge.rw_nt0142_01=rq:=by
 unfold PySem.Challenge.rw_nt0142_01 rq
 rw [mX]
 kernel_rfl
noncomputable abbrev rr:OpenRow:=PySem.W.Fast.tw2368527892694137696 rq
theorem sq2:PySem.W.Fast.tw8377067652309620493 rr.prog=true:=by kernel_rfl
theorem sq4:PySem.W.Fast.tw8326940854005059898 {strict:= !PySem.W.R.allR (PySem.W.Fast.tw5923862056798008813 rr.prog.main.body) (PySem.W.Fast.tw3471404346716756564 PySem.W.Fast.tw17691160309236699985),foot:=none,bare:=PySem.W.R.filterR (PySem.W.Fast.tw13343964577679436407 rr.prog rr.prog.main.body) [{cps:={toList:=[118,97,114,115]}},{cps:={toList:=[100,105,114]}},{cps:={toList:=[108,111,99,97,108,115]}}]} rr.prog.main.body=true:=by kernel_rfl
theorem sq5:PySem.W.Fast.tw17119622794617984870 rr.prog rr.prog.main.body (fun x n=>PySem.W.Fast.tw17868728402115742887 n)=true:=by kernel_rfl
theorem sqE:PySem.W.Fast.tw12908688711261696721 rr.prog=(PySem.W.Fast.tw11788848310118352699 rr.prog.main && ((PySem.W.Fast.tw9807087744658564304 rr.prog.main.body).isEmpty||PySem.W.Fast.tw12862048085361865435 (PySem.W.Fast.tw9807087744658564304 rr.prog.main.body) rr.prog.main.body) && PySem.W.Fast.tw8377067652309620493 rr.prog && PySem.W.R.allR (PySem.W.Fast.tw18344453789297297638 rr.prog) (fun n=> !PySem.W.Fast.tw3471404346716756564 PySem.W.Fast.tw14412699480532031325 n) && PySem.W.Fast.tw8326940854005059898 {strict:= !PySem.W.R.allR (PySem.W.Fast.tw5923862056798008813 rr.prog.main.body) (PySem.W.Fast.tw3471404346716756564 PySem.W.Fast.tw17691160309236699985),foot:=none,bare:=PySem.W.R.filterR (PySem.W.Fast.tw13343964577679436407 rr.prog rr.prog.main.body) [{cps:={toList:=[118,97,114,115]}},{cps:={toList:=[100,105,114]}},{cps:={toList:=[108,111,99,97,108,115]}}]} rr.prog.main.body && PySem.W.Fast.tw17119622794617984870 rr.prog rr.prog.main.body (fun x n=>PySem.W.Fast.tw17868728402115742887 n)):=by kernel_rfl
theorem sq0:PySem.W.Fast.tw12908688711261696721 rr.prog=true:=by
 rw [sqE,sq2,sq4,sq5]; kernel_rfl
theorem sqP:PySem.W.Fast.tw2436336058641802641 rr=true:=by
 delta PySem.W.Fast.tw2436336058641802641
 rw [sq0]; kernel_rfl
theorem sqW:PySem.W.Fast.tw17960256430627541270 rr=true:=by
 delta PySem.W.Fast.tw17960256430627541270
 rw [sqP]; kernel_rfl
theorem L7:PySem.W.Fast.tw9446332074065402090 rq=true:=by
 delta PySem.W.Fast.tw9446332074065402090
 rw [sqW]; kernel_rfl
theorem AI:PySem.Challenge.rw_nt0142_01.wellSaid=true:=by
 rw [L6,PySem.W.Fast.te9446332074065402090]; exact L7
theorem holds (walk:WalkX qv loo (fun _ _=>True) Yf Ya ro.toRowW lawD [] (fun f vs=>PySem.call f vs)):PySem.Challenge.rw_nt0142_01.Holds:=by
 refine holds_law AI fun AI=> ?_
 refine holds_openX (r:=ro) left (fun _ _=>trivial) (fun _ _ _ _ _=>trivial) OC hp hk (fun s e=>recFacts_of e) rfl AI ?_ bare promised walk
 show (chainsOk qv && opensWell PySem.Challenge.pw_nt0142_01 && (frees ro.toRowW && ro.within.isEmpty))=true
 rw [okQ,L5,Gx]; rfl
end Mine
namespace MineS
open PySem PySem.W PySem.Calls PyProof.Rows
theorem bG {p0:Prop} {p1:Prop} {G:Prop} (h:p0∧p1) (k:p0→p1→G):G:=k h.1 h.2
theorem Gy {p0:Prop} {p1:Prop} {p2:Prop} {G:Prop} (h:p0∧p1∧p2) (k:p0→p1→p2→G):G:=k h.1 h.2.1 h.2.2
theorem Gz {p0:Prop} {p1:Prop} {p2:Prop} {p3:Prop} {G:Prop} (h:p0∧p1∧p2∧p3) (k:p0→p1→p2→p3→G):G:=k h.1 h.2.1 h.2.2.1 h.2.2.2
theorem GA {p0:Prop} {p1:Prop} {p2:Prop} {p3:Prop} {p4:Prop} {p5:Prop} {G:Prop} (h:p0∧p1∧p2∧p3∧p4∧p5) (k:p0→p1→p2→p3→p4→p5→G):G:=k h.1 h.2.1 h.2.2.1 h.2.2.2.1 h.2.2.2.2.1 h.2.2.2.2.2
theorem bI {t0:Sort _} {p0:t0→Prop} {G:Prop} (h: ∃a0,p0 a0) (k: ∀a0,p0 a0→G):G:=h.elim fun a0 h=>k a0 h
theorem aA {t0:Sort _} {p0:t0→Prop} {p1:t0→Prop} {G:Prop} (h: ∃a0,p0 a0∧p1 a0) (k: ∀a0,p0 a0→p1 a0→G):G:=h.elim fun a0 h=>k a0 h.1 h.2
theorem w8 {t0:Sort _} {p0:t0→Prop} {p1:t0→Prop} {p2:t0→Prop} {G:Prop} (h: ∃a0,p0 a0∧p1 a0∧p2 a0) (k: ∀a0,p0 a0→p1 a0→p2 a0→G):G:=h.elim fun a0 h=>k a0 h.1 h.2.1 h.2.2
theorem OD {t0:Sort _} {p0:t0→Prop} {p1:t0→Prop} {p2:t0→Prop} {p3:t0→Prop} {G:Prop} (h: ∃a0,p0 a0∧p1 a0∧p2 a0∧p3 a0) (k: ∀a0,p0 a0→p1 a0→p2 a0→p3 a0→G):G:=h.elim fun a0 h=>k a0 h.1 h.2.1 h.2.2.1 h.2.2.2
theorem OE {t0:Sort _} {t1:Sort _} {p0:t0→t1→Prop} {G:Prop} (h: ∃a0,∃a1,p0 a0 a1) (k: ∀a0 a1,p0 a0 a1→G):G:=h.elim fun a0 h=>h.elim fun a1 h=>k a0 a1 h
theorem cV {t0:Sort _} {t1:Sort _} {p0:t0→t1→Prop} {p1:t0→t1→Prop} {G:Prop} (h: ∃a0,∃a1,p0 a0 a1∧p1 a0 a1) (k: ∀a0 a1,p0 a0 a1→p1 a0 a1→G):G:=h.elim fun a0 h=>h.elim fun a1 h=>k a0 a1 h.1 h.2
theorem bw {t0:Sort _} {t1:Sort _} {p0:t0→t1→Prop} {p1:t0→t1→Prop} {p2:t0→t1→Prop} {G:Prop} (h: ∃a0,∃a1,p0 a0 a1∧p1 a0 a1∧p2 a0 a1) (k: ∀a0 a1,p0 a0 a1→p1 a0 a1→p2 a0 a1→G):G:=h.elim fun a0 h=>h.elim fun a1 h=>k a0 a1 h.1 h.2.1 h.2.2
theorem OF {t0:Sort _} {t1:Sort _} {p0:t0→t1→Prop} {p1:t0→t1→Prop} {p2:t0→t1→Prop} {p3:t0→t1→Prop} {G:Prop} (h: ∃a0,∃a1,p0 a0 a1∧p1 a0 a1∧p2 a0 a1∧p3 a0 a1) (k: ∀a0 a1,p0 a0 a1→p1 a0 a1→p2 a0 a1→p3 a0 a1→G):G:=h.elim fun a0 h=>h.elim fun a1 h=>k a0 a1 h.1 h.2.1 h.2.2.1 h.2.2.2
theorem AJ {t0:Sort _} {t1:Sort _} {t2:Sort _} {p0:t0→t1→t2→Prop} {p1:t0→t1→t2→Prop} {G:Prop} (h: ∃a0,∃a1,∃a2,p0 a0 a1 a2∧p1 a0 a1 a2) (k: ∀a0 a1 a2,p0 a0 a1 a2→p1 a0 a1 a2→G):G:=h.elim fun a0 h=>h.elim fun a1 h=>h.elim fun a2 h=>k a0 a1 a2 h.1 h.2
theorem dN {t0:Sort _} {t1:Sort _} {t2:Sort _} {p0:t0→t1→t2→Prop} {p1:t0→t1→t2→Prop} {p2:t0→t1→t2→Prop} {G:Prop} (h: ∃a0,∃a1,∃a2,p0 a0 a1 a2∧p1 a0 a1 a2∧p2 a0 a1 a2) (k: ∀a0 a1 a2,p0 a0 a1 a2→p1 a0 a1 a2→p2 a0 a1 a2→G):G:=h.elim fun a0 h=>h.elim fun a1 h=>h.elim fun a2 h=>k a0 a1 a2 h.1 h.2.1 h.2.2
theorem gD {t0:Sort _} {t1:Sort _} {t2:Sort _} {p0:t0→t1→t2→Prop} {p1:t0→t1→t2→Prop} {p2:t0→t1→t2→Prop} {p3:t0→t1→t2→Prop} {G:Prop} (h: ∃a0,∃a1,∃a2,p0 a0 a1 a2∧p1 a0 a1 a2∧p2 a0 a1 a2∧p3 a0 a1 a2) (k: ∀a0 a1 a2,p0 a0 a1 a2→p1 a0 a1 a2→p2 a0 a1 a2→p3 a0 a1 a2→G):G:=h.elim fun a0 h=>h.elim fun a1 h=>h.elim fun a2 h=>k a0 a1 a2 h.1 h.2.1 h.2.2.1 h.2.2.2
theorem AK {t0:Sort _} {t1:Sort _} {t2:Sort _} {p0:t0→t1→t2→Prop} {p1:t0→t1→t2→Prop} {p2:t0→t1→t2→Prop} {p3:t0→t1→t2→Prop} {p4:t0→t1→t2→Prop} {G:Prop} (h: ∃a0,∃a1,∃a2,p0 a0 a1 a2∧p1 a0 a1 a2∧p2 a0 a1 a2∧p3 a0 a1 a2∧p4 a0 a1 a2) (k: ∀a0 a1 a2,p0 a0 a1 a2→p1 a0 a1 a2→p2 a0 a1 a2→p3 a0 a1 a2→p4 a0 a1 a2→G):G:=h.elim fun a0 h=>h.elim fun a1 h=>h.elim fun a2 h=>k a0 a1 a2 h.1 h.2.1 h.2.2.1 h.2.2.2.1 h.2.2.2.2
theorem AL {t0:Sort _} {t1:Sort _} {t2:Sort _} {t3:Sort _} {p0:t0→t1→t2→t3→Prop} {p1:t0→t1→t2→t3→Prop} {p2:t0→t1→t2→t3→Prop} {p3:t0→t1→t2→t3→Prop} {p4:t0→t1→t2→t3→Prop} {G:Prop} (h: ∃a0,∃a1,∃a2,∃a3,p0 a0 a1 a2 a3∧p1 a0 a1 a2 a3∧p2 a0 a1 a2 a3∧p3 a0 a1 a2 a3∧p4 a0 a1 a2 a3) (k: ∀a0 a1 a2 a3,p0 a0 a1 a2 a3→p1 a0 a1 a2 a3→p2 a0 a1 a2 a3→p3 a0 a1 a2 a3→p4 a0 a1 a2 a3→G):G:=h.elim fun a0 h=>h.elim fun a1 h=>h.elim fun a2 h=>h.elim fun a3 h=>k a0 a1 a2 a3 h.1 h.2.1 h.2.2.1 h.2.2.2.1 h.2.2.2.2
theorem OG {t0:Sort _} {t1:Sort _} {t2:Sort _} {t3:Sort _} {p0:t0→t1→t2→t3→Prop} {p1:t0→t1→t2→t3→Prop} {p2:t0→t1→t2→t3→Prop} {p3:t0→t1→t2→t3→Prop} {p4:t0→t1→t2→t3→Prop} {p5:t0→t1→t2→t3→Prop} {p6:t0→t1→t2→t3→Prop} {G:Prop} (h: ∃a0,∃a1,∃a2,∃a3,p0 a0 a1 a2 a3∧p1 a0 a1 a2 a3∧p2 a0 a1 a2 a3∧p3 a0 a1 a2 a3∧p4 a0 a1 a2 a3∧p5 a0 a1 a2 a3∧p6 a0 a1 a2 a3) (k: ∀a0 a1 a2 a3,p0 a0 a1 a2 a3→p1 a0 a1 a2 a3→p2 a0 a1 a2 a3→p3 a0 a1 a2 a3→p4 a0 a1 a2 a3→p5 a0 a1 a2 a3→p6 a0 a1 a2 a3→G):G:=h.elim fun a0 h=>h.elim fun a1 h=>h.elim fun a2 h=>h.elim fun a3 h=>k a0 a1 a2 a3 h.1 h.2.1 h.2.2.1 h.2.2.2.1 h.2.2.2.2.1 h.2.2.2.2.2.1 h.2.2.2.2.2.2
theorem OH {t0:Sort _} {t1:Sort _} {t2:Sort _} {t3:Sort _} {t4:Sort _} {p0:t0→t1→t2→t3→t4→Prop} {p1:t0→t1→t2→t3→t4→Prop} {p2:t0→t1→t2→t3→t4→Prop} {p3:t0→t1→t2→t3→t4→Prop} {p4:t0→t1→t2→t3→t4→Prop} {G:Prop} (h: ∃a0,∃a1,∃a2,∃a3,∃a4,p0 a0 a1 a2 a3 a4∧p1 a0 a1 a2 a3 a4∧p2 a0 a1 a2 a3 a4∧p3 a0 a1 a2 a3 a4∧p4 a0 a1 a2 a3 a4) (k: ∀a0 a1 a2 a3 a4,p0 a0 a1 a2 a3 a4→p1 a0 a1 a2 a3 a4→p2 a0 a1 a2 a3 a4→p3 a0 a1 a2 a3 a4→p4 a0 a1 a2 a3 a4→G):G:=h.elim fun a0 h=>h.elim fun a1 h=>h.elim fun a2 h=>h.elim fun a3 h=>h.elim fun a4 h=>k a0 a1 a2 a3 a4 h.1 h.2.1 h.2.2.1 h.2.2.2.1 h.2.2.2.2
set_option genCtorIdx true in
inductive Fv where
 |none
 |bool (b:Bool)
 |int (i:Int)
 |str (cs:List Nat)
 |bytes (b:Array UInt8)
 |tup (l:List Fv)
 |list (l:List Fv)
 |obj (c:Addr) (fs:List (Str×Fv))
 |glob (a:Addr)
 |ty (n:String)
set_option genCtorIdx true in
inductive V where
 |f (x:Fv)
 |r (i:Nat)
set_option genCtorIdx true in
inductive MO where
 |list (l:List Fv)
 |inst (c:Addr) (fs:List (Str×V))
 |dead
noncomputable abbrev Fz:=Addr→Option Obj
noncomputable abbrev Rho:=List (Addr×Addr)
noncomputable def az:List Nat→List Nat→Bool
 |[],[]=>true
 |a::x,b::y=>match Nat.beq a b with
  |true=>az x y
  |false=>false
 |_,_=>false
theorem bj: ∀a b:List Nat,az a b=true↔a=b
 |[],[]=>by simp [az]
 |[],_::_=>by simp [az]
 |_::_,[]=>by simp [az]
 |a::x,b::y=>by
  unfold az
  split
  ·rename_i h; rw [bj x y,Nat.eq_of_beq_eq_true h]; simp
  ·rename_i h; have:=Nat.ne_of_beq_eq_false h; simp [this]
noncomputable def sq (a b:Str):Bool:=az a.cps.toList b.cps.toList
theorem bU (a b:Str):sq a b=true↔a=b:=by
 unfold sq; rw [bj]
 constructor
 ·intro h; obtain ⟨a⟩:=a; obtain ⟨b⟩:=b; simp only at h; rw [Array.toList_inj.mp h]
 ·rintro rfl; rfl
theorem gU (a:Str):sq a a=true:=(bU a a).mpr rfl
noncomputable def look {α:Type} (x:Str):List (Str×α)→Option α
 |[]=>none
 |(y,v)::r=>match sq x y with
  |true=>some v
  |false=>look x r
noncomputable def put {α:Type} (x:Str) (v:α):List (Str×α)→List (Str×α)
 |[]=>[(x,v)]
 |(y,u)::r=>match sq x y with
  |true=>(y,v)::r
  |false=>(y,u)::put x v r
theorem noS {α:Type} {x:α} {p:Prop} (h:(none:Option α)=some x):p:=nomatch h
theorem eO {α:Type} {x y:Str} {v:α} {r:List (Str×α)} (h:sq x y=true):look x ((y,v)::r)=some v:=by simp only [look,h]
theorem ej {α:Type} {x y:Str} {v:α} {r:List (Str×α)} (h:sq x y=false):look x ((y,v)::r)=look x r:=by simp only [look,h]
theorem fP {α:Type} {x y:Str} {v u:α} {r:List (Str×α)} {p:Prop} (e:look x ((y,v)::r)=some u) (h1:x=y→v=u→p) (h2:look x r=some u→p):p:=by
 cases q:sq x y with
 |true=>exact h1 ((bU _ _).mp q) (Option.some.inj ((eO q).symm.trans e))
 |false=>exact h2 ((ej q).symm.trans e)
theorem L8 {α:Type} {x y:Str} {v u:α} {r:List (Str×α)} (h:sq x y=true):put x v ((y,u)::r)=(y,v)::r:=by simp only [put,h]
theorem L9 {α:Type} {x y:Str} {v u:α} {r:List (Str×α)} (h:sq x y=false):put x v ((y,u)::r)=(y,u)::put x v r:=by simp only [put,h]
theorem CJ {x y:Str} (h:sq x y=false):x≠y:=fun e=>by rw [e,gU] at h; exact Bool.noConfusion h
theorem pf {α:Type} (x y:Str) (v:α) (r:List (Str×α)) (o:Option α) (h:sq y x=false→look y r=o):look y ((x,v)::r)=if y=x then some v else o:=by
 cases q:sq y x with
 |true=>rw [eO q,if_pos ((bU _ _).mp q)]
 |false=>rw [ej q,if_neg (CJ q),h q]
theorem lJ {α:Type} (x y:Str) (v:α) (l:List (Str×α)):look y (put x v l)=if y=x then some v else look y l:=by
 induction l with
 |nil=>exact pf x y v [] none fun _=>rfl
 |cons p r ih=>
  obtain ⟨z,u⟩:=p
  cases q:sq x z with
  |true=>
   have e:=(bU _ _).mp q
   subst e
   rw [L8 q]
   exact pf x y v r _ fun h=>(ej h).symm
  |false=>
   rw [L9 q]
   cases q2:sq y z with
   |true=>
    rw [eO q2,eO q2,if_neg]
    rw [(bU _ _).mp q2]
    exact fun e=>CJ q e.symm
   |false=>rw [ej q2,ej q2,ih]
noncomputable def n8 (xs:Array Value) (n:Nat):Obj:={cls:= .type "tuple",dict:=none,data:= .seq xs n,slots:= #[]}
noncomputable def gE (xs:Array Value) (n:Nat):Obj:={cls:= .type "list",dict:=none,data:= .seq xs n,slots:= #[]}
noncomputable def NsO (o:Obj) (m:Str→Option Value):Prop:= ∃es n,o.data= .dict es n∧StrKeys es∧ ∀name,nsFind es name=m name
mutual
inductive aG (F:Fz):Fv→Value→Prop
 |none:aG F .none .none
 |bool (b:Bool):aG F (.bool b) (.bool b)
 |int (i:Int) (t:Tok):aG F (.int i) (.int i t)
 |str (cs:List Nat) (t:Tok):aG F (.str cs) (.str ⟨cs.toArray⟩ t)
 |bytes (b:Array UInt8) (t:Tok):aG F (.bytes b) (.bytes b t)
 |tup {l:List Fv} {a:Addr} {xs:List Value} {n:Nat}:F a=some (n8 xs.toArray n)→aJ F l xs→aG F (.tup l) (.ref a)
 |list {l:List Fv} {a:Addr} {o:Obj} {xs:List Value} {n:Nat}:F a=some o→o.cls= .type "list"→o.data= .seq xs.toArray n→aJ F l xs→aG F (.list l) (.ref a)
 |obj {c:Addr} {fs:List (Str×Fv)} {x dx:Addr} {od:Obj} {vs:List (Str×Value)}:F x=some (instObj c dx)→F dx=some od→NsO od (fun n=>look n vs)→cS F fs vs→aG F (.obj c fs) (.ref x)
 |glob (a:Addr):aG F (.glob a) (.ref a)
 |ty (n:String):aG F (.ty n) (.type n)
inductive aJ (F:Fz):List Fv→List Value→Prop
 |nil:aJ F [] []
 |cons {f:Fv} {v:Value} {fs:List Fv} {vs:List Value}:aG F f v→aJ F fs vs→aJ F (f::fs) (v::vs)
inductive cS (F:Fz):List (Str×Fv)→List (Str×Value)→Prop
 |nil:cS F [] []
 |cons {x:Str} {f:Fv} {v:Value} {fs:List (Str×Fv)} {vs:List (Str×Value)}:aG F f v→cS F fs vs→cS F ((x,f)::fs) ((x,v)::vs)
end
noncomputable def FLe (F G:Fz):Prop:= ∀a o,F a=some o→G a=some o
theorem FLe.refl (F:Fz):FLe F F:=fun _ _ h=>h
theorem FLe.trans {F G H:Fz} (x:FLe F G) (y:FLe G H):FLe F H:=fun a o h=>y a o (x a o h)
theorem aG.mono {F G:Fz} (L:FLe F G) {f:Fv} {v:Value} (h:aG F f v):aG G f v:=
 aG.rec (motive_1:=fun f v _=>aG G f v) (motive_2:=fun f v _=>aJ G f v) (motive_3:=fun f v _=>cS G f v) .none .bool .int .str .bytes (fun h _ r=> .tup (L _ _ h) r) (fun h c d _ r=> .list (L _ _ h) c d r) (fun h1 h2 h3 _ r=> .obj (L _ _ h1) (L _ _ h2) h3 r) .glob .ty .nil (fun _ _ h r=> .cons h r) .nil (fun _ _ h r=> .cons h r) h
theorem aJ.ind {F:Fz} {P:List Fv→List Value→Prop} (nil:P [] []) (cons: ∀(f:Fv) (v:Value) (fs:List Fv) (vs:List Value),aG F f v→aJ F fs vs→P fs vs→P (f::fs) (v::vs)) {f:List Fv} {v:List Value} (h:aJ F f v):P f v:=
 aJ.rec (motive_1:=fun _ _ _=>True) (motive_2:=fun f v _=>P f v) (motive_3:=fun _ _ _=>True) trivial (fun _=>trivial) (fun _ _=>trivial) (fun _ _=>trivial) (fun _ _=>trivial) (fun _ _ _=>trivial) (fun _ _ _ _ _=>trivial) (fun _ _ _ _ _=>trivial) (fun _=>trivial) (fun _=>trivial) nil (fun h r _ p=>cons _ _ _ _ h r p) trivial (fun _ _ _ _=>trivial) h
theorem cS.ind {F:Fz} {P:List (Str×Fv)→List (Str×Value)→Prop} (nil:P [] []) (cons: ∀(x:Str) (f:Fv) (v:Value) (fs:List (Str×Fv)) (vs:List (Str×Value)),aG F f v→cS F fs vs→P fs vs→P ((x,f)::fs) ((x,v)::vs)) {f:List (Str×Fv)} {v:List (Str×Value)} (h:cS F f v):P f v:=
 cS.rec (motive_1:=fun _ _ _=>True) (motive_2:=fun _ _ _=>True) (motive_3:=fun f v _=>P f v) trivial (fun _=>trivial) (fun _ _=>trivial) (fun _ _=>trivial) (fun _ _=>trivial) (fun _ _ _=>trivial) (fun _ _ _ _ _=>trivial) (fun _ _ _ _ _=>trivial) (fun _=>trivial) (fun _=>trivial) trivial (fun _ _ _ _=>trivial) nil (fun h r _ p=>cons _ _ _ _ _ h r p) h
theorem aJ.mono {F G:Fz} (L:FLe F G) {f:List Fv} {v:List Value} (h:aJ F f v):aJ G f v:=h.ind .nil fun _ _ _ _ h _ r=> .cons (h.mono L) r
theorem cS.mono {F G:Fz} (L:FLe F G) {f:List (Str×Fv)} {v:List (Str×Value)} (h:cS F f v):cS G f v:=h.ind .nil fun _ _ _ _ _ h _ r=> .cons (h.mono L) r
inductive bg (F:Fz) (ρ:Rho):V→Value→Prop
 |f {x:Fv} {v:Value}:aG F x v→bg F ρ (.f x) v
 |r {i:Nat} {a d:Addr}:ρ[i]? =some (a,d)→bg F ρ (.r i) (.ref a)
inductive bS (F:Fz) (ρ:Rho):List (Str×V)→List (Str×Value)→Prop
 |nil:bS F ρ [] []
 |cons {x:Str} {f:V} {v:Value} {fs:List (Str×V)} {vs:List (Str×Value)}:bg F ρ f v→bS F ρ fs vs→bS F ρ ((x,f)::fs) ((x,v)::vs)
inductive bc (F:Fz) (ρ:Rho):List V→List Value→Prop
 |nil:bc F ρ [] []
 |cons {f:V} {v:Value} {fs:List V} {vs:List Value}:bg F ρ f v→bc F ρ fs vs→bc F ρ (f::fs) (v::vs)
noncomputable def RLe (ρ ρ':Rho):Prop:= ∀(i:Nat) (p:Addr×Addr),ρ[i]? =some p→ρ'[i]? =some p
theorem RLe.refl (ρ:Rho):RLe ρ ρ:=fun _ _ h=>h
theorem RLe.trans {a b c:Rho} (x:RLe a b) (y:RLe b c):RLe a c:=fun i p h=>y i p (x i p h)
theorem RLe.app (ρ τ:Rho):RLe ρ (ρ++τ):=fun i p h=>by
 rw [List.getElem?_append_left]; exact h
 exact (List.getElem?_eq_some_iff.mp h).1
theorem bg.mono {F G:Fz} {ρ ρ':Rho} (L:FLe F G) (M:RLe ρ ρ') {f:V} {v:Value} (h:bg F ρ f v):bg G ρ' f v:=by
 cases h with
 |f h=>exact .f (h.mono L)
 |r h=>exact .r (M _ _ h)
theorem bS.mono {F G:Fz} {ρ ρ':Rho} (L:FLe F G) (M:RLe ρ ρ') {f:List (Str×V)} {v:List (Str×Value)} (h:bS F ρ f v):bS G ρ' f v:=by
 induction h with
 |nil=>exact .nil
 |cons h _ ih=>exact .cons (h.mono L M) ih
theorem bc.mono {F G:Fz} {ρ ρ':Rho} (L:FLe F G) (M:RLe ρ ρ') {f:List V} {v:List Value} (h:bc F ρ f v):bc G ρ' f v:=by
 induction h with
 |nil=>exact .nil
 |cons h _ ih=>exact .cons (h.mono L M) ih
theorem bS.get {F:Fz} {ρ:Rho} {fs:List (Str×V)} {vs:List (Str×Value)} (h:bS F ρ fs vs) {x:Str} {v:V} (e:look x fs=some v):
  ∃u,look x vs=some u∧bg F ρ v u:=by
 induction h with
 |nil=>exact noS e
 | @cons y f u fs vs h _ ih=>
  cases q:sq x y with
  |true=>rw [eO q] at e ⊢; exact ⟨_,rfl,Option.some.inj e▸h⟩
  |false=>rw [ej q] at e ⊢; exact ih e
theorem bS.miss {F:Fz} {ρ:Rho} {fs:List (Str×V)} {vs:List (Str×Value)} (h:bS F ρ fs vs) {x:Str} (e:look x fs=none):look x vs=none:=by
 induction h with
 |nil=>rfl
 | @cons y f u fs vs h _ ih=>
  cases q:sq x y with
  |true=>rw [eO q] at e; exact noS e.symm
  |false=>rw [ej q] at e ⊢; exact ih e
theorem cS.get {F:Fz} {fs:List (Str×Fv)} {vs:List (Str×Value)} (h:cS F fs vs) {x:Str} {v:Fv}:look x fs=some v→ ∃u,look x vs=some u∧aG F v u:=by
 refine h.ind (P:=fun fs vs=>look x fs=some v→ ∃u,look x vs=some u∧aG F v u) (fun e=>noS e) fun y f u fs vs h _ ih e=> ?_
 cases q:sq x y with
 |true=>rw [eO q] at e ⊢; exact ⟨_,rfl,Option.some.inj e▸h⟩
 |false=>rw [ej q] at e ⊢; exact ih e
theorem cS.miss {F:Fz} {fs:List (Str×Fv)} {vs:List (Str×Value)} (h:cS F fs vs) {x:Str}:look x fs=none→look x vs=none:=by
 refine h.ind (P:=fun fs vs=>look x fs=none→look x vs=none) (fun _=>rfl) fun y f u fs vs h _ ih e=> ?_
 cases q:sq x y with
 |true=>rw [eO q] at e; exact noS e.symm
 |false=>rw [ej q] at e ⊢; exact ih e
theorem bS.put {F:Fz} {ρ:Rho} {fs:List (Str×V)} {vs:List (Str×Value)} (h:bS F ρ fs vs) {x:Str} {v:V} {u:Value} (e:bg F ρ v u):
  bS F ρ (put x v fs) (put x u vs):=by
 induction h with
 |nil=>exact .cons e .nil
 |cons h r ih=>
  simp only [MineS.put]
  split
  ·exact .cons e r
  ·exact .cons h ih
noncomputable def bd:MO→Addr×Addr→List Addr
 | .list _,p=>[p.1]
 | .inst _ _,p=>[p.1,p.2]
 | .dead,_=>[]
noncomputable def bC (σ:List MO) (ρ:Rho) (a:Addr):Prop:= ∃(i:Nat) (m:MO) (p:Addr×Addr),σ[i]? =some m∧ρ[i]? =some p∧a∈bd m p
inductive cQ (h:Heap) (F:Fz) (ρ:Rho):MO→Addr×Addr→Prop
 |list {l:List Fv} {a d:Addr} {xs:List Value} {n:Nat}:h.get? a=some (gE xs.toArray n)→aJ F l xs→cQ h F ρ (.list l) (a,d)
 |inst {c:Addr} {fs:List (Str×V)} {x dx:Addr} {vs:List (Str×Value)}:h.get? x=some (instObj c dx)→h.Ns1 dx (fun n=>look n vs)→bS F ρ fs vs→cQ h F ρ (.inst c fs) (x,dx)
 |dead {p:Addr×Addr}:cQ h F ρ .dead p
theorem cQ.mono {h h':Heap} {F G:Fz} {ρ ρ':Rho} (L:FLe F G) (M:RLe ρ ρ') {m:MO} {p:Addr×Addr} (r:cQ h F ρ m p) (hh: ∀a∈bd m p,∀o,h.get? a=some o→h'.get? a=some o):cQ h' G ρ' m p:=by
 cases r with
 |list h1 h2=>exact .list (hh _ (by simp [bd]) _ h1) (h2.mono L)
 |inst h1 h2 h3=>
  refine .inst (hh _ (by simp [bd]) _ h1) ?_ (h3.mono L M)
  refine AJ h2 fun o es ep ho r=> ?_
  exact ⟨o,es,ep,hh _ (by simp [bd]) _ ho,r⟩
 |dead=>exact .dead
theorem cQ.alive {h:Heap} {F:Fz} {ρ:Rho} {m:MO} {p:Addr×Addr} (r:cQ h F ρ m p) {a:Addr} (ha:a∈bd m p): ∃o,h.get? a=some o:=by
 cases r with
 |list h1 h2=>simp [bd] at ha; subst ha; exact ⟨_,h1⟩
 |inst h1 h2 h3=>
  simp [bd] at ha
  rcases ha with rfl|rfl
  ·exact ⟨_,h1⟩
  ·refine AJ h2 fun o es ep ho r=> ?_; exact ⟨_,ho⟩
 |dead=>simp [bd] at ha
structure InH (K:Frag) (σ:List MO) (h:Heap) (F:Fz) (ρ:Rho):Prop where
 kf: ∀a o,K.lookup a=some o→F a=some o
 fh: ∀a o,F a=some o→h.get? a=some o
 len:ρ.length=σ.length
 dj: ∀(i j:Nat) (m:MO) (p:Addr×Addr) (m':MO) (p':Addr×Addr) (a:Addr),i≠j→σ[i]? =some m→ρ[i]? =some p→σ[j]? =some m'→ρ[j]? =some p'→a∈bd m p→a ∉ bd m' p'
 off: ∀a,bC σ ρ a→F a=none
 ob: ∀(i:Nat) (m:MO) (p:Addr×Addr),σ[i]? =some m→ρ[i]? =some p→cQ h F ρ m p
structure St where
 loc:List (Str×V)
 σ:List MO
structure InS (K:Frag) (L:Addr) (S:St) (h:Heap) (F:Fz) (ρ:Rho):Prop where
 H:InH K S.σ h F ρ
 Loff:F L=none
 Lout: ¬bC S.σ ρ L
 ns: ∃vs,h.Ns L (fun n=>look n vs)∧bS F ρ S.loc vs
structure b9 (lv:Addr→Prop) (h:Heap) (F:Fz) (lv':Addr→Prop) (h':Heap) (F':Fz):Prop where
 ff:FLe F F'
 hh: ∀a o,h.get? a=some o→ ¬lv a→h'.get? a=some o
 nf: ∀a o,F' a=some o→F a≠none∨lv a∨h.get? a=none
 nl: ∀a,lv' a→lv a∨h.get? a=none
theorem b9.refl (lv:Addr→Prop) (h:Heap) (F:Fz):b9 lv h F lv h F:=
 ⟨.refl F,fun _ _ e _=>e,fun a o e=> .inl (by rw [e]; simp),fun a e=> .inl e⟩
theorem b9.trans {l1 l2 l3:Addr→Prop} {h1 h2 h3:Heap} {F1 F2 F3:Fz} (x:b9 l1 h1 F1 l2 h2 F2) (y:b9 l2 h2 F2 l3 h3 F3):b9 l1 h1 F1 l3 h3 F3:=by
 have fresh: ∀a,h2.get? a=none→l1 a∨h1.get? a=none:=fun a e=>by
  by_cases ha:l1 a
  ·exact .inl ha
  ·cases q:h1.get? a with
   |none=>exact .inr rfl
   |some o=>rw [x.hh a o q ha] at e; cases e
 refine ⟨x.ff.trans y.ff,fun a o e na=> ?_,fun a o e=> ?_,fun a e=> ?_⟩
 ·refine y.hh a o (x.hh a o e na) fun z=> ?_
  rcases x.nl a z with z|z
  ·exact na z
  ·rw [z] at e; cases e
 ·rcases y.nf a o e with z|z|z
  ·cases q:F2 a with
   |none=>exact absurd q z
   |some o'=>exact x.nf a o' q
  ·exact .inr (x.nl a z)
  ·exact .inr (fresh a z)
 ·rcases y.nl a e with z|z
  ·exact x.nl a z
  ·exact fresh a z
noncomputable def lvS (L:Addr) (S:St) (ρ:Rho) (a:Addr):Prop:=a=L∨bC S.σ ρ a
noncomputable def OI (F:Fz) (f:Fv) (u:Value):Prop:=match f with
 | .none=>u= .none
 | .bool b=>u= .bool b
 | .int i=> ∃t,u= .int i t
 | .str i=> ∃t,u= .str ⟨i.toArray⟩ t
 | .bytes i=> ∃t,u= .bytes i t
 | .tup l=> ∃(a:Addr) (xs:List Value) (n:Nat),u= .ref a∧F a=some (n8 xs.toArray n)∧aJ F l xs
 | .list l=> ∃(a:Addr) (o:Obj) (xs:List Value) (n:Nat),u= .ref a∧F a=some o∧o.cls= .type "list"∧o.data= .seq xs.toArray n∧aJ F l xs
 | .obj c fs=> ∃(x dx:Addr) (od:Obj) (vs:List (Str×Value)),u= .ref x∧F x=some (instObj c dx)∧F dx=some od∧NsO od (fun n=>look n vs)∧cS F fs vs
 | .glob a=>u= .ref a
 | .ty a=>u= .type a
section
variable {F:Fz} {ρ:Rho} {u:Value} {us:List Value}
theorem aG.iv {f:Fv} (r:aG F f u):OI F f u:=by
 cases r with
 |tup a d=>exact ⟨_,_,_,rfl,a,d⟩
 |list a b c d=>exact ⟨_,_,_,_,rfl,a,b,c,d⟩
 |obj a b c d=>exact ⟨_,_,_,_,rfl,a,b,c,d⟩
 |int=>exact ⟨_,rfl⟩
 |str=>exact ⟨_,rfl⟩
 |bytes=>exact ⟨_,rfl⟩
 |_=>rfl
theorem aG.invList {l:List Fv} (r:aG F (.list l) u): ∃a o xs n,u= .ref a∧F a=some o∧o.cls= .type "list"∧o.data= .seq (xs:List Value).toArray n∧aJ F l xs:=r.iv
theorem aG.invTup {l:List Fv} (r:aG F (.tup l) u): ∃a xs n,u= .ref a∧F a=some (n8 (xs:List Value).toArray n)∧aJ F l xs:=r.iv
theorem aG.invInt {i:Int} (r:aG F (.int i) u): ∃t,u= .int i t:=r.iv
theorem aG.invStr {i:List Nat} (r:aG F (.str i) u): ∃t,u= .str ⟨i.toArray⟩ t:=r.iv
theorem aG.invBytes {i:Array UInt8} (r:aG F (.bytes i) u): ∃t,u= .bytes i t:=r.iv
theorem aG.invGlob {a:Addr} (r:aG F (.glob a) u):u= .ref a:=r.iv
theorem aG.invTy {a:String} (r:aG F (.ty a) u):u= .type a:=r.iv
theorem aG.invNone (r:aG F .none u):u= .none:=r.iv
theorem aG.invBool {b:Bool} (r:aG F (.bool b) u):u= .bool b:=r.iv
theorem aG.invObj {c:Addr} {fs:List (Str×Fv)} (r:aG F (.obj c fs) u): ∃x dx od,u= .ref x∧F x=some (instObj c dx)∧F dx=some od:=by
 obtain ⟨x,dx,od,_,a,b,c,_⟩:=(r.iv: ∃(x dx:Addr) (od:Obj) (vs:List (Str×Value)),_)
 exact ⟨x,dx,od,a,b,c⟩
theorem aG.invObj2 {c:Addr} {fs:List (Str×Fv)} (r:aG F (.obj c fs) u): ∃x dx od vs,u= .ref x∧F x=some (instObj c dx)∧F dx=some od∧NsO od (fun n=>look n vs)∧cS F fs vs:=r.iv
noncomputable def OJ (F:Fz) (ρ:Rho) (v:V) (u:Value):Prop:=match v with
 | .f x=>aG F x u
 | .r i=> ∃a d,u= .ref a∧ρ[i]? =some (a,d)
theorem bg.iv {v:V} (r:bg F ρ v u):OJ F ρ v u:=by
 cases r with
 |f r=>exact r
 |r h=>exact ⟨_,_,rfl,h⟩
theorem bg.inv {a:Fv} (r:bg F ρ (.f a) u):aG F a u:=r.iv
theorem bg.invR {i:Nat} (r:bg F ρ (.r i) u): ∃a d,u= .ref a∧ρ[i]? =some (a,d):=r.iv
noncomputable def Ma (F:Fz) (ρ:Rho) (l:List V) (us:List Value):Prop:=match l with
 |[]=>us=[]
 |a::r=> ∃u us',us=u::us'∧bg F ρ a u∧bc F ρ r us'
theorem bc.iv {l:List V} (r:bc F ρ l us):Ma F ρ l us:=by
 cases r with
 |nil=>rfl
 |cons a b=>exact ⟨_,_,rfl,a,b⟩
theorem bc.nl (r:bc F ρ [] us):us=[]:=r.iv
theorem bc.cn {a:V} {l:List V} (r:bc F ρ (a::l) us): ∃u us',us=u::us'∧bg F ρ a u∧bc F ρ l us':=r.iv
theorem bc.inv1 {a:V} (r:bc F ρ [a] us): ∃u,us=[u]∧bg F ρ a u:=
 bw r.cn fun u _ e r1 r=>⟨u,e.trans (congrArg (u:: ·) r.nl),r1⟩
theorem bc.inv2 {a b:V} (r:bc F ρ [a,b] us): ∃u v,us=[u,v]∧bg F ρ a u∧bg F ρ b v:=
 bw r.cn fun u _ e r1 r=>aA r.inv1 fun v e2 r2=>⟨u,v,e.trans (congrArg (u:: ·) e2),r1,r2⟩
theorem bc.inv3 {a b c:V} (r:bc F ρ [a,b,c] us): ∃u v z,us=[u,v,z]∧bg F ρ a u∧bg F ρ b v∧bg F ρ c z:=
 bw r.cn fun u _ e r1 r=>bw r.inv2 fun v z e2 r2 r3=>⟨u,v,z,e.trans (congrArg (u:: ·) e2),r1,r2,r3⟩
noncomputable def Mb (F:Fz) (l:List Fv) (us:List Value):Prop:=match l with
 |[]=>us=[]
 |a::r=> ∃u us',us=u::us'∧aG F a u∧aJ F r us'
theorem aJ.iv {l:List Fv} (r:aJ F l us):Mb F l us:=by
 cases r with
 |nil=>rfl
 |cons a b=>exact ⟨_,_,rfl,a,b⟩
theorem aJ.nl (r:aJ F [] us):us=[]:=r.iv
theorem aJ.cn {a:Fv} {l:List Fv} (r:aJ F (a::l) us): ∃u us',us=u::us'∧aG F a u∧aJ F l us':=r.iv
theorem aJ.inv1 {a:Fv} (r:aJ F [a] us): ∃u,us=[u]∧aG F a u:=
 bw r.cn fun u _ e r1 r=>⟨u,e.trans (congrArg (u:: ·) r.nl),r1⟩
theorem aJ.inv2 {a b:Fv} (r:aJ F [a,b] us): ∃u v,us=[u,v]∧aG F a u∧aG F b v:=
 bw r.cn fun u _ e r1 r=>aA r.inv1 fun v e2 r2=>⟨u,v,e.trans (congrArg (u:: ·) e2),r1,r2⟩
noncomputable def OK (h:Heap) (F:Fz) (ρ:Rho) (m:MO) (p:Addr×Addr):Prop:=match m with
 | .list l=> ∃(xs:List Value) (n:Nat),h.get? p.1=some (gE xs.toArray n)∧aJ F l xs
 | .inst c fs=> ∃vs,h.get? p.1=some (instObj c p.2)∧h.Ns1 p.2 (fun n=>look n vs)∧bS F ρ fs vs
 | .dead=>True
theorem cQ.iv {h:Heap} {m:MO} {p:Addr×Addr} (r:cQ h F ρ m p):OK h F ρ m p:=by
 cases r with
 |list a b=>exact ⟨_,_,a,b⟩
 |inst a b c=>exact ⟨_,a,b,c⟩
 |dead=>trivial
theorem cQ.invInst {h:Heap} {c:Addr} {fs:List (Str×V)} {x dx:Addr} (r:cQ h F ρ (.inst c fs) (x,dx)): ∃vs,h.get? x=some (instObj c dx)∧h.Ns1 dx (fun n=>look n vs)∧bS F ρ fs vs:=r.iv
theorem cQ.invList {h:Heap} {l:List Fv} {a d:Addr} (r:cQ h F ρ (.list l) (a,d)): ∃(xs:List Value) (n:Nat),h.get? a=some (gE xs.toArray n)∧aJ F l xs:=r.iv
end
end MineS
namespace MineS
open PySem PySem.W PySem.Calls PyProof.Rows
variable {K:Frag} {σ σ':List MO} {h h':Heap} {F F':Fz} {ρ ρ':Rho} {L:Addr}
noncomputable def upd (F:Fz) (a:Addr) (o:Obj):Fz:=fun b=>if b=a then some o else F b
theorem gq {a:Addr} {o:Obj} (e:F a=none):FLe F (upd F a o):=fun b o' q=>by
 unfold upd; rw [if_neg]; exact q
 rintro rfl; rw [e] at q; cases q
theorem fQ (F:Fz) (a:Addr) (o:Obj):upd F a o a=some o:=by simp [upd]
theorem InH.live (I:InH K σ h F ρ) {a:Addr} (l:bC σ ρ a): ∃o,h.get? a=some o:=by
 refine dN l fun i m p h1 h2 h3=> ?_
 exact (I.ob i m p h1 h2).alive h3
theorem InH.fresh (I:InH K σ h F ρ) {a:Addr} (e:h.get? a=none):F a=none∧ ¬bC σ ρ a:=by
 constructor
 ·cases q:F a with
  |none=>rfl
  |some o=>rw [I.fh a o q] at e; cases e
 ·intro l; obtain ⟨o,q⟩:=I.live l; rw [q] at e; cases e
structure Stp (K:Frag) (σ:List MO) (h:Heap) (F:Fz) (ρ:Rho) (σ':List MO) (h':Heap) (F':Fz) (ρ':Rho):Prop where
 I:InH K σ' h' F' ρ'
 k:b9 (bC σ ρ) h F (bC σ' ρ') h' F'
 r:RLe ρ ρ'
theorem Stp.refl (I:InH K σ h F ρ):Stp K σ h F ρ σ h F ρ:=⟨I,.refl _ _ _,.refl _⟩
theorem Stp.trans {σ2 h2 F2 ρ2} (x:Stp K σ h F ρ σ' h' F' ρ') (y:Stp K σ' h' F' ρ' σ2 h2 F2 ρ2):Stp K σ h F ρ σ2 h2 F2 ρ2:=
 ⟨y.I,x.k.trans y.k,x.r.trans y.r⟩
theorem InH.heap (I:InH K σ h F ρ) (g: ∀a o,h.get? a=some o→(bC σ ρ a∨F a≠none)→h'.get? a=some o):InH K σ h' F ρ where
 kf:=I.kf
 fh:=fun a o e=>g a o (I.fh a o e) (.inr (by rw [e]; simp))
 len:=I.len
 dj:=I.dj
 off:=I.off
 ob:=fun i m p h1 h2=>(I.ob i m p h1 h2).mono (.refl F) (.refl ρ) fun a ha o e=>g a o e (.inl ⟨i,m,p,h1,h2,ha⟩)
theorem Stp.heap (I:InH K σ h F ρ) (g: ∀a o,h.get? a=some o→h'.get? a=some o):Stp K σ h F ρ σ h' F ρ:=
 ⟨I.heap fun a o e _=>g a o e,⟨.refl F,fun a o e _=>g a o e,fun a o e=> .inl (by rw [e]; simp),fun a e=> .inl e⟩,.refl ρ⟩
theorem Stp.frozen (I:InH K σ h F ρ) {a:Addr} {o:Obj} (e:h.get? a=none) (e':h'.get? a=some o) (g: ∀a o,h.get? a=some o→h'.get? a=some o):
  Stp K σ h F ρ σ h' (upd F a o) ρ:=by
 obtain ⟨f1,f2⟩:=I.fresh e
 have lf:=gq (o:=o) f1
 refine ⟨⟨fun b o' q=>lf _ _ (I.kf b o' q),fun b o' q=> ?_,I.len,I.dj,fun b l=> ?_,fun i m p h1 h2=>(I.ob i m p h1 h2).mono lf (.refl ρ) fun a _ o e=>g a o e⟩,⟨lf,fun a o e _=>g a o e,fun b o' q=> ?_,fun a e=> .inl e⟩,.refl ρ⟩
 ·unfold upd at q; split at q
  ·rename_i z; subst z; cases q; exact e'
  ·exact g _ _ (I.fh _ _ q)
 ·unfold upd; rw [if_neg]; exact I.off b l
  rintro rfl; exact f2 l
 ·unfold upd at q; split at q
  ·rename_i z; subst z; exact .inr (.inr e)
  ·exact .inl (by rw [q]; simp)
theorem lK {τ:List MO} {θ:Rho} (e:ρ.length=σ.length) {a:Addr}:bC (σ++τ) (ρ++θ) a↔bC σ ρ a∨bC τ θ a:=by
 constructor
 ·rintro ⟨i,m,p,h1,h2,h3⟩
  by_cases hi:i<σ.length
  ·rw [List.getElem?_append_left hi] at h1
   rw [List.getElem?_append_left (e▸hi)] at h2
   exact .inl ⟨i,m,p,h1,h2,h3⟩
  ·rw [List.getElem?_append_right (by omega)] at h1
   rw [List.getElem?_append_right (by omega),e] at h2
   exact .inr ⟨_,m,p,h1,h2,h3⟩
 ·rintro (⟨i,m,p,h1,h2,h3⟩|⟨i,m,p,h1,h2,h3⟩)
  ·have hi:=(List.getElem?_eq_some_iff.mp h1).1
   exact ⟨i,m,p,by rw [List.getElem?_append_left hi]; exact h1,by rw [List.getElem?_append_left (e▸hi)]; exact h2,h3⟩
  ·exact ⟨σ.length+i,m,p,by rw [List.getElem?_append_right (by omega)]; simpa using h1,by rw [List.getElem?_append_right (by omega),e]; simpa using h2,h3⟩
theorem Stp.frame {τ:List MO} {θ:Rho} (I:InH K (σ++τ) h F (ρ++θ)) (e:ρ.length=σ.length) (x:Stp K σ h F ρ σ' h' F' ρ') (e':σ'.length=σ.length):
  Stp K (σ++τ) h F (ρ++θ) (σ'++τ) h' F' (ρ'++θ):=by
 have le':ρ'.length=σ'.length:=x.I.len
 have hr:ρ'=ρ:=by
  apply List.ext_getElem?
  intro i
  cases q:ρ[i]? with
  |some p=>exact x.r i p q
  |none=>rw [List.getElem?_eq_none_iff] at q ⊢; omega
 subst hr
 have eL: ∀a,bC (σ++τ) (ρ'++θ) a↔bC σ ρ' a∨bC τ θ a:=fun a=>lK e
 have eL': ∀a,bC (σ'++τ) (ρ'++θ) a↔bC σ' ρ' a∨bC τ θ a:=fun a=>lK le'
 have sep: ∀a,bC τ θ a→ ¬bC σ ρ' a:=by
  rintro a ⟨i,m,p,h1,h2,h3⟩ ⟨j,m',p',h1',h2',h3'⟩
  have hj:=(List.getElem?_eq_some_iff.mp h1').1
  refine I.dj j (σ.length+i) m' p' m p a (by omega) ?_ ?_ ?_ ?_ h3' h3
  ·rw [List.getElem?_append_left hj]; exact h1'
  ·rw [List.getElem?_append_left (e▸hj)]; exact h2'
  ·rw [List.getElem?_append_right (by omega)]; simpa using h1
  ·rw [List.getElem?_append_right (by omega),e]; simpa using h2
 have old: ∀a,bC τ θ a→ ∃o,h.get? a=some o:=fun a l=>I.live ((eL a).mpr (.inr l))
 have sep': ∀a,bC τ θ a→ ¬bC σ' ρ' a:=fun a l l'=>by
  rcases x.k.nl a l' with z|z
  ·exact sep a l z
  ·obtain ⟨o,q⟩:=old a l; rw [q] at z; cases z
 refine ⟨⟨x.I.kf,x.I.fh,by have:=I.len; simp only [List.length_append] at this ⊢; omega,?_,fun a l=> ?_,?_⟩,⟨x.k.ff,fun a o q n=>x.k.hh a o q fun l=>n ((eL a).mpr (.inl l)),fun a o q=> ?_,fun a l=> ?_⟩,.refl _⟩
 ·intro i j m p m' p' a hij h1 h2 h3 h4 h5 h6
  by_cases hi:i<σ'.length
  ·rw [List.getElem?_append_left hi] at h1; rw [List.getElem?_append_left (le'▸hi)] at h2
   by_cases hj:j<σ'.length
   ·rw [List.getElem?_append_left hj] at h3; rw [List.getElem?_append_left (le'▸hj)] at h4
    exact x.I.dj i j m p m' p' a hij h1 h2 h3 h4 h5 h6
   ·rw [List.getElem?_append_right (by omega)] at h3; rw [List.getElem?_append_right (by omega)] at h4
    rw [le'] at h4
    exact sep' a ⟨_,m',p',h3,h4,h6⟩ ⟨_,m,p,h1,h2,h5⟩
  ·rw [List.getElem?_append_right (by omega)] at h1; rw [List.getElem?_append_right (by omega)] at h2
   rw [le'] at h2
   by_cases hj:j<σ'.length
   ·rw [List.getElem?_append_left hj] at h3; rw [List.getElem?_append_left (le'▸hj)] at h4
    exact sep' a ⟨_,m,p,h1,h2,h5⟩ ⟨_,m',p',h3,h4,h6⟩
   ·rw [List.getElem?_append_right (by omega)] at h3; rw [List.getElem?_append_right (by omega)] at h4
    rw [le'] at h4
    refine I.dj (σ.length+(i-σ'.length)) (σ.length+(j-σ'.length)) m p m' p' a (by omega) ?_ ?_ ?_ ?_ h5 h6
    ·rw [List.getElem?_append_right (by omega)]; simpa using h1
    ·rw [List.getElem?_append_right (by omega),e]; simpa using h2
    ·rw [List.getElem?_append_right (by omega)]; simpa using h3
    ·rw [List.getElem?_append_right (by omega),e]; simpa using h4
 ·rcases (eL' a).mp l with z|z
  ·exact x.I.off a z
  ·cases q:F' a with
   |none=>rfl
   |some o=>
    rcases x.k.nf a o q with y|y|y
    ·exact absurd (I.off a ((eL a).mpr (.inr z))) y
    ·exact absurd y (sep a z)
    ·obtain ⟨o',q'⟩:=old a z; rw [q'] at y; cases y
 ·intro i m p h1 h2
  by_cases hi:i<σ'.length
  ·rw [List.getElem?_append_left hi] at h1; rw [List.getElem?_append_left (le'▸hi)] at h2
   exact (x.I.ob i m p h1 h2).mono (.refl _) (.app _ _) fun _ _ _ q=>q
  ·rw [List.getElem?_append_right (by omega)] at h1; rw [List.getElem?_append_right (by omega)] at h2
   rw [le'] at h2
   have h1':(σ++τ)[σ.length+(i-σ'.length)]? =some m:=by rw [List.getElem?_append_right (by omega)]; simpa using h1
   have h2':(ρ'++θ)[σ.length+(i-σ'.length)]? =some p:=by rw [List.getElem?_append_right (by omega),e]; simpa using h2
   refine (I.ob _ m p h1' h2').mono x.k.ff (.refl _) fun a ha o q=>x.k.hh a o q fun l=>sep a ⟨_,m,p,h1,h2,ha⟩ l
 ·rcases x.k.nf a o q with y|y|y
  ·exact .inl y
  ·exact .inr (.inl ((eL a).mpr (.inl y)))
  ·exact .inr (.inr y)
 ·rcases (eL' a).mp l with z|z
  ·rcases x.k.nl a z with y|y
   ·exact .inl ((eL a).mpr (.inl y))
   ·exact .inr y
  ·exact .inl ((eL a).mpr (.inr z))
theorem InS.step {S:St} (I:InS K L S h F ρ) (x:Stp K S.σ h F ρ σ' h' F' ρ'):InS K L ⟨S.loc,σ'⟩ h' F' ρ':=by
 refine aA I.ns fun vs y1z1 rv=> ?_; obtain ⟨o,es,ep,ho,r⟩:=y1z1
 refine ⟨x.I,?_,fun l=> ?_,vs,⟨o,es,ep,x.k.hh L o ho I.Lout,r⟩,rv.mono x.k.ff x.r⟩
 ·cases q:F' L with
  |none=>rfl
  |some o'=>
   rcases x.k.nf L o' q with y|y|y
   ·exact absurd I.Loff y
   ·exact absurd y I.Lout
   ·rw [ho] at y; cases y
 ·rcases x.k.nl L l with y|y
  ·exact I.Lout y
  ·rw [ho] at y; cases y
structure dO (K:Frag) (L:Addr) (S:St) (h:Heap) (F:Fz) (ρ:Rho) (S':St) (h':Heap) (F':Fz) (ρ':Rho):Prop where
 I:InS K L S' h' F' ρ'
 k:b9 (lvS L S ρ) h F (lvS L S' ρ') h' F'
 r:RLe ρ ρ'
theorem dO.refl {S:St} (I:InS K L S h F ρ):dO K L S h F ρ S h F ρ:=⟨I,.refl _ _ _,.refl _⟩
theorem dO.trans {S S' S2:St} {h2 F2 ρ2} (x:dO K L S h F ρ S' h' F' ρ') (y:dO K L S' h' F' ρ' S2 h2 F2 ρ2):dO K L S h F ρ S2 h2 F2 ρ2:=
 ⟨y.I,x.k.trans y.k,x.r.trans y.r⟩
theorem InS.stp {S:St} (I:InS K L S h F ρ) (x:Stp K S.σ h F ρ σ' h' F' ρ'):dO K L S h F ρ ⟨S.loc,σ'⟩ h' F' ρ':=by
 refine ⟨I.step x,⟨x.k.ff,fun a o q n=>x.k.hh a o q fun l=>n (.inr l),fun a o q=> ?_,fun a l=> ?_⟩,x.r⟩
 ·rcases x.k.nf a o q with y|y|y
  ·exact .inl y
  ·exact .inr (.inl (.inr y))
  ·exact .inr (.inr y)
 ·rcases l with rfl|l
  ·exact .inl (.inl rfl)
  ·rcases x.k.nl a l with y|y
   ·exact .inl (.inr y)
   ·exact .inr y
theorem InS.bind {S:St} (I:InS K L S h F ρ) {x:Str} {v:V} {u:Value} (e:bg F ρ v u) (s:Heap.SameBut L h h') (n: ∀m,h.Ns L m→h'.Ns L (fun y=>if y=x then some u else m y)):
  dO K L S h F ρ ⟨put x v S.loc,S.σ⟩ h' F ρ:=by
 refine aA I.ns fun vs hn rv=> ?_
 have g: ∀a o,h.get? a=some o→(bC S.σ ρ a∨F a≠none)→h'.get? a=some o:=fun a o q z=>by
  rw [s.2 a]; exact q
  rintro rfl
  rcases z with z|z
  ·exact I.Lout z
  ·exact z I.Loff
 refine ⟨⟨I.H.heap g,I.Loff,I.Lout,put x u vs,?_,rv.put e⟩,⟨.refl F,fun a o q z=> ?_,fun a o q=> .inl (by rw [q]; simp),fun a l=> .inl l⟩,.refl ρ⟩
 ·have:=n _ hn
  refine gD this fun o es ep h1 h2 h3 h4=> ?_
  exact ⟨o,es,ep,h1,h2,h3,fun name=>by rw [h4]; exact (lJ x name u vs).symm⟩
 ·rw [s.2 a fun e=>z (.inl e)]; exact q
end MineS
namespace MineS
open PySem PySem.W PySem.Calls PyProof.Rows
variable {K:Frag} {σ σ':List MO} {h h':Heap} {F F':Fz} {ρ ρ':Rho} {L:Addr}
theorem dU (h:Heap) (o:Obj) (e:o.isFreed=false):(h.push o).get? h.objs.size=some o:=Heap.get?_push_size h e
theorem ci (h:Heap):h.get? h.objs.size=none:=by
 cases q:h.get? h.objs.size with
 |none=>rfl
 |some o=>exact absurd (Heap.lt_size q) (Nat.lt_irrefl _)
theorem Stp.slot (I:InH K σ h F ρ) {m:MO} {p:Addr×Addr} (fr: ∀a∈bd m p,h.get? a=none) (R:cQ h' F (ρ++[p]) m p) (g: ∀a o,h.get? a=some o→h'.get? a=some o):
  Stp K σ h F ρ (σ++[m]) h' F (ρ++[p]):=by
 have le:=I.len
 have one: ∀a,bC [m] [p] a↔a∈bd m p:=fun a=>by
  constructor
  ·rintro ⟨i,m',p',h1,h2,h3⟩
   cases i with
   |zero=>simp at h1 h2; subst h1; subst h2; exact h3
   |succ i=>simp at h1
  ·intro h; exact ⟨0,m,p,rfl,rfl,h⟩
 have eL: ∀a,bC (σ++[m]) (ρ++[p]) a↔bC σ ρ a∨a∈bd m p:=fun a=>(lK le).trans (or_congr Iff.rfl (one a))
 refine ⟨⟨I.kf,fun a o e=>g a o (I.fh a o e),by simp [le],?_,fun a l=> ?_,?_⟩,⟨.refl F,fun a o e _=>g a o e,fun a o e=> .inl (by rw [e]; simp),fun a l=> ?_⟩,.app ρ _⟩
 ·intro i j m1 p1 m2 p2 a hij h1 h2 h3 h4 h5 h6
  have key: ∀(i:Nat) (m1:MO) (p1:Addr×Addr),(σ++[m])[i]? =some m1→(ρ++[p])[i]? =some p1→(i<σ.length∧σ[i]? =some m1∧ρ[i]? =some p1)∨(i=σ.length∧m1=m∧p1=p):=by
   intro i m1 p1 q1 q2
   by_cases hi:i<σ.length
   ·rw [List.getElem?_append_left hi] at q1; rw [List.getElem?_append_left (by omega)] at q2; exact .inl ⟨hi,q1,q2⟩
   ·rw [List.getElem?_append_right (by omega)] at q1; rw [List.getElem?_append_right (by omega)] at q2
    have:i-σ.length=0:=by
     have:=(List.getElem?_eq_some_iff.mp q1).1; simp at this; omega
    rw [le] at q2
    rw [this] at q1 q2; simp at q1 q2; exact .inr ⟨by omega,q1.symm,q2.symm⟩
  rcases key i m1 p1 h1 h2 with ⟨a1,a2,a3⟩|⟨a1,a2,a3⟩<;>rcases key j m2 p2 h3 h4 with ⟨b1,b2,b3⟩|⟨b1,b2,b3⟩
  ·exact I.dj i j m1 p1 m2 p2 a hij a2 a3 b2 b3 h5 h6
  ·subst b2; subst b3
   obtain ⟨o,q⟩:=I.live ⟨_,_,_,a2,a3,h5⟩
   rw [fr a h6] at q; cases q
  ·subst a2; subst a3
   obtain ⟨o,q⟩:=I.live ⟨_,_,_,b2,b3,h6⟩
   rw [fr a h5] at q; cases q
  ·omega
 ·rcases (eL a).mp l with z|z
  ·exact I.off a z
  ·exact (I.fresh (fr a z)).1
 ·intro i m1 p1 q1 q2
  by_cases hi:i<σ.length
  ·rw [List.getElem?_append_left hi] at q1; rw [List.getElem?_append_left (by omega)] at q2
   exact (I.ob i m1 p1 q1 q2).mono (.refl F) (.app _ _) fun a _ o e=>g a o e
  ·rw [List.getElem?_append_right (by omega)] at q1; rw [List.getElem?_append_right (by omega)] at q2
   have:i-σ.length=0:=by
    have:=(List.getElem?_eq_some_iff.mp q1).1; simp at this; omega
   rw [le] at q2
   rw [this] at q1 q2; simp at q1 q2; subst q1; subst q2; exact R
 ·rcases (eL a).mp l with z|z
  ·exact .inl z
  ·exact .inr (fr a z)
theorem Stp.change (I:InH K σ h F ρ) {i:Nat} {m m':MO} {p:Addr×Addr} {b:Addr} (e1:σ[i]? =some m) (e2:ρ[i]? =some p) (ea: ∀a,a∈bd m' p↔a∈bd m p) (hb:b∈bd m p)
  (s:Heap.SameBut b h h') (R:cQ h' F ρ m' p):Stp K σ h F ρ (σ.set i m') h' F ρ:=by
 have hi:=(List.getElem?_eq_some_iff.mp e1).1
 have key: ∀(j:Nat) (n:MO),(σ.set i m')[j]? =some n→(j=i∧n=m')∨(j≠i∧σ[j]? =some n):=by
  intro j n q
  rw [List.getElem?_set] at q
  split at q
  ·rename_i z; subst z; cases q; exact .inl ⟨rfl,rfl⟩
  ·rename_i z; exact .inr ⟨fun y=>z y.symm,q⟩
 have old: ∀(j:Nat) (n:MO) (q:Addr×Addr),(σ.set i m')[j]? =some n→ρ[j]? =some q→ ∃n',σ[j]? =some n'∧ ∀a,a∈bd n q→a∈bd n' q:=by
  intro j n q z z2
  rcases key j n z with ⟨rfl,rfl⟩|⟨_,y⟩
  ·rw [e2] at z2; cases z2; exact ⟨m,e1,fun a l=>(ea a).mp l⟩
  ·exact ⟨n,y,fun a l=>l⟩
 have eL: ∀a,bC (σ.set i m') ρ a→bC σ ρ a:=by
  rintro a ⟨j,n,q,h1,h2,h3⟩
  refine aA (old j n q h1 h2) fun n' y1 y2=> ?_
  exact ⟨j,n',q,y1,h2,y2 a h3⟩
 have hl:bC σ ρ b:=⟨i,m,p,e1,e2,hb⟩
 have g: ∀a o,h.get? a=some o→a≠b→h'.get? a=some o:=fun a o q n=>by rw [s.2 a n]; exact q
 refine ⟨⟨I.kf,fun a o e=>g a o (I.fh a o e) ?_,by simp [I.len],?_,fun a l=>I.off a (eL a l),?_⟩,⟨.refl F,fun a o e n=>g a o e ?_,fun a o e=> .inl (by rw [e]; simp),fun a l=> .inl (eL a l)⟩,.refl ρ⟩
 ·rintro rfl; rw [I.off _ hl] at e; cases e
 ·intro j k n q n2 q2 a hjk h1 h2 h3 h4 h5 h6
  refine aA (old j n q h1 h2) fun n' y1 y2=> ?_
  refine aA (old k n2 q2 h3 h4) fun n2' w1 w2=> ?_
  exact I.dj j k n' q n2' q2 a hjk y1 h2 w1 h4 (y2 a h5) (w2 a h6)
 ·intro j n q h1 h2
  rcases key j n h1 with ⟨rfl,rfl⟩|⟨z,y⟩
  ·rw [e2] at h2; cases h2; exact R
  ·refine (I.ob j n q y h2).mono (.refl F) (.refl ρ) fun a ha o e=>g a o e ?_
   rintro rfl
   exact I.dj j i n q m p _ z y h2 e1 e2 ha hb
 ·rintro rfl; exact n hl
theorem Stp.freeze (I:InH K σ h F ρ) {i:Nat} {m:MO} {p:Addr×Addr} (e1:σ[i]? =some m) (e2:ρ[i]? =some p) (lf:FLe F F') (hF: ∀a o,F' a=some o→F a=some o∨(a∈bd m p∧h.get? a=some o)):
  Stp K σ h F ρ (σ.set i .dead) h F' ρ:=by
 have hi:=(List.getElem?_eq_some_iff.mp e1).1
 have key: ∀(j:Nat) (n:MO),(σ.set i .dead)[j]? =some n→(j=i∧n= .dead)∨(j≠i∧σ[j]? =some n):=by
  intro j n q
  rw [List.getElem?_set] at q
  split at q
  ·rename_i z; subst z; cases q; exact .inl ⟨rfl,rfl⟩
  ·rename_i z; exact .inr ⟨fun y=>z y.symm,q⟩
 have eL: ∀a,bC (σ.set i .dead) ρ a→ ∃(j:Nat) (n:MO) (q:Addr×Addr),j≠i∧σ[j]? =some n∧ρ[j]? =some q∧a∈bd n q:=by
  rintro a ⟨j,n,q,h1,h2,h3⟩
  rcases key j n h1 with ⟨rfl,rfl⟩|⟨z,y⟩
  ·simp [bd] at h3
  ·exact ⟨j,n,q,z,y,h2,h3⟩
 have eL': ∀a,bC (σ.set i .dead) ρ a→bC σ ρ a:=fun a l=>by
  refine gD (eL a l) fun j n q _ b c d=> ?_; exact ⟨j,n,q,b,c,d⟩
 refine ⟨⟨fun a o e=>lf a o (I.kf a o e),fun a o e=> ?_,by simp [I.len],?_,fun a l=> ?_,?_⟩,⟨lf,fun a o e _=>e,fun a o e=> ?_,fun a l=> .inl (eL' a l)⟩,.refl ρ⟩
 ·rcases hF a o e with z|z
  ·exact I.fh a o z
  ·exact z.2
 ·intro j k n q n2 q2 a hjk h1 h2 h3 h4 h5 h6
  rcases key j n h1 with ⟨rfl,rfl⟩|⟨z,y⟩
  ·simp [bd] at h5
  ·rcases key k n2 h3 with ⟨rfl,rfl⟩|⟨z',y'⟩
   ·simp [bd] at h6
   ·exact I.dj j k n q n2 q2 a hjk y h2 y' h4 h5 h6
 ·refine gD (eL a l) fun j n q z b c d=> ?_
  cases w:F' a with
  |none=>rfl
  |some o=>
   rcases hF a o w with y|y
   ·rw [I.off a (eL' a l)] at y; cases y
   ·exact absurd y.1 (I.dj j i n q m p a z b c e1 e2 d)
 ·intro j n q h1 h2
  rcases key j n h1 with ⟨rfl,rfl⟩|⟨z,y⟩
  ·exact .dead
  ·exact (I.ob j n q y h2).mono lf (.refl ρ) fun a _ o e=>e
 ·rcases hF a o e with z|z
  ·exact .inl (by rw [z]; simp)
  ·exact .inr (.inl ⟨i,m,p,e1,e2,z.1⟩)
theorem Stp.freezeList (I:InH K σ h F ρ) {i:Nat} {l:List Fv} {a d:Addr} (e1:σ[i]? =some (.list l)) (e2:ρ[i]? =some (a,d)):
  ∃F',Stp K σ h F ρ (σ.set i .dead) h F' ρ∧aG F' (.list l) (.ref a):=by
 cases I.ob i _ _ e1 e2 with
 |list h1 h2=>
  rename_i xs n
  have hn:F a=none:=I.off a ⟨i,_,_,e1,e2,by simp [bd]⟩
  refine ⟨upd F a (gE xs.toArray n),Stp.freeze I e1 e2 (gq hn) fun b o q=> ?_,.list (fQ F a _) rfl rfl (h2.mono (gq hn))⟩
  unfold upd at q; split at q
  ·rename_i z; subst z; cases q; exact .inr ⟨by simp [bd],h1⟩
  ·exact .inl q
theorem InH.enter (I:InH K σ h F ρ) {vs:List (Str×Value)} {loc:List (Str×V)} (g: ∀a o,h.get? a=some o→h'.get? a=some o) (n:h.get? L=none) (hn:h'.Ns L (fun n=>look n vs)) (r:bS F ρ loc vs):
  InS K L ⟨loc,σ⟩ h' F ρ:=⟨I.heap fun a o e _=>g a o e,(I.fresh n).1,(I.fresh n).2,vs,hn,r⟩
noncomputable def okV (k:Nat):V→Bool
 | .f _=>true
 | .r i=>Nat.blt i k
noncomputable def w9 (k:Nat):List (Str×V)→Bool
 |[]=>true
 |(_,v)::r=>match okV k v with
  |true=>w9 k r
  |false=>false
noncomputable def okM (k:Nat):MO→Bool
 | .list _=>true
 | .inst _ fs=>w9 k fs
 | .dead=>true
noncomputable def fF (k:Nat):List MO→Bool
 |[]=>true
 |m::r=>match okM k m with
  |true=>fF k r
  |false=>false
theorem lL {k:Nat}: ∀{l:List MO} {i:Nat} {m:MO},fF k l=true→l[i]? =some m→okM k m=true
 |[],_,_,_,e=>by simp at e
 |m::r,i,m',h,e=>by
  unfold fF at h
  split at h
  ·rename_i q
   cases i with
   |zero=>simp at e; subst e; exact q
   |succ i=>exact lL h (by simpa using e)
  ·cases h
theorem bg.cut {k:Nat} {v:V} {u:Value} (o:okV k v=true) (r:bg F ρ v u):bg F (ρ.take k) v u:=by
 cases r with
 |f r=>exact .f r
 |r e=>exact .r (by rw [List.getElem?_take_of_lt (Nat.blt_eq.mp o)]; exact e)
theorem bS.cut {k:Nat} {v:List (Str×V)} {u:List (Str×Value)} (o:w9 k v=true) (r:bS F ρ v u):bS F (ρ.take k) v u:=by
 induction r with
 |nil=>exact .nil
 |cons h _ ih=>
  unfold w9 at o
  split at o
  ·rename_i q; exact .cons (h.cut q) (ih o)
  ·cases o
theorem Stp.leave {S:St} {τ:List MO} {h1:Heap} (I:InH K σ h F ρ) (g: ∀a o,h.get? a=some o→h1.get? a=some o) (n:h.get? L=none) {loc:List (Str×V)} (x:dO K L ⟨loc,σ⟩ h1 F ρ S h' F' ρ') (e:S.σ=σ'++τ) (ok:fF σ'.length σ'=true):
  Stp K σ h F ρ σ' h' F' (ρ'.take σ'.length)∨σ'.length<σ.length:=by
 by_cases hlt:σ'.length<σ.length
 ·exact .inr hlt
 have H:=x.I.H
 rw [e] at H
 have le:=H.len
 simp only [List.length_append] at le
 have spl:ρ'=ρ'.take σ'.length++ρ'.drop σ'.length:=(List.take_append_drop _ _).symm
 have ll:(ρ'.take σ'.length).length=σ'.length:=by rw [List.length_take]; omega
 have at_: ∀(i:Nat) (m:MO) (p:Addr×Addr),σ'[i]? =some m→(ρ'.take σ'.length)[i]? =some p→(σ'++τ)[i]? =some m∧ρ'[i]? =some p:=by
  intro i m p q1 q2
  have hi:=(List.getElem?_eq_some_iff.mp q1).1
  exact ⟨by rw [List.getElem?_append_left hi]; exact q1,by rw [List.getElem?_take_of_lt hi] at q2; exact q2⟩
 have lv: ∀a,bC σ' (ρ'.take σ'.length) a→bC (σ'++τ) ρ' a:=by
  rintro a ⟨i,m,p,h1,h2,h3⟩
  obtain ⟨y1,y2⟩:=at_ i m p h1 h2
  exact ⟨i,m,p,y1,y2,h3⟩
 have lvL: ∀a,bC (σ'++τ) ρ' a→lvS L S ρ' a:=fun a l=> .inr (by rw [e]; exact l)
 refine .inl ⟨⟨H.kf,H.fh,ll,?_,fun a l=>H.off a (lv a l),?_⟩,⟨x.k.ff,fun a o q z=> ?_,fun a o q=> ?_,fun a l=> ?_⟩,?_⟩
 ·intro i j m p m' p' a hij h1 h2 h3 h4 h5 h6
  obtain ⟨y1,y2⟩:=at_ i m p h1 h2
  obtain ⟨z1,z2⟩:=at_ j m' p' h3 h4
  exact H.dj i j m p m' p' a hij y1 y2 z1 z2 h5 h6
 ·intro i m p h1 h2
  obtain ⟨y1,y2⟩:=at_ i m p h1 h2
  have o:=lL ok h1
  cases H.ob i m p y1 y2 with
  |list w1 w2=>exact .list w1 w2
  |inst w1 w2 w3=>exact .inst w1 w2 (w3.cut o)
  |dead=>exact .dead
 ·refine x.k.hh a o (g a o q) fun l=> ?_
  rcases l with rfl|l
  ·rw [n] at q; cases q
  ·exact z l
 ·rcases x.k.nf a o q with y|y|y
  ·exact .inl y
  ·rcases y with rfl|y
   ·exact .inr (.inr n)
   ·exact .inr (.inl y)
  ·cases w:h.get? a with
   |none=>exact .inr (.inr rfl)
   |some o'=>rw [g a o' w] at y; cases y
 ·rcases x.k.nl a (lvL a (lv a l)) with y|y
  ·rcases y with rfl|y
   ·exact .inr n
   ·exact .inl y
  ·cases w:h.get? a with
   |none=>exact .inr rfl
   |some o'=>rw [g a o' w] at y; cases y
 ·intro i p q
  have:=x.r i p q
  have hi:=(List.getElem?_eq_some_iff.mp q).1
  rw [List.getElem?_take_of_lt (by have:=I.len; omega)]; exact this
end MineS
set_option backward.match.sparseCases false
namespace MineS
open PySem PySem.W PySem.Calls PyProof.Rows
inductive Fl where
 |next
 |ret (v:V)
inductive mY (F:Fz) (ρ:Rho):Fl→Flow→Prop
 |next:mY F ρ .next .next
 |ret {v:V} {u:Value}:bg F ρ v u→mY F ρ (.ret v) (.ret u)
structure Cx where
 names:List (Str×NameKind)
 e:Nat
 k:Nat
noncomputable def Cx.d (c:Cx):Nat:=c.e+c.k
structure cj (c:Cx) (env:Env):Prop where
 kind:env.scope.kind= .function
 names:env.scope.names=c.names
 globals:env.globals=3
 builtins:env.builtins=0
structure dP (d:Nat) (A:Around):Prop where
 depth:A.depth+d≤recursionLimit
 units:A.units+4*d+200<cLine
 handled:A.handled=none
theorem dP.le {d e:Nat} {A:Around} (r:dP d A) (h:e≤d):dP e A:=⟨by have:=r.depth; omega,by have:=r.units; omega,r.handled⟩
structure InT (K:Frag) (L:Addr) (S:St) (s:Shared) (F:Fz) (ρ:Rho):Prop where
 t:0<s.toks
 i:InS K L S s.heap F ρ
theorem InT.H {K:Frag} {L:Addr} {S:St} {s:Shared} {F:Fz} {ρ:Rho} (I:InT K L S s F ρ):InH K S.σ s.heap F ρ:=I.i.H
theorem InT.ns {K:Frag} {L:Addr} {S:St} {s:Shared} {F:Fz} {ρ:Rho} (I:InT K L S s F ρ): ∃vs,s.heap.Ns L (fun n=>look n vs)∧bS F ρ S.loc vs:=I.i.ns
structure Rst (s s':Shared):Prop where
 g:s'.gens=s.gens
 o:s'.os=s.os
theorem Rst.refl (s:Shared):Rst s s:=⟨rfl,rfl⟩
theorem Rst.trans {a b c:Shared} (x:Rst a b) (y:Rst b c):Rst a c:=⟨y.g.trans x.g,y.o.trans x.o⟩
structure bH (K:Frag) (L:Addr) (S:St) (s:Shared) (F:Fz) (ρ:Rho) (S':St) (s':Shared) (F':Fz) (ρ':Rho):Prop where
 t:0<s'.toks
 x:dO K L S s.heap F ρ S' s'.heap F' ρ'
 rs:Rst s s'
section
variable {K:Frag} {L:Addr} {S S' S2:St} {s s' s2:Shared} {F F' F2:Fz} {ρ ρ' ρ2:Rho}
theorem bH.I (x:bH K L S s F ρ S' s' F' ρ'):InT K L S' s' F' ρ':=⟨x.t,x.x.I⟩
theorem bH.k (x:bH K L S s F ρ S' s' F' ρ'):b9 (lvS L S ρ) s.heap F (lvS L S' ρ') s'.heap F':=x.x.k
theorem bH.r (x:bH K L S s F ρ S' s' F' ρ'):RLe ρ ρ':=x.x.r
theorem bH.trans (x:bH K L S s F ρ S' s' F' ρ') (y:bH K L S' s' F' ρ' S2 s2 F2 ρ2):bH K L S s F ρ S2 s2 F2 ρ2:=⟨y.t,x.x.trans y.x,x.rs.trans y.rs⟩
theorem bH.refl (x:InT K L S s F ρ):bH K L S s F ρ S s F ρ:=⟨x.t,.refl x.i,.refl s⟩
theorem bH.to (x:bH K L S s F ρ S' s' F' ρ') (ht:0<s2.toks) (hh:s2.heap=s'.heap:=by rfl) (rs:Rst s' s2:=by exact ⟨rfl,rfl⟩):bH K L S s F ρ S' s2 F' ρ':=⟨ht,by rw [hh]; exact x.x,x.rs.trans rs⟩
theorem bH.on (x:bH K L S s F ρ S' s' F' ρ') (ht:0<s2.toks) (y:dO K L S' s'.heap F' ρ' S2 s2.heap F2 ρ2) (rs:Rst s' s2:=by exact ⟨rfl,rfl⟩):bH K L S s F ρ S2 s2 F2 ρ2:=⟨ht,x.x.trans y,x.rs.trans rs⟩
theorem InT.on (x:InT K L S s F ρ) (ht:0<s'.toks) (y:dO K L S s.heap F ρ S' s'.heap F' ρ') (rs:Rst s s':=by exact ⟨rfl,rfl⟩):bH K L S s F ρ S' s' F' ρ':=⟨ht,y,rs⟩
theorem InT.to (x:InT K L S s F ρ) (ht:0<s'.toks) (hh:s'.heap=s.heap:=by rfl) (rs:Rst s s':=by exact ⟨rfl,rfl⟩):bH K L S s F ρ S s' F ρ:=⟨ht,by rw [hh]; exact .refl x.i,rs⟩
end
section
variable (prog:Program) (w:World) (K:Frag)
noncomputable def aU (d:Nat) (f:Value) (args:List V) (σ:List MO) (v:V) (σ':List MO):Prop:=
 ∀(A:Around) (s:Shared) (F:Fz) (ρ:Rho) (vals:List Value),dP d A→0<s.toks→InH K σ s.heap F ρ→bc F ρ args vals→ ∀R:Result→Shared→Prop,
  (∀u s' F' ρ',Stp K σ s.heap F ρ σ' s'.heap F' ρ'→bg F' ρ' v u→Rst s s'→R (.ok (.ret u)) s')→codeAny (model prog w) A (.call f ⟨vals,[]⟩) R s
noncomputable def af (c:Cx) (e:PySem.Expr) (S:St) (P:V→St→Prop):Prop:=
 ∀(A:Around) (s:Shared) (F:Fz) (ρ:Rho) (env:Env),cj c env→dP c.d A→InT K env.locals S s F ρ→ ∀(Q:Value→Shared→Prop) (E:Value→Shared→Prop),
  (∀v S' u s' F' ρ',P v S'→bH K env.locals S s F ρ S' s' F' ρ'→bg F' ρ' v u→Q u s')→wpAny (model prog w) A (eval e env) Q E s
noncomputable def aS (c:Cx) (e:PySem.Expr) (S:St) (P:Bool→St→Prop):Prop:=
 ∀(A:Around) (s:Shared) (F:Fz) (ρ:Rho) (env:Env),cj c env→dP c.d A→InT K env.locals S s F ρ→ ∀(Q:Bool→Shared→Prop) (E:Value→Shared→Prop),
  (∀b S' s' F' ρ',P b S'→bH K env.locals S s F ρ S' s' F' ρ'→Q b s')→wpAny (model prog w) A (PySem.isTrue e env (eval e env)) Q E s
noncomputable def AllK (c:Cx) (op:BoolOp) (es:List PySem.Expr) (S:St) (P:Bool→St→Prop):Prop:=
 ∀(A:Around) (s:Shared) (F:Fz) (ρ:Rho) (env:Env),cj c env→dP c.d A→InT K env.locals S s F ρ→ ∀(Q:Bool→Shared→Prop) (E:Value→Shared→Prop),
  (∀b S' s' F' ρ',P b S'→bH K env.locals S s F ρ S' s' F' ρ'→Q b s')→wpAny (model prog w) A (allTrue op es env) Q E s
noncomputable def bB (c:Cx) (es:List PySem.Expr) (S:St) (P:List V→St→Prop):Prop:=
 ∀(A:Around) (s:Shared) (F:Fz) (ρ:Rho) (env:Env),cj c env→dP c.d A→InT K env.locals S s F ρ→ ∀(pos:Pos) (Q:List Value→Shared→Prop) (E:Value→Shared→Prop),
  (∀v S' u s' F' ρ',P v S'→bH K env.locals S s F ρ S' s' F' ρ'→bc F' ρ' v u→Q u s')→wpAny (model prog w) A (spliced (backTo pos (starEach es env))) Q E s
noncomputable def aV (c:Cx) (st:Stmt) (S:St) (P:Fl→St→Prop):Prop:=
 ∀(A:Around) (s:Shared) (F:Fz) (ρ:Rho) (env:Env),cj c env→dP c.d A→InT K env.locals S s F ρ→ ∀(Q:Flow→Shared→Prop) (E:Value→Shared→Prop),
  (∀fl S' u s' F' ρ',P fl S'→bH K env.locals S s F ρ S' s' F' ρ'→mY F' ρ' fl u→Q u s')→wpAny (model prog w) A (exec st env) Q E s
noncomputable def aP (c:Cx) (st:List Stmt) (S:St) (P:Fl→St→Prop):Prop:=
 ∀(A:Around) (s:Shared) (F:Fz) (ρ:Rho) (env:Env),cj c env→dP c.d A→InT K env.locals S s F ρ→ ∀(Q:Flow→Shared→Prop) (E:Value→Shared→Prop),
  (∀fl S' u s' F' ρ',P fl S'→bH K env.locals S s F ρ S' s' F' ρ'→mY F' ρ' fl u→Q u s')→wpAny (model prog w) A (execs st env) Q E s
noncomputable def oU (f:Value→Sem Value):List Value→Sem Value
 |[u]=>f u
 |_=>unsupported ""
noncomputable def oB (f:Value→Value→Sem Value):List Value→Sem Value
 |[u,v]=>f u v
 |_=>unsupported ""
noncomputable def OpK (t:List Value→Sem Value) (d:Nat) (args:List V) (S:St) (P:V→St→Prop):Prop:=
 ∀(A:Around) (s:Shared) (F:Fz) (ρ:Rho) (L:Addr) (vals:List Value),dP d A→InT K L S s F ρ→bc F ρ args vals→ ∀(Q:Value→Shared→Prop) (E:Value→Shared→Prop),
  (∀v S' u s' F' ρ',P v S'→bH K L S s F ρ S' s' F' ρ'→bg F' ρ' v u→Q u s')→wpAny (model prog w) A (t vals) Q E s
end
section
variable {prog:Program} {w:World} {K:Frag} {c:Cx} {S:St}
theorem af.mono {e:PySem.Expr} {P P':V→St→Prop} (x:af prog w K c e S P) (h: ∀v T,P v T→P' v T):af prog w K c e S P':=
 fun A s F ρ env he hr hi Q E q=>x A s F ρ env he hr hi Q E fun v S' u s' F' ρ' p=>q v S' u s' F' ρ' (h v S' p)
theorem af.bin {l r:PySem.Expr} {op:Operator} {pos:Pos} {P:V→St→Prop} (x:af prog w K c l S fun a S1=>af prog w K c r S1 fun b S2=>OpK prog w K (oB (binaryOp op)) c.d [a,b] S2 P):
  af prog w K c (.BinOp l op r pos) S P:=fun A s F ρ env he hr hi Q E q=>by
 refine wpAny_BinOp (x A s F ρ env he hr hi _ _ fun a S1 u s1 F1 ρ1 y st1 r1=>y A s1 F1 ρ1 env he hr st1.I _ _ fun b S2 u2 s2 F2 ρ2 z st2 r2=> ?_)
 exact z A s2 F2 ρ2 env.locals [u,u2] hr st2.I (.cons (r1.mono st2.k.ff st2.r) (.cons r2 .nil)) Q E fun v S' u' s' F' ρ' p st3 r3=>q v S' u' s' F' ρ' p ((st1.trans st2).trans st3) r3
theorem af.un {e:PySem.Expr} {op:UnaryOp} {pos:Pos} {P:V→St→Prop} (x:af prog w K c e S fun a S1=>OpK prog w K (oU (unaryOp op)) c.d [a] S1 P):
  af prog w K c (.UnaryOp op e pos) S P:=fun A s F ρ env he hr hi Q E q=>by
 refine wpAny_UnaryOp (x A s F ρ env he hr hi _ _ fun a S1 u s1 F1 ρ1 y st1 r1=> ?_)
 exact y A s1 F1 ρ1 env.locals [u] hr st1.I (.cons r1 .nil) Q E fun v S' u' s' F' ρ' p st3 r3=>q v S' u' s' F' ρ' p (st1.trans st3) r3
theorem af.cmp {l r:PySem.Expr} {op:CmpOp} {pos:Pos} {P:V→St→Prop} (hm:behindInMarks op r=false) (x:af prog w K c l S fun a S1=>af prog w K c r S1 fun b S2=>OpK prog w K (oB (compareOp op)) c.d [a,b] S2 P):
  af prog w K c (.Compare l [op] [r] pos) S P:=fun A s F ρ env he hr hi Q E q=>by
 refine wpAny_Compare1 (x A s F ρ env he hr hi _ _ fun a S1 u s1 F1 ρ1 y st1 r1=>y A s1 F1 ρ1 env he hr st1.I _ _ fun b S2 u2 s2 F2 ρ2 z st2 r2=> ?_) hm
 exact z A s2 F2 ρ2 env.locals [u,u2] hr st2.I (.cons (r1.mono st2.k.ff st2.r) (.cons r2 .nil)) Q E fun v S' u' s' F' ρ' p st3 r3=>q v S' u' s' F' ρ' p ((st1.trans st2).trans st3) r3
theorem af.ite {t a b:PySem.Expr} {pos:Pos} {P:V→St→Prop} (x:aS prog w K c t S fun y S1=>af prog w K c (if y then a else b) S1 P):af prog w K c (.IfExp t a b pos) S P:=fun A s F ρ env he hr hi Q E q=>by
 refine wpAny_IfExp (x A s F ρ env he hr hi _ _ fun y S1 s1 F1 ρ1 z st1=> ?_)
 have:=z A s1 F1 ρ1 env he hr st1.I Q E fun v S' u' s' F' ρ' p st3 r3=>q v S' u' s' F' ρ' p (st1.trans st3) r3
 cases y<;>exact this
theorem aS.not {e:PySem.Expr} {pos:Pos} {P:Bool→St→Prop} (x:aS prog w K c e S fun b S1=>P (!b) S1):aS prog w K c (.UnaryOp .Not e pos) S P:=fun A s F ρ env he hr hi Q E q=>
 wpAny_isTrue_Not (x A s F ρ env he hr hi _ _ fun b S1 s1 F1 ρ1 z st1=>q _ S1 s1 F1 ρ1 z st1)
theorem aS.bool {op:BoolOp} {es:List PySem.Expr} {pos:Pos} {P:Bool→St→Prop} (x:AllK prog w K c op es S P):aS prog w K c (.BoolOp op es pos) S P:=fun A s F ρ env he hr hi Q E q=>
 wpAny_isTrue_BoolOp (x A s F ρ env he hr hi Q E q)
theorem AllK.nil {op:BoolOp} {P:Bool→St→Prop} (x:P (op== .And) S):AllK prog w K c op [] S P:=fun A s F ρ env he hr hi Q E q=>by
 cases op
 ·exact wpAny_allTrue_And_nil (q _ S s F ρ x (.refl hi))
 ·exact wpAny_allTrue_Or_nil (q _ S s F ρ x (.refl hi))
theorem AllK.cons {op:BoolOp} {e:PySem.Expr} {es:List PySem.Expr} {P:Bool→St→Prop} (x:aS prog w K c e S fun b S1=>if b=(op== .And) then AllK prog w K c op es S1 P else P b S1):AllK prog w K c op (e::es) S P:=fun A s F ρ env he hr hi Q E q=>by
 cases op
 ·refine wpAny_allTrue_And_cons (x A s F ρ env he hr hi _ _ fun b S1 s1 F1 ρ1 z st1=> ?_)
  cases b
  ·exact q _ S1 s1 F1 ρ1 z st1
  ·exact z A s1 F1 ρ1 env he hr st1.I Q E fun v S' s' F' ρ' p st3=>q v S' s' F' ρ' p (st1.trans st3)
 ·refine wpAny_allTrue_Or_cons (x A s F ρ env he hr hi _ _ fun b S1 s1 F1 ρ1 z st1=> ?_)
  cases b
  ·exact z A s1 F1 ρ1 env he hr st1.I Q E fun v S' s' F' ρ' p st3=>q v S' s' F' ρ' p (st1.trans st3)
  ·exact q _ S1 s1 F1 ρ1 z st1
noncomputable def gg (v:V) (P:Bool→Prop):Prop:=match v with
 | .f (.bool b)=>P b
 |_=>False
theorem ix {A:Around} {s:Shared} {E:Value→Shared→Prop} {M:Model} {F:Fz} {ρ:Rho} {v:V} {u:Value} {P:Bool→Prop} {Q:Bool→Shared→Prop} (b:gg v P) (r:bg F ρ v u) (q: ∀b,P b→Q b s):wpAny M A (truthy u) Q E s:=by
 unfold gg at b
 split at b
 ·have e:=r.inv.invBool; subst e; exact wpAny_truthy_bool (q _ b)
 ·cases b
theorem aS.plain {e:PySem.Expr} {P:Bool→St→Prop} (hp: ∀env:Env,PySem.isTrue e env (eval e env)=do let v←eval e env; standAt e.pos; holding [v] (truthy v)) (x:af prog w K c e S fun v S1=>gg v fun b=>P b S1):aS prog w K c e S P:=fun A s F ρ env he hr hi Q E q=>by
 refine wpAny_isTrue_value (x A s F ρ env he hr hi _ _ fun v S1 u s1 F1 ρ1 z st1 r1=> ?_) (hp env)
 exact ix z r1 fun b y=>q b S1 s1 F1 ρ1 y st1
theorem aS.cmp {l r:PySem.Expr} {op:CmpOp} {pos:Pos} {P:Bool→St→Prop} (hm:behindInMarks op r=false) (x:af prog w K c l S fun a S1=>af prog w K c r S1 fun b S2=>OpK prog w K (oB (compareOp op)) c.d [a,b] S2 fun v S3=>gg v fun b=>P b S3):
  aS prog w K c (.Compare l [op] [r] pos) S P:=fun A s F ρ env he hr hi Q E q=>by
 refine wpAny_isTrue_Compare1 (x A s F ρ env he hr hi _ _ fun a S1 u s1 F1 ρ1 y st1 r1=>y A s1 F1 ρ1 env he hr st1.I _ _ fun b S2 u2 s2 F2 ρ2 z st2 r2=> ?_) hm
 refine z A s2 F2 ρ2 env.locals [u,u2] hr st2.I (.cons (r1.mono st2.k.ff st2.r) (.cons r2 .nil)) _ E fun v S' u' s' F' ρ' p st3 r3=> ?_
 exact ix p r3 fun b y=>q b S' s' F' ρ' y ((st1.trans st2).trans st3)
theorem yD {α:Type} {M:Model} {A:Around} {E:Value→Shared→Prop} {s:Shared} {vs:List Value} {m:Sem Value} {k:Value→Sem α} {Q:α→Shared→Prop} (h:wpAny M A m (fun v s'=>wpAny M A (k v) Q E s') E s):wpAny M A (operate vs m>>=k) Q E s:=by
 refine wpAny_bind ?_
 unfold operate
 refine wpAny_bind (wpAny_holding (wpAny_mono h (fun v s' h'=>wpAny_bind (wpAny_release (wpAny_pure h'))) fun _ _ x=>x))
theorem aS.chain {l m r:PySem.Expr} {op op2:CmpOp} {pos:Pos} {P:Bool→St→Prop} (hm:behindInMarks op2 r=false)
  (x:af prog w K c l S fun a S1=>af prog w K c m S1 fun b S2=>OpK prog w K (oB (compareOp op)) c.d [a,b] S2 fun v S3=>gg v fun t=>
   if t then af prog w K c r S3 fun d S4=>OpK prog w K (oB (compareOp op2)) c.d [b,d] S4 fun v S5=>gg v fun t=>P t S5 else P false S3):
  aS prog w K c (.Compare l [op,op2] [m,r] pos) S P:=fun A s F ρ env he hr hi Q E q=>by
 rw [arm_isTrue_Compare]
 refine wpAny_bind (x A s F ρ env he hr hi _ _ fun a S1 u s1 F1 ρ1 y st1 r1=> ?_)
 have e1:markedEach [op,op2] [m,r] (evalEach [m,r] env)=[eval m env,eval r env]:=by
  rw [arm_evalEach_cons,arm_evalEach_cons,arm_evalEach_nil]
  show [eval m env,markedBehindIn op2 r (eval r env)]=_
  rw [markedBehindIn_of_false hm]
 rw [e1]
 unfold testChain
 refine wpAny_bind (wpAny_holding (y A s1 F1 ρ1 env he hr st1.I _ _ fun b S2 u2 s2 F2 ρ2 z st2 r2=> ?_))
 refine wpAny_bind (wpAny_standAt (wpAny_bind (wpAny_holding ?_)))
 refine z A s2 F2 ρ2 env.locals [u,u2] hr st2.I (.cons (r1.mono st2.k.ff st2.r) (.cons r2 .nil)) _ E fun v S3 u3 s3 F3 ρ3 p st3 r3=> ?_
 have st13:=(st1.trans st2).trans st3
 refine wpAny_bind (wpAny_release ?_)
 refine wpAny_bind (wpAny_holding (ix p r3 fun t y=> ?_))
 cases t
 ·exact wpAny_pure (q false S3 s3 F3 ρ3 y st13)
 ·refine wpAny_bind (wpAny_holding (y A s3 F3 ρ3 env he hr st3.I _ _ fun d S4 u4 s4 F4 ρ4 y st4 r4=> ?_))
  refine wpAny_bind (wpAny_standAt (yD ?_))
  refine y A s4 F4 ρ4 env.locals [u2,u4] hr st4.I (.cons (r2.mono (st3.k.ff.trans st4.k.ff) (st3.r.trans st4.r)) (.cons r4 .nil)) _ E fun v S5 u5 s5 F5 ρ5 p st5 r5=> ?_
  exact wpAny_holding (ix p r5 fun b y=>q b S5 s5 F5 ρ5 y ((st13.trans st4).trans st5))
end
end MineS
set_option backward.match.sparseCases true
namespace MineS
open PySem PySem.W PySem.Calls PyProof.Rows
structure Gl where
 glb:List (Str×Fv)
 bin:List (Str×Fv)
 bis:List (Str×String)
 fns:List Nat
 att:List (Nat×List Str)
 mth:List (Nat×List (Str×Nat))
 dcs:List (Nat×List (List Nat×Fv))
 own:List Nat
 sup:List (Nat×List Nat)
noncomputable def lM (x:Str):List Str→Bool
 |[]=>false
 |y::r=>match sq x y with
  |true=>true
  |false=>lM x r
noncomputable def cC (a:Nat):List Nat→Bool
 |[]=>false
 |b::r=>match Nat.beq a b with
  |true=>true
  |false=>cC a r
noncomputable def bx {α:Type} (a:Nat):List (Nat×α)→Option α
 |[]=>none
 |(b,v)::r=>match Nat.beq a b with
  |true=>some v
  |false=>bx a r
noncomputable def iy (G:Gl) (c:Nat) (x:Str):Bool:=match bx c G.att with
 |some l=>lM x l
 |none=>false
noncomputable def fG (G:Gl) (c:Nat) (x:Str):Option Nat:=match bx c G.mth with
 |some l=>look x l
 |none=>none
noncomputable def lkN {α:Type} (k:List Nat):List (List Nat×α)→Option α
 |[]=>none
 |(y,v)::r=>match az y k with
  |true=>some v
  |false=>lkN k r
noncomputable def eK:Fv→PyData
 | .int i=> .int i
 | .str cs=> .str ⟨cs.toArray⟩
 |_=> .none
noncomputable def eh:Fv→Bool
 | .int _=>true
 | .str _=>true
 |_=>false
structure GOK (prog:Program) (w:World) (K:Frag) (G:Gl) where
 mg:Str→Option Value
 mb:Str→Option Value
 g3: ∀h:Heap,K.In h→h.Ns 3 mg
 b0: ∀h:Heap,K.In h→h.Ns 0 mb
 glb: ∀x f,look x G.glb=some f→ ∃u,mg x=some u∧ ∀F:Fz,FLe (fun a=>K.lookup a) F→aG F f u
 bin: ∀x f,look x G.bin=some f→mg x=none∧ ∃u,mb x=some u∧ ∀F:Fz,FLe (fun a=>K.lookup a) F→aG F f u
 bis: ∀x i,look x G.bis=some i→mg x=none∧mb x=some (.builtin i)
 fns: ∀a,cC a G.fns=true→keepIn K (.ref a)=true
 ga: ∀c l,bx c G.att=some l→findIn K (.ref c) (Str.ofString "__getattribute__")=some (some (.builtin "object.__getattribute__"))∧findIn K (.ref c) (Str.ofString "__setattr__")=some (some (.builtin "object.__setattr__"))∧hasDictIn K c=true∧plainOver K c=true
 att: ∀c x,iy G c x=true→ ∃r,findIn K (.ref c) x=some r∧noGet K r=true∧takerIn K c x=some none
 gm: ∀c l,bx c G.mth=some l→findIn K (.ref c) (Str.ofString "__getattribute__")=some (some (.builtin "object.__getattribute__"))∧findIn K (.ref c) (Str.ofString "__getattr__")=some none
 mth: ∀c x f,fG G c x=some f→findIn K (.ref c) x=some (some (.ref f))∧typeIn K (.ref f)=some (.type "function")∧keepIn K (.ref f)=true
 own: ∀D,cC D G.own=true→plainGet K D (Str.ofString "__class__")=true∧hasDictIn K D=true∧findIn K (.ref D) (Str.ofString "__class__")=some (some (.builtin "object.__class__"))∧specialIn K (.builtin "object.__class__") (Str.ofString "__get__")=some (some (.builtin "getset_descriptor.__get__"))∧takesIn K (.builtin "object.__class__")=some true∧mroIn K D (.type "object")=some true
 sup: ∀D l C,bx D G.sup=some l→cC C G.own=true→kitOne K (.ref D) (.ref C)=some (cC C l)
 dcs: ∀a kv,bx a G.dcs=some kv→(∀p∈kv,eh p.2=true)∧ ∀h:Heap,K.In h→IsDict prog w h a (kv.map fun p=>(.str ⟨p.1.toArray⟩,eK p.2)) []
theorem aG.handed {F:Fz} {f:Fv} {u:Value} (r:aG F f u):handedIn u=true:=by cases r<;>rfl
theorem bg.handed {F:Fz} {ρ:Rho} {f:V} {u:Value} (r:bg F ρ f u):handedIn u=true:=by
 cases r with
 |f r=>exact r.handed
 |r _=>rfl
noncomputable def kind? (c:Cx) (x:Str):Option NameKind:=look x c.names
theorem dZ {α:Type} (x:Str): ∀l:List (Str×α),look x l=l.lookup x
 |[]=>rfl
 |(y,v)::r=>by
  unfold look
  simp only [List.lookup]
  by_cases h:x=y
  ·subst h; rw [gU]; simp
  ·have:sq x y=false:=by
    cases q:sq x y with
    |false=>rfl
    |true=>exact absurd ((bU _ _).mp q) h
   rw [this]
   have:(x==y)=false:=by simpa using h
   rw [this]
   exact dZ x r
theorem cj.kindOf {c:Cx} {env:Env} (e:cj c env) (x:Str):env.kindOf x=kind? c x:=by
 unfold Env.kindOf kind?; rw [e.names,dZ]
section
variable {prog:Program} {w:World} {K:Frag} {G:Gl} {c:Cx} {S:St}
theorem InH.kin {σ:List MO} {h:Heap} {F:Fz} {ρ:Rho} (I:InH K σ h F ρ):K.In h:=fun a o e=>I.fh a o (I.kf a o e)
theorem InH.kle {σ:List MO} {h:Heap} {F:Fz} {ρ:Rho} (I:InH K σ h F ρ):FLe (fun a=>K.lookup a) F:=I.kf
noncomputable def dbg:Str:=⟨#[95,95,100,101,98,117,103,95,95]⟩
theorem GB:dbg=Str.ofString "__debug__":=by decide
theorem fu {x:Str} (h:sq x dbg=false):(x==Str.ofString "__debug__")=false:=by
 rw [←GB]
 cases q:x==dbg with
 |false=>rfl
 |true=>rw [beq_iff_eq.mp q,gU] at h; cases h
theorem af.local {x:Str} {pos:Pos} {v:V} {P:V→St→Prop} (hd:sq x dbg=false) (hk:kind? c x=some .local) (hl:look x S.loc=some v) (p:P v S):af prog w K c (.Name x pos) S P:=fun A s F ρ env he hr hi Q E q=>by
 refine aA hi.ns fun vs hn rv=> ?_
 refine aA (rv.get hl) fun u h1 h2=> ?_
 exact wpAny_Name (wpAny_loadName_local he.kind ((he.kindOf x).trans hk) hn h1 (q v S u s F ρ p (.refl hi) h2)) (fu hd)
theorem af.global (g:GOK prog w K G) {x:Str} {pos:Pos} {f:Fv} {P:V→St→Prop} (hd:sq x dbg=false) (hk:kind? c x=some .globalImplicit) (hl:look x G.glb=some f) (p:P (.f f) S):af prog w K c (.Name x pos) S P:=fun A s F ρ env he hr hi Q E q=>by
 refine aA (g.glb x f hl) fun u h1 h2=> ?_
 have n:=g.g3 s.heap hi.H.kin
 exact Name_function_global he.kind ((he.kindOf x).trans hk) (loadGlobal_global (by rw [he.globals]; exact n) h1 (q _ S u s F ρ p (.refl hi) (.f (h2 F hi.H.kle)))) (fu hd)
theorem af.builtinTy (g:GOK prog w K G) {x:Str} {pos:Pos} {f:Fv} {P:V→St→Prop} (hd:sq x dbg=false) (hk:kind? c x=some .globalImplicit) (hl:look x G.bin=some f) (p:P (.f f) S):af prog w K c (.Name x pos) S P:=fun A s F ρ env he hr hi Q E q=>by
 refine bG (g.bin x f hl) fun h0 y3w0=> ?_; refine aA y3w0 fun u h1 h2=> ?_
 have n:=g.g3 s.heap hi.H.kin
 have n':=g.b0 s.heap hi.H.kin
 exact Name_function_global he.kind ((he.kindOf x).trans hk) (loadGlobal_builtin (by rw [he.globals]; exact n) h0 (by rw [he.builtins]; exact n') h1 (q _ S u s F ρ p (.refl hi) (.f (h2 F hi.H.kle)))) (fu hd)
noncomputable def cst:Const→Option Fv
 | .none=>some .none
 | .bool b=>some (.bool b)
 | .int i=>some (.int i)
 | .str s=>some (.str s.cps.toList)
 | .bytes b=>some (.bytes b.toArray)
 |_=>none
theorem af.const {k:Const} {n:Nat} {pos:Pos} {f:Fv} {P:V→St→Prop} (e:cst k=some f) (p:P (.f f) S):af prog w K c (.Constant k n pos) S P:=fun A s F ρ env he hr hi Q E q=>by
 rw [arm_eval_Constant]
 cases k<;>simp only [cst,Option.some.injEq,reduceCtorEq] at e<;>subst e
 ·exact wpAny_pure (q _ S _ s F ρ p (.refl hi) (.f .none))
 ·exact wpAny_pure (q _ S _ s F ρ p (.refl hi) (.f (.bool _)))
 ·exact wpAny_mkInt (q _ S _ _ F ρ p (hi.to (Nat.succ_pos _)) (.f (.int _ _)))
 ·exact wpAny_mkText (q _ S _ _ F ρ p (hi.to (Nat.succ_pos _)) (.f (.str _ _)))
 ·exact wpAny_mkTextBytes (q _ S _ _ F ρ p (hi.to (Nat.succ_pos _)) (.f (.bytes _ _)))
noncomputable def d0:PySem.Expr→Bool
 | .Call (.Name _ _) [] [] _=>false
 |_=>true
theorem g4 {o:PySem.Expr} {a:Str} {env:Env} {t:Sem Value} (h:d0 o=true):attributeBase o a env t=t:=by
 unfold attributeBase
 split
 ·cases h
 ·rfl
theorem NsO.look {od:Obj} {m:Str→Option Value} (n:NsO od m) (x:Str):lookIn x od=some (m x):=by
 refine bw n fun es ep hd hk hm=> ?_
 unfold lookIn
 rw [hd]
 dsimp only
 have:=hm x
 unfold nsFind findBy at this
 rw [←Array.find?_toList] at this
 split
 ·rename_i e he; rw [he] at this; rw [←this]; rfl
 ·rename_i he
  rw [he] at this
  rw [if_neg,←this]; rfl
  intro hany
  refine aA (List.any_eq_true.mp hany) fun e h1 h2=> ?_
  refine OE (hk e (by simpa using h1)) fun n t hk=> ?_
  simp [DictEntry.refKey,hk] at h2
theorem NsO.of_ns {h:Heap} {a:Addr} {m:Str→Option Value} (n:h.Ns a m): ∃od,h.get? a=some od∧NsO od m:=by
 refine AJ n fun o es ep ho r=> ?_; exact ⟨o,ho,es,ep,r⟩
noncomputable def GC (x:Str):Fv→Option (Addr×V)
 | .obj c fs=>(look x fs).map fun y=>(c,.f y)
 |_=>none
noncomputable def GD (x:Str):MO→Option (Addr×V)
 | .inst c fs=>(look x fs).map fun y=>(c,y)
 |_=>none
noncomputable def xa (S:St) (v:V) (x:Str):Option (Addr×V):=match v with
 | .f f=>GC x f
 | .r i=>S.σ[i]?.bind (GD x)
theorem Dl {x:Str} {f:Fv} {q:Addr×V} (e:GC x f=some q): ∃fs y,f= .obj q.1 fs∧look x fs=some y∧q.2= .f y:=by
 cases f with
 |obj c fs=>
  refine aA (Option.map_eq_some_iff.mp e) fun y h e=> ?_
  subst e; exact ⟨fs,y,rfl,h,rfl⟩
 |_=>exact noS e
theorem Dm {x:Str} {m:MO} {q:Addr×V} (e:GD x m=some q): ∃fs,m= .inst q.1 fs∧look x fs=some q.2:=by
 cases m with
 |inst c fs=>
  refine aA (Option.map_eq_some_iff.mp e) fun y h e=> ?_
  subst e; exact ⟨fs,rfl,h⟩
 |_=>exact noS e
theorem AM {L:Addr} {h:Heap} {F:Fz} {ρ:Rho} (I:InS K L S h F ρ) {v:V} {u:Value} (r:bg F ρ v u) {x:Str} {C:Addr} {y:V} (e:xa S v x=some (C,y)):
  ∃a dx od m u',u= .ref a∧W.InstAt h a (instObj C dx) C (some od)∧NsO od m∧m x=some u'∧bg F ρ y u':=by
 cases v with
 |f f=>
  obtain ⟨fs,z,hf,hl,hy⟩:=Dl e
  subst hf; cases hy
  obtain ⟨a,dx,od,vs,hu,h1,h2,h3,r⟩:=r.inv.invObj2
  obtain ⟨u',q1,q2⟩:=r.get hl
  exact ⟨a,dx,od,_,u',hu,⟨I.H.fh _ _ h1,rfl,rfl,I.H.fh _ _ h2⟩,h3,q1,.f q2⟩
 |r i=>
  obtain ⟨m,hs,e⟩:=Option.bind_eq_some_iff.mp e
  obtain ⟨fs,hm,hl⟩:=Dm e
  subst hm
  obtain ⟨a,d,hu,hp⟩:=r.invR
  obtain ⟨vs,h1,h2,h3⟩:=(I.H.ob _ _ _ hs hp).invInst
  obtain ⟨od,ho,hn⟩:=NsO.of_ns h2.ns
  obtain ⟨u',q1,q2⟩:=h3.get hl
  exact ⟨a,d,od,_,u',hu,⟨h1,rfl,rfl,ho⟩,hn,q1,q2⟩
theorem uW {G:Gl} {C:Addr} {x:Str} (ha:iy G C x=true): ∃l,bx C G.att=some l:=by
 unfold iy at ha
 cases h:bx C G.att with
 |some l=>exact ⟨l,rfl⟩
 |none=>rw [h] at ha; cases ha
theorem af.attr (g:GOK prog w K G) {e:PySem.Expr} {x:Str} {pos:Pos} {P:V→St→Prop} (hs:d0 e=true)
  (X:af prog w K c e S fun v S1=> ∃C y,xa S1 v x=some (C,y)∧iy G C x=true∧P y S1):af prog w K c (.Attribute e x pos) S P:=fun A s F ρ env he hr hi Q E q=>by
 rw [arm_eval_Attribute,g4 hs]
 refine wpAny_bind (X A s F ρ env he hr hi _ _ fun v S1 u s1 F1 ρ1 ⟨C,y,hf,ha,hp⟩ st1 r1=> ?_)
 refine OH (AM st1.I.i r1 hf) fun a dx od m u' y11e1 hi' hn hm ry=> ?_; subst y11e1
 refine bI (uW ha) fun l hl=> ?_
 refine Gz (g.ga C l hl) fun k1 k2 k3 k4=> ?_
 refine w8 (g.att C x ha) fun r j1 j2 j3=> ?_
 refine wpAny_bind (wpAny_standAt (wpAny_bind (wpAny_holding (get_value st1.I.H.kin hi' k1 (findObj_own k3 j1 j2 (by rw [hn.look,hm])) ry.handed ?_))))
 exact wpAny_bind (wpAny_letTemporaryGo (wpAny_pure (q y S1 u' _ F1 ρ1 hp (st1.to (Nat.succ_pos _)) ry)))
end
end MineS
set_option backward.match.sparseCases false
namespace MineS
open PySem PySem.W PySem.Calls PyProof.Rows
noncomputable def bV:PySem.Expr→Bool
 | .Starred _ _=>true
 |_=>false
noncomputable def bk:List PySem.Expr→Bool
 |[]=>true
 |e::r=>match bV e with
  |true=>false
  |false=>bk r
theorem bY {e:PySem.Expr} {r:List PySem.Expr} {env:Env} (h:bV e=false):starEach (e::r) env=(false,eval e env)::starEach r env:=by
 cases e<;>first|rfl|cases h
theorem da {pos:Pos} {t:Sem Value} {r:List (Bool×Sem Value)}:backTo pos ((false,t)::r)=(false,t)::backTo pos r:=rfl
theorem eQ {pos:Pos} {env:Env}: ∀{es:List PySem.Expr},bk es=true→((backTo pos (starEach es env)).any fun x=>x.1)=false
 |[],_=>rfl
 |e::r,h=>by
  unfold bk at h
  split at h
  ·cases h
  ·rename_i q
   rw [bY q,da,List.any_cons,eQ h]; rfl
theorem lz {pos:Pos} {env:Env}: ∀{es:List PySem.Expr},bk es=true→((backTo pos (starEach es env)).all fun x=> !x.1)=true
 |[],_=>rfl
 |e::r,h=>by
  unfold bk at h
  split at h
  ·cases h
  ·rename_i q
   rw [bY q,da,List.all_cons,lz h]; rfl
section
variable {prog:Program} {w:World} {K:Frag} {G:Gl} {c:Cx} {S:St}
theorem bB.nil {P:List V→St→Prop} (p:P [] S):bB prog w K c [] S P:=fun A s F ρ env he hr hi pos Q E q=>
 spliced_nil (q [] S [] s F ρ p (.refl hi) .nil)
theorem bB.cons {e:PySem.Expr} {es:List PySem.Expr} {P:List V→St→Prop} (hs:bV e=false) (X:af prog w K c e S fun v S1=>bB prog w K c es S1 fun vs S2=>P (v::vs) S2):
  bB prog w K c (e::es) S P:=fun A s F ρ env he hr hi pos Q E q=>by
 rw [bY hs,da]
 refine spliced_cons (X A s F ρ env he hr hi _ _ fun v S1 u s1 F1 ρ1 y st1 r1=>y A s1 F1 ρ1 env he hr st1.I pos _ _ fun vs S2 us s2 F2 ρ2 z st2 r2=> ?_)
 exact q _ S2 _ s2 F2 ρ2 z (st1.trans st2) (.cons (r1.mono st2.k.ff st2.r) r2)
theorem cQ.cut {h:Heap} {F:Fz} {ρ:Rho} {k:Nat} {m:MO} {p:Addr×Addr} (R:cQ h F ρ m p) (o:okM k m=true):cQ h F (ρ.take k) m p:=by
 cases R with
 |list w1 w2=>exact .list w1 w2
 |inst w1 w2 w3=>exact .inst w1 w2 (w3.cut o)
 |dead=>exact .dead
theorem InH.take {σ:List MO} {h:Heap} {F:Fz} {ρ:Rho} (I:InH K σ h F ρ) {n:Nat} (ok:fF n (σ.take n)=true):InH K (σ.take n) h F (ρ.take n):=by
 have at_: ∀(i:Nat) (m:MO),(σ.take n)[i]? =some m→i<n∧σ[i]? =some m:=by
  intro i m e
  have hi:=(List.getElem?_eq_some_iff.mp e).1
  rw [List.length_take] at hi
  rw [List.getElem?_take_of_lt (by omega)] at e
  exact ⟨by omega,e⟩
 have atr: ∀(i:Nat) (p:Addr×Addr),i<n→(ρ.take n)[i]? =some p→ρ[i]? =some p:=by
  intro i p hi e
  rw [List.getElem?_take_of_lt hi] at e; exact e
 refine ⟨I.kf,I.fh,by simp [I.len],?_,fun a l=> ?_,?_⟩
 ·intro i j m p m' p' a hij h1 h2 h3 h4 h5 h6
  obtain ⟨a1,a2⟩:=at_ i m h1
  obtain ⟨b1,b2⟩:=at_ j m' h3
  exact I.dj i j m p m' p' a hij a2 (atr i p a1 h2) b2 (atr j p' b1 h4) h5 h6
 ·refine dN l fun i m p h1 h2 h3=> ?_
  obtain ⟨a1,a2⟩:=at_ i m h1
  exact I.off a ⟨i,m,p,a2,atr i p a1 h2,h3⟩
 ·intro i m p h1 h2
  obtain ⟨a1,a2⟩:=at_ i m h1
  have o:=lL ok h1
  exact (I.ob i m p a2 (atr i p a1 h2)).cut o
noncomputable def tF (k:Nat):List V→Bool
 |[]=>true
 |v::r=>match okV k v with
  |true=>tF k r
  |false=>false
theorem bc.cut {F:Fz} {ρ:Rho} {k:Nat} {v:List V} {u:List Value} (o:tF k v=true) (r:bc F ρ v u):bc F (ρ.take k) v u:=by
 induction r with
 |nil=>exact .nil
 |cons h _ ih=>
  unfold tF at o
  split at o
  ·rename_i q; exact .cons (h.cut q) (ih o)
  ·cases o
theorem OpK.runs {d n:Nat} {f:Value} {args:List V} {v:V} {σ':List MO} {P:V→St→Prop} (x:aU prog w K d f args (S.σ.take n) v σ') (hd:d≤c.d) (h1:tF n args=true) (h2:fF n (S.σ.take n)=true)
  (h3:σ'.length=n∧n≤S.σ.length∨S.σ.length≤n) (p:P v ⟨S.loc,σ'++S.σ.drop n⟩):OpK prog w K (fun vs=>call f vs) c.d args S P:=fun A s F ρ L vals hr hi ra Q E q=>by
 have e:ρ.length=S.σ.length:=hi.H.len
 have H1:=hi.H.take h2
 refine wpAny_with_toks (n:=1) hi.t ?_
 refine wpAny_call (x A s F (ρ.take n) vals (hr.le hd) hi.t H1 (ra.cut h1) _ fun u s' F' ρ' st r rs ht=> ?_)
 have I':InH K (S.σ.take n++S.σ.drop n) s.heap F (ρ.take n++ρ.drop n):=by rw [List.take_append_drop,List.take_append_drop]; exact hi.H
 have stp:Stp K S.σ s.heap F ρ (σ'++S.σ.drop n) s'.heap F' (ρ'++ρ.drop n):=by
  rcases h3 with ⟨h3,h4⟩|h3
  ·have:=Stp.frame I' (by simp [e]) st (by simp [h3,List.length_take]; omega)
   rwa [List.take_append_drop,List.take_append_drop] at this
  ·have t1:S.σ.take n=S.σ:=List.take_of_length_le h3
   have t2:ρ.take n=ρ:=List.take_of_length_le (by omega)
   have t3:S.σ.drop n=[]:=List.drop_of_length_le h3
   have t4:ρ.drop n=[]:=List.drop_of_length_le (by omega)
   rw [t3,t4,List.append_nil,List.append_nil]
   rwa [t1,t2] at st
 exact q v _ u s' F' _ p (hi.on ht (hi.i.stp stp) rs) (r.mono (.refl _) (.app _ _))
theorem fg {A:Around} {E:Value→Shared→Prop} {s:Shared} {M:Model} {env:Env} {pos:Pos} {f:Value} {first:List Value} {args:List PySem.Expr} {Q:Value→Shared→Prop} (X:K.In s.heap) (hk:keepIn K f=true) (hs:bk args=true)
  (h:wpAny M A (spliced (backTo pos (starEach args env))) (fun vs s1=>K.In s1.heap∧wpAny M A (call f (first++vs)) Q E s1) E s):wpAny M A (callWith pos f first (backTo pos (starEach args env)) []) Q E s:=by
 cases args with
 |nil=>exact fun Γ p hΓ=>(callWith_K0 X hk (h Γ p hΓ).2) Γ p hΓ
 |cons e r=>
  have hs':bV e=false∧bk r=true:=by
   unfold bk at hs; split at hs
   ·cases hs
   ·exact ⟨by assumption,hs⟩
  exact callWith_K X hk h (bY hs'.1) (eQ hs'.2)
theorem af.call (g:GOK prog w K G) {f:Str} {fp pos:Pos} {args:List PySem.Expr} {P:V→St→Prop} (hs:bk args=true)
  (X:af prog w K c (.Name f fp) S fun fv S1=> ∃a,fv= .f (.glob a)∧cC a G.fns=true∧bB prog w K c args S1 fun vs S2=>OpK prog w K (fun vs=>PySem.call (.ref a) vs) c.d vs S2 P):
  af prog w K c (.Call (.Name f fp) args [] pos) S P:=fun A s F ρ env he hr hi Q E q=>by
 show wpAny (model prog w) A (eval (.Name f fp) env>>=fun fv=>callWith pos fv [] (backTo pos (starEach args env)) []) Q E s
 refine wpAny_bind (X A s F ρ env he hr hi _ _ fun fv S1 u s1 F1 ρ1 ⟨a,e,hm,y⟩ st1 r1=> ?_)
 subst e
 ··have e:=r1.inv.invGlob
   subst e
   refine fg st1.I.H.kin (g.fns a hm) hs (y A s1 F1 ρ1 env he hr st1.I pos _ _ fun vs S2 us s2 F2 ρ2 z st2 r2=>⟨st2.I.H.kin,?_⟩)
   exact z A s2 F2 ρ2 env.locals us hr st2.I r2 Q E fun v S' u' s' F' ρ' p st3 r3=>q v S' u' s' F' ρ' p ((st1.trans st2).trans st3) r3
noncomputable def xb {α:Type} (o:Option α) (c:Addr):Option Addr:=match o with
 |some _=>none
 |none=>some c
noncomputable def GE (x:Str):Fv→Option Addr
 | .obj c fs=>xb (look x fs) c
 |_=>none
noncomputable def GF (x:Str):MO→Option Addr
 | .inst c fs=>xb (look x fs) c
 |_=>none
noncomputable def kZ (S:St) (v:V) (x:Str):Option Addr:=match v with
 | .f f=>GE x f
 | .r i=>S.σ[i]?.bind (GF x)
theorem CK {α:Type} {o:Option α} {c C:Addr} (e:xb o c=some C):o=none∧c=C:=by
 cases o with
 |none=>exact ⟨rfl,Option.some.inj e⟩
 |some _=>exact noS e
theorem Dn {x:Str} {f:Fv} {C:Addr} (e:GE x f=some C): ∃fs,f= .obj C fs∧look x fs=none:=by
 cases f with
 |obj c fs=>exact bG (CK e) fun h e=>⟨fs,by rw [e],h⟩
 |_=>exact noS e
theorem Do {x:Str} {m:MO} {C:Addr} (e:GF x m=some C): ∃fs,m= .inst C fs∧look x fs=none:=by
 cases m with
 |inst c fs=>exact bG (CK e) fun h e=>⟨fs,by rw [e],h⟩
 |_=>exact noS e
theorem lN {L:Addr} {h:Heap} {F:Fz} {ρ:Rho} (I:InS K L S h F ρ) {v:V} {u:Value} (r:bg F ρ v u) {x:Str} {C:Addr} (e:kZ S v x=some C):
  ∃a dx od,u= .ref a∧W.InstAt h a (instObj C dx) C (some od)∧shadowIn (some od) x=some false:=by
 cases v with
 |f f=>
  obtain ⟨fs,hf,hl⟩:=Dn e
  subst hf
  obtain ⟨a,dx,od,vs,hu,h1,h2,h3,r⟩:=r.inv.invObj2
  refine ⟨a,dx,od,hu,⟨I.H.fh _ _ h1,rfl,rfl,I.H.fh _ _ h2⟩,?_⟩
  show (lookIn _ _).map _=_
  rw [h3.look,r.miss hl]; rfl
 |r i=>
  obtain ⟨m,hs,e⟩:=Option.bind_eq_some_iff.mp e
  obtain ⟨fs,hm,hl⟩:=Do e
  subst hm
  obtain ⟨a,d,hu,hp⟩:=r.invR
  obtain ⟨vs,h1,h2,h3⟩:=(I.H.ob _ _ _ hs hp).invInst
  obtain ⟨od,ho,hn⟩:=NsO.of_ns h2.ns
  refine ⟨a,d,od,hu,⟨h1,rfl,rfl,ho⟩,?_⟩
  show (lookIn _ _).map _=_
  rw [hn.look,h3.miss hl]; rfl
theorem eR {o:PySem.Expr} {x:Str} {apos pos:Pos} {args:List PySem.Expr} {env:Env} (hb:d0 o=true) (hs:bk args=true) (hl:Nat.blt args.length 30=true) (hp:Nat.beq apos.endLine pos.line=true):
  ∃pl,eval (.Call (.Attribute o x apos) args [] pos) env=(do let ov←eval o env; standAt apos.atName; let r←holding [ov] (getMethod ov x pl); callWith pos r.1 r.2 (backTo pos (starEach args env)) []):=by
 refine ⟨(do return (←importBound o env).getD true),?_⟩
 ·rw [arm_eval_Call,g4 hb]
  have hf:methodCallForm (args.length+([]:List Keyword).length) (backTo pos (starEach args env)) (backToKw pos (keywordEach [] env))=true:=by
   unfold methodCallForm
   rw [lz hs]
   show (true && true && decide (args.length+0+0<30))=true
   rw [decide_eq_true (by have:=Nat.blt_eq.mp hl; omega)]; rfl
  have hq:methodCallPos true o env apos pos=pure pos:=by
   unfold methodCallPos
   rw [Nat.eq_of_beq_eq_true hp]
   simp
  unfold methodCall
  rw [hf,hq]
  rfl
noncomputable def frl:List V→Option (List Fv)
 |[]=>some []
 | .f v::r=>match frl r with
  |some l=>some (v::l)
  |none=>none
 | .r _::_=>none
theorem bc.frl {F:Fz} {ρ:Rho} {vs:List V} {us:List Value} (h:bc F ρ vs us): ∀{gs:List Fv},frl vs=some gs→aJ F gs us:=by
 induction h with
 |nil=>intro gs e; cases e; exact .nil
 |cons h _ ih=>
  intro gs e
  cases h with
  |f h=>
   simp only [MineS.frl] at e
   split at e
   ·rename_i q; cases e; exact .cons h (ih q)
   ·cases e
  |r h=>cases e
theorem aJ.length {F:Fz} {l:List Fv} {us:List Value} (h:aJ F l us):us.length=l.length:=h.ind (P:=fun l us=>us.length=l.length) rfl fun _ _ _ _ _ _ r=>congrArg (·+1) r
theorem bc.length {F:Fz} {ρ:Rho} {l:List V} {us:List Value} (h:bc F ρ l us):us.length=l.length:=by
 induction h with
 |nil=>rfl
 |cons _ _ ih=>simp [ih]
theorem InS.newTup {L:Addr} {h:Heap} {F:Fz} {ρ:Rho} (I:InS K L S h F ρ) {l:List Fv} {us:List Value} (r:aJ F l us):
  ∃F',dO K L S h F ρ S (h.push {cls:= .type "tuple",data:= .seq us.toArray}) F' ρ∧aG F' (.tup l) (.ref h.objs.size):=by
 have n:=ci h
 refine ⟨upd F h.objs.size (n8 us.toArray 0),I.stp (σ':=S.σ) (Stp.frozen I.H n (dU h _ rfl) fun a o e=>Heap.get?_push_of_some _ e),.tup (fQ F _ _) (r.mono (gq (I.H.fresh n).1))⟩
theorem InS.newList {L:Addr} {h:Heap} {F:Fz} {ρ:Rho} (I:InS K L S h F ρ) {l:List Fv} {us:List Value} (r:aJ F l us):
  ∃ρ',dO K L S h F ρ ⟨S.loc,S.σ++[.list l]⟩ (h.push {cls:= .type "list",data:= .seq us.toArray}) F ρ'∧bg F ρ' (.r S.σ.length) (.ref h.objs.size):=by
 have n:=ci h
 refine ⟨ρ++[(h.objs.size,h.objs.size)],I.stp (Stp.slot I.H (fun a ha=> ?_) (.list (dU h (gE _ 0) rfl) r) fun a o e=>Heap.get?_push_of_some _ e),.r (d:=h.objs.size) ?_⟩
 ·simp [bd] at ha; subst ha; exact n
 ·rw [←I.H.len]; simp
theorem af.tup {es:List PySem.Expr} {k:Nat} {pos:Pos} {P:V→St→Prop} (X:bB prog w K c es S fun vs S1=> ∃l,frl vs=some l∧Nat.ble l.length 1000=true∧P (.f (.tup l)) S1):af prog w K c (.Tuple es k pos) S P:=fun A s F ρ env he hr hi Q E q=>by
 refine wpAny_Tuple (X A s F ρ env he hr hi pos _ _ fun vs S1 us s1 F1 ρ1 ⟨l,h1,h2,p⟩ st1 r1=>⟨?_,?_⟩)
 ·have:=(r1.frl h1).length; have:=Nat.ble_eq.mp h2; have:(1000:Nat)≤sizeLine:=by decide
  omega
 ·refine aA (st1.I.i.newTup (r1.frl h1)) fun F' st2 r2=> ?_
  exact q _ S1 _ _ F' ρ1 p (st1.on st1.t st2) (.f r2)
theorem af.list {es:List PySem.Expr} {pos:Pos} {P:V→St→Prop} (X:bB prog w K c es S fun vs S1=> ∃l,frl vs=some l∧Nat.ble l.length 1000=true∧P (.r S1.σ.length) ⟨S1.loc,S1.σ++[.list l]⟩):af prog w K c (.List es pos) S P:=fun A s F ρ env he hr hi Q E q=>by
 refine wpAny_List (X A s F ρ env he hr hi pos _ _ fun vs S1 us s1 F1 ρ1 ⟨l,h1,h2,p⟩ st1 r1=>⟨?_,?_⟩)
 ·have:=(r1.frl h1).length; have:=Nat.ble_eq.mp h2; have:(1000:Nat)≤sizeLine:=by decide
  omega
 ·refine aA (st1.I.i.newList (r1.frl h1)) fun ρ' st2 r2=> ?_
  exact q _ _ _ _ F1 ρ' p (st1.on st1.t st2) r2
theorem af.one {op:BoolOp} {e:PySem.Expr} {pos:Pos} {P:V→St→Prop} (X:af prog w K c e S P):af prog w K c (.BoolOp op [e] pos) S P:=fun A s F ρ env he hr hi Q E q=>
 BoolOp_one (X A s F ρ env he hr hi Q E q)
theorem af.bool {op:BoolOp} {e e2:PySem.Expr} {es:List PySem.Expr} {pos:Pos} {P:V→St→Prop} (X:af prog w K c e S fun v S1=>gg v fun b=>if b=(op== .And) then af prog w K c (.BoolOp op (e2::es) pos) S1 P else P (.f (.bool b)) S1):
  af prog w K c (.BoolOp op (e::e2::es) pos) S P:=fun A s F ρ env he hr hi Q E q=>by
 have key: ∀v S1 u s1 F1 ρ1,(gg v fun b=>if b=(op== .And) then af prog w K c (.BoolOp op (e2::es) pos) S1 P else P (.f (.bool b)) S1)→bH K env.locals S s F ρ S1 s1 F1 ρ1→bg F1 ρ1 v u→
   wpAny (model prog w) A (truthy u) (fun b s2=>if b=(op== .And) then wpAny (model prog w) A (eval (.BoolOp op (e2::es) pos) env) Q E s2 else Q u s2) E s1:=by
  intro v S1 u s1 F1 ρ1 y st1 r1
  unfold gg at y
  split at y
  ·rename_i b
   have hu:u= .bool b:=r1.inv.invBool
   subst hu
   refine wpAny_truthy_bool ?_
   by_cases hb:b=(op== .And)
   ·rw [if_pos hb] at y ⊢
    exact y A s1 F1 ρ1 env he hr st1.I Q E fun v S' u' s' F' ρ' p st3 r3=>q v S' u' s' F' ρ' p (st1.trans st3) r3
   ·rw [if_neg hb] at y ⊢
    exact q _ S1 _ s1 F1 ρ1 y st1 r1
  ·cases y
 cases op
 ·refine BoolOp_and (X A s F ρ env he hr hi _ _ fun v S1 u s1 F1 ρ1 y st1 r1=>wpAny_mono (key v S1 u s1 F1 ρ1 y st1 r1) (fun b s2 h=> ?_) fun _ _ h=>h)
  cases b<;>exact h
 ·refine BoolOp_or (X A s F ρ env he hr hi _ _ fun v S1 u s1 F1 ρ1 y st1 r1=>wpAny_mono (key v S1 u s1 F1 ρ1 y st1 r1) (fun b s2 h=> ?_) fun _ _ h=>h)
  cases b<;>exact h
end
end MineS
namespace MineS
open PySem PySem.W PySem.Calls PyProof.Rows
noncomputable def dy:PySem.Expr→Bool
 | .ListComp .. =>false
 | .SetComp .. =>false
 | .DictComp .. =>false
 |_=>true
theorem dQ {e:PySem.Expr} {t:Option PySem.Expr} {n:Nat} {env:Env} (h:dy e=true):swapsWith e t n env=pure false:=by
 cases e<;>first|rfl|cases h
section
variable {prog:Program} {w:World} {K:Frag} {G:Gl} {c:Cx} {S:St}
theorem cj.notCls {env:Env} (he:cj c env):(env.scope.kind==ScopeKind.class||env.scope.kind==ScopeKind.module && env.locals !=env.globals)=false:=by
 rw [he.kind]; rfl
theorem cj.inter {env:Env} (he:cj c env):interactive env=false:=by unfold interactive; rw [he.kind]; rfl
theorem cj.block {env:Env} (he:cj c env):env.blockKind= .function:=by unfold Env.blockKind; rw [he.kind]; rfl
theorem aP.nil {P:Fl→St→Prop} (p:P .next S):aP prog w K c [] S P:=fun A s F ρ env he hr hi Q E q=>
 wpAny_execs_nil (q .next S .next s F ρ p (.refl hi) .next)
theorem aP.cons {st:Stmt} {r:List Stmt} {P:Fl→St→Prop} (X:aV prog w K c st S fun fl S1=>match fl with| .next=>aP prog w K c r S1 P| .ret v=>P (.ret v) S1):aP prog w K c (st::r) S P:=fun A s F ρ env he hr hi Q E q=>by
 refine wpAny_execs_cons (X A s F ρ env he hr hi _ _ fun fl S1 u s1 F1 ρ1 y st1 r1=> ?_)
 cases r1 with
 |next=>exact y A s1 F1 ρ1 env he hr st1.I Q E fun fl S' u s' F' ρ' p st2 r2=>q fl S' u s' F' ρ' p (st1.trans st2) r2
 |ret r1=>exact q _ S1 _ s1 F1 ρ1 y st1 (.ret r1)
theorem aV.expr {e:PySem.Expr} {pos:Pos} {P:Fl→St→Prop} (hc:dy e=true) (X:af prog w K c e S fun _ S1=>P .next S1):aV prog w K c (.Expr e pos) S P:=fun A s F ρ env he hr hi Q E q=>by
 rw [exec_Expr env e pos he.inter (dQ hc)]
 refine wpAny_bind (wpAny_standAt (wpAny_bind (X A s F ρ env he hr hi _ _ fun v S1 u s1 F1 ρ1 y st1 r1=>wpAny_dropValue ?_)))
 exact q .next S1 _ s1 F1 ρ1 y st1 .next
theorem aV.ret {e:PySem.Expr} {pos:Pos} {P:Fl→St→Prop} (X:af prog w K c e S fun v S1=>P (.ret v) S1):aV prog w K c (.Return (some e) pos) S P:=fun A s F ρ env he hr hi Q E q=>
 wpAny_Return_some (X A s F ρ env he hr hi _ _ fun v S1 u s1 F1 ρ1 y st1 r1=>q _ S1 _ s1 F1 ρ1 y st1 (.ret r1))
theorem aV.ret0 {pos:Pos} {P:Fl→St→Prop} (p:P (.ret (.f .none)) S):aV prog w K c (.Return none pos) S P:=fun A s F ρ env he hr hi Q E q=>
 wpAny_Return_none (q _ S _ s F ρ p (.refl hi) (.ret (.f .none)))
theorem aV.ite {t:PySem.Expr} {a b:List Stmt} {pos:Pos} {P:Fl→St→Prop} (X:aS prog w K c t S fun y S1=>aP prog w K c (if y then a else b) S1 P):aV prog w K c (.If t a b pos) S P:=fun A s F ρ env he hr hi Q E q=>by
 refine wpAny_If (X A s F ρ env he hr hi _ _ fun y S1 s1 F1 ρ1 z st1=> ?_)
 have:=z A s1 F1 ρ1 env he hr st1.I Q E fun fl S' u s' F' ρ' p st2 r2=>q fl S' u s' F' ρ' p (st1.trans st2) r2
 cases y<;>exact this
theorem aV.name {e:PySem.Expr} {x:Str} {p pos:Pos} {P:Fl→St→Prop} (hc:dy e=true) (hk:kind? c x=some .local) (X:af prog w K c e S fun v S1=>P .next ⟨put x v S1.loc,S1.σ⟩):aV prog w K c (.Assign [.Name x p] e pos) S P:=fun A s F ρ env he hr hi Q E q=>by
 refine wpAny_Assign_Name (X A s F ρ env he hr hi _ _ fun v S1 u s1 F1 ρ1 y st1 r1=> ?_) (dQ hc)
 refine aA st1.I.ns fun vs hn _=> ?_
 refine wpAny_storeName_local ((he.kindOf x).trans hk) hn (fun h' n sb=> ?_) he.notCls
 have st2:=st1.I.i.bind (x:=x) r1 (h':=h') sb fun m hm=>by
  have e:m=fun n=>look n vs:=by
   refine gD hm fun o es ep a1 a2 a3 a4=> ?_
   refine gD hn fun o' es' ep' b1 b2 b3 b4=> ?_
   rw [a1] at b1; cases b1; rw [a2] at b2; cases b2
   funext n; exact (a4 n).symm.trans (b4 n)
  rw [e]; exact n
 exact q .next _ _ _ F1 ρ1 y (st1.on (Nat.succ_pos _) st2) .next
theorem tG {t e:PySem.Expr} {pos:Pos} {env:Env} (hc:dy e=true) (ht:match t with| .Tuple .. =>false| .List .. =>false| .Starred .. =>false|_=>true):exec (.Assign [t] e pos) env=(do standAt pos; let v←eval e env; assign t env v; pure .next):=by
 rw [arm_exec_Assign]
 show (do standAt pos; let b←swapsWith e (some t) pos.line env; _)=_
 rw [dQ hc]
 have hs:swappedStores [t] e env=pure none:=by
  cases t<;>first|rfl|cases ht
 have ha:(assignEach [t] env).map (fun x=>x.2)=[assign t env]:=by
  cases t<;>first|rfl|cases ht
 rw [hs,ha]
 rfl
theorem bS.length {F:Fz} {ρ:Rho} {fs:List (Str×V)} {vs:List (Str×Value)} (h:bS F ρ fs vs):vs.length=fs.length:=by
 induction h with
 |nil=>rfl
 |cons _ _ ih=>simp [ih]
theorem tH {α:Type} (x:Str): ∀l:List (Str×α),look x l≠none→x∈l.map (·.1)
 |[],h=>absurd rfl h
 |(y,v)::r,h=>by
  simp only [look] at h
  split at h
  ·rename_i q; rw [(bU _ _).mp q]; simp
  ·simp [tH x r h]
theorem GH {A:Around} {s:Shared} {a d C:Addr} {vs:List (Str×Value)} {x:Str} {tk:Tok} {u:Value} {R:Result→Shared→Prop} (X:K.In s.heap) (h1:s.heap.get? a=some (instObj C d)) (h2:s.heap.Ns1 d (fun n=>look n vs)) (hz:vs.length≤1000) (k3:hasDictIn K C=true) (k4:plainOver K C=true) (j3:takerIn K C x=some none)
  (h: ∀h':Heap,h'.Ns1 d (fun y=>if y=x then some u else look y vs)→Heap.SameBut d s.heap h'→R (.ok (.ret .none)) ⟨h',s.gens,s.drawn,s.toks+1,s.os⟩):
  codeAny (model prog w) A (.call (.builtin "object.__setattr__") ⟨[.ref a,.str x tk,u],[]⟩) R s:=by
 refine aA (NsO.of_ns h2.ns) fun od ho hn=> ?_
 have I1:W.InstAt s.heap a (instObj C d) C (some od):=⟨h1,rfl,rfl,ho⟩
 refine osa_open X I1 k4 j3 fun b=> ?_
 refine aA (any_some k3) fun cd hc' hd'=> ?_
 refine wpAny_bind (wpAny_pure (wpAny_bind (wpAny_bind (wpAny_loadPart h1 (wpAny_bind ((looks_clsIn X hc').here ?_))))))
 rw [hd']
 refine wpAny_pure (a:=some d) (wpAny_bind (wpAny_pure (wpAny_bind (wpAny_nsSet1 h2 fun h' n sb=> ?_))))
 have wi:Within (fun y=>if y=x then some u else look y vs) (x::vs.map (·.1)):=Within.cons x u fun y hy=>tH y vs hy
 refine dN (n.count wi) fun o' es ep e1 e2 e3=> ?_
 refine wpAny_bind (wpAny_lookBehind e1 (by rw [e2]; exact pastItsLine_dict (by simp only [List.length_cons,List.length_map] at e3; rw [sizeLine_eq]; omega)) ?_)
 exact wpAny_pure (h h' n sb)
theorem aV.attr (g:GOK prog w K G) {e o:PySem.Expr} {x:Str} {p pos:Pos} {P:Fl→St→Prop} (hc:dy e=true) (X:af prog w K c e S fun v S1=>af prog w K c o S1 fun ov S2=> ∃i C fs,ov= .r i∧S2.σ[i]? =some (.inst C fs)∧iy G C x=true∧Nat.ble fs.length 100=true∧P .next ⟨S2.loc,S2.σ.set i (.inst C (put x v fs))⟩):
  aV prog w K c (.Assign [.Attribute o x p] e pos) S P:=fun A s F ρ env he hr hi Q E q=>by
 rw [tG hc rfl]
 refine wpAny_bind (wpAny_standAt (wpAny_bind (X A s F ρ env he hr hi _ _ fun v S1 u s1 F1 ρ1 y st1 r1=>wpAny_bind ?_)))
 rw [arm_assign_Attribute]
 refine wpAny_bind (wpAny_holding (y A s1 F1 ρ1 env he hr st1.I _ _ fun ov S2 u2 s2 F2 ρ2 z st2 r2=>wpAny_bind (wpAny_standAt (wpAny_bind (wpAny_holding ?_)))))
 refine AK z fun i C fs y6e1 hσ ha hlen hp=> ?_; subst y6e1
 refine bI (uW ha) fun l hl=> ?_
 refine Gz (g.ga C l hl) fun k1 k2 k3 k4=> ?_
 refine w8 (g.att C x ha) fun r j1 j2 j3=> ?_
 refine cV r2.invR fun a d hu2 hp2=> ?_; subst hu2
 refine w8 (st2.I.H.ob i _ _ hσ hp2).invInst fun vs h1 h2 h3=> ?_
 refine aA (NsO.of_ns h2.ns) fun od ho hn=> ?_
 have hz:vs.length≤1000:=by have:=h3.length; have:=Nat.ble_eq.mp hlen; omega
 have I1:W.InstAt s2.heap a (instObj C d) C (some od):=⟨h1,rfl,rfl,ho⟩
 refine set_plain st2.I.H.kin I1 k2 ?_
 refine GH (s:=⟨s2.heap,s2.gens,s2.drawn,s2.toks+1,s2.os⟩) st2.I.H.kin h1 h2 hz k3 k4 j3 fun h' n sb=> ?_
 refine wpAny_release (wpAny_pure ?_)
 have Rn:cQ h' F2 ρ2 (.inst C (put x v fs)) (a,d):=by
  have ne:a≠d:=by
   rintro rfl
   rw [h1] at ho; cases ho
   refine cV hn fun es ep hd _=> ?_; cases hd
  refine .inst (vs:=put x u vs) ((sb.2 a ne).trans h1) ?_ (h3.put (r1.mono st2.k.ff st2.r))
  refine AK n fun o es ep b1 b2 b3 b0 b4=> ?_
  exact ⟨o,es,ep,b1,b2,b3,b0,fun name=>by rw [b4]; exact (lJ x name u vs).symm⟩
 have st3:=Stp.change st2.I.H hσ hp2 (m':= .inst C (put x v fs)) (fun _=>Iff.rfl) (by simp [bd]) sb Rn
 exact q .next _ _ _ F2 ρ2 hp ((st1.trans st2).on (Nat.succ_pos _) (st2.I.i.stp st3)) .next
theorem aJ.set {F:Fz} {l:List Fv} {us:List Value} (h:aJ F l us) {f:Fv} {u:Value} (k:Nat) (e:aG F f u):aJ F (l.set k f) (us.set k u):=by
 refine h.ind (P:=fun l us=> ∀k,aJ F (l.set k f) (us.set k u)) (fun _=> .nil) (fun _ _ _ _ h r ih k=> ?_) k
 cases k with
 |zero=>exact .cons e r
 |succ k=>exact .cons h (ih k)
theorem AN {A:Around} {E:Value→Shared→Prop} {s:Shared} {l:Addr} {items:Array Value} {n:Nat} {k:Int} {t:Tok} {v:Value} {Q:Unit→Shared→Prop} (ho:s.heap.get? l=some (gE items n))
  (h0:0≤k) (hfit:k<2 ^ 63) (hn:k<items.size) (hQ: ∀h' n',h'.get? l=some (gE (items.setIfInBounds k.toNat v) n')→Heap.SameBut l s.heap h'→Q () {s with heap:=h'}):
  wpAny (model prog w) A (setItem (.ref l) (.int k t) v) Q E s:=by
 have hd:(gE items n).data= .seq items n:=rfl
 have hl:s.heap.IsList l items:=⟨_,ho,rfl,n,hd⟩
 unfold setItem
 try with_reducible refine wpAny_holding ?_
 first|refine wpAny_bind (wpAny_pure ?_)|skip
 refine wpAny_bind (wpAny_sequenceKey hl.typeIs (by decide) ?_)
 refine wpAny_bind (wpAny_callSpecial?_slot (name:=Str.ofString "__setitem__") hl.typeIs slot_list_setitem
  (wpAny_call_entry slot_list_setitem hl.typeIs entry_list_setitem ?_ (args_list_setitem _ _ _)))
 show wpAny _ _ (Builtin.List.listSubscript? (.int k t)>>=_) _ _ s
 refine wpAny_bind (wpAny_listSubscript_int (fitsIndex_of h0 hfit) ?_)
 clear hfit
 obtain ⟨j,rfl⟩:=Int.eq_ofNat_of_zero_le h0
 have hj:j<items.size:=by omega
 have hx':items[j]? =some items[j]:=Array.getElem?_eq_getElem hj
 show wpAny _ _ ((seqItemAt l j>>=fun r=>pure (r.map (j,·)))>>=_) _ _ s
 refine wpAny_bind (wpAny_bind (wpAny_seqItemAt ho hd (wpAny_pure ?_)))
 rw [hx']
 show wpAny _ _ (setSeqItemAt l j v>>=_) _ _ s
 obtain ⟨n',hd'⟩:=Obj.data_mapSeq hd (·.setIfInBounds j v)
 have fin:=hQ _ _ (Heap.get?_update_self _ ho (Obj.isFreed_of_seq hd')) (Heap.SameBut.update ..)
 refine wpAny_bind (wpAny_setSeqItemAt ho hd ?_)
 first
  |exact wpAny_bind (wpAny_pure (wpAny_pure ⟨.none,rfl,wpAny_pure fin⟩))
  |exact wpAny_pure ⟨.none,rfl,wpAny_pure fin⟩
theorem Dq {A:Around} {E:Value→Shared→Prop} {s:Shared} {l:Addr} {items:Array Value} {n:Nat} {x:Value} {Q:Value→Shared→Prop} (ho:s.heap.get? l=some (gE items n)) (hsz:items.size≤sizeLine)
  (hQ: ∀h' n',h'.get? l=some (gE (items.push x) n')→Heap.SameBut l s.heap h'→Q .none {s with heap:=h'}):
  wpAny (model prog w) A (call (.builtin "list.append") [.ref l,x]) Q E s:=by
 have hd:(gE items n).data= .seq items n:=rfl
 have hl:s.heap.IsList l items:=⟨_,ho,rfl,n,hd⟩
 obtain ⟨n',hd'⟩:=Obj.data_mapSeq hd (·.push x)
 refine wpAny_call_entry slot_list_append hl.typeIs entry_list_append ?_ (args_list_append _ _)
 show wpAny _ _ (updateSeq l (·.push x)>>=fun _=>ret .none) _ _ s
 refine wpAny_bind ?_
 exact wpAny_updateSeq ho hd (wpAny_pure ⟨.none,rfl,hQ _ _ (Heap.get?_update_self _ ho (Obj.isFreed_of_seq hd')) (Heap.SameBut.update ..)⟩)
theorem aV.sub {e o j:PySem.Expr} {p pos:Pos} {P:Fl→St→Prop} (hc:dy e=true) (X:af prog w K c e S fun v S1=>af prog w K c o S1 fun ov S2=>af prog w K c j S2 fun jv S3=> ∃(f:Fv) (i:Nat) (l:List Fv) (k:Nat),v= .f f∧ov= .r i∧jv= .f (.int (Int.ofNat k))∧S3.σ[i]? =some (.list l)∧Nat.blt k l.length=true∧Nat.blt k 1000=true∧P .next ⟨S3.loc,S3.σ.set i (.list (l.set k f))⟩):
  aV prog w K c (.Assign [.Subscript o j p] e pos) S P:=fun A s F ρ env he hr hi Q E q=>by
 refine wpAny_Assign_Subscript (X A s F ρ env he hr hi _ _ fun v S1 u s1 F1 ρ1 y st1 r1=>y A s1 F1 ρ1 env he hr st1.I _ _ fun ov S2 u2 s2 F2 ρ2 z st2 r2=>z A s2 F2 ρ2 env he hr st2.I _ _ fun jv S3 u3 s3 F3 ρ3 y3 st3 r3=> ?_) (dQ hc)
 refine OG y3 fun f i l k y12e1 y12e2 y12e3 hσ hk hk2 hp=> ?_; subst y12e1; subst y12e2; subst y12e3
 refine bI r3.inv.invInt fun t hu3=> ?_; subst hu3
 ··refine cV r2.invR fun a d hu2 hp2=> ?_; subst hu2
   have hp3:=st3.r _ _ hp2
   refine cV (st3.I.H.ob i _ _ hσ hp3).invList fun xs n h1 h2=> ?_
   ·skip
    have len:=h2.length
    have k1:=Nat.blt_eq.mp hk
    have k2:=Nat.blt_eq.mp hk2
    refine AN h1 (by simp) (by show (k:Int)<_; omega) (by simp; omega) fun h' n' b1 sb=> ?_
    have r1':aG F3 f u:=r1.inv.mono (st2.k.ff.trans st3.k.ff)
    have Rn:cQ h' F3 ρ3 (.list (l.set k f)) (a,d):=by
     refine .list (xs:=xs.set k u) (n:=n') ?_ (h2.set k r1')
     rw [b1]; simp
    have st4:=Stp.change st3.I.H hσ hp3 (m':= .list (l.set k f)) (fun _=>Iff.rfl) (by simp [bd]) sb Rn
    exact q .next _ _ _ F3 ρ3 hp (((st1.trans st2).trans st3).on st3.t (st3.I.i.stp st4)) .next
end
end MineS
namespace MineS
open PySem PySem.W PySem.Calls PyProof.Rows
noncomputable def bO {α:Type}:List Str→List α→List (Str×α)
 |x::xs,v::vs=>(x,v)::bO xs vs
 |_,_=>[]
noncomputable def jC:List Str→Bool
 |[]=>true
 |x::r=>match lM x r with
  |true=>false
  |false=>jC r
theorem jD (x:Str): ∀l:List Str,lM x l=true↔x∈l
 |[]=>by simp [lM]
 |y::r=>by
  unfold lM
  split
  ·rename_i q; simp [(bU _ _).mp q]
  ·rename_i q
   rw [jD x r]
   have:x≠y:=by rintro rfl; rw [gU] at q; cases q
   simp [this]
theorem iz {α:Type}: ∀(ps:List Str) (vs:List α) (p:Str×α),p∈bO ps vs→p.1∈ps
 |[],_,p,h=>by simp [bO] at h
 |_::_,[],p,h=>by simp [bO] at h
 |x::xs,v::vs,p,h=>by
  simp only [bO,List.mem_cons] at h
  rcases h with rfl|h
  ·simp
  ·simp [iz xs vs p h]
theorem lA {α:Type} (x:Str): ∀a b:List (Str×α),look x (a++b)=match look x a with|some v=>some v|none=>look x b
 |[],_=>rfl
 |(y,v)::r,b=>by
  simp only [List.cons_append,look]
  cases sq x y
  ·exact lA x r b
  ·rfl
theorem pg {α:Type} (x:Str): ∀l:List (Str×α),(∀p∈l,p.1≠x)→look x l=none
 |[],_=>rfl
 |(y,v)::r,h=>by
  unfold look
  have:sq x y=false:=by
   cases q:sq x y with
   |false=>rfl
   |true=>exact absurd ((bU _ _).mp q).symm (h (y,v) (by simp))
  rw [this]
  exact pg x r fun p hp=>h p (by simp [hp])
theorem lB {α:Type} (x:Str) (ps:List Str): ∀vs:List α,jC ps=true→look x (bO ps vs).reverse=look x (bO ps vs):=by
 induction ps with
 |nil=>exact fun _ _=>rfl
 |cons y ys ih=>
  intro vs h
  cases vs with
  |nil=>rfl
  |cons v vs=>
   unfold jC at h
   cases hq:lM y ys with
   |true=>rw [hq] at h; exact Bool.noConfusion h
   |false=>
    rw [hq] at h
    show look x ((y,v)::bO ys vs).reverse=look x ((y,v)::bO ys vs)
    rw [List.reverse_cons,lA,ih vs h]
    cases hx:sq x y with
    |false=>rw [ej hx,ej hx]; cases look x (bO ys vs)<;>rfl
    |true=>
     have e:=(bU _ _).mp hx; subst e
     rw [eO hx,eO hx,pg x (bO ys vs)]
     intro p hp e
     have:=iz _ _ _ hp
     rw [e,←jD,hq] at this; exact Bool.noConfusion this
theorem bc.zip {F:Fz} {ρ:Rho} {ps:List Str} {vs:List V} {us:List Value} (h:bc F ρ vs us):bS F ρ (bO ps vs) (bO ps us):=by
 induction h generalizing ps with
 |nil=>cases ps<;>exact .nil
 |cons h _ ih=>
  cases ps with
  |nil=>exact .nil
  |cons p ps=>exact .cons h ih
theorem aJ.toV {F:Fz} {ρ:Rho} {l:List Fv} {us:List Value} (h:aJ F l us):bc F ρ (l.map V.f) us:=h.ind (P:=fun l us=>bc F ρ (l.map V.f) us) .nil fun _ _ _ _ h _ r=> .cons (.f h) r
theorem bc.app {F:Fz} {ρ:Rho} {a b:List V} {u v:List Value} (h:bc F ρ a u) (r:bc F ρ b v):bc F ρ (a++b) (u++v):=by
 induction h with
 |nil=>exact r
 |cons h _ ih=>exact .cons h ih
structure Fn (K:Frag) (a:Addr) (ps:List Str) (dfl:List Fv) (body:List Stmt) (names:List (Str×NameKind)) where
 o:Obj
 fd:FuncData
 at_:K.lookup a=some o
 data:o.data= .func fd
 body_:fd.body= .stmts body
 names_:fd.scope.names=names
 co:fd.scope.isCoroutine=false
 gen:fd.scope.isGenerator=false
 kind:fd.scope.kind= .function
 glob:fd.globals=3
 bui:fd.builtins=0
 code: ∀h:Heap,K.In h→h.CodeRec fd.code fd.qualname
 lim: ∀h:Heap,K.In h→h.NoLimit
 dv:List Value
 dr: ∀F:Fz,FLe (fun a=>K.lookup a) F→aJ F dfl dv
 bind: ∀(s:Shared) (vals:List Value),K.In s.heap→(vals++dv).length=ps.length→BindsTo s fd ⟨vals,[]⟩ (bO ps (vals++dv))
 nod:jC ps=true
 cell: ∀x∈names,x.2≠ .cell
 loc: ∀x∈ps,names.lookup x=some .local
section
variable {prog:Program} {w:World} {K:Frag} {G:Gl} {c:Cx} {S:St}
noncomputable def flV:Fl→V
 | .ret v=>v
 | .next=> .f .none
theorem aU.fn {a:Addr} {ps:List Str} {dfl:List Fv} {body:List Stmt} {names:List (Str×NameKind)} (f:Fn K a ps dfl body names) {e k:Nat} {args:List V} {σ σ':List MO} {v:V} (hn:args.length+dfl.length=ps.length)
  (X:aP prog w K ⟨names,e,k⟩ body ⟨bO ps (args++dfl.map V.f),σ⟩ fun fl S'=>flV fl=v∧ ∃τ,S'.σ=σ'++τ∧fF σ'.length σ'=true∧okV σ'.length v=true∧σ.length≤σ'.length):aU prog w K (e+k+1) (.ref a) args σ v σ':=by
 intro A s F ρ vals hr ht hi ra R q
 have kin:=hi.kin
 have le:=ra.length
 have ld:f.dv.length=dfl.length:=(f.dr F hi.kle).length
 have rall:bc F ρ (args++dfl.map V.f) (vals++f.dv):=ra.app (f.dr F hi.kle).toV
 refine codeAny_call_def (fd:=f.fd) (body:=body) (binds:=bO ps (vals++f.dv)) (by have:=hr.depth; omega) (hi.fh _ _ (hi.kf _ _ f.at_)) f.data (f.lim _ kin) (f.code _ kin) f.body_ (f.bind s vals kin (by simp [le,ld]; omega)) (by rw [f.names_]; exact f.cell) (fun x hx=>by rw [f.names_]; exact f.loc _ (iz _ _ _ hx)) (fun h₀ hns keep=> ?_) f.co f.gen f.kind
 have n0:s.heap.get? s.heap.objs.size=none:=ci _
 have hns':h₀.Ns s.heap.objs.size (fun x=>look x (bO ps (vals++f.dv))):=by
  refine gD hns fun o es ep a1 a2 a3 a4=> ?_
  exact ⟨o,es,ep,a1,a2,a3,fun name=>by rw [a4]; show List.lookup name _=look name _; rw [←dZ,lB _ _ _ f.nod]⟩
 have I:InS K s.heap.objs.size ⟨bO ps (args++dfl.map V.f),σ⟩ h₀ F ρ:=hi.enter keep n0 hns' rall.zip
 refine X (A.deeper (callEnv f.fd s.heap.objs.size a)) ⟨h₀,s.gens,s.drawn,s.toks+(bO ps (vals++f.dv)).length,s.os⟩ F ρ (callEnv f.fd s.heap.objs.size a) ⟨f.kind,f.names_,f.glob,f.bui⟩ ⟨by have:=hr.depth; simp only [Around.deeper,Cx.d]; omega,by have:=hr.units; simp only [Around.deeper,Cx.d]; omega,hr.handled⟩ ⟨by show 0<s.toks+_; omega,I⟩ _ _ fun fl S' u s' F' ρ' p st rf=> ?_
 refine bG p fun p1 y1w0=> ?_; refine OD y1w0 fun τ p2 p3 p4 p5=> ?_
 rcases Stp.leave hi keep n0 st.x p2 p3 with z|z
 ·refine q _ s' F' _ z ?_ ⟨st.rs.g,st.rs.o⟩
  subst p1
  cases rf with
  |next=>exact .f .none
  |ret r=>exact r.cut p4
 ·omega
theorem dP.cls {d:Nat} {A:Around} (r:dP (d+2) A) (C:Addr) (vals:List Value):dP d (A.under (.builtin "type.__call__" ⟨.ref C::vals,[]⟩)):=by
 have hw:(Code.builtin "type.__call__" ⟨.ref C::vals,[]⟩).weight=1:=rfl
 have hu:(Code.builtin "type.__call__" ⟨.ref C::vals,[]⟩).cUnits=1:=rfl
 refine ⟨?_,?_,r.handled⟩
 ·show A.depth+(Code.builtin "type.__call__" ⟨.ref C::vals,[]⟩).weight+d≤_
  rw [hw]; have:=r.depth; omega
 ·show A.units+(Code.builtin "type.__call__" ⟨.ref C::vals,[]⟩).cUnits+4*d+200<_
  rw [hu]; have:=r.units; omega
structure Cls (K:Frag) (C ini:Addr):Prop where
 makes:makesIn K C=true
 init:findIn K (.ref C) (Str.ofString "__init__")=some (some (.ref ini))
 fn:typeIn K (.ref ini)=some (.type "function")
noncomputable def lO:List MO→List (Str×V)→Option (List (Str×Fv)×List MO)
 |σ,[]=>some ([],σ)
 |σ,(x,.f v)::r=>match lO σ r with
  |some (g,σ')=>some ((x,v)::g,σ')
  |none=>none
 |σ,(x,.r i)::r=>match σ[i]? with
  |some (.list l)=>match lO (σ.set i .dead) r with
   |some (g,σ')=>some ((x,.list l)::g,σ')
   |none=>none
  |_=>none
theorem j0 {ρ:Rho}: ∀(fs:List (Str×V)) (σ:List MO) {h:Heap} {F:Fz} {vs:List (Str×Value)} {g:List (Str×Fv)} {σ':List MO},InH K σ h F ρ→bS F ρ fs vs→lO σ fs=some (g,σ')→
  ∃F',Stp K σ h F ρ σ' h F' ρ∧cS F' g vs
 |[],σ,h,F,vs,g,σ',I,r,e=>by
  simp only [lO,Option.some.injEq,Prod.mk.injEq] at e
  obtain ⟨rfl,rfl⟩:=e
  cases r; exact ⟨F,.refl I,.nil⟩
 |(x,.f v)::r,σ,h,F,vs,g,σ',I,rv,e=>by
  simp only [lO] at e; split at e
  ·rename_i q; cases e
   cases rv with|cons h1 h2=>
   refine aA (j0 r σ I h2 q) fun F' s1 r1=> ?_
   cases h1 with|f h1=>exact ⟨F',s1,.cons (h1.mono s1.k.ff) r1⟩
  ·cases e
 |(x,.r i)::r,σ,h,F,vs,g,σ',I,rv,e=>by
  simp only [lO] at e; split at e
  ·rename_i hσ
   split at e
   ·rename_i q; cases e
    cases rv with|cons h1 h2=>
    cases h1 with|r hp=>
    refine aA (Stp.freezeList I hσ hp) fun F1 s1 r1=> ?_
    refine aA (j0 r _ s1.I (h2.mono s1.k.ff (.refl _)) q) fun F' s2 r2=> ?_
    exact ⟨F',s1.trans s2,.cons (r1.mono s2.k.ff) r2⟩
   ·cases e
  ·cases e
theorem Stp.cut {σ σ2 τ:List MO} {h h':Heap} {F F':Fz} {ρ ρ':Rho} (x:Stp K σ h F ρ (σ2++τ) h' F' ρ') (hρ:ρ.length=σ.length) (ok:fF σ2.length σ2=true) (hl:σ.length≤σ2.length):Stp K σ h F ρ σ2 h' F' (ρ'.take σ2.length):=by
 have t:(σ2++τ).take σ2.length=σ2:=by simp
 have I:=x.I.take (n:=σ2.length) (by rw [t]; exact ok)
 rw [t] at I
 refine ⟨I,⟨x.k.ff,x.k.hh,x.k.nf,fun a l=>x.k.nl a ?_⟩,fun i p q=> ?_⟩
 ·refine dN l fun i m p h1 h2 h3=> ?_
  have hi:=(List.getElem?_eq_some_iff.mp h1).1
  exact ⟨i,m,p,by rw [List.getElem?_append_left hi]; exact h1,by rw [List.getElem?_take_of_lt hi] at h2; exact h2,h3⟩
 ·have hi:=(List.getElem?_eq_some_iff.mp q).1
  rw [List.getElem?_take_of_lt (by omega)]; exact x.r i p q
theorem Stp.freezeInst2 {σ:List MO} {h:Heap} {F:Fz} {ρ:Rho} (I:InH K σ h F ρ) {i:Nat} {c:Addr} {fs:List (Str×V)} {gs:List (Str×Fv)} {vs:List (Str×Value)} {x dx:Addr} (e1:σ[i]? =some (.inst c fs)) (e2:ρ[i]? =some (x,dx))
  (h1:h.get? x=some (instObj c dx)) (h2:h.Ns1 dx (fun n=>look n vs)) (r:cS F gs vs): ∃F',Stp K σ h F ρ (σ.set i .dead) h F' ρ∧aG F' (.obj c gs) (.ref x):=by
 refine AK h2 fun od es ep ho hd hk _ hm=> ?_
 have hn:F x=none:=I.off x ⟨i,_,_,e1,e2,by simp [bd]⟩
 have hn2:F dx=none:=I.off dx ⟨i,_,_,e1,e2,by simp [bd]⟩
 have ne:dx≠x:=by
  rintro rfl; rw [h1] at ho; cases ho; cases hd
 have hn2':upd F x (instObj c dx) dx=none:=by unfold upd; rw [if_neg ne]; exact hn2
 have lf:=(gq (o:=instObj c dx) hn).trans (gq (o:=od) hn2')
 refine ⟨_,Stp.freeze I e1 e2 lf fun b o q=> ?_,.obj (gq hn2' _ _ (fQ F x _)) (fQ _ dx od) ⟨es,ep,hd,hk,hm⟩ (r.mono lf)⟩
 unfold upd at q; split at q
 ·rename_i z; subst z; cases q; exact .inr ⟨by simp [bd],ho⟩
 ·split at q
  ·rename_i z; subst z; cases q; exact .inr ⟨by simp [bd],h1⟩
  ·exact .inl q
end
end MineS
set_option backward.match.sparseCases true
namespace MineS
open PySem PySem.W PySem.Calls PyProof.Rows
section
variable {prog:Program} {w:World} {K:Frag} {G:Gl} {c:Cx} {S:St}
noncomputable def xd:PySem.Expr→Bool
 | .Tuple .. =>true
 |_=>false
theorem dH {A:Around} {s:Shared} {F:Fz} {ρ:Rho} {env:Env} {x:Str} {v:V} {u:Value} {E:Value→Shared→Prop} {Q:Unit→Shared→Prop} (he:cj c env) (hk:kind? c x=some .local) (I:InT K env.locals S s F ρ) (r:bg F ρ v u)
  (q: ∀s',bH K env.locals S s F ρ ⟨put x v S.loc,S.σ⟩ s' F ρ→Q () s'):wpAny (model prog w) A (bindName env x u) Q E s:=by
 refine aA I.ns fun vs hn _=> ?_
 refine wpAny_bindName (wpAny_storeName_local ((he.kindOf x).trans hk) hn (fun h' n sb=> ?_) he.notCls)
 refine q _ (I.on (Nat.succ_pos _) (I.i.bind (x:=x) r (h':=h') sb fun m hm=> ?_))
 have e:m=fun n=>look n vs:=by
  refine gD hm fun o es ep a1 a2 a3 a4=> ?_
  refine gD hn fun o' es' ep' b1 b2 b3 b4=> ?_
  rw [a1] at b1; cases b1; rw [a2] at b2; cases b2
  funext n; exact (a4 n).symm.trans (b4 n)
 rw [e]; exact n
theorem n9 {A:Around} {s:Shared} {F:Fz} {ρ:Rho} {L:Addr} {x y:Fv} {u:Value} {E:Value→Shared→Prop} {Q:List Value→Shared→Prop} (hh:A.handled=none) (I:InT K L S s F ρ) (r:bg F ρ (.f (.tup [x,y])) u)
  (q: ∀a b s',aG F x a→aG F y b→bH K L S s F ρ S s' F ρ→Q [a,b] s'):wpAny (model prog w) A (unpackItems u 2 none) Q E s:=by
 refine dN r.inv.invTup fun a xs n hu h1 r1=> ?_; subst hu
 refine bw r1.inv2 fun va vb hx ra rb=> ?_; subst hx
 have:=wpAny_unpackItems_tuple (prog:=prog) (w:=w) (E:=E) (items:= #[va,vb]) (Q:=Q) (t:=a) hh ⟨_,I.H.fh _ _ h1,rfl,_,rfl⟩ (s:=s) (fun h' ex=>q va vb _ ra rb (I.on I.t (I.i.stp (Stp.heap I.H fun b o e=>ex b o (Nat.ne_of_lt (Heap.lt_size e)) e))))
 exact this
theorem Mc {env:Env} {e:PySem.Expr} {ts:List PySem.Expr} {k:Nat} {tp:Pos} (ht:xd e=false):swappedStores [.Tuple ts k tp] e env=pure none:=by
 cases e<;>first|rfl|cases ht
theorem aV.pair {e:PySem.Expr} {a b:Str} {pa pb tp pos:Pos} {k:Nat} {P:Fl→St→Prop} (hc:dy e=true) (ht:xd e=false) (ha:kind? c a=some .local) (hb:kind? c b=some .local)
  (X:af prog w K c e S fun v S1=> ∃x y,v= .f (.tup [x,y])∧P .next ⟨put b (.f y) (put a (.f x) S1.loc),S1.σ⟩):aV prog w K c (.Assign [.Tuple [.Name a pa,.Name b pb] k tp] e pos) S P:=fun A s F ρ env he hr hi Q E q=>by
 rw [arm_exec_Assign]
 have hsw:swapsWithSole [.Tuple [.Name a pa,.Name b pb] k tp] e pos.line env=pure false:=by rw [swapsWithSole]; exact dQ hc
 rw [hsw]
 have hs:=Mc (env:=env) (ts:=[.Name a pa,.Name b pb]) (k:=k) (tp:=tp) ht
 rw [hs]
 refine wpAny_bind (wpAny_standAt (wpAny_bind (wpAny_pure (wpAny_bind (X A s F ρ env he hr hi _ _ fun v S1 u s1 F1 ρ1 ⟨x,y,hv,hp⟩ st1 r1=>wpAny_bind (wpAny_pure ?_))))))
 subst hv
 show wpAny _ _ (do assignAll u [assign (.Tuple [.Name a pa,.Name b pb] k tp) env]; pure .next) Q E s1
 refine wpAny_bind ?_
 show wpAny _ _ (assign (.Tuple [.Name a pa,.Name b pb] k tp) env u) _ E s1
 rw [arm_assign_Tuple]
 refine wpAny_bind (wpAny_standAt ?_)
 unfold unpack
 refine wpAny_bind (wpAny_holding ?_)
 show wpAny _ _ (unpackItems u 2 none) _ E s1
 refine n9 hr.handled st1.I r1 fun va vb s2 ra rb st2=> ?_
 show wpAny _ _ (assignInOrder [assign (.Name a pa) env,assign (.Name b pb) env] [va,vb]) _ E s2
 unfold assignInOrder
 refine wpAny_bind (wpAny_holding ?_)
 rw [arm_assign_Name]
 refine wpAny_bind (wpAny_standAt (dH he ha st2.I (.f ra) fun s3 st3=> ?_))
 unfold assignInOrder
 refine wpAny_bind (wpAny_holding ?_)
 rw [arm_assign_Name]
 refine wpAny_bind (wpAny_standAt (dH he hb st3.I (.f rb) fun s4 st4=> ?_))
 unfold assignInOrder
 exact wpAny_pure (wpAny_pure (q .next _ _ _ _ _ hp (((st1.trans st2).trans st3).trans st4) .next))
noncomputable def swp (vs:List PySem.Expr):Bool:= !vs.all (foldedForSure 8) && !vs.all (constantsAlone 8)
theorem GI {vs:List PySem.Expr} (h:swp vs=true):vs.all (foldedForSure 8)=false∧vs.all (constantsAlone 8)=false:=by
 unfold swp at h
 cases h1:vs.all (foldedForSure 8) with
 |true=>rw [h1] at h; cases h
 |false=>cases h2:vs.all (constantsAlone 8) with
  |true=>rw [h1,h2] at h; cases h
  |false=>exact ⟨rfl,rfl⟩
theorem uX (e:PySem.Expr):(match e with| .Starred .. =>true|_=>false)=bV e:=by cases e<;>rfl
theorem fm2 {α β:Type} {f:α→Option β} {x y:α} {a b:β} (h1:f x=some a) (h2:f y=some b):List.filterMap f [x,y]=[a,b]:=by
 rw [List.filterMap_cons_some h1,List.filterMap_cons_some h2]; rfl
theorem Md {env:Env} {a b:Str} {pa pb:Pos} (ka:env.kindOf a=some .local) (kb:env.kindOf b=some .local) (hl:pb.line=pa.line):List.filterMap (fun (x:PySem.Expr)=>match x with| .Name id pos=>if env.kindOf id==some .local && pos.line==pa.line then some id else none|_=>none) [PySem.Expr.Name a pa,.Name b pb]=[a,b]:=by
 have c: ∀{id:Str} {p:Pos},env.kindOf id=some .local→p.line=pa.line→(env.kindOf id==some .local && p.line==pa.line)=true:=fun k l=>by rw [k,l,beq_self_eq_true,beq_self_eq_true]; rfl
 exact fm2 (if_pos (c ka rfl)) (if_pos (c kb hl))
theorem Me {a b:Str} (hab:sq a b=false):[a,b].eraseDups.length=2:=by
 have hne':(b==a)=false:=by
  cases h:b==a with
  |false=>rfl
  |true=>rw [eq_of_beq h,gU] at hab; cases hab
 rw [List.eraseDups_cons,List.filter_cons_of_pos (by rw [hne']; rfl)]; rfl
theorem Ds {env:Env} {e1 e2:PySem.Expr} {a b:Str} {pa pb tp p2:Pos} {k k2:Nat} (he:cj c env) (h1:bV e1=false) (h2:bV e2=false) (hw:swp [e1,e2]=true) (hab:sq a b=false) (hl:Nat.beq pb.line pa.line=true) (ha:kind? c a=some .local) (hb:kind? c b=some .local):swappedStores [.Tuple [.Name a pa,.Name b pb] k tp] (.Tuple [e1,e2] k2 p2) env=pure (some [a,b]):=by
 have nm:=Md (pa:=pa) ((he.kindOf a).trans ha) ((he.kindOf b).trans hb) (Nat.eq_of_beq_eq_true hl)
 have H:=GI hw
 refine (if_neg ?_).trans ((if_neg ?_).trans ((if_neg ?_).trans ((if_neg ?_).trans ((if_neg ?_).trans ?_))))
 ·intro h
  have h:(env.blockKind != .function)=true:=h
  rw [he.block] at h; cases h
 ·intro h
  have h:(bV e1||(bV e2||false))=true:=by rw [←uX,←uX]; exact h
  rw [h1,h2] at h; cases h
 ·intro h
  have h:=(congrArg (fun z:List Str=>z.length !=2||z.eraseDups.length !=z.length) nm).symm.trans h
  have h:([a,b].eraseDups.length !=2)=true:=h
  rw [Me hab] at h; cases h
 ·intro h; rw [H.1] at h; cases h
 ·intro h; rw [H.2] at h; cases h
 ·exact congrArg (fun z=>pure (some z)) nm
theorem aV.pairSw {e1 e2:PySem.Expr} {a b:Str} {pa pb tp pos p2:Pos} {k k2:Nat} {P:Fl→St→Prop} (h1:bV e1=false) (h2:bV e2=false) (hw:swp [e1,e2]=true) (hab:sq a b=false) (hl:Nat.beq pb.line pa.line=true) (ha:kind? c a=some .local) (hb:kind? c b=some .local)
  (X:af prog w K c (.Tuple [e1,e2] k2 p2) S fun v S1=> ∃x y,v= .f (.tup [x,y])∧P .next ⟨put a (.f x) (put b (.f y) S1.loc),S1.σ⟩):aV prog w K c (.Assign [.Tuple [.Name a pa,.Name b pb] k tp] (.Tuple [e1,e2] k2 p2) pos) S P:=fun A s F ρ env he hr hi Q E q=>by
 rw [arm_exec_Assign]
 have hsw:swapsWithSole [.Tuple [.Name a pa,.Name b pb] k tp] (.Tuple [e1,e2] k2 p2) pos.line env=pure false:=by rw [swapsWithSole]; exact dQ rfl
 rw [hsw]
 have hs:swappedStores [.Tuple [.Name a pa,.Name b pb] k tp] (.Tuple [e1,e2] k2 p2) env=pure (some [a,b]):=
  Ds he h1 h2 hw hab hl ha hb
 rw [hs]
 refine wpAny_bind (wpAny_standAt (wpAny_bind (wpAny_pure (wpAny_bind (X A s F ρ env he hr hi _ _ fun v S1 u s1 F1 ρ1 ⟨x,y,hv,hp⟩ st1 r1=>wpAny_bind (wpAny_pure ?_))))))
 subst hv
 show wpAny _ _ (do rule "assign.swapped-stores"; let items←unpackItems u 2 none; assignInOrder [bindName env b,bindName env a] items.reverse; pure .next) Q E s1
 refine wpAny_bind (wpAny_rule (wpAny_bind (n9 hr.handled st1.I r1 fun va vb s2 ra rb st2=> ?_)))
 show wpAny _ _ (do assignInOrder [bindName env b,bindName env a] [vb,va]; pure .next) Q E s2
 refine wpAny_bind ?_
 unfold assignInOrder
 refine wpAny_bind (wpAny_holding (dH he hb st2.I (.f rb) fun s3 st3=> ?_))
 unfold assignInOrder
 refine wpAny_bind (wpAny_holding (dH he ha st3.I (.f ra) fun s4 st4=> ?_))
 unfold assignInOrder
 exact wpAny_pure (wpAny_pure (q .next _ _ _ _ _ hp (((st1.trans st2).trans st3).trans st4) .next))
end
end MineS
set_option backward.match.sparseCases false
namespace MineS
open PySem PySem.W PySem.Calls PyProof.Rows
noncomputable def ieq (a b:Int):Bool:=decide (a=b)
noncomputable def ilt (a b:Int):Bool:=decide (a<b)
noncomputable def ile (a b:Int):Bool:=decide (a≤b)
section
variable {prog:Program} {w:World} {K:Frag} {G:Gl} {c:Cx} {S:St}
theorem yE {a b:Int} (h:b.natAbs<2 ^ 100):Builtin.divisionGoesByPylong a b=false:=by
 unfold Builtin.divisionGoesByPylong
 have:b.natAbs.log2<100∨b=0:=by
  by_cases hb:b=0
  ·exact .inr hb
  ·exact .inl ((Nat.log2_lt (by omega)).mpr h)
 dsimp only
 rw [Bool.and_eq_false_iff]
 left
 rw [decide_eq_false_iff_not]
 rcases this with h|h
 ·split<;>omega
 ·subst h; simp
theorem OpK.neg {a:Int} {P:V→St→Prop} (h:P (.f (.int (-a))) S):OpK prog w K (oU (unaryOp .USub)) c.d [.f (.int a)] S P:=by
 intro A s F ρ L vals hr hi ra Q E q
 refine aA ra.inv1 fun u y2e1 r1=> ?_; subst y2e1
 replace r1:=r1.inv
 cases r1
 exact PySem.P.neg_int (q _ S _ _ F ρ h (hi.to (Nat.succ_pos _)) (.f (.int _ _)))
theorem OpK.notB {b:Bool} {P:V→St→Prop} (h:P (.f (.bool (!b))) S):OpK prog w K (oU (unaryOp .Not)) c.d [.f (.bool b)] S P:=by
 intro A s F ρ L vals hr hi ra Q E q
 refine aA ra.inv1 fun u y3e1 r1=> ?_; subst y3e1
 replace r1:=r1.inv
 cases r1
 exact not_value (wpAny_truthy_bool (q _ S _ _ F ρ h (.refl hi) (.f (.bool _))))
noncomputable def cX:List Fv→Option (List (List Nat))
 |[]=>some []
 | .str s::r=>match cX r with
  |some l=>some (s::l)
  |none=>none
 |_::_=>none
noncomputable def ck (x:List Nat):List (List Nat)→Bool
 |[]=>false
 |y::r=>match az y x with
  |true=>true
  |false=>ck x r
noncomputable def has (x:Nat):List Nat→Bool
 |[]=>false
 |y::r=>match Nat.beq x y with
  |true=>true
  |false=>has x r
noncomputable def llt:List Nat→List Nat→Bool
 |[],[]=>false
 |[],_::_=>true
 |_::_,[]=>false
 |a::x,b::y=>match Nat.blt a b with
  |true=>true
  |false=>match Nat.beq a b with
   |true=>llt x y
   |false=>false
theorem uY: ∀a b:List Nat,llt a b=decide (a<b)
 |[],[]=>by simp [llt]
 |[],_::_=>by simp [llt]
 |_::_,[]=>by simp [llt]
 |a::x,b::y=>by
  unfold llt
  split
  ·rename_i h; have:=Nat.blt_eq.mp h; simp [List.cons_lt_cons_iff,this]
  ·rename_i h
   have h1: ¬a<b:=fun z=>by rw [Nat.blt_eq.mpr z] at h; cases h
   split
   ·rename_i h2; have:=Nat.eq_of_beq_eq_true h2; subst this; rw [uY x y]; simp [List.cons_lt_cons_iff]
   ·rename_i h2; have:=Nat.ne_of_beq_eq_false h2; simp [List.cons_lt_cons_iff,h1,this]
theorem lP (a b:List Nat):az a b=(a==b):=by
 cases q:az a b with
 |true=>rw [(bj a b).mp q]; simp
 |false=>
  cases q2:a==b with
  |false=>rfl
  |true=>rw [beq_iff_eq.mp q2,(bj b b).mpr rfl] at q; cases q
theorem mZ {f:Fv} {r:List Fv} {ys:List (List Nat)} (e:cX (f::r)=some ys): ∃s zs,f= .str s∧cX r=some zs∧ys=s::zs:=by
 cases f with
 |str s=>
  unfold cX at e
  cases q:cX r with
  |none=>rw [q] at e; exact noS e
  |some zs=>rw [q] at e; exact ⟨s,zs,rfl,rfl,(Option.some.inj e).symm⟩
 |_=>exact noS e
theorem j8 {F:Fz} {l:List Fv} {xs:List Value} (h:aJ F l xs): ∀{ys:List (List Nat)},cX l=some ys→StrsAre xs (ys.map fun c=>(⟨c.toArray⟩:Str)):=by
 refine h.ind (P:=fun l xs=> ∀{ys:List (List Nat)},cX l=some ys→StrsAre xs (ys.map fun c=>(⟨c.toArray⟩:Str))) (fun e=>by rw [←Option.some.inj e]; exact .nil) fun f v fs vs h _ ih ys e=> ?_
 obtain ⟨s,zs,e1,e2,e3⟩:=mZ e
 subst e1; subst e3
 cases h
 exact .cons _ _ (ih e2)
theorem oa (a b:Int):ieq a b=(a==b):=by
 unfold ieq
 by_cases h:a=b<;>simp [h]
theorem k6 (x:Nat): ∀l:List Nat,has x l=decide (x∈l)
 |[]=>rfl
 |y::r=>by
  unfold has
  split
  ·rename_i h; simp [Nat.eq_of_beq_eq_true h]
  ·rename_i h; rw [k6 x r]; have:=Nat.ne_of_beq_eq_false h; simp [this]
theorem jE (x:List Nat): ∀ys:List (List Nat),ck x ys=(ys.map fun c=>(⟨c.toArray⟩:Str)).any fun y=>y==(⟨x.toArray⟩:Str)
 |[]=>rfl
 |y::r=>by
  unfold ck
  rw [List.map_cons,List.any_cons,←jE x r]
  cases q:az y x with
  |true=>rw [(bj y x).mp q]; simp
  |false=>
   have:((⟨y.toArray⟩:Str)==⟨x.toArray⟩)=false:=by
    cases z:((⟨y.toArray⟩:Str)==⟨x.toArray⟩) with
    |false=>rfl
    |true=>
     have:=beq_iff_eq.mp z
     simp only [Str.mk.injEq] at this
     have:=congrArg Array.toList this
     simp only at this
     rw [(bj y x).mpr this] at q; cases q
   rw [this]; rfl
end
end MineS
namespace MineS
open PySem PySem.W PySem.Calls PyProof.Rows
theorem InH.invList {K:Frag} {σ:List MO} {h:Heap} {F:Fz} {ρ:Rho} (I:InH K σ h F ρ) {i:Nat} {l:List Fv} {p:Addr×Addr} (e:σ[i]? =some (.list l)) (e2:ρ[i]? =some p): ∃xs,h.IsList p.1 (xs:List Value).toArray∧aJ F l xs:=by
 cases I.ob _ _ _ e e2 with|list a d=>exact ⟨_,⟨_,a,rfl,_,rfl⟩,d⟩
theorem InH.invListX {K:Frag} {σ:List MO} {h:Heap} {F:Fz} {ρ:Rho} (I:InH K σ h F ρ) {i:Nat} {l:List Fv} {p:Addr×Addr} (e:σ[i]? =some (.list l)) (e2:ρ[i]? =some p): ∃xs n,h.get? p.1=some (gE (xs:List Value).toArray n)∧aJ F l xs:=by
 cases I.ob _ _ _ e e2 with|list a d=>exact ⟨_,_,a,d⟩
theorem InH.fList {K:Frag} {σ:List MO} {h:Heap} {F:Fz} {ρ:Rho} (I:InH K σ h F ρ) {l:List Fv} {u:Value} (r:aG F (.list l) u): ∃a xs,u= .ref a∧h.IsList a (xs:List Value).toArray∧aJ F l xs:=by
 refine AL r.invList fun a o xs n y0e1 h1 h2 h3 h4=> ?_; subst y0e1
 exact ⟨a,xs,rfl,⟨o,I.fh _ _ h1,h2,n,h3⟩,h4⟩
theorem InH.fTup {K:Frag} {σ:List MO} {h:Heap} {F:Fz} {ρ:Rho} (I:InH K σ h F ρ) {l:List Fv} {u:Value} (r:aG F (.tup l) u): ∃a xs,u= .ref a∧IsTup h a (xs:List Value).toArray∧aJ F l xs:=by
 refine dN r.invTup fun a xs n y1e1 h1 h4=> ?_; subst y1e1
 exact ⟨a,xs,rfl,⟨_,I.fh _ _ h1,rfl,n,rfl⟩,h4⟩
noncomputable def nth {α:Type}:List α→Nat→Option α
 |[],_=>none
 |a::_,0=>some a
 |_::r,n+1=>nth r n
theorem em {α:Type}: ∀(l:List α) (n:Nat),nth l n=l[n]?
 |[],_=>by simp [nth]
 |a::_,0=>by simp [nth]
 |_::r,n+1=>by simp [nth,em r n]
theorem aJ.nth {F:Fz} {l:List Fv} {us:List Value} (h:aJ F l us): ∀{n:Nat} {f:Fv},MineS.nth l n=some f→ ∃u,us[n]? =some u∧aG F f u:=by
 refine h.ind (P:=fun l us=> ∀{n:Nat} {f:Fv},MineS.nth l n=some f→ ∃u,us[n]? =some u∧aG F f u) (fun e=>noS e) fun f v fs vs h _ ih n g e=> ?_
 cases n with
 |zero=>exact ⟨v,rfl,Option.some.inj e▸h⟩
 |succ n=>refine aA (ih (n:=n) e) fun u h1 h2=> ?_; exact ⟨u,by simpa using h1,h2⟩
noncomputable def tI (i:Int) (n:Nat):Option Nat:=match i with
 | .ofNat k=>match Nat.blt k n with
  |true=>some k
  |false=>none
 | .negSucc k=>match Nat.blt k n with
  |true=>some (n-(k+1))
  |false=>none
theorem uZ (i:Int) (n:Nat):tI i n=seqIndex? i n:=by
 unfold tI seqIndex?
 cases i with
 |ofNat k=>
  have h0: ¬(Int.ofNat k<0):=by simp
  simp only [h0,if_false]
  by_cases h:k<n
  ·rw [Nat.blt_eq.mpr h,if_pos (by simp; omega)]; rfl
  ·have:Nat.blt k n=false:=by
    cases q:Nat.blt k n with
    |false=>rfl
    |true=>exact absurd (Nat.blt_eq.mp q) h
   rw [this,if_neg (by simp; omega)]
 |negSucc k=>
  have hneg:(Int.negSucc k:Int)<0:=Int.negSucc_lt_zero k
  simp only [hneg,if_true]
  by_cases h:k<n
  ·rw [Nat.blt_eq.mpr h,if_pos (by simp; omega)]
   simp only
   congr 1; omega
  ·have:Nat.blt k n=false:=by
    cases q:Nat.blt k n with
    |false=>rfl
    |true=>exact absurd (Nat.blt_eq.mp q) h
   rw [this,if_neg (by simp; omega)]
noncomputable def g5:PySem.Expr→Bool
 | .Slice .. =>false
 |_=>true
theorem yF (a b:List Nat):Spec.same (.str ⟨a.toArray⟩) (.str ⟨b.toArray⟩)=az a b:=by
 unfold Spec.same
 cases q:az a b with
 |true=>rw [(bj a b).mp q]; simp
 |false=>
  have:a≠b:=by rintro rfl; rw [(bj a a).mpr rfl] at q; cases q
  simp [this]
theorem fH (k:List Nat): ∀kv:List (List Nat×Fv),Spec.lookup (.str ⟨k.toArray⟩) (kv.map fun p=>(PyData.str ⟨p.1.toArray⟩,eK p.2))=(lkN k kv).map eK
 |[]=>rfl
 |(y,v)::r=>by
  simp only [List.map_cons,Spec.lookup,yF,lkN]
  cases az y k with
  |true=>rfl
  |false=>exact fH k r
theorem lQ {F:Fz} {h:Heap} {f:Fv} {v:Value} {as:List Addr} (hf:eh f=true) (r:Reads h v (eK f) as):aG F f v:=by
 cases f<;>first|cases hf|skip
 ·cases r; exact .int _ _
 ·cases r; exact .str _ _
theorem oc {α:Type} {k:List Nat} {f:α}: ∀{kv:List (List Nat×α)},lkN k kv=some f→ ∃p∈kv,p.2=f
 |[],h=>by cases h
 |(y,v)::r,h=>by
  simp only [lkN] at h
  split at h
  ·cases h; exact ⟨(y,f),by simp,rfl⟩
  ·refine aA (oc h) fun p h1 h2=> ?_; exact ⟨p,by simp [h1],h2⟩
section
variable {prog:Program} {w:World} {K:Frag} {G:Gl} {c:Cx} {S:St}
theorem k7 {A:Around} {s:Shared} {E:Value→Shared→Prop} {value slice:PySem.Expr} {o i:Value} {T id:String} {Q:Value→Shared→Prop} (hn:g5 slice=true) (hT:s.TypeIs o T)
  (hl:typeLookup (.type T) (Str.ofString "__getitem__")=pure (some (.builtin id))) (h:wpAny (model prog w) A (getItem o i) Q E s):wpAny (model prog w) A (subscriptTail value slice o i) Q E s:=by
 have hs:subscripted slice false o i=operate [o,i] (getItem o i):=by cases slice<;>first|rfl|cases hn
 unfold subscriptTail
 refine wpAny_bind ?_
 rw [getitemInPython_of_ne hT.not_modules]
 refine wpAny_bind (wpAny_specialOf hT hl ?_)
 have fin:wpAny (model prog w) A (subscripted slice false o i) (fun r s₃=>wpAny (model prog w) A (letTemporaryGo value o r>>=fun _=>pure r) Q E s₃) E s:=by
  rw [hs]
  exact wpAny_operating (wpAny_mono h (fun r s₃ h₃=>wpAny_bind (wpAny_letTemporaryGo (wpAny_pure h₃))) fun _ _ x=>x)
 first
  |exact wpAny_pure (wpAny_bind fin)
  |exact wpAny_bind (wpAny_pure (wpAny_bind fin))
  |exact wpAny_bind fin
end
end MineS
set_option backward.match.sparseCases true
namespace MineS
open PySem PySem.W PySem.Calls PyProof.Rows
theorem tJ (a n:Nat) (x:Int):(if (1:Int)>0 then max 0 (min (if (a:Int)<0 then (a:Int)+n else a) n) else x)=((min a n:Nat):Int):=by
 rw [if_pos (by decide),if_neg (Int.not_lt.mpr (Int.natCast_nonneg a))]
 rcases Nat.le_total a n with q|q
 ·rw [Nat.min_eq_left q,Int.min_eq_left (Int.ofNat_le.mpr q)]
  exact Int.max_eq_right (Int.natCast_nonneg _)
 ·rw [Nat.min_eq_right q,Int.min_eq_right (Int.ofNat_le.mpr q)]
  exact Int.max_eq_right (Int.natCast_nonneg _)
theorem ssi (a b n:Nat):Builtin.Str.strSliceIndices (some (a:Int)) (some (b:Int)) 1 n=sliceRange ((min a n:Nat):Int) ((min b n:Nat):Int) 1:=by
 unfold Builtin.Str.strSliceIndices
 dsimp only
 rw [tJ,tJ]
theorem u0 (a n:Nat):min (min a n) n=min a n:=Nat.min_eq_left (Nat.min_le_right a n)
theorem yG {a b n:Nat} (h:min a n≤min b n):Builtin.Str.strSliceIndices (some (a:Int)) (some (b:Int)) 1 n=(List.range (min b n-min a n)).map fun k=>min a n+k:=by
 have e:=StrLaws.strSliceIndices_plain (len:=n) h (Nat.min_le_right b n)
 rw [ssi,u0,u0,←ssi] at e
 exact e
theorem u6 {a b n:Nat} (h: ¬min a n≤min b n):Builtin.Str.strSliceIndices (some (a:Int)) (some (b:Int)) 1 n=[]:=by
 rw [ssi]
 unfold sliceRange
 rw [if_pos (by decide),if_neg (fun q=>h (Nat.le_of_lt (Int.ofNat_lt.mp q)))]
 rfl
theorem AO {l:List Nat} {a n:Nat} (h:l.length≤n):l.drop (min a n)=l.drop a:=by
 rcases Nat.le_total a n with q|q
 ·rw [Nat.min_eq_left q]
 ·rw [Nat.min_eq_right q,List.drop_of_length_le h,List.drop_of_length_le (Nat.le_trans h q)]
theorem AP (l:List Nat) (b:Nat):l.take (min b l.length)=l.take b:=by
 rcases Nat.le_total b l.length with q|q
 ·rw [Nat.min_eq_left q]
 ·rw [Nat.min_eq_right q,List.take_of_length_le (Nat.le_refl _),List.take_of_length_le q]
theorem yH (cs:List Nat) (a b:Nat):(cs.drop (min a cs.length)).take (min b cs.length-min a cs.length)=(cs.take b).drop a:=by
 rw [←List.drop_take,AP,AO (by rw [List.length_take]; exact Nat.min_le_right _ _)]
theorem xf (cs:List Nat) (a b:Nat):(Builtin.Str.strSliceIndices (some (a:Int)) (some (b:Int)) 1 cs.length).filterMap (fun i=>cs.toArray[i]?)=(cs.take b).drop a:=by
 have f:(fun i:Nat=>cs.toArray[i]?)=fun i=>cs[i]? :=funext fun i=>List.getElem?_toArray ..
 rw [f,←yH]
 by_cases h:min a cs.length≤min b cs.length
 ·rw [yG h]
  exact StrLaws.picks cs _ _ (by rw [Nat.add_sub_cancel' h]; exact Nat.min_le_right _ _)
 ·rw [u6 h,Nat.sub_eq_zero_of_le (Nat.le_of_lt (Nat.lt_of_not_le h))]
  rfl
theorem xg {cs:List Nat} {a b:Nat} (h:(Builtin.Str.strSliceIndices (some (a:Int)) (some (b:Int)) 1 cs.length).length=cs.length):(cs.take b).drop a=cs:=by
 by_cases q:min a cs.length≤min b cs.length
 ·rw [yG q,List.length_map,List.length_range] at h
  have h1:=Nat.min_le_right b cs.length
  have h2:=Nat.min_le_right a cs.length
  rw [←yH,h]
  generalize min a cs.length=x at*
  have:x=0:=by omega
  rw [this,List.drop_zero,List.take_of_length_le (Nat.le_refl _)]
 ·rw [u6 q] at h
  rw [List.length_eq_zero_iff.mp h.symm]; simp
theorem oe {M:Model} {s:Shared} {cs:List Nat} {t ta tb:Tok} {a b:Nat} {Q:Value→Shared→Prop} (hz:cs.length≤16777216) (q: ∀t' tk,Q (.str ⟨((cs.take b).drop a).toArray⟩ t') ⟨s.heap,s.gens,s.drawn,tk,s.os⟩):
  (sliceMade ⟨cs.toArray⟩ t (some ((a:Int),ta)) (some ((b:Int),tb)) none).post Q s:=by
 have hl:(⟨cs.toArray⟩:Str).length=cs.length:=List.size_toArray ..
 have e:slicePicked ⟨cs.toArray⟩ (some ((a:Int),ta)) (some ((b:Int),tb)) none=Builtin.Str.strSliceIndices (some (a:Int)) (some (b:Int)) 1 cs.length:=by
  unfold slicePicked; rw [hl]; rfl
 unfold sliceMade
 rw [e,hl]
 by_cases h:((Option.map Prod.fst (none:Option (Int×Tok))).getD 1==1 && (Builtin.Str.strSliceIndices (some (a:Int)) (some (b:Int)) 1 cs.length).length==cs.length)=true
 ·rw [if_pos h]
  have e2:=xg (beq_iff_eq.mp ((Bool.and_eq_true _ _).mp h).2)
  have:=q t s.toks
  rw [e2] at this
  exact this
 ·rw [if_neg h]
  show _∧_
  have e3:(Builtin.Str.strSliceIndices (some (a:Int)) (some (b:Int)) 1 cs.length).filterMap (fun i=>(⟨cs.toArray⟩:Str).cps[i]?)=(cs.take b).drop a:=xf cs a b
  rw [e3]
  refine ⟨?_,q _ _⟩
  show ((cs.take b).drop a).toArray.size≤_
  rw [sizeLine_eq,List.size_toArray]
  exact Nat.le_trans ((List.drop_sublist _ _).trans (List.take_sublist _ _)).length_le hz
section
variable {prog:Program} {w:World} {K:Frag} {G:Gl} {c:Cx} {S:St}
theorem tK {A:Around} {s:Shared} {E:Value→Shared→Prop} {value:PySem.Expr} {lo up:Option PySem.Expr} {p:Pos} {o i:Value} {T id:String} {Q:Value→Shared→Prop} (hT:s.TypeIs o T)
  (hl:typeLookup (.type T) (Str.ofString "__getitem__")=pure (some (.builtin id))) (h:wpAny (model prog w) A (getItem o i) Q E s):wpAny (model prog w) A (subscriptTail value (.Slice lo up none p) o i) Q E s:=by
 unfold subscriptTail
 refine wpAny_bind ?_
 rw [getitemInPython_of_ne hT.not_modules]
 refine wpAny_bind (wpAny_specialOf hT hl ?_)
 have fin:wpAny (model prog w) A (subscripted (.Slice lo up none p) false o i) (fun r s₃=>wpAny (model prog w) A (letTemporaryGo value o r>>=fun _=>pure r) Q E s₃) E s:=by
  show wpAny _ _ (operate [i,o] (getItem o i)) _ _ _
  exact wpAny_operating (wpAny_mono h (fun r s₃ h₃=>wpAny_bind (wpAny_letTemporaryGo (wpAny_pure h₃))) fun _ _ x=>x)
 first
  |exact wpAny_pure (wpAny_bind fin)
  |exact wpAny_bind (wpAny_pure (wpAny_bind fin))
  |exact wpAny_bind fin
theorem af.slice {e l u:PySem.Expr} {sp pos:Pos} {P:V→St→Prop}
  (X:af prog w K c e S fun v S1=>af prog w K c l S1 fun vl S2=>af prog w K c u S2 fun vu S3=> ∃cs a b,v= .f (.str cs)∧vl= .f (.int (Int.ofNat a))∧vu= .f (.int (Int.ofNat b))∧cs.length≤16777216∧P (.f (.str ((cs.take b).drop a))) S3):
  af prog w K c (.Subscript e (.Slice (some l) (some u) none sp) pos) S P:=fun A s F ρ env he hr hi Q E q=>by
 refine wpAny_with_toks (n:=1) hi.t ?_
 refine Subscript_ (X A s F ρ env he hr hi _ _ fun v S1 u1 s1 F1 ρ1 y st1 r1=>wpAny_Slice ?_)
 rw [evalPart_some,evalPart_some,evalPart_none]
 refine y A s1 F1 ρ1 env he hr st1.I _ _ fun vl S2 u2 s2 F2 ρ2 z st2 r2=>z A s2 F2 ρ2 env he hr st2.I _ _ fun vu S3 u3 s3 F3 ρ3 ⟨cs,a,b,e1,e2,e3,hz,hp⟩ st3 r3=>wpAny_pure ?_
 subst e1; subst e2; subst e3
 obtain ⟨t,rfl⟩:=r1.inv.invStr
 obtain ⟨ta,rfl⟩:=r2.inv.invInt
 obtain ⟨tb,rfl⟩:=r3.inv.invInt
 have st:=(st1.trans st2).trans st3
 refine tK (typeIs_str _ _ t) slot_str_getitem.lookup (wpAny_getItem_str_slice (l:=some ((a:Int),ta)) (u:=some ((b:Int),tb)) (st:=none) ⟨_,Heap.get?_push_size _ rfl,rfl,rfl⟩ rfl (oe (M:=model prog w) hz fun t' tk ht=> ?_))
 exact q _ S3 _ _ F3 ρ3 hp (st.on ht (st3.I.i.stp (σ':=S3.σ) (Stp.heap st3.I.H fun a o e=>Heap.get?_push_of_some _ e))) (.f (.str _ _))
theorem af.sliceT {e l:PySem.Expr} {sp pos:Pos} {P:V→St→Prop}
  (X:af prog w K c e S fun v S1=>af prog w K c l S1 fun vl S2=> ∃l a,v= .f (.tup l)∧vl= .f (.int (Int.ofNat a))∧Nat.ble 1 a=true∧Nat.ble a l.length=true∧Nat.ble l.length 1000=true∧P (.f (.tup (l.drop a))) S2):
  af prog w K c (.Subscript e (.Slice (some l) none none sp) pos) S P:=fun A s F ρ env he hr hi Q E q=>by
 refine Subscript_ (X A s F ρ env he hr hi _ _ fun v S1 u1 s1 F1 ρ1 y st1 r1=>wpAny_Slice ?_)
 rw [evalPart_some,evalPart_none]
 refine y A s1 F1 ρ1 env he hr st1.I _ _ fun vl S2 u2 s2 F2 ρ2 ⟨l,a,e1,e2,h1,h2,h3,hp⟩ st2 r2=>wpAny_pure (wpAny_pure ?_)
 subst e1; subst e2
 have g: ∀b o,s2.heap.get? b=some o→(s2.heap.push {cls:= .type "slice",data:= .fields #[u2,.none,.none]}).get? b=some o:=fun b o e=>Heap.get?_push_of_some _ e
 have st3:dO K env.locals S2 s2.heap F2 ρ2 S2 (s2.heap.push {cls:= .type "slice",data:= .fields #[u2,.none,.none]}) F2 ρ2:=st2.I.i.stp (σ':=S2.σ) (Stp.heap st2.I.H g)
 refine bw (st3.I.H.fTup (r1.mono st2.k.ff st2.r).inv) fun t xs y0e1 L rl=> ?_; subst y0e1
 obtain ⟨ta,rfl⟩:=r2.inv.invInt
 have k1:=Nat.ble_eq.mp h1
 have k2:=Nat.ble_eq.mp h2
 have k3:=Nat.ble_eq.mp h3
 have ln:=rl.length
 have dr: ∀(l:List Fv) (xs:List Value) (n:Nat),aJ F2 l xs→aJ F2 (l.drop n) (xs.drop n):=by
  intro l xs n h
  induction n generalizing l xs with
  |zero=>simpa using h
  |succ n ih=>
   cases h with
   |nil=>simp; exact .nil
   |cons h1 h2=>simpa using ih _ _ h2
 refine tK (T:="tuple") L.typeIs slot_tuple_getitem.lookup (getItem_tuple_from L ⟨_,Heap.get?_push_size _ rfl,rfl,rfl⟩ k1 (by simp; omega) ?_ (by rw [sizeLine_eq]; simp; omega))
 refine aA (st3.I.newTup (dr l xs a rl)) fun F' st4 r4=> ?_
 exact q _ S2 _ _ F' ρ2 hp ((st1.trans st2).on st2.t (st3.trans st4)) (.f (by simpa using r4))
theorem OpK.eqLen {i j:Nat} {l l':List Fv} {P:V→St→Prop} (h1:S.σ[i]? =some (.list l)) (h2:S.σ[j]? =some (.list l')) (hn:Nat.beq l.length l'.length=false) (h:P (.f (.bool false)) S):OpK prog w K (oB (compareOp .Eq)) c.d [.r i,.r j] S P:=by
 intro A s F ρ L vals hr hi ra Q E q
 refine bw ra.inv2 fun u v y2e1 r1 r2=> ?_; subst y2e1
 refine cV r1.invR fun a d y3e1 ha=> ?_; subst y3e1
 refine cV r2.invR fun b d' y4e1 hb=> ?_; subst y4e1
 refine aA (hi.H.invList h1 ha) fun xs L1 q1=> ?_
 refine aA (hi.H.invList h2 hb) fun ys L2 q2=> ?_
 refine PySem.SeqAt.eq_list_lengthsAt L1 L2 ?_ (by have:=hr.units; omega) (q _ S _ _ F ρ h (.refl hi) (.f (.bool _)))
 have:=q1.length; have:=q2.length; have:=Nat.ne_of_beq_eq_false hn
 simp; omega
theorem OpK.inList {j:Nat} {x:List Nat} {l:List Fv} {ys:List (List Nat)} {P:V→St→Prop} (h2:S.σ[j]? =some (.list l)) (ht:cX l=some ys) (h:P (.f (.bool (ck x ys))) S):OpK prog w K (oB (compareOp .In)) c.d [.f (.str x),.r j] S P:=by
 intro A s F ρ L vals hr hi ra Q E q
 refine bw ra.inv2 fun u v y7e1 r1 r2=> ?_; subst y7e1
 obtain ⟨t,rfl⟩:=r1.inv.invStr
 refine cV r2.invR fun b d' y8e1 hb=> ?_; subst y8e1
 refine aA (hi.H.invList h2 hb) fun ys' L2 q2=> ?_
 refine in_list_strs L2 (j8 q2 ht) ?_
 rw [←jE]
 exact q _ S _ _ F ρ h (.refl hi) (.f (.bool _))
noncomputable def tL {α:Type}:Option α→Bool
 |some _=>true
 |none=>false
theorem u7 {α:Type} (o:Option α):tL o=o.isSome:=by cases o<;>rfl
theorem OpK.inDict (g:GOK prog w K G) {a:Addr} {k:List Nat} {kv:List (List Nat×Fv)} {P:V→St→Prop} (hd:bx a G.dcs=some kv) (h:P (.f (.bool (tL (lkN k kv)))) S):OpK prog w K (oB (compareOp .In)) c.d [.f (.str k),.f (.glob a)] S P:=by
 intro A s F ρ L vals hr hi ra Q E q
 refine bw ra.inv2 fun u v y10e1 r1 r2=> ?_; subst y10e1
 obtain ⟨t,rfl⟩:=r1.inv.invStr
 obtain rfl:=r2.inv.invGlob
 refine in_dict ((g.dcs a kv hd).2 _ hi.H.kin) ?_
 rw [fH,Option.isSome_map,←u7]
 exact q _ S _ _ F ρ h (hi.to (Nat.succ_pos _)) (.f (.bool _))
theorem OpK.notInDict (g:GOK prog w K G) {a:Addr} {k:List Nat} {kv:List (List Nat×Fv)} {P:V→St→Prop} (hd:bx a G.dcs=some kv) (h:P (.f (.bool (!tL (lkN k kv)))) S):OpK prog w K (oB (compareOp .NotIn)) c.d [.f (.str k),.f (.glob a)] S P:=by
 intro A s F ρ L vals hr hi ra Q E q
 refine bw ra.inv2 fun u v y11e1 r1 r2=> ?_; subst y11e1
 obtain ⟨t,rfl⟩:=r1.inv.invStr
 obtain rfl:=r2.inv.invGlob
 refine notin_dict ((g.dcs a kv hd).2 _ hi.H.kin) ?_
 rw [fH,Option.isSome_map,←u7]
 exact q _ S _ _ F ρ h (hi.to (Nat.succ_pos _)) (.f (.bool _))
end
end MineS
set_option backward.match.sparseCases false
namespace MineS
open PySem PySem.W PySem.Calls PyProof.Rows
section
variable {prog:Program} {w:World} {K:Frag} {G:Gl} {c:Cx} {S:St}
theorem gO {A:Around} {E:Value→Shared→Prop} {s:Shared} {M:Model} {env:Env} {pos:Pos} {id:String} {first:List Value} {args:List PySem.Expr} {Q:Value→Shared→Prop} (hs:bk args=true)
  (h:wpAny M A (spliced (backTo pos (starEach args env))) (fun vs s1=>wpAny M A (PySem.call (.builtin id) (first++vs)) Q E s1) E s):wpAny M A (callWith pos (.builtin id) first (backTo pos (starEach args env)) []) Q E s:=by
 refine callWith_builtin (eQ hs) ?_
 cases args with
 |nil=>exact fun Γ p hΓ=>(PySem.evalArgs_none (h Γ p hΓ)) Γ p hΓ
 |cons e r=>
  have hs':bV e=false:=by
   unfold bk at hs; split at hs
   ·cases hs
   ·assumption
  rw [bY hs',da] at h ⊢
  exact evalArgs_plain h
theorem m0 {A:Around} {E:Value→Shared→Prop} {s:Shared} {M:Model} {env:Env} {pos:Pos} {T:String} {first:List Value} {args:List PySem.Expr} {Q:Value→Shared→Prop} (hs:bk args=true)
  (h:wpAny M A (spliced (backTo pos (starEach args env))) (fun vs s1=>wpAny M A (PySem.call (.type T) (first++vs)) Q E s1) E s):wpAny M A (callWith pos (.type T) first (backTo pos (starEach args env)) []) Q E s:=by
 refine PySem.callWith_type (eQ hs) ?_
 cases args with
 |nil=>exact fun Γ p hΓ=>(PySem.evalArgs_none (h Γ p hΓ)) Γ p hΓ
 |cons e r=>
  have hs':bV e=false:=by
   unfold bk at hs; split at hs
   ·cases hs
   ·assumption
  rw [bY hs',da] at h ⊢
  exact evalArgs_plain h
theorem af.callB (g:GOK prog w K G) {f:Str} {id:String} {fp pos:Pos} {args:List PySem.Expr} {P:V→St→Prop} (hs:bk args=true) (hd:sq f dbg=false) (hk:kind? c f=some .globalImplicit) (hl:look f G.bis=some id)
  (X:bB prog w K c args S fun vs S1=>OpK prog w K (fun us=>PySem.call (.builtin id) us) c.d vs S1 P):af prog w K c (.Call (.Name f fp) args [] pos) S P:=fun A s F ρ env he hr hi Q E q=>by
 show wpAny (model prog w) A (eval (.Name f fp) env>>=fun fv=>callWith pos fv [] (backTo pos (starEach args env)) []) Q E s
 obtain ⟨h0,h1⟩:=g.bis f id hl
 have n:=g.g3 s.heap hi.H.kin
 have n':=g.b0 s.heap hi.H.kin
 refine wpAny_bind (Name_function_global he.kind ((he.kindOf f).trans hk) (loadGlobal_builtin (by rw [he.globals]; exact n) h0 (by rw [he.builtins]; exact n') h1 ?_) (fu hd))
 refine gO hs (X A s F ρ env he hr hi pos _ _ fun vs S2 us s2 F2 ρ2 z st2 r2=> ?_)
 exact z A s2 F2 ρ2 env.locals us hr st2.I r2 Q E fun v S' u' s' F' ρ' p st3 r3=>q v S' u' s' F' ρ' p (st2.trans st3) r3
theorem af.callT (g:GOK prog w K G) {f:Str} {T:String} {fp pos:Pos} {args:List PySem.Expr} {P:V→St→Prop} (hs:bk args=true) (hd:sq f dbg=false) (hk:kind? c f=some .globalImplicit) (hl:look f G.bin=some (.ty T))
  (X:bB prog w K c args S fun vs S1=>OpK prog w K (fun us=>PySem.call (.type T) us) c.d vs S1 P):af prog w K c (.Call (.Name f fp) args [] pos) S P:=fun A s F ρ env he hr hi Q E q=>by
 show wpAny (model prog w) A (eval (.Name f fp) env>>=fun fv=>callWith pos fv [] (backTo pos (starEach args env)) []) Q E s
 refine bG (g.bin f _ hl) fun h0 y0w0=> ?_; refine aA y0w0 fun u h1 h2=> ?_
 have hu:=(h2 F hi.H.kle).invTy
 subst hu
 have n:=g.g3 s.heap hi.H.kin
 have n':=g.b0 s.heap hi.H.kin
 refine wpAny_bind (Name_function_global he.kind ((he.kindOf f).trans hk) (loadGlobal_builtin (by rw [he.globals]; exact n) h0 (by rw [he.builtins]; exact n') h1 ?_) (fu hd))
 refine m0 hs (X A s F ρ env he hr hi pos _ _ fun vs S2 us s2 F2 ρ2 z st2 r2=> ?_)
 exact z A s2 F2 ρ2 env.locals us hr st2.I r2 Q E fun v S' u' s' F' ρ' p st3 r3=>q v S' u' s' F' ρ' p (st2.trans st3) r3
noncomputable def cK (prog:Program) (w:World) (K:Frag) (S:St) (v:V) (x:Str) (id:String):Prop:=
 ∀(A:Around) (s:Shared) (F:Fz) (ρ:Rho) (L:Addr) (u:Value),InT K L S s F ρ→bg F ρ v u→ ∀(pl:Sem Bool) (Q:Value×List Value→Shared→Prop) (E:Value→Shared→Prop),Q (.builtin id,[u]) s→wpAny (model prog w) A (getMethod u x pl) Q E s
theorem OpK.leaf {t:List Value→Sem Value} {d:Nat} {args:List V} {f:Fv} {P:V→St→Prop}
  (X: ∀(A:Around) (s:Shared) (F:Fz) (ρ:Rho) (L:Addr) (vals:List Value),dP d A→InT K L S s F ρ→bc F ρ args vals→ ∀(Q:Value→Shared→Prop) (E:Value→Shared→Prop),(∀u h' tk,(∀a o,s.heap.get? a=some o→h'.get? a=some o)→(∀F:Fz,aG F f u)→Q u ⟨h',s.gens,s.drawn,tk,s.os⟩)→wpAny (model prog w) A (t vals) Q E s)
  (p:P (.f f) S):OpK prog w K t d args S P:=fun A s F ρ L vals hr hi ra Q E q=>by
 refine wpAny_with_toks (n:=1) hi.t ?_
 exact X A s F ρ L vals hr hi ra (fun u s'=>1≤s'.toks→Q u s') _ fun u h' tk g r ht=>q _ S _ ⟨h',s.gens,s.drawn,tk,s.os⟩ F ρ p (hi.on ht (hi.i.stp (σ':=S.σ) (Stp.heap hi.H g))) (.f (r F))
noncomputable def xh (S:St):V→Option Nat
 | .f (.str cs)=>some cs.length
 | .f (.list l)=>some l.length
 | .f (.tup l)=>some l.length
 | .r i=>match S.σ[i]? with
  |some (.list l)=>some l.length
  |_=>none
 |_=>none
theorem OpK.len {v:V} {n:Nat} {P:V→St→Prop} (e:xh S v=some n) (hn:n<2 ^ 63) (p:P (.f (.int (Int.ofNat n))) S):OpK prog w K (fun us=>PySem.call (.builtin "len") us) c.d [v] S P:=by
 refine OpK.leaf (fun A s F ρ L vals hr hi ra Q E q=> ?_) p
 refine aA ra.inv1 fun u y1e1 r=> ?_; subst y1e1
 have fin: ∀t k,Q (.int (n:Int) t) ⟨s.heap,s.gens,s.drawn,k,s.os⟩:=fun t k=>q _ _ _ (fun _ _ e=>e) fun F=> .int _ _
 unfold xh at e
 split at e<;>first|cases e; done|skip
 ·simp only [Option.some.injEq] at e
  obtain ⟨t,rfl⟩:=r.inv.invStr
  have hl: ∀cs:List Nat,(⟨cs.toArray⟩:Str).length=cs.length:=fun cs=>by show cs.toArray.size=_; simp
  refine PySem.P.len_str (by rw [hl,e]; omega) ?_
  rw [hl,e]; exact fin _ _
 ·simp only [Option.some.injEq] at e
  refine bw (hi.H.fList r.inv) fun a xs y2e1 h1 h2=> ?_; subst y2e1
  have:=h2.length
  refine PyProof.Rows.len_list h1 (by simp; omega) ?_
  rw [List.size_toArray,this,e]; exact fin _ _
 ·simp only [Option.some.injEq] at e
  refine bw (hi.H.fTup r.inv) fun a xs y3e1 h1 h2=> ?_; subst y3e1
  have:=h2.length
  refine PyProof.Rows.len_tuple h1 (by simp; omega) ?_
  rw [List.size_toArray,this,e]; exact fin _ _
 ·split at e<;>first|cases e; done|skip
  rename_i hσ
  simp only [Option.some.injEq] at e
  refine cV r.invR fun a d y4e1 hp=> ?_; subst y4e1
  refine aA (hi.H.invList hσ hp) fun xs h1 h2=> ?_
  have:=h2.length
  refine PyProof.Rows.len_list h1 (by simp; omega) ?_
  rw [List.size_toArray,this,e]; exact fin _ _
theorem OpK.ord {x:Nat} {P:V→St→Prop} (p:P (.f (.int (Int.ofNat x))) S):OpK prog w K (fun us=>PySem.call (.builtin "ord") us) c.d [.f (.str [x])] S P:=by
 refine OpK.leaf (fun A s F ρ L vals hr hi ra Q E q=> ?_) p
 refine aA ra.inv1 fun u y6e1 r=> ?_; subst y6e1
 obtain ⟨t,rfl⟩:=r.inv.invStr
 exact ord_of_one rfl (q _ _ _ (fun _ _ e=>e) fun F=> .int _ _)
theorem OpK.intI {x:Int} {P:V→St→Prop} (p:P (.f (.int x)) S):OpK prog w K (fun us=>PySem.call (.type "int") us) c.d [.f (.int x)] S P:=by
 refine OpK.leaf (fun A s F ρ L vals hr hi ra Q E q=> ?_) p
 refine aA ra.inv1 fun u y7e1 r=> ?_; subst y7e1
 obtain ⟨t,rfl⟩:=r.inv.invInt
 exact call_int_int (q _ _ s.toks (fun _ _ e=>e) fun F=> .int _ _)
theorem OpK.intB {b:Bool} {P:V→St→Prop} (p:P (.f (.int (if b=true then 1 else 0))) S):OpK prog w K (fun us=>PySem.call (.type "int") us) c.d [.f (.bool b)] S P:=by
 refine OpK.leaf (fun A s F ρ L vals hr hi ra Q E q=> ?_) p
 refine aA ra.inv1 fun u y8e1 r=> ?_; subst y8e1
 have:=r.inv; cases this
 exact call_int_bool (q _ _ _ (fun _ _ e=>e) fun F=> .int _ _)
noncomputable def AQ (i:Int):List Nat:=(Str.ofString (toString i)).cps.toList
theorem OpK.strI {x:Int} {P:V→St→Prop} (h:x.natAbs<2 ^ 1000) (p:P (.f (.str (AQ x))) S):OpK prog w K (fun us=>PySem.call (.type "str") us) c.d [.f (.int x)] S P:=by
 refine OpK.leaf (fun A s F ρ L vals hr hi ra Q E q=> ?_) p
 refine aA ra.inv1 fun u y9e1 r=> ?_; subst y9e1
 obtain ⟨t,rfl⟩:=r.inv.invInt
 have hlog:x.natAbs.log2<1920:=by
  by_cases h0:x.natAbs=0
  ·rw [h0]; decide
  ·have:=(Nat.log2_lt h0).mpr h; omega
 exact PySem.P.str_of_int hlog (q _ _ _ (fun _ _ e=>e) fun F=> .str (AQ x) _)
theorem OpK.max {a b:Int} {P:V→St→Prop} (p:P (.f (.int (if b>a then b else a))) S):OpK prog w K (fun us=>PySem.call (.builtin "max") us) c.d [.f (.int a),.f (.int b)] S P:=by
 refine OpK.leaf (fun A s F ρ L vals hr hi ra Q E q=> ?_) p
 refine bw ra.inv2 fun u v y10e1 r1 r2=> ?_; subst y10e1
 obtain ⟨t,rfl⟩:=r1.inv.invInt
 obtain ⟨t2,rfl⟩:=r2.inv.invInt
 refine max_two_ints hr.handled fun h' tk g=>q _ _ _ g fun F=> ?_
 split<;>exact .int _ _
theorem OpK.min {a b:Int} {P:V→St→Prop} (p:P (.f (.int (if b<a then b else a))) S):OpK prog w K (fun us=>PySem.call (.builtin "min") us) c.d [.f (.int a),.f (.int b)] S P:=by
 refine OpK.leaf (fun A s F ρ L vals hr hi ra Q E q=> ?_) p
 refine bw ra.inv2 fun u v y11e1 r1 r2=> ?_; subst y11e1
 obtain ⟨t,rfl⟩:=r1.inv.invInt
 obtain ⟨t2,rfl⟩:=r2.inv.invInt
 refine min_two_ints hr.handled fun h' tk g=>q _ _ _ g fun F=> ?_
 split<;>exact .int _ _
theorem OpK.tupL {i:Nat} {l:List Fv} {P:V→St→Prop} (e:S.σ[i]? =some (.list l)) (hz:Nat.ble l.length 1000=true) (p:P (.f (.tup l)) S):OpK prog w K (fun us=>PySem.call (.type "tuple") us) c.d [.r i] S P:=fun A s F ρ L vals hr hi ra Q E q=>by
 refine aA ra.inv1 fun u y12e1 r=> ?_; subst y12e1
 refine cV r.invR fun a d y13e1 hp=> ?_; subst y13e1
 refine aA (hi.H.invList e hp) fun xs h1 h2=> ?_
 have:=h2.length; have:=Nat.ble_eq.mp hz
 refine call_tuple_list h1 (fun h' g=> ?_) (by rw [sizeLine_eq]; simp; omega)
 have st1:dO K L S s.heap F ρ S h' F ρ:=hi.i.stp (σ':=S.σ) (Stp.heap hi.H g)
 refine aA (st1.I.newTup h2) fun F' st2 r2=> ?_
 exact q _ S _ _ F' ρ p (hi.on hi.t (st1.trans st2)) (.f r2)
theorem OpK.append {i:Nat} {l:List Fv} {f:Fv} {P:V→St→Prop} (e:S.σ[i]? =some (.list l)) (hz:l.length≤1000000) (p:P (.f .none) ⟨S.loc,S.σ.set i (.list (l++[f]))⟩):OpK prog w K (fun us=>PySem.call (.builtin "list.append") us) c.d [.r i,.f f] S P:=fun A s F ρ L vals hr hi ra Q E q=>by
 refine bw ra.inv2 fun u v y16e1 r1 r2=> ?_; subst y16e1
 refine cV r1.invR fun a d y17e1 hp=> ?_; subst y17e1
 refine cV (hi.H.invListX e hp) fun xs n k1 h2=> ?_
 have:=h2.length
 refine Dq k1 (by rw [sizeLine_eq]; simp; omega) fun h' n' b1 sb=> ?_
 have app: ∀{l:List Fv} {xs:List Value},aJ F l xs→aJ F (l++[f]) (xs++[v]):=by
  intro l
  induction l with
  |nil=>intro xs h; cases h; exact .cons r2.inv .nil
  |cons y l ih=>intro xs h; cases h with|cons h1 h2=>exact .cons h1 (ih h2)
 have Rn:cQ h' F ρ (.list (l++[f])) (a,d):= .list (xs:=xs++[v]) (n:=n') (by rw [b1]; simp) (app h2)
 exact q _ _ _ _ F ρ p (hi.on hi.t (hi.i.stp (Stp.change hi.H e hp (m':= .list (l++[f])) (fun _=>Iff.rfl) (by simp [bd]) sb Rn))) (.f .none)
theorem cK.append {i:Nat} {l:List Fv} (e:S.σ[i]? =some (.list l)):cK prog w K S (.r i) (Str.ofString "append") "list.append":=fun A s F ρ L u hi r pl Q E q=>by
 refine cV r.invR fun a d y19e1 hp=> ?_; subst y19e1
 refine cV (hi.H.invListX e hp) fun xs n k1 h2=> ?_
 exact getMethod_list_append k1 rfl rfl q
end
end MineS
set_option backward.match.sparseCases true
namespace MineS
open PySem PySem.W PySem.Calls PyProof.Rows
noncomputable def mk (cs:List Nat):Str:=⟨cs.toArray⟩
noncomputable def unS (s:Str):List Nat:=s.cps.toList
theorem gh (s:Str):mk (unS s)=s:=by obtain ⟨a⟩:=s; simp [mk,unS]
noncomputable def upL (cs:List Nat):List Nat:=unS (Txt.upper (mk cs))
noncomputable def loL (cs:List Nat):List Nat:=unS (Txt.lower (mk cs))
noncomputable def xi (cs:List Nat):Bool:=Txt.isascii (mk cs)
noncomputable def og (cs ds:List Nat):List Nat:=unS (Txt.lstripChars (mk cs) (mk ds))
noncomputable def k8 (cs ds:List Nat) (i:Int):Int:=Txt.find3 (mk cs) (mk ds) i
noncomputable def fi (sep:List Nat) (xs:List (List Nat)):List Nat:=unS (Txt.join (mk sep) (xs.map mk))
noncomputable def m6 (x y z:List Nat):List Nat:=unS (Txt.replace (mk x) (mk y) (mk z))
noncomputable def m7 (x y:List Nat):List (List Nat):=(Txt.split (mk x) (mk y)).map unS
section
variable {prog:Program} {w:World} {K:Frag} {G:Gl} {c:Cx} {S:St}
theorem yI (s:Str):(unS s).length=s.length:=by obtain ⟨a⟩:=s; simp [unS,Str.length]
theorem m8 {s:Str} (h:(unS s).length≤16777216):Builtin.Str.tooLong s.length=false:=by
 unfold Builtin.Str.tooLong; rw [sizeLine_eq,←yI]; exact decide_eq_false (by omega)
theorem OpK.upper {cs:List Nat} {P:V→St→Prop} (hz:(upL cs).length≤16777216) (p:P (.f (.str (upL cs))) S):OpK prog w K (fun us=>PySem.call (.builtin "str.upper") us) c.d [.f (.str cs)] S P:=by
 refine OpK.leaf (fun A s F ρ L vals hr hi ra Q E q=> ?_) p
 refine aA ra.inv1 fun u y0e1 r=> ?_; subst y0e1
 obtain ⟨t,rfl⟩:=r.inv.invStr
 exact SC.upper (m8 hz) (q _ _ _ (fun _ _ e=>e) fun F=>by have:=aG.str (F:=F) (upL cs) s.toks; rwa [show (⟨(upL cs).toArray⟩:Str)=Txt.upper (mk cs) from gh _] at this)
theorem OpK.lower {cs:List Nat} {P:V→St→Prop} (hz:(loL cs).length≤16777216) (p:P (.f (.str (loL cs))) S):OpK prog w K (fun us=>PySem.call (.builtin "str.lower") us) c.d [.f (.str cs)] S P:=by
 refine OpK.leaf (fun A s F ρ L vals hr hi ra Q E q=> ?_) p
 refine aA ra.inv1 fun u y1e1 r=> ?_; subst y1e1
 obtain ⟨t,rfl⟩:=r.inv.invStr
 exact SC.lower (m8 hz) (q _ _ _ (fun _ _ e=>e) fun F=>by have:=aG.str (F:=F) (loL cs) s.toks; rwa [show (⟨(loL cs).toArray⟩:Str)=Txt.lower (mk cs) from gh _] at this)
theorem OpK.isascii {cs:List Nat} {P:V→St→Prop} (p:P (.f (.bool (xi cs))) S):OpK prog w K (fun us=>PySem.call (.builtin "str.isascii") us) c.d [.f (.str cs)] S P:=by
 refine OpK.leaf (fun A s F ρ L vals hr hi ra Q E q=> ?_) p
 refine aA ra.inv1 fun u y2e1 r=> ?_; subst y2e1
 obtain ⟨t,rfl⟩:=r.inv.invStr
 exact SC.isascii (q _ _ s.toks (fun _ _ e=>e) fun F=> .bool _)
theorem OpK.lstrip {cs ds:List Nat} {P:V→St→Prop} (hz:cs.length≤16777216) (p:P (.f (.str (og cs ds))) S):OpK prog w K (fun us=>PySem.call (.builtin "str.lstrip") us) c.d [.f (.str cs),.f (.str ds)] S P:=by
 refine OpK.leaf (fun A s F ρ L vals hr hi ra Q E q=> ?_) p
 refine bw ra.inv2 fun u v y3e1 r1 r2=> ?_; subst y3e1
 obtain ⟨t,rfl⟩:=r1.inv.invStr
 obtain ⟨t2,rfl⟩:=r2.inv.invStr
 refine SC.lstripChars (fun t' k=>q _ _ _ (fun _ _ e=>e) fun F=> ?_) (by rw [sizeLine_eq]; show cs.toArray.size≤_; simpa using hz)
 have:=aG.str (F:=F) (og cs ds) t'
 rwa [show (⟨(og cs ds).toArray⟩:Str)=Txt.lstripChars (mk cs) (mk ds) from gh _] at this
theorem OpK.find {cs ds:List Nat} {i:Int} {P:V→St→Prop} (p:P (.f (.int (k8 cs ds i))) S):OpK prog w K (fun us=>PySem.call (.builtin "str.find") us) c.d [.f (.str cs),.f (.str ds),.f (.int i)] S P:=by
 refine OpK.leaf (fun A s F ρ L vals hr hi ra Q E q=> ?_) p
 refine gD ra.inv3 fun u v z y4e1 r1 r2 r3=> ?_; subst y4e1
 obtain ⟨t,rfl⟩:=r1.inv.invStr
 obtain ⟨t2,rfl⟩:=r2.inv.invStr
 obtain ⟨t3,rfl⟩:=r3.inv.invInt
 exact SC.find3 (q _ _ _ (fun _ _ e=>e) fun F=> .int _ _)
theorem xj {F:Fz} {l:List Fv} {xs:List Value} (h:aJ F l xs): ∀{ys:List (List Nat)},cX l=some ys→ ∃z:List (Str×Tok),xs=strValues z∧z.map (·.1)=ys.map mk:=by
 refine h.ind (P:=fun l xs=> ∀{ys:List (List Nat)},cX l=some ys→ ∃z:List (Str×Tok),xs=strValues z∧z.map (·.1)=ys.map mk) (fun e=>⟨[],rfl,by rw [←Option.some.inj e]; rfl⟩) fun f v fs vs h _ ih ys e=> ?_
 obtain ⟨s,zs,e1,e2,e3⟩:=mZ e
 subst e1; subst e3
 obtain ⟨z,h1,h2⟩:=ih e2
 obtain ⟨t,e4⟩:=h.invStr
 subst h1; subst e4
 exact ⟨(mk s,t)::z,rfl,congrArg (mk s:: ·) h2⟩
noncomputable def cJ (n:Nat):List (List Nat)→Nat
 |[]=>0
 |x::r=>x.length+n+cJ n r
theorem yJ {sep:List Nat} {ys:List (List Nat)} (h:cJ sep.length ys≤16777216):JoinOk (mk sep) (ys.map mk)=true:=by
 have e: ∀(ys:List (List Nat)) (n:Nat),(ys.map mk).foldl (fun a (x:Str)=>a+x.length+(mk sep).length) n=n+cJ sep.length ys:=by
  intro ys
  induction ys with
  |nil=>intro n; rfl
  |cons y r ih=>
   intro n
   have l1: ∀cs:List Nat,(mk cs).length=cs.length:=fun cs=>by simp [mk,Str.length]
   rw [List.map_cons,List.foldl_cons,ih,l1,l1,cJ]; omega
 unfold JoinOk Builtin.Str.tooLong
 rw [List.foldl_toArray,e,sizeLine_eq,decide_eq_false (by omega)]; rfl
theorem OpK.join {sep:List Nat} {i:Nat} {l:List Fv} {ys:List (List Nat)} {P:V→St→Prop} (e:S.σ[i]? =some (.list l)) (ht:cX l=some ys) (hz:cJ sep.length ys≤16777216) (p:P (.f (.str (fi sep ys))) S):OpK prog w K (fun us=>PySem.call (.builtin "str.join") us) c.d [.f (.str sep),.r i] S P:=by
 refine OpK.leaf (fun A s F ρ L vals hr hi ra Q E q=> ?_) p
 refine bw ra.inv2 fun u v y6e1 r1 r2=> ?_; subst y6e1
 obtain ⟨t,rfl⟩:=r1.inv.invStr
 refine cV r2.invR fun a d y7e1 hp=> ?_; subst y7e1
 refine aA (hi.H.invList e hp) fun xs h1 h2=> ?_
 refine aA (xj h2 ht) fun z y9e1 hz2=> ?_; subst y9e1
 refine SC.join h1 hz2 (yJ hz) fun t' k=>q _ _ _ (fun _ _ e=>e) fun F=> ?_
 have:=aG.str (F:=F) (fi sep ys) t'
 rwa [show (⟨(fi sep ys).toArray⟩:Str)=Txt.join (mk sep) (ys.map mk) from gh _] at this
theorem cK.str {cs:List Nat} {x:Str} {id:String} (h: ∀{M:Model} {A:Around} {E:Value→Shared→Prop} {s:Shared} {x':Str} {t:Tok} {pl:Sem Bool} {Q:Value×List Value→Shared→Prop},Q (.builtin id,[.str x' t]) s→wpAny M A (getMethod (.str x' t) x pl) Q E s):cK prog w K S (.f (.str cs)) x id:=fun A s F ρ L u hi r pl Q E q=>by
 obtain ⟨t,rfl⟩:=r.inv.invStr
 exact h q
noncomputable def GJ:List (Str×String):=[(Str.ofString "upper","str.upper"),(Str.ofString "lower","str.lower"),(Str.ofString "isascii","str.isascii"),(Str.ofString "lstrip","str.lstrip"),(Str.ofString "find","str.find"),(Str.ofString "join","str.join"),(Str.ofString "split","str.split")]
theorem cK.strs {cs:List Nat} {x:Str} {id:String} (e:look x GJ=some id):cK prog w K S (.f (.str cs)) x id:=
 fP e (fun a b=>by rw [a,←b]; exact cK.str GM.upper) fun e1=>fP e1 (fun a b=>by rw [a,←b]; exact cK.str GM.lower) fun e2=>fP e2 (fun a b=>by rw [a,←b]; exact cK.str GM.isascii) fun e3=>fP e3 (fun a b=>by rw [a,←b]; exact cK.str GM.lstrip) fun e4=>fP e4 (fun a b=>by rw [a,←b]; exact cK.str GM.find) fun e5=>fP e5 (fun a b=>by rw [a,←b]; exact cK.str GM.join) fun e6=>fP e6 (fun a b=>by rw [a,←b]; exact cK.str GM.split) fun e7=>noS e7
theorem af.replace {o:PySem.Expr} {x:Str} {y z:Str} {apos pos py pz:Pos} {ky kz:Nat} {P:V→St→Prop} (hx:sq x (Str.ofString "replace")=true) (hb:d0 o=true) (hp:Nat.beq apos.endLine pos.line=true) (hyz:sq y z=false) (hzl:Nat.ble (unS z).length 14=true)
  (X:af prog w K c o S fun v S1=> ∃cs,v= .f (.str cs)∧cs.length≤1000000∧P (.f (.str (m6 cs (unS y) (unS z)))) S1):
  af prog w K c (.Call (.Attribute o x apos) [.Constant (.str y) ky py,.Constant (.str z) kz pz] [] pos) S P:=fun A s F ρ env he hr hi Q E q=>by
 rw [(bU _ _).mp hx]
 obtain ⟨pl,e⟩:=eR (env:=env) (x:=Str.ofString "replace") (args:=[.Constant (.str y) ky py,.Constant (.str z) kz pz]) hb rfl rfl hp
 rw [e]
 refine wpAny_with_toks (n:=1) hi.t ?_
 refine wpAny_bind (X A s F ρ env he hr hi _ _ fun v S1 u s1 F1 ρ1 ⟨cs,hv,hl,hp⟩ st1 r1=> ?_)
 subst hv
 obtain ⟨t,rfl⟩:=r1.inv.invStr
 refine wpAny_bind (wpAny_standAt (wpAny_bind (wpAny_holding (GM.replace ?_))))
 refine gO rfl ?_
 have e1:backTo pos (starEach [.Constant (.str y) ky py,.Constant (.str z) kz pz] env)=[(false,eval (.Constant (.str y) ky py) env),(false,eval (.Constant (.str z) kz pz) env)]:=rfl
 rw [e1]
 refine spliced_cons (wpAny_Constant_str (spliced_cons (wpAny_Constant_str (spliced_nil ?_))))
 have ht:=st1.t
 have hyz':(y==z)=false:=by
  cases h:y==z with
  |false=>rfl
  |true=>rw [beq_iff_eq.mp h,gU] at hyz; cases hyz
 refine SC.replaceW (Nat.ne_of_gt ht) (Nat.succ_ne_zero _) (Nat.ne_of_lt (Nat.lt_succ_self _)) hyz' (by show cs.toArray.size≤_; simp; omega) (by have:=Nat.ble_eq.mp hzl; rwa [yI] at this) fun t' k ht'=> ?_
 refine q _ S1 _ _ F1 ρ1 hp (st1.to ht') (.f ?_)
 have:=aG.str (F:=F1) (m6 cs (unS y) (unS z)) t'
 rwa [show (⟨(m6 cs (unS y) (unS z)).toArray⟩:Str)=Txt.replace (mk cs) y z by
  have:=gh (Txt.replace (mk cs) (mk (unS y)) (mk (unS z)))
  rw [gh y,gh z] at this
  unfold m6; rw [gh y,gh z]; exact this] at this
theorem OpK.get2 (g:GOK prog w K G) {a:Addr} {k:List Nat} {f:Fv} {kv:List (List Nat×Fv)} {P:V→St→Prop} (hd:bx a G.dcs=some kv) (hf:eh f=true) (p:P (.f (match lkN k kv with|some x=>x|none=>f)) S):OpK prog w K (fun us=>PySem.call (.builtin "dict.get") us) c.d [.f (.glob a),.f (.str k),.f f] S P:=by
 refine OpK.leaf (fun A s F ρ L vals hr hi ra Q E q=> ?_) p
 refine gD ra.inv3 fun u v z y10e1 r1 r2 r3=> ?_; subst y10e1
 obtain rfl:=r1.inv.invGlob
 obtain ⟨t,rfl⟩:=r2.inv.invStr
 have rd: ∀{f:Fv} {u:Value},eh f=true→aG F f u→Reads s.heap u (eK f) []:=by
  intro f u hf r
  cases r<;>first|(cases hf; done)|exact .int _ _|exact .str _ _
 obtain ⟨g1,g2⟩:=g.dcs a kv hd
 refine call_get2_dict (g2 s.heap hi.H.kin) (rd hf r3.inv) fun v as hv=>q _ _ _ (fun _ _ e=>e) fun F'=> ?_
 rw [fH] at hv
 cases hk:lkN k kv with
 |none=>rw [hk] at hv; exact lQ hf hv
 |some x=>
  rw [hk] at hv
  refine aA (oc hk) fun pp m1 m2=> ?_
  exact lQ (m2▸g1 pp m1) hv
theorem cK.get (g:GOK prog w K G) {a:Addr} {kv:List (List Nat×Fv)} (hd:bx a G.dcs=some kv):cK prog w K S (.f (.glob a)) (Str.ofString "get") "dict.get":=fun A s F ρ L u hi r pl Q E q=>by
 obtain rfl:=r.inv.invGlob
 obtain ⟨g1,g2⟩:=g.dcs a kv hd
 exact getMethod_dict PySem.F.slot_dict_get rfl (g2 s.heap hi.H.kin) q
end
end MineS
set_option backward.match.sparseCases false
namespace MineS
open PySem PySem.W PySem.Calls PyProof.Rows PySem.SeqAt
noncomputable def dk (f:Fv→Fv→Option Bool):List Fv→List Fv→Option Bool
 |[],y=>List.rec (some true) (fun _ _ _=>some false) y
 |a::x,y=>List.rec (some false) (fun b y _=>(f a b).bind fun p=>(dk f x y).bind fun q=>some (p && q)) y
noncomputable def eN:Fv→Option Bool
 | .none=>some true
 | .str _=>some false
 |_=>none
noncomputable def eB (x:Bool):Fv→Option Bool
 | .bool y=>some (x==y)
 | .none=>some false
 |_=>none
noncomputable def eI (x:Int):Fv→Option Bool
 | .int y=>some (ieq x y)
 | .none=>some false
 | .str _=>some false
 |_=>none
noncomputable def eS (x:List Nat):Fv→Option Bool
 | .str y=>some (az x y)
 | .none=>some false
 |_=>none
noncomputable def eY (x:Array UInt8):Fv→Option Bool
 | .bytes y=>some (x.toList==y.toList)
 | .none=>some false
 |_=>none
noncomputable def eT (r:List Fv→Option Bool):Fv→Option Bool
 | .tup y=>r y
 | .none=>some false
 | .str _=>some false
 |_=>none
noncomputable def feq:Nat→Fv→Fv→Option Bool
 |0,_,_=>none
 |n+1,a,b=>match a with
  | .none=>eN b
  | .bool x=>eB x b
  | .int x=>eI x b
  | .str x=>eS x b
  | .bytes x=>eY x b
  | .tup x=>eT (dk (feq n) x) b
  |_=>none
section
variable {prog:Program} {w:World} {K:Frag} {G:Gl} {c:Cx} {S:St}
theorem EqAt.bytes {A:Around} {s:Shared} (a b:Array UInt8) (t u:Tok):EqAt A s (.bytes a t) (.bytes b u) (a.toList==b.toList):=fun prog w E Q h=>by
 unfold eqBool
 refine wpAny_holding ?_
 refine wpAny_ite_split (fun hab=> ?_) (fun _=> ?_)
 ·have:=eq_of_beq hab
  injection this with h1 h2
  subst h1
  rw [beq_self_eq_true] at h
  exact wpAny_bind (wpAny_rule (wpAny_pure h))
 ·refine wpAny_bind ?_
  show wpAny (model prog w) A (compareOp .Eq (.bytes a t) (.bytes b u)) _ _ s
  exact PySem.W.eq_bytes (wpAny_truthy_bool h)
theorem EqAt.none_none {A:Around} {s:Shared}:EqAt A s .none .none true:= .same _
theorem pN (a:Array UInt8) (t:Tok):Gives (Builtin.«bytes.__eq__» ⟨[.bytes a t,.none],[]⟩) (.val (Value.notImplemented)):=
 .of_wp fun M A E s Q h=>by
  obtain ⟨hp,g,d,tk,os⟩:=s
  wp_walk
  rw [F.sub_NoneType_bytes]
  wp_walk
  exact ⟨_,rfl,h⟩
theorem pO (a:Array UInt8) (t:Tok):Gives (Builtin.«NoneType.__eq__» ⟨[.none,.bytes a t],[]⟩) (.val (Value.notImplemented)):=
 .of_wp fun M A E s Q h=>by obtain ⟨hp,g,d,tk,os⟩:=s; wp_walk; exact ⟨_,rfl,h⟩
theorem EqAt.bytes_none {A:Around} {s:Shared} (a:Array UInt8) (t:Tok):EqAt A s (.bytes a t) .none false:=fun prog w E Q h=>by
 unfold eqBool
 refine wpAny_holding ?_
 refine wpAny_ite_split (fun hab=>absurd (eq_of_beq hab) nofun) (fun _=> ?_)
 refine wpAny_bind ?_
 exact rc_eq_decline_or (k:=false) (Ta:="bytes") (Tb:="NoneType") (show s.TypeIs (.bytes a t) "bytes" from rfl) rfl (by decide) F.sub_NoneType_bytes FB.slot_bytes_eq F.slot_NoneType_eq_refl
  (fun _ hq=>call_gives FB.slot_bytes_eq (show s.TypeIs (.bytes a t) "bytes" from rfl) FB.entry_bytes_eq (FB.args_bytes_eq_2 _ _) (pN a t) hq)
  (fun _ hq=>call_gives F.slot_NoneType_eq_refl rfl F.entry_NoneType_eq (F.args_NoneType_eq_2 _ _) (pO a t) hq)
  (fun _ hq=>wpAny_of_eq (rfl:isSame (.bytes a t) .none=pure false) hq) (.inl rfl) (wpAny_truthy_bool h)
theorem onC {t:Bool} {p:Prop} (h:(none:Option Bool)=some t):p:=nomatch h
theorem soC {x t:Bool} (h:some x=some t):t=x:=(Option.some.inj h).symm
theorem CM {o o':Option Bool} {t:Bool} (h:(o.bind fun p=>o'.bind fun q=>some (p && q))=some t): ∃p q,o=some p∧o'=some q∧t=(p && q):=by
 cases o with
 |none=>exact onC h
 |some p=>
  cases o' with
  |none=>exact onC h
  |some q=>exact ⟨p,q,rfl,rfl,soC h⟩
theorem aJ.nilI {F:Fz} {us:List Value} (r:aJ F [] us):us=[]:=by cases r; rfl
theorem aJ.consI {F:Fz} {a:Fv} {x:List Fv} {us:List Value} (r:aJ F (a::x) us): ∃u r,us=u::r∧aG F a u∧aJ F x r:=by
 cases r with|cons h r=>exact ⟨_,_,rfl,h,r⟩
theorem AR (a b:Nat):min (a+1) (b+1)=min a b+1:=by omega
theorem AS (p:Bool) (e:Nat→Bool) (m n:Nat):((List.range (min (m+1) (n+1))).all (fun j=>match j with|0=>p|j+1=>e j) && m+1==n+1)=(p && ((List.range (min m n)).all e && m==n)):=by
 rw [AR,List.range_succ_eq_map,List.all_cons,List.all_map,Bool.and_assoc,show (m+1==n+1)=(m==n) from by rw [Bool.eq_iff_iff]; simp]
 rfl
noncomputable def EqL (A:Around) (s:Shared) (xs ys:List Value) (t:Bool):Prop:= ∃e:Nat→Bool,(∀j (h1:j<xs.length) (h2:j<ys.length),EqAt A s xs[j] ys[j] (e j))∧((List.range (min xs.length ys.length)).all e && xs.length==ys.length)=t
theorem EqL.nil {A:Around} {s:Shared} {ys:List Value}:EqL A s [] ys (0==ys.length):=⟨fun _=>true,fun j h1=>absurd h1 (Nat.not_lt_zero j),by rw [List.length_nil,Nat.zero_min]; rfl⟩
theorem EqL.nil' {A:Around} {s:Shared} {xs:List Value}:EqL A s xs [] (xs.length==0):=⟨fun _=>true,fun j _ h1=>absurd h1 (Nat.not_lt_zero j),by rw [List.length_nil,Nat.min_zero]; rfl⟩
theorem EqL.cons {A:Around} {s:Shared} {x y:Value} {xs ys:List Value} {p q:Bool} (h:EqAt A s x y p) (k:EqL A s xs ys q):EqL A s (x::xs) (y::ys) (p && q):=by
 refine aA k fun e h1 h2=> ?_
 refine ⟨fun j=>match j with|0=>p|j+1=>e j,fun j k1 k2=> ?_,(AS p e _ _).trans (congrArg (p && ·) h2)⟩
 cases j with
 |zero=>exact h
 |succ j=>exact h1 j (Nat.lt_of_succ_lt_succ k1) (Nat.lt_of_succ_lt_succ k2)
theorem oh {A:Around} {s:Shared} {F:Fz} {f:Fv→Fv→Option Bool} (hf: ∀a b t ua ub,f a b=some t→aG F a ua→aG F b ub→EqAt A s ua ub t): ∀(x y:List Fv) (xs ys:List Value) (t:Bool),aJ F x xs→aJ F y ys→dk f x y=some t→EqL A s xs ys t:=by
 intro x
 induction x with
 |nil=>
  intro y xs ys t rx ry h
  rw [rx.nilI]
  cases y with
  |nil=>rw [ry.nilI,soC h]; exact EqL.nil
  |cons b y=>refine cV ry.consI fun u r e _=> ?_; rw [e,soC h]; exact EqL.nil
 |cons a x ih=>
  intro y xs ys t rx ry h
  refine bw rx.consI fun u r e ra rx=> ?_
  rw [e]
  cases y with
  |nil=>rw [ry.nilI,soC h]; exact EqL.nil'
  |cons b y=>
   refine bw ry.consI fun v r2 e2 rb ry=> ?_
   refine bw (CM h) fun p q hp hq ht=> ?_
   rw [e2,ht]
   exact .cons (hf a b p _ _ hp ra rb) (ih y r r2 q rx ry hq)
theorem yK {F:Fz} {f:Fv→Fv→Option Bool} (hf: ∀a b t u,f a b=some t→aG F a u→aG F b u→t=true): ∀(x y:List Fv) (xs:List Value) (t:Bool),aJ F x xs→aJ F y xs→dk f x y=some t→t=true:=by
 intro x
 induction x with
 |nil=>
  intro y xs t rx ry h
  cases y with
  |nil=>exact soC h
  |cons b y=>refine cV ry.consI fun u r e _=> ?_; rw [rx.nilI] at e; exact nomatch e
 |cons a x ih=>
  intro y xs t rx ry h
  refine bw rx.consI fun u r e ra rx=> ?_
  cases y with
  |nil=>rw [ry.nilI] at e; exact nomatch e
  |cons b y=>
   refine bw ry.consI fun v r2 e2 rb ry=> ?_
   refine bw (CM h) fun p q hp hq ht=> ?_
   have e3:=e.symm.trans e2
   rw [ht,hf a b p u hp ra ((List.cons.inj e3).1▸rb),ih y r q rx ((List.cons.inj e3).2▸ry) hq]; rfl
noncomputable def nN:Fv→Bool
 | .none=>true
 |_=>false
theorem yL {b:Fv} {t:Bool} (h:eN b=some t):b= .none∧t=true∨t=false∧ ∃y,b= .str y:=by
 cases b<;>first|exact onC h|exact .inl ⟨rfl,soC h⟩|exact .inr ⟨(Option.some.inj h).symm,_,rfl⟩
theorem yM {x:Bool} {b:Fv} {t:Bool} (h:eB x b=some t):(∃y,b= .bool y∧t=(x==y))∨t=false∧b= .none:=by
 cases b<;>first|exact onC h|exact .inl ⟨_,rfl,soC h⟩|exact .inr ⟨(Option.some.inj h).symm,rfl⟩
theorem yN {x:Int} {b:Fv} {t:Bool} (h:eI x b=some t):(∃y,b= .int y∧t=ieq x y)∨t=false∧(b= .none∨ ∃y,b= .str y):=by
 cases b<;>first|exact onC h|exact .inl ⟨_,rfl,soC h⟩|exact .inr ⟨(Option.some.inj h).symm,.inl rfl⟩|exact .inr ⟨(Option.some.inj h).symm,.inr ⟨_,rfl⟩⟩
theorem yO {x:List Nat} {b:Fv} {t:Bool} (h:eS x b=some t):(∃y,b= .str y∧t=az x y)∨t=false∧b= .none:=by
 cases b<;>first|exact onC h|exact .inl ⟨_,rfl,soC h⟩|exact .inr ⟨(Option.some.inj h).symm,rfl⟩
theorem yP {x:Array UInt8} {b:Fv} {t:Bool} (h:eY x b=some t):(∃y,b= .bytes y∧t=(x.toList==y.toList))∨t=false∧b= .none:=by
 cases b<;>first|exact onC h|exact .inl ⟨_,rfl,soC h⟩|exact .inr ⟨(Option.some.inj h).symm,rfl⟩
theorem yQ {r:List Fv→Option Bool} {b:Fv} {t:Bool} (h:eT r b=some t):(∃y,b= .tup y∧r y=some t)∨t=false∧(b= .none∨ ∃y,b= .str y):=by
 cases b<;>first|exact onC h|exact .inr ⟨(Option.some.inj h).symm,.inl rfl⟩|exact .inr ⟨(Option.some.inj h).symm,.inr ⟨_,rfl⟩⟩|exact .inl ⟨_,rfl,h⟩
theorem nc {u v w:Value} {p:Prop} (h1:u=v) (h2:u=w) (h:v≠w):p:=absurd (h1.symm.trans h2) h
theorem AT {F:Fz}: ∀(n:Nat) (a b:Fv) (t:Bool) (u:Value),feq n a b=some t→aG F a u→aG F b u→t=true:=by
 intro n
 induction n with
 |zero=>intro a b t u h; exact onC h
 |succ n ih=>
  intro a b t u h ra rb
  cases a with
  |none=>
   rcases yL h with ⟨_,e⟩|⟨_,y,e⟩
   ·exact e
   ·subst e; obtain ⟨_,e⟩:=rb.invStr; exact nc ra.invNone e nofun
  |bool x=>
   rcases yM h with ⟨y,e,ht⟩|⟨_,e⟩
   ·subst e; rw [ht,Value.bool.inj (ra.invBool.symm.trans rb.invBool)]; exact beq_self_eq_true y
   ·subst e; exact nc rb.invNone ra.invBool nofun
  |int x=>
   obtain ⟨_,e1⟩:=ra.invInt
   rcases yN h with ⟨y,e,ht⟩|⟨_,e|⟨y,e⟩⟩
   ·subst e; obtain ⟨_,e2⟩:=rb.invInt; rw [ht,(Value.int.inj (e1.symm.trans e2)).1]; exact decide_eq_true rfl
   ·subst e; exact nc rb.invNone e1 nofun
   ·subst e; obtain ⟨_,e⟩:=rb.invStr; exact nc e1 e nofun
  |str x=>
   obtain ⟨_,e1⟩:=ra.invStr
   rcases yO h with ⟨y,e,ht⟩|⟨_,e⟩
   ·subst e; obtain ⟨_,e2⟩:=rb.invStr
    have e3:=(Value.str.inj (e1.symm.trans e2)).1
    rw [ht]; exact (bj _ _).mpr (congrArg (fun s:Str=>s.cps.toList) e3)
   ·subst e; exact nc rb.invNone e1 nofun
  |bytes x=>
   obtain ⟨_,e1⟩:=ra.invBytes
   rcases yP h with ⟨y,e,ht⟩|⟨_,e⟩
   ·subst e; obtain ⟨_,e2⟩:=rb.invBytes; rw [ht,(Value.bytes.inj (e1.symm.trans e2)).1]; exact beq_self_eq_true _
   ·subst e; exact nc rb.invNone e1 nofun
  |tup x=>
   refine dN ra.invTup fun a xs n1 e1 h1 h2=> ?_
   rcases yQ h with ⟨y,e,ht⟩|⟨_,e|⟨y,e⟩⟩
   ·subst e
    refine dN rb.invTup fun b ys n2 e2 h3 h4=> ?_
    rw [Value.ref.inj (e1.symm.trans e2)] at h1
    have h5:=congrArg (fun o:Obj=>o.data) (Option.some.inj (h1.symm.trans h3))
    have h6:xs=ys:=congrArg Array.toList (Data.seq.inj h5).1
    subst h6
    exact yK ih _ _ _ _ h2 h4 ht
   ·subst e; exact nc rb.invNone e1 nofun
   ·subst e; obtain ⟨_,e⟩:=rb.invStr; exact nc e1 e nofun
  |_=>exact onC h
theorem yR {s:Shared} {F:Fz} (fh: ∀a o,F a=some o→s.heap.get? a=some o): ∀(n:Nat) {A:Around} (a b:Fv) (t:Bool) (ua ub:Value),A.units+n<cLine→feq n a b=some t→aG F a ua→aG F b ub→EqAt A s ua ub t:=by
 intro n
 induction n with
 |zero=>intro A a b t ua ub hu h; exact onC h
 |succ n ih=>
  intro A a b t ua ub hu h ra rb
  have hu':A.units<cLine:=Nat.lt_of_le_of_lt (Nat.le_add_right _ _) hu
  cases a with
  |none=>
   rw [ra.invNone]
   rcases yL h with ⟨e,ht⟩|⟨ht,y,e⟩
   ·subst e; rw [rb.invNone,ht]; exact EqAt.none_none
   ·subst e; obtain ⟨_,e⟩:=rb.invStr; rw [e,ht]; exact .none_str _ _
  |bool x=>
   rw [ra.invBool]
   rcases yM h with ⟨y,e,ht⟩|⟨ht,e⟩
   ·subst e; rw [rb.invBool,ht]; exact .bool_bool _ _
   ·subst e; rw [rb.invNone,ht]; exact .bool_none _
  |int x=>
   obtain ⟨_,e1⟩:=ra.invInt
   rw [e1]
   rcases yN h with ⟨y,e,ht⟩|⟨ht,e|⟨y,e⟩⟩
   ·subst e; obtain ⟨_,e2⟩:=rb.invInt; rw [e2,ht,oa]; exact .int_int _ _ _ _
   ·subst e; rw [rb.invNone,ht]; exact .int_none _ _
   ·subst e; obtain ⟨_,e⟩:=rb.invStr; rw [e,ht]; exact .int_str _ _ _ _
  |str x=>
   obtain ⟨_,e1⟩:=ra.invStr
   rw [e1]
   rcases yO h with ⟨y,e,ht⟩|⟨ht,e⟩
   ·subst e; obtain ⟨_,e2⟩:=rb.invStr
    rw [e2,ht,lP,show (x==y)=((⟨x.toArray⟩:Str)==⟨y.toArray⟩) from str_beq ⟨x.toArray⟩ ⟨y.toArray⟩]; exact .str_str _ _ _ _
   ·subst e; rw [rb.invNone,ht]; exact .str_none _ _
  |bytes x=>
   obtain ⟨_,e1⟩:=ra.invBytes
   rw [e1]
   rcases yP h with ⟨y,e,ht⟩|⟨ht,e⟩
   ·subst e; obtain ⟨_,e2⟩:=rb.invBytes; rw [e2,ht]; exact EqAt.bytes _ _ _ _
   ·subst e; rw [rb.invNone,ht]; exact EqAt.bytes_none _ _
  |tup x=>
   refine dN ra.invTup fun a xs n1 e1 h1 h2=> ?_
   have t1:s.heap.IsTuple a xs.toArray:=⟨_,fh _ _ h1,rfl,n1,rfl⟩
   rcases yQ h with ⟨y,e,ht⟩|⟨ht,e|⟨y,e⟩⟩
   ·subst e
    refine dN rb.invTup fun b ys n2 e2 h3 h4=> ?_
    have t2:s.heap.IsTuple b ys.toArray:=⟨_,fh _ _ h3,rfl,n2,rfl⟩
    rw [e1,e2]
    by_cases hab:a=b
    ·have ht:=AT (F:=F) (n+1) (.tup x) (.tup y) t (.ref a) ht (e1▸ra) (by rw [hab]; exact e2▸rb)
     rw [ht,hab]
     exact .same _
    ·refine aA (oh (A:=A.in1) (s:=s) (fun a b t ua ub h ra rb=>ih a b t ua ub (by show A.units+1+n<cLine; rw [Nat.add_assoc,Nat.add_comm 1 n]; exact hu) h ra rb) _ _ _ _ _ h2 h4 ht) fun e k1 k2=> ?_
     have:=RcAt.tuples (e:=e) t1 t2 hu' (fun j h1 h2=>k1 j h1 h2)
     rw [List.size_toArray,List.size_toArray,k2] at this
     exact EqAt.of_refs hab this
   ·subst e; rw [e1,rb.invNone,ht]; exact .tuple_none t1 hu'
   ·subst e; obtain ⟨_,e⟩:=rb.invStr; rw [e1,e,ht]; exact .tuple_str _ _ t1 hu'
  |_=>exact onC h
theorem OpK.eqD {x y:List Fv} {t:Bool} {P:V→St→Prop} (h:dk (feq 100) x y=some t) (p:P (.f (.bool t)) S):OpK prog w K (oB (compareOp .Eq)) c.d [.f (.tup x),.f (.tup y)] S P:=by
 intro A s F ρ L vals hr hi ra Q E q
 refine bw ra.inv2 fun u v y14e1 r1 r2=> ?_; subst y14e1
 refine bw (hi.H.fTup r1.inv) fun a xs y15e1 h1 h2=> ?_; subst y15e1
 refine bw (hi.H.fTup r2.inv) fun b ys y16e1 h3 h4=> ?_; subst y16e1
 have hu:=hr.units
 refine aA (oh (A:=A.in1) (s:=s) (fun a b t ua ub h ra rb=>yR hi.H.fh 100 a b t ua ub (by show A.units+1+100<cLine; omega) h ra rb) _ _ _ _ _ h2 h4 h) fun e k1 k2=> ?_
 have:=RcAt.tuples (A:=A) (e:=e) h1 h3 (by omega) (fun j h1 h2=>k1 j h1 h2)
 rw [List.size_toArray,List.size_toArray,k2] at this
 exact this prog w E Q (q _ S _ _ F ρ p (.refl hi) (.f (.bool _)))
theorem OpK.neD {x y:List Fv} {t:Bool} {P:V→St→Prop} (h:dk (feq 100) x y=some t) (p:P (.f (.bool (!t))) S):OpK prog w K (oB (compareOp .NotEq)) c.d [.f (.tup x),.f (.tup y)] S P:=by
 intro A s F ρ L vals hr hi ra Q E q
 refine bw ra.inv2 fun u v y18e1 r1 r2=> ?_; subst y18e1
 refine bw (hi.H.fTup r1.inv) fun a xs y19e1 h1 h2=> ?_; subst y19e1
 refine bw (hi.H.fTup r2.inv) fun b ys y20e1 h3 h4=> ?_; subst y20e1
 have hu:=hr.units
 refine aA (oh (A:=A.in1) (s:=s) (fun a b t ua ub h ra rb=>yR hi.H.fh 100 a b t ua ub (by show A.units+1+100<cLine; omega) h ra rb) _ _ _ _ _ h2 h4 h) fun e k1 k2=> ?_
 have:=RcNeAt.tuples (A:=A) (e:=e) h1 h3 (by omega) (fun j h1 h2=>k1 j h1 h2)
 rw [List.size_toArray,List.size_toArray,k2] at this
 exact this prog w E Q (q _ S _ _ F ρ p (.refl hi) (.f (.bool _)))
theorem OpK.cat {i j:Nat} {l l':List Fv} {P:V→St→Prop} (h1:S.σ[i]? =some (.list l)) (h2:S.σ[j]? =some (.list l')) (hz:Nat.ble (l.length+l'.length) 1000=true) (p:P (.r S.σ.length) ⟨S.loc,S.σ++[.list (l++l')]⟩):OpK prog w K (oB (binaryOp .Add)) c.d [.r i,.r j] S P:=by
 intro A s F ρ L vals hr hi ra Q E q
 refine bw ra.inv2 fun u v y22e1 r1 r2=> ?_; subst y22e1
 refine cV r1.invR fun a d y23e1 ha=> ?_; subst y23e1
 refine cV r2.invR fun b d' y24e1 hb=> ?_; subst y24e1
 refine cV (hi.H.invListX h1 ha) fun xs n k1 q1=> ?_
 refine cV (hi.H.invListX h2 hb) fun ys n2 k2 q2=> ?_
 have l1:=q1.length
 have l2:=q2.length
 have l3:=Nat.ble_eq.mp hz
 have app: ∀{l:List Fv} {xs:List Value},aJ F l xs→aJ F (l++l') (xs++ys):=by
  intro l
  induction l with
  |nil=>intro xs h; cases h; exact q2
  |cons y l ih=>intro xs h; cases h with|cons h1 h2=>exact .cons h1 (ih h2)
 refine PySem.P.add_list (n:=n) (n2:=n2) k1 k2 ?_ (by rw [sizeLine_eq]; simp; omega)
 refine aA (hi.i.newList (app q1)) fun ρ' st2 r2=> ?_
 rw [show xs.toArray++ys.toArray=(xs++ys).toArray by simp]
 exact q _ _ _ _ F ρ' p (hi.on hi.t st2) r2
noncomputable def AU (l:List (List Nat)):List Fv:=l.map Fv.str
theorem tM {F:Fz}: ∀{z:List (Str×Tok)} {ys:List (List Nat)},z.map (·.1)=ys.map mk→aJ F (AU ys) (strValues z)
 |[],[],_=> .nil
 |[],_::_,h=>by cases h
 |_::_,[],h=>by cases h
 |(x,t)::z,y::ys,h=>by
  simp only [List.map_cons,List.cons.injEq] at h
  obtain ⟨rfl,h2⟩:=h
  exact .cons (.str y t) (tM h2)
theorem xl {A:Around} {E:Value→Shared→Prop} {s:Shared} {x y:Str} {t u:Tok} {Q:Value→Shared→Prop} (hy:(y.length==0)=false) (hsz:x.length≤sizeLine) (hsz2:(Builtin.Str.partsBetween x (Builtin.Str.occurrences x y 0 x.length (x.length+1)) y.length).length≤sizeLine)
  (hq: ∀l tk,l.map (·.1)=Txt.split x y→Q (.ref s.heap.objs.size) ⟨s.heap.push {cls:= .type "list",data:= .seq (strValues l).toArray},s.gens,s.drawn,tk,s.os⟩):wpAny (model prog w) A (PySem.call (.builtin "str.split") [.str x t,.str y u]) Q E s:=by
 cases h1:(decide (x.length<y.length)||decide (Builtin.Str.strKind x<Builtin.Str.strKind y))
 ·cases hf:(Builtin.Str.occurrences x y 0 x.length (x.length+1)).isEmpty
  ·refine call_meets F.slot_str_split (typeIs_str _ _ _) F.entry_str_split (F.args_str_split_2 _ _) (meets_str_split_sep x y t u h1 hy hf hsz hsz2) ?_
   show wants Q E _ {s with toks:=_,heap:=s.heap.push {cls:= .type "list",data:= .seq (strsFrom s.toks (Builtin.Str.partsBetween x (Builtin.Str.occurrences x y 0 x.length (x.length+1)) y.length)).toArray}}
   rw [strsFrom_eq]
   exact hq (numbered s.toks _) _ ((numbered_texts _ _).trans ((if_neg (ne_true_of_eq_false h1)).trans (if_neg (ne_true_of_eq_false hf))).symm)
  ·exact call_meets F.slot_str_split (typeIs_str _ _ _) F.entry_str_split (F.args_str_split_2 _ _) (meets_str_split_not_found x y t u h1 hy hf)
    (hq [(x,t)] s.toks ((if_neg (ne_true_of_eq_false h1)).trans (if_pos hf)).symm)
 ·exact call_meets F.slot_str_split (typeIs_str _ _ _) F.entry_str_split (F.args_str_split_2 _ _) (meets_str_split_cannot_occur x y t u h1)
   (hq [(x,t)] s.toks (if_pos h1).symm)
theorem OpK.split {cs ds:List Nat} {P:V→St→Prop} (hd:Nat.beq ds.length 0=false) (hz:cs.length≤10000∧(Builtin.Str.partsBetween (mk cs) (Builtin.Str.occurrences (mk cs) (mk ds) 0 (mk cs).length ((mk cs).length+1)) (mk ds).length).length≤10000) (p:P (.r S.σ.length) ⟨S.loc,S.σ++[.list (AU (m7 cs ds))]⟩):
  OpK prog w K (fun us=>PySem.call (.builtin "str.split") us) c.d [.f (.str cs),.f (.str ds)] S P:=by
 intro A s F ρ L vals hr hi ra Q E q
 refine bw ra.inv2 fun u v y28e1 r1 r2=> ?_; subst y28e1
 obtain ⟨t,rfl⟩:=r1.inv.invStr
 obtain ⟨t2,rfl⟩:=r2.inv.invStr
 refine wpAny_with_toks (n:=1) hi.t ?_
 refine xl (x:=mk cs) (y:=mk ds) ?_ ?_ ?_ fun l tk hl ht=> ?_
 ·have:=Nat.ne_of_beq_eq_false hd
  simp [mk,Str.length]; intro h; apply this; rw [h]; rfl
 ·rw [sizeLine_eq]; simp [mk,Str.length]; omega
 ·rw [sizeLine_eq]; omega
 ·have e:l.map (·.1)=(m7 cs ds).map mk:=by
   rw [hl]; unfold m7; rw [List.map_map]
   have:(mk∘unS)=id:=funext fun s=>gh s
   rw [this,List.map_id]
  refine aA (hi.i.newList (tM (F:=F) e)) fun ρ' st2 r2=> ?_
  exact q _ _ _ ⟨_,s.gens,s.drawn,tk,s.os⟩ F ρ' p (hi.on ht st2) r2
end
end MineS
namespace MineS
open PySem PySem.W PySem.Calls PyProof.Rows
section
variable {prog:Program} {w:World} {K:Frag} {G:Gl} {c:Cx} {S:St}
noncomputable def iI:Fv→Option Bool
 | .int _=>some true
 | .str _=>some false
 | .bytes _=>some false
 | .none=>some false
 |_=>none
noncomputable def iS:Fv→Option Bool
 | .str _=>some true
 | .bytes _=>some false
 |_=>none
noncomputable def xm (f:Fv) (T:String):Option Bool:=if T="int" then iI f else if T="str" then iS f else none
theorem Dt {f:Fv} {T:String} {b:Bool} (h:xm f T=some b):T="int"∧iI f=some b∨T="str"∧iS f=some b:=by
 unfold xm at h
 by_cases h1:T="int"
 ·rw [if_pos h1] at h; exact .inl ⟨h1,h⟩
 ·rw [if_neg h1] at h
  by_cases h2:T="str"
  ·rw [if_pos h2] at h; exact .inr ⟨h2,h⟩
  ·rw [if_neg h2] at h; exact noS h
section
variable {A:Around} {s:Shared} {F:Fz} {f:Fv} {u:Value} {b:Bool} {Q:Value→Shared→Prop} {E:Value→Shared→Prop}
theorem Du (I:K.In s.heap) (r:aG F f u) (h:iI f=some b) (fin: ∀tk,Q (.bool b) {s with toks:=tk}):wpAny (model prog w) A (PySem.call (.builtin "isinstance") [u,.type "int"]) Q E s:=by
 cases f with
 |int=>cases h; refine bI r.invInt fun t e=> ?_; subst e; exact kia_one kitx_int I trivial rfl nofun fin
 |str=>cases h; refine bI r.invStr fun t e=> ?_; subst e; exact kia_one kitx_str I trivial (by kernel_rfl) nofun fin
 |bytes=>cases h; refine bI r.invBytes fun t e=> ?_; subst e; exact kia_one kitx_bytes I trivial (by kernel_rfl) nofun fin
 |none=>cases h; rw [r.invNone]; exact kia_one kitx_none I trivial (by kernel_rfl) nofun fin
 |_=>exact noS h
theorem Dv (I:K.In s.heap) (r:aG F f u) (h:iS f=some b) (fin: ∀tk,Q (.bool b) {s with toks:=tk}):wpAny (model prog w) A (PySem.call (.builtin "isinstance") [u,.type "str"]) Q E s:=by
 cases f with
 |str=>cases h; refine bI r.invStr fun t e=> ?_; subst e; exact kia_one kitx_str I trivial rfl nofun fin
 |bytes=>cases h; refine bI r.invBytes fun t e=> ?_; subst e; exact kia_one kitx_bytes I trivial (by kernel_rfl) nofun fin
 |_=>exact noS h
end
theorem OpK.isaTy {f:Fv} {T:String} {b:Bool} {P:V→St→Prop} (h:xm f T=some b) (p:P (.f (.bool b)) S):OpK prog w K (fun us=>PySem.call (.builtin "isinstance") us) c.d [.f f,.f (.ty T)] S P:=by
 refine OpK.leaf (fun A s F ρ L vals hr hi ra Q E q=> ?_) p
 refine bw ra.inv2 fun u v y0e1 r1 r2=> ?_; subst y0e1
 rw [r2.inv.invTy]
 have fin: ∀tk,Q (.bool b) {s with toks:=tk}:=fun tk=>q _ _ _ (fun _ _ e=>e) fun F=> .bool _
 rcases Dt h with ⟨e,h⟩|⟨e,h⟩
 ·subst e; exact Du hi.H.kin r1.inv h fin
 ·subst e; exact Dv hi.H.kin r1.inv h fin
theorem OpK.isa (g:GOK prog w K G) {D C:Addr} {fs:List (Str×Fv)} {l:List Nat} {P:V→St→Prop} (h1:cC D G.own=true) (h2:cC C G.own=true) (h3:bx D G.sup=some l) (p:P (.f (.bool (cC C l))) S):OpK prog w K (fun us=>PySem.call (.builtin "isinstance") us) c.d [.f (.obj D fs),.f (.glob C)] S P:=by
 refine OpK.leaf (fun A s F ρ L vals hr hi ra Q E q=> ?_) p
 refine bw ra.inv2 fun u v y1e1 r1 r2=> ?_; subst y1e1
 obtain rfl:=r2.inv.invGlob
 refine dN r1.inv.invObj fun x dx od y2e1 k1 k2=> ?_; subst y2e1
 refine GA (g.own D h1) fun a1 a2 a3 a4 a5 a6=> ?_
 exact kia_one (kitx_own a1 a2 a3 a4 a5 a6) hi.H.kin (⟨hi.H.fh _ _ k1,rfl,rfl,hi.H.fh _ _ k2⟩:W.InstAt s.heap x (instObj D dx) D (some od)) (g.sup D l C h3 h2) nofun fun tk=>q _ _ _ (fun _ _ e=>e) fun F=> .bool _
noncomputable def k9:List Fv→Option (List Nat)
 |[]=>some []
 | .glob a::r=>(k9 r).map (a:: ·)
 |_::_=>none
noncomputable def xo (l:List Nat):List Nat→Bool
 |[]=>true
 |a::r=>cC a l && xo l r
noncomputable def tN (l:List Nat):List Nat→Bool
 |[]=>false
 |a::r=>cC a l||tN l r
theorem Dw {y:Fv} {cs:List Fv} {as:List Nat} (h:k9 (y::cs)=some as): ∃a l,y= .glob a∧k9 cs=some l∧as=a::l:=by
 cases y with
 |glob a=>
  refine aA (Option.map_eq_some_iff.mp h) fun l h e=> ?_
  exact ⟨a,l,rfl,h,e.symm⟩
 |_=>exact noS h
theorem ph (g:GOK prog w K G) {F:Fz} {D:Addr} {l:List Nat} (h3:bx D G.sup=some l): ∀{cs:List Fv} {xs:List Value} {as:List Nat},aJ F cs xs→k9 cs=some as→xo G.own as=true→kitAny K (.ref D) xs=some (tN l as)
 |[],xs,as,r,e,_=>by
  have e2:=Option.some.inj e
  subst e2; rw [r.nl]; rfl
 |y::cs,xs,as,r,e,h=>by
  obtain ⟨a,l',hy,e3,ha⟩:=Dw e
  subst hy; subst ha
  obtain ⟨u,us,hu,ra,rb⟩:=r.cn
  subst hu
  rw [ra.invGlob]
  have h:=(Bool.and_eq_true _ _).mp h
  show (match kitOne K (.ref D) (.ref a) with|some true=>some true|some false=>kitAny K (.ref D) us|none=>none)=_
  rw [g.sup D l a h3 h.1]
  show _=some (cC a l||tN l l')
  cases cC a l with
  |true=>rfl
  |false=>exact ph g h3 rb e3 h.2
theorem OpK.isaT (g:GOK prog w K G) {D:Addr} {cs:List Fv} {as:List Nat} {fs:List (Str×Fv)} {l:List Nat} {P:V→St→Prop} (h1:cC D G.own=true) (h0:k9 cs=some as) (h2:xo G.own as=true) (h3:bx D G.sup=some l) (p:P (.f (.bool (tN l as))) S):OpK prog w K (fun us=>PySem.call (.builtin "isinstance") us) c.d [.f (.obj D fs),.f (.tup cs)] S P:=by
 refine OpK.leaf (fun A s F ρ L vals hr hi ra Q E q=> ?_) p
 refine bw ra.inv2 fun u v y4e1 r1 r2=> ?_; subst y4e1
 refine dN r2.inv.invTup fun tp xs n y5e1 t1 t2=> ?_; subst y5e1
 refine dN r1.inv.invObj fun x dx od y6e1 k1 k2=> ?_; subst y6e1
 refine GA (g.own D h1) fun a1 a2 a3 a4 a5 a6=> ?_
 exact kia_tup (kitx_own a1 a2 a3 a4 a5 a6) hi.H.kin (⟨hi.H.fh _ _ k1,rfl,rfl,hi.H.fh _ _ k2⟩:W.InstAt s.heap x (instObj D dx) D (some od)) (hi.H.fh _ _ t1) (ph g h3 t2 h0 h2) nofun fun tk=>q _ _ _ (fun _ _ e=>e) fun F=> .bool _
end
end MineS
set_option backward.match.sparseCases true
namespace MineS
open PySem PySem.W PySem.Calls PyProof.Rows PySem.NumText PySem.W.KIN
theorem tO {x:PySem.Str} {u v:Tok} {n:Int} (hl:x.length≤640) (hn:PySem.intText? x=some n):Gives (Builtin.«int.__new__» ⟨[.type "int",.str x u,.int 10 v],[]⟩) (.int n):=
 .of_wp fun M A E s Q h=>by
  obtain ⟨hp,g,d,tk,os⟩:=s
  have f1:=F.conv_sub_int
  have f2:=F.madeHere_int
  have f6:typeOf (.str x u)=pure (.type "str"):=rfl
  have hs:(numSeenOf x).length≤640:=Nat.le_trans (seen_length x) hl
  have hr:(int_private% "readNumeral") 0 10 (numSeenOf x)=(int_private% "Numeral.value") n∧((numSeenOf x).length==(numTextOf x).length)=true:=by
   rcases read0 x hs with ⟨m,h1,h2,h3⟩|⟨h1,_⟩
   ·rw [hn] at h1
    injection h1 with h1
    subst h1
    exact ⟨h3,h2⟩
   ·rw [hn] at h1
    cases h1
  have hk:=Hid.mk (And.intro hs hr)
  clear hs hr hl hn
  repeat (any_goals (first
   |assumption
   |((with_reducible show wpAny _ _ ((int_private% "intFromText") _ _ _) _ _ _); refine wp_text hk.out.1 hk.out.2.1 hk.out.2.2 ?_)
   |wp_step))
  all_goals first|exact ⟨_,rfl,h⟩|skip
theorem oi (a b:Value):checkTypeCall "int" ⟨[a,b],[]⟩=pure ():=by kernel_rfl
theorem pP (a b:Value):checkBuiltinCall "int.__new__" ⟨[.type "int",a,b],[]⟩=pure ():=by kernel_rfl
section
variable {prog:Program} {w:World} {K:Frag} {G:Gl} {c:Cx} {S:St}
theorem xp {A:Around} {E:Value→Shared→Prop} {s:Shared} {Q:Value→Shared→Prop} {x:PySem.Str} {t v:Tok} {n:Int} (hn:PySem.intText? x=some n) (hl:x.length≤640) (h:Q (.int n s.toks) {s with toks:=s.toks+1}):wpAny (model prog w) A (PySem.call (.type "int") [.str x t,.int 10 v]) Q E s:=
 callType_new F.called_int F.newNe_int (oi _ _) (pP _ _) (fun obj=>F.args_object_init_3 obj _ _) F.entry_int_new (tO hl hn).meets (show (Made.int n).post _ s from ⟨rfl,h⟩)
theorem OpK.int10 {cs:List Nat} {n:Int} {P:V→St→Prop} (hn:PySem.intText? (mk cs)=some n) (hl:cs.length≤640) (p:P (.f (.int n)) S):OpK prog w K (fun us=>PySem.call (.type "int") us) c.d [.f (.str cs),.f (.int 10)] S P:=by
 refine OpK.leaf (fun A s F ρ L vals hr hi ra Q E q=> ?_) p
 refine bw ra.inv2 fun u v y0e1 r1 r2=> ?_; subst y0e1
 obtain ⟨t,rfl⟩:=r1.inv.invStr
 obtain ⟨t2,rfl⟩:=r2.inv.invInt
 exact xp (x:=mk cs) hn (by simpa [mk,Str.length] using hl) (q _ _ _ (fun _ _ e=>e) fun F=> .int _ _)
end
end MineS
namespace MineS
open PySem PySem.W PySem.Calls PyProof.Rows PySem.W.KFB
noncomputable def dz:Obj:={cls:= .type "builtin_function_or_method",data:= .fields #[.builtin "bytes.fromhex",.type "bytes"]}
theorem Dx:typeOf (.builtin "bytes.fromhex")=pure (.type "classmethod_descriptor"):=by show builtinType _=_; rw [builtinType_eq_fast]; kernel_rfl
theorem AV:entryFor table "bytes.fromhex"=some Builtin.«bytes.fromhex»:=entryFor_of_tree (by kernel_rfl)
theorem AW {as:Args}:(Code.builtin "bytes.fromhex" as).quiet=true:=Code.quiet_builtin _ (by decide+kernel)
theorem yS:isType (.type "bytes")=pure true:=by first|rfl|kernel_rfl|(unfold isType; rw [isSubtype_type]; kernel_rfl)
theorem AX:(kfb_private% "ownerAndName") "bytes.fromhex"=("bytes","fromhex"):=by first|decide+kernel|kernel_rfl
theorem GK:isSubtype (.type "bytes") (.type "bytes")=pure true:=by rw [isSubtype_type]; kernel_rfl
theorem AY {t:Tok} {o:Str}:checkBoundCall "bytes.fromhex" ⟨[.type "bytes",.str o t],[]⟩=pure ():=by first|kernel_rfl|rfl
noncomputable def jF (cs:List Nat) (b:Array UInt8):Prop:= ∀t:Tok,Builtin.«bytes.fromhex» ⟨[.type "bytes",.str (mk cs) t],[]⟩=(mkBytes b>>=fun v=>ret v)
theorem Mf:jF [102,101,49,48] #[254,16]:=fun t=>by kernel_rfl
theorem Mg:jF [70,69,49,48] #[254,16]:=fun t=>by kernel_rfl
theorem CN:jF [] #[]:=fun t=>by kernel_rfl
section
variable {prog:Program} {w:World} {K:Frag} {G:Gl} {c:Cx} {S:St}
theorem GL {M:Model} {A:Around} {E:Value→Shared→Prop} {s:Shared} {P:Fin→Shared→Prop} (h:P (.done (.ret (.ref s.heap.objs.size))) {s with heap:=s.heap.push dz}):
  wpAny M A (Builtin.«classmethod_descriptor.__get__» ⟨[.builtin "bytes.fromhex",.none,.type "bytes"],[]⟩) P E s:=by
 unfold Builtin.«classmethod_descriptor.__get__»
 refine wpAny_bind (wpAny_of_eq (a:=(.builtin "bytes.fromhex",none,some (.type "bytes"))) (by first|rfl|kernel_rfl) ?_)
 simp only [AX]
 refine wpAny_bind (wpAny_of_eq (a:= .type "bytes") rfl ?_)
 refine wpAny_bind (wpAny_of_eq (a:=true) yS ?_)
 refine if_not rfl ?_
 refine wpAny_bind (wpAny_of_eq (a:=true) GK ?_)
 refine if_not rfl ?_
 exact wpAny_bind (wpAny_newObj_type (wpAny_pure h))
theorem Dy:findCls K (.type "bytes") (.type "type") (Str.ofString "fromhex")=some (.get (.builtin "classmethod_descriptor.__get__") (.builtin "bytes.fromhex") .none (.type "bytes")):=by kernel_rfl
theorem yT {A:Around} {E:Value→Shared→Prop} {s:Shared} {pl:Sem Bool} {Q:Value×List Value→Shared→Prop} (X:K.In s.heap) (h:Q (.ref s.heap.objs.size,[]) {s with heap:=s.heap.push dz,toks:=s.toks+1}):
  wpAny (model prog w) A (getMethod (.type "bytes") (Str.ofString "fromhex") pl) Q E s:=by
 have hstub:opaqueClassAbove (.type "bytes")=pure none:=by unfold opaqueClassAbove; dsimp only; rw [show Manifest.isStub "bytes"=false by decide+kernel]; rfl
 have ht:typeOf (.type "bytes")=pure (.type "type"):=by first|rfl|kernel_rfl
 have L0:Looks (model prog w) s.heap (typeOf (.type "bytes")) (.type "type"):=Looks.of_pure ht
 have hg:findIn K (.type "type") "__getattribute__"=some (some (.builtin "type.__getattribute__")):=type_tga
 unfold getMethod specialOf
 refine wpAny_bind (wpAny_bind (L0.here ((looks_findIn X hg).here ?_)))
 dsimp only
 rw [if_pos canon_tga]
 refine wpAny_bind (wpAny_mono (Q:=fun v=>Q (v,[])) (E:=E) ?_ (fun _ _ z=>wpAny_pure z) fun _ _ z=>z)
 have LO:Looks (model prog w) s.heap (opaqueClassAbove (.type "bytes")) none:=Looks.of_pure hstub
 refine cls_open X LO L0 hg (looks_hook X (r:=none) (by rfl)) (by show subIn K _ _=_; rfl) Dy ?_
 show wpAny _ _ (holding [.builtin "bytes.fromhex"] (PySem.call (.builtin "classmethod_descriptor.__get__") [.builtin "bytes.fromhex",.none,.type "bytes"])>>=fun v=>ret v) _ _ _
 exact wpAny_bind (wpAny_holding (wpAny_call_entry KFB.slot_get Dx KFB.entry_get (GL ⟨_,rfl,wpAny_pure (wpAny_pure h)⟩) (KFB.args_get _ _ _)))
theorem uz {M:Model} {A:Around} {E:Value→Shared→Prop} {s:Shared} {pos:Pos} {u:Addr} {first:List Value} {args:List (Bool×Sem Value)} {Q:Value→Shared→Prop} (hplain:args.any (·.1)=false)
  (h:wpAny M A (evalArgs (.ref u) true args []) (fun x s₁=>s₁.heap.get? u=some dz∧wpAny M A (PySem.call (.ref u) (first++x.pos) x.kw) Q E s₁) E s):wpAny M A (callWith pos (.ref u) first args []) Q E s:=by
 unfold callWith
 refine wpAny_bind (wpAny_holding (wpAny_mono h (fun x s₁ h₁=>wpAny_bind (wpAny_standAt ?_)) fun _ _ x=>x))
 obtain ⟨ho,hcall⟩:=h₁
 simp only [hplain,List.any_nil,Bool.or_false]
 refine wpAny_bind (m:=keeperOf (.ref u)) ?_
 unfold keeperOf
 refine wpAny_bind (wpAny_load ho ?_)
 simp only [dz,show (Value.type "builtin_function_or_method" !=Value.type "method")=true by decide,show (Value.type "builtin_function_or_method"==Value.type "builtin_function_or_method"||Value.type "builtin_function_or_method"==Value.type "method-wrapper")=true by decide,if_true]
 refine wpAny_pure ?_
 exact wpAny_bind (wpAny_mono hcall (fun r s₂ hr=>wpAny_bind (wpAny_holding (wpAny_point (wpAny_pure hr)))) fun _ _ x=>x)
theorem Dz {A:Around} {E:Value→Shared→Prop} {s:Shared} {x:Addr} {cs:List Nat} {b:Array UInt8} {t:Tok} {Q:Value→Shared→Prop} (ho:s.heap.get? x=some dz) (hb:jF cs b) (hz:b.size≤sizeLine)
  (h:Q (.bytes b s.toks) {s with toks:=s.toks+1}):wpAny (model prog w) A (PySem.call (.ref x) [.str (mk cs) t]) Q E s:=by
 refine wpAny_call (codeAny_of_tree ?_)
 show wpAny _ A.in1 (callAny (.ref x) ⟨[.str (mk cs) t],[]⟩) _ _ s
 simp only [callAny]
 refine wpAny_bind (wpAny_load ho ?_)
 simp only [dz,show (Value.type "builtin_function_or_method"==Value.type "method"||Value.type "builtin_function_or_method"==Value.type "builtin_function_or_method"||Value.type "builtin_function_or_method"==Value.type "method-wrapper")=true by decide,if_true]
 refine if_so (by decide) ?_
 refine wpAny_bind (wpAny_of_eq (a:=()) AY ?_)
 refine wpAny_bind (wpAny_pure (wpAny_pure ?_))
 refine ⟨AW,codeAny_builtin AV ?_⟩
 show wpAny _ _ (Builtin.«bytes.fromhex» ⟨[.type "bytes",.str (mk cs) t],[]⟩) _ _ s
 rw [hb t]
 exact wpAny_bind (wpAny_mkBytes (wpAny_pure h) hz)
theorem af.fromhex (g:GOK prog w K G) {f x:Str} {fp apos pos:Pos} {e:PySem.Expr} {P:V→St→Prop} (hx:sq x (Str.ofString "fromhex")=true) (hd:sq f dbg=false) (hk:kind? c f=some .globalImplicit) (hl:look f G.bin=some (.ty "bytes")) (hs:bV e=false) (hp:Nat.beq apos.endLine pos.line=true)
  (X:af prog w K c e S fun v S1=> ∃cs b,v= .f (.str cs)∧jF cs b∧b.size≤1000∧P (.f (.bytes b)) S1):af prog w K c (.Call (.Attribute (.Name f fp) x apos) [e] [] pos) S P:=fun A s F ρ env he hr hi Q E q=>by
 rw [(bU _ _).mp hx]
 have hns:bk [e]=true:=by unfold bk; rw [hs]; rfl
 obtain ⟨pl,ee⟩:=eR (env:=env) (o:= .Name f fp) (x:=Str.ofString "fromhex") (args:=[e]) rfl hns rfl hp
 rw [ee]
 refine bG (g.bin f _ hl) fun h0 y0w0=> ?_; refine aA y0w0 fun u h1 h2=> ?_
 have hu:=(h2 F hi.H.kle).invTy
 subst hu
 have n:=g.g3 s.heap hi.H.kin
 have n':=g.b0 s.heap hi.H.kin
 refine wpAny_bind (Name_function_global he.kind ((he.kindOf f).trans hk) (loadGlobal_builtin (by rw [he.globals]; exact n) h0 (by rw [he.builtins]; exact n') h1 ?_) (fu hd))
 refine wpAny_bind (wpAny_standAt (wpAny_bind (wpAny_holding (yT hi.H.kin ?_))))
 have st1:bH K env.locals S s F ρ S ⟨s.heap.push dz,s.gens,s.drawn,s.toks+1,s.os⟩ F ρ:=hi.on (Nat.succ_pos _) (hi.i.stp (σ':=S.σ) (Stp.heap hi.H fun a o e=>Heap.get?_push_of_some _ e))
 have fr:(upd F s.heap.objs.size dz) s.heap.objs.size=some dz:=fQ _ _ _
 have st2:bH K env.locals S s F ρ S ⟨s.heap.push dz,s.gens,s.drawn,s.toks+1,s.os⟩ (upd F s.heap.objs.size dz) ρ:=hi.on (Nat.succ_pos _) (hi.i.stp (σ':=S.σ) (Stp.frozen hi.H (ci _) (dU _ _ rfl) fun a o e=>Heap.get?_push_of_some _ e))
 refine uz (eQ hns) ?_
 rw [bY hs,da]
 refine evalArgs_plain (spliced_cons (X A _ _ ρ env he hr st2.I _ _ fun v S1 u s1 F1 ρ1 ⟨cs,b,hv,hb,hz,hp⟩ st3 r1=>spliced_nil ?_))
 subst hv
 obtain ⟨t,rfl⟩:=r1.inv.invStr
 have ho:s1.heap.get? s.heap.objs.size=some dz:=st3.I.H.fh _ _ (st3.k.ff _ _ fr)
 refine ⟨ho,Dz ho hb (by rw [sizeLine_eq]; omega) ?_⟩
 exact q _ S1 _ _ F1 ρ1 hp ((st2.trans st3).to (Nat.succ_pos _)) (.f (.bytes _ _))
theorem iN:Slot "bytes" "hex" "bytes.hex":=
 .of (owner:="bytes") (n:="hex") (by rw [typeLookup_type,builtinLookup_eq_fast]; kernel_rfl) (by decide+kernel) (by decide+kernel) (by decide+kernel)
  (by first|exact .inl (by decide+kernel)|exact .inr (by decide+kernel)) (by rw [isSubtype_type]; kernel_rfl)
theorem m9:entryFor table "bytes.hex"=some Builtin.«bytes.hex»:=entryFor_of_tree (by kernel_rfl)
theorem lR (a:Value):argsOk "bytes.hex" ⟨[a],[]⟩:=by
 unfold argsOk; rw [signature?_of (id:="bytes.hex") (n:=['x','e','h']) (o:=['s','e','t','y','b']) (by kernel_rfl) FB.owner_bytes]; kernel_rfl
noncomputable def tj (b:Array UInt8) (cs:List Nat):Prop:= ∀t:Tok,Builtin.«bytes.hex» ⟨[.bytes b t],[]⟩=(mkStr (mk cs)>>=fun v=>ret v)
theorem oj:tj #[254,16] [102,101,49,48]:=fun t=>by kernel_rfl
theorem om:tj #[] []:=fun t=>by kernel_rfl
theorem OpK.hex {b:Array UInt8} {cs:List Nat} {P:V→St→Prop} (hb:tj b cs) (hz:Nat.ble cs.length 1000=true) (p:P (.f (.str cs)) S):OpK prog w K (fun us=>PySem.call (.builtin "bytes.hex") us) c.d [.f (.bytes b)] S P:=by
 refine OpK.leaf (fun A s F ρ L vals hr hi ra Q E q=> ?_) p
 refine aA ra.inv1 fun u y1e1 r=> ?_; subst y1e1
 obtain ⟨t,rfl⟩:=r.inv.invBytes
 refine wpAny_call_entry iN (show s.TypeIs (.bytes b t) "bytes" from rfl) m9 ?_ (lR _)
 rw [hb t]
 have:=Nat.ble_eq.mp hz
 refine wpAny_bind (wpAny_mkStr ?_ ?_)
 ·exact wpAny_pure ⟨_,rfl,q _ _ _ (fun _ _ e=>e) fun F=> .str cs _⟩
 ·show cs.toArray.size≤sizeLine; rw [sizeLine_eq]; simp; omega
theorem cK.hex {b:Array UInt8}:cK prog w K S (.f (.bytes b)) (Str.ofString "hex") "bytes.hex":=fun A s F ρ L u hi r pl Q E q=>by
 obtain ⟨t,rfl⟩:=r.inv.invBytes
 exact getMethod_value (T:="bytes") (ga:="bytes.__getattribute__") rfl nofun (by rw [typeLookup_type,builtinLookup_eq_fast]; kernel_rfl) (by decide+kernel) (by rw [typeLookup_type,builtinLookup_eq_fast]; kernel_rfl) iN.lookup (by show builtinType _=_; rw [builtinType_eq_fast]; kernel_rfl) q
end
end MineS
namespace MineS
open PySem PySem.W PySem.Calls PyProof.Rows
section
variable {prog:Program} {w:World} {K:Frag} {G:Gl} {c:Cx} {S:St}
theorem aV.while {test:PySem.Expr} {body:List Stmt} {pos:Pos} {P:Fl→St→Prop} (Inv:Nat→St→Prop)
  (step: ∀n S,Inv n S→aS prog w K c test S fun b S1=>if b=true then aP prog w K c body S1 (fun fl S2=>match fl with| .next=> ∃m,m<n∧Inv m S2| .ret v=>P (.ret v) S2) else P .next S1) (n:Nat) (h:Inv n S):
  aV prog w K c (.While test body [] pos) S P:=fun A s F ρ env he hr hi Q E q=>by
 refine wpAny_While (codeAny_whileLoop (fun n s'=> ∃S' F' ρ',Inv n S'∧bH K env.locals S s F ρ S' s' F' ρ') (fun n s1 ⟨S1,F1,ρ1,hi1,st1⟩=> ?_) n ⟨S,F,ρ,h,.refl hi⟩)
 refine step n S1 hi1 A s1 F1 ρ1 env he hr st1.I _ _ fun b S2 s2 F2 ρ2 y st2=> ?_
 have st:=st1.trans st2
 cases b
 ·rw [if_neg (by simp)] at y ⊢
  exact wpAny_execs_nil (q .next S2 .next s2 F2 ρ2 y st .next)
 ·rw [if_pos rfl] at y ⊢
  refine y A s2 F2 ρ2 env he hr st2.I _ _ fun fl S3 u s3 F3 ρ3 z st3 r3=> ?_
  cases r3 with
  |next=>refine aA z fun m h1 h2=> ?_; exact ⟨m,h1,S3,F3,ρ3,h2,st.trans st3⟩
  |ret r3=>exact q _ S3 _ s3 F3 ρ3 z (st.trans st3) (.ret r3)
end
end MineS
namespace MineS
open PySem PySem.W PySem.Calls PyProof.Rows
noncomputable def upI:Int→Nat→List Fv
 |_,0=>[]
 |x,n+1=> .int x::upI (x+1) n
inductive cD (F:Fz) (h:Heap) (it:Addr):Bool→List Fv→Prop
 |list {b:Bool} {a:Addr} {o:Obj} {xs:List Value} {n i:Nat} {rem:List Fv}:h.IsListIter it a i→F a=some o→o.cls= .type "list"→o.data= .seq xs.toArray n→aJ F rem (xs.drop i)→cD F h it b rem
 |tup {b:Bool} {a:Addr} {xs:List Value} {n i:Nat} {rem:List Fv}:h.IsTupleIter it a i→F a=some (n8 xs.toArray n)→aJ F rem (xs.drop i)→cD F h it b rem
 |str {cs:List Nat} {t:Tok} {i:Nat} {rem:List Fv}:h.IsStrIter it "str_ascii_iterator" ⟨cs.toArray⟩ t i→rem=(cs.drop i).map (fun x=>Fv.str [x])→cD F h it false rem
 |rng {x left:Int} {n:Nat} {rem:List Fv}:IsRangeIter h it x left 1→left=(n:Int)→rem=upI x n→cD F h it false rem
theorem cD.mono {F F':Fz} {h h':Heap} {it:Addr} {b:Bool} {rem:List Fv} (I:cD F h it b rem) (L:FLe F F') (k: ∀o,h.get? it=some o→h'.get? it=some o):cD F' h' it b rem:=by
 cases I with
 |list a b c d e=>refine aA a fun o h1 h2=> ?_; exact .list ⟨o,k o h1,h2⟩ (L _ _ b) c d (e.mono L)
 |tup a b e=>refine aA a fun o h1 h2=> ?_; exact .tup ⟨o,k o h1,h2⟩ (L _ _ b) (e.mono L)
 |str a b=>refine aA a fun o h1 h2=> ?_; exact .str ⟨o,k o h1,h2⟩ b
 |rng a b c=>exact .rng (k _ a) b c
theorem cD.alive {F:Fz} {h:Heap} {it:Addr} {b:Bool} {rem:List Fv} (I:cD F h it b rem): ∃o,h.get? it=some o:=by
 cases I with
 |list a _ _ _ _=>exact ⟨_,a.choose_spec.1⟩
 |tup a _ _=>exact ⟨_,a.choose_spec.1⟩
 |str a _=>exact ⟨_,a.choose_spec.1⟩
 |rng a _ _=>exact ⟨_,a⟩
theorem j9 {α:Type} {xs:List α} {i:Nat} {x:α} {r:List α} (h:xs.drop i=x::r):xs[i]? =some x∧xs.drop (i+1)=r:=by
 have h1:(xs.drop i)[0]? =some x:=by rw [h]; rfl
 rw [List.getElem?_drop] at h1
 refine ⟨by simpa using h1,?_⟩
 have:(xs.drop i).drop 1=r:=by rw [h]; rfl
 rwa [List.drop_drop] at this
theorem lT {α:Type} {xs:List α} {i:Nat} (h:xs.drop i=[]):xs[i]? =none:=by
 rw [List.getElem?_eq_none_iff]
 have:=congrArg List.length h
 simp at this; omega
section
variable {prog:Program} {w:World} {K:Frag} {G:Gl} {c:Cx} {S:St}
theorem cD.next {A:Around} {E:Value→Shared→Prop} {s:Shared} {F:Fz} {it:Addr} {b:Bool} {f:Fv} {rem:List Fv} {Q:Option Value→Shared→Prop} (I:cD F s.heap it b (f::rem)) (fh: ∀a o,F a=some o→s.heap.get? a=some o)
  (q: ∀u h' tk,s.toks≤tk→aG F f u→cD F h' it b rem→Heap.SameBut it s.heap h'→Q (some u) ⟨h',s.gens,s.drawn,tk,s.os⟩) (no:F it=none):wpAny (model prog w) A (pyNext (.ref it)) Q E s:=by
 cases I with
 |list a e1 e2 e3 e=>
  rename_i l o xs n i
  generalize hd:xs.drop i=ys at e
  cases e with|cons r1 r2=>
  obtain ⟨h1,h2⟩:=j9 hd
  have L:s.heap.IsList l xs.toArray:=⟨o,fh _ _ e1,e2,n,e3⟩
  exact PySem.wpAny_pyNext_list_item a L (by simpa using h1) fun h' g sb=>q _ h' s.toks (Nat.le_refl _) r1 (.list g e1 e2 e3 (h2▸r2)) sb
 |tup a e1 e=>
  rename_i l xs n i
  generalize hd:xs.drop i=ys at e
  cases e with|cons r1 r2=>
  obtain ⟨h1,h2⟩:=j9 hd
  have L:s.heap.IsTuple l xs.toArray:=⟨_,fh _ _ e1,rfl,n,rfl⟩
  exact PySem.wpAny_pyNext_tuple_item a L (by simpa using h1) fun h' g sb=>q _ h' s.toks (Nat.le_refl _) r1 (.tup g e1 (h2▸r2)) sb
 |str a e=>
  rename_i cs t i
  generalize hd:cs.drop i=ys at e
  cases ys with
  |nil=>cases e
  |cons x ys=>
   obtain ⟨h1,h2⟩:=j9 hd
   cases e
   exact PySem.wpAny_pyNext_ascii_item (c:=x) a (by simpa using h1) fun h' g sb=>q _ h' (s.toks+1) (Nat.le_succ _) (.str [x] _) (.str g (by rw [h2])) sb
 |rng a e1 e2=>
  rename_i x left n
  cases n with
  |zero=>cases e2
  |succ n=>
   injection e2 with e3 e4
   subst e3
   subst e1
   exact PySem.wpAny_pyNext_range_item a (by omega) fun h' g sb=>q _ h' (s.toks+1) (Nat.le_succ _) (.int x _) (.rng g (by omega) e4) sb
theorem cD.stop {A:Around} {E:Value→Shared→Prop} {s:Shared} {F:Fz} {it:Addr} {b:Bool} {Q:Option Value→Shared→Prop} (hh:A.handled=none) (I:cD F s.heap it b []) (fh: ∀a o,F a=some o→s.heap.get? a=some o)
  (q: ∀h',Heap.ExtBut it s.heap h'→Q none ⟨h',s.gens,s.drawn,s.toks,s.os⟩):wpAny (model prog w) A (pyNext (.ref it)) Q E s:=by
 cases I with
 |list a e1 e2 e3 e=>
  rename_i l o xs n i
  generalize hd:xs.drop i=ys at e
  cases e
  have L:s.heap.IsList l xs.toArray:=⟨o,fh _ _ e1,e2,n,e3⟩
  exact PySem.wpAny_pyNext_list_end hh a L (by simpa using lT hd) q
 |tup a e1 e=>
  rename_i l xs n i
  generalize hd:xs.drop i=ys at e
  cases e
  have L:s.heap.IsTuple l xs.toArray:=⟨_,fh _ _ e1,rfl,n,rfl⟩
  exact PySem.wpAny_pyNext_tuple_end hh a L (by simpa using lT hd) q
 |str a e=>
  rename_i cs t i
  have hd:cs.drop i=[]:=by
   cases h:cs.drop i with
   |nil=>rfl
   |cons x y=>rw [h] at e; cases e
  exact PySem.wpAny_pyNext_ascii_end hh a (by simpa using lT hd) q
 |rng a e1 e2=>
  rename_i x left n
  cases n with
  |zero=>exact PySem.wpAny_pyNext_range_end hh a (by omega) q
  |succ n=>cases e2
inductive Tgt (c:Cx):PySem.Expr→Bool→Fv→St→St→Prop
 |name {x:Str} {p:Pos} {f:Fv} {S:St}:kind? c x=some .local→Tgt c (.Name x p) false f S ⟨put x (.f f) S.loc,S.σ⟩
 |pair {a b:Str} {pa pb tp:Pos} {k:Nat} {x y:Fv} {S:St}:kind? c a=some .local→kind? c b=some .local→Tgt c (.Tuple [.Name a pa,.Name b pb] k tp) true (.tup [x,y]) S ⟨put b (.f y) (put a (.f x) S.loc),S.σ⟩
theorem Tgt.run {t:PySem.Expr} {b:Bool} {f:Fv} {S S':St} (T:Tgt c t b f S S') {A:Around} {s:Shared} {F:Fz} {ρ:Rho} {env:Env} {u:Value} {E:Value→Shared→Prop} {Q:Unit→Shared→Prop} (he:cj c env) (hh:A.handled=none) (I:InT K env.locals S s F ρ) (r:aG F f u)
  (q: ∀s',bH K env.locals S s F ρ S' s' F ρ→Q () s'):wpAny (model prog w) A (assign t env u) Q E s:=by
 cases T with
 |name hk=>
  rw [arm_assign_Name]
  exact wpAny_bind (wpAny_standAt (dH he hk I (.f r) fun s3 st3=>q s3 st3))
 |pair ha hb=>
  rename_i a b pa pb tp k x y
  rw [arm_assign_Tuple]
  refine wpAny_bind (wpAny_standAt ?_)
  unfold unpack
  refine wpAny_bind (wpAny_holding ?_)
  show wpAny _ _ (unpackItems u 2 none) _ E s
  refine n9 hh I (.f r) fun va vb s2 ra rb st2=> ?_
  show wpAny _ _ (assignInOrder [assign (.Name a pa) env,assign (.Name b pb) env] [va,vb]) _ E s2
  unfold assignInOrder
  refine wpAny_bind (wpAny_holding ?_)
  rw [arm_assign_Name]
  refine wpAny_bind (wpAny_standAt (dH he ha st2.I (.f ra) fun s3 st3=> ?_))
  unfold assignInOrder
  refine wpAny_bind (wpAny_holding ?_)
  rw [arm_assign_Name]
  refine wpAny_bind (wpAny_standAt (dH he hb st3.I (.f rb) fun s4 st4=> ?_))
  unfold assignInOrder
  exact wpAny_pure (q s4 ((st2.trans st3).trans st4))
end
end MineS
namespace MineS
open PySem PySem.W PySem.Calls PyProof.Rows
section
variable {prog:Program} {w:World} {K:Frag} {G:Gl} {c:Cx} {S:St} {L it:Addr} {h h':Heap} {F F':Fz} {ρ ρ':Rho}
structure Out (L it:Addr) (S:St) (F:Fz) (ρ:Rho):Prop where
 l: ¬bC S.σ ρ it
 f:F it=none
 n:it≠L
theorem InS.other (I:InS K L S h F ρ) (o:Out L it S F ρ) (e:Heap.ExtBut it h h'):InS K L S h' F ρ:=by
 refine ⟨I.H.heap fun a ob q z=>e a ob ?_ q,I.Loff,I.Lout,?_⟩
 ·rintro rfl
  rcases z with z|z
  ·exact o.l z
  ·exact z o.f
 ·refine aA I.ns fun vs hn r=> ?_
  exact ⟨vs,hn.extBut e (Ne.symm o.n),r⟩
theorem b9.or {l1 l2:Addr→Prop} (k:b9 l1 h F l2 h' F') (it:Addr):b9 (fun a=>l1 a∨a=it) h F (fun a=>l2 a∨a=it) h' F':=
 ⟨k.ff,fun a o e n=>k.hh a o e fun z=>n (.inl z),fun a o e=>by
  rcases k.nf a o e with z|z|z
  ·exact .inl z
  ·exact .inr (.inl (.inl z))
  ·exact .inr (.inr z),fun a e=>by
  rcases e with e|e
  ·rcases k.nl a e with z|z
   ·exact .inl (.inl z)
   ·exact .inr z
  ·exact .inl (.inr e)⟩
theorem b9.at (l:Addr→Prop) (e:Heap.ExtBut it h h'):b9 (fun a=>l a∨a=it) h F (fun a=>l a∨a=it) h' F:=
 ⟨.refl F,fun a o q n=>e a o (fun z=>n (.inr z)) q,fun a o q=> .inl (by rw [q]; simp),fun a z=> .inl z⟩
theorem b9.weak {l1 l2 l3:Addr→Prop} (k:b9 l1 h F l2 h' F') (z: ∀a,l3 a→l2 a):b9 l1 h F l3 h' F':=⟨k.ff,k.hh,k.nf,fun a e=>k.nl a (z a e)⟩
theorem Out.step {S':St} {s s':Shared} (o:Out L it S F ρ) (st:bH K L S s F ρ S' s' F' ρ') (al: ∃ob,s.heap.get? it=some ob):Out L it S' F' ρ':=by
 obtain ⟨ob,ho⟩:=al
 refine ⟨fun l=> ?_,?_,o.n⟩
 ·rcases st.k.nl it (.inr l) with z|z
  ·rcases z with z|z
   ·exact o.n z
   ·exact o.l z
  ·rw [ho] at z; cases z
 ·cases q:F' it with
  |none=>rfl
  |some ob'=>
   rcases st.k.nf it ob' q with z|z|z
   ·exact absurd o.f z
   ·rcases z with z|z
    ·exact absurd z o.n
    ·exact absurd z o.l
   ·rw [ho] at z; cases z
theorem Out.keep {S':St} {s s':Shared} {F2:Fz} {ρ2:Rho} {b:Bool} {rem:List Fv} {L it:Addr} {F:Fz} {ρ:Rho} {K:Frag} {S:St} (o:Out L it S F ρ) (st:bH K L S s F ρ S' s' F2 ρ2) (ia:cD F s.heap it b rem):cD F2 s'.heap it b rem:=
 ia.mono st.k.ff fun ob ho=>st.k.hh it ob ho fun z=>z.elim o.n o.l
inductive xq (K:Frag) (it L:Addr) (tp:Bool) (Inv:List Fv→St→Prop) (lv:Addr→Prop) (h0:Heap) (F0:Fz) (ρ0:Rho) (s0:Shared):Nat→Shared→Prop
 |mk {rem:List Fv} {S:St} {F:Fz} {ρ:Rho} {s:Shared}:Inv rem S→InT K L S s F ρ→cD F s.heap it tp rem→Out L it S F ρ→b9 lv h0 F0 (fun a=>lvS L S ρ a∨a=it) s.heap F→RLe ρ0 ρ→Rst s0 s→xq K it L tp Inv lv h0 F0 ρ0 s0 rem.length s
theorem lC {A:Around} {s s0:Shared} {F0:Fz} {ρ0:Rho} {S0:St} {env:Env} {target:PySem.Expr} {body:List Stmt} {tp:Bool} {P:Fl→St→Prop} {R:Result→Shared→Prop} (Inv:List Fv→St→Prop) (he:cj c env) (hr:dP c.d A)
  (letGo: ∀(s:Shared) (F:Fz) (rem:List Fv) (v:Value) (Q:Unit→Shared→Prop) (E:Value→Shared→Prop),cD F s.heap it tp rem→Q () s→wpAny (model prog w) A (letOwnedTupleGo target (.ref it) v) Q E s)
  (step: ∀f rem S,Inv (f::rem) S→ ∃S',Tgt c target tp f S S'∧aP prog w K c body S' fun fl S2=>match fl with| .next=>Inv rem S2| .ret v=>P (.ret v) S2) (fin: ∀S,Inv [] S→P .next S)
  (rem:List Fv) (hi:Inv rem S) (I:InT K env.locals S s F ρ) (ht:cD F s.heap it tp rem) (o:Out env.locals it S F ρ) (k:b9 (lvS env.locals S0 ρ0) s0.heap F0 (fun a=>lvS env.locals S ρ a∨a=it) s.heap F) (rl:RLe ρ0 ρ) (rs:Rst s0 s)
  (q: ∀fl S' u s' F' ρ',P fl S'→bH K env.locals S0 s0 F0 ρ0 S' s' F' ρ'→mY F' ρ' fl u→R (.ok u) s'):codeAny (model prog w) A (.forLoop target (.ref it) body [] env) R s:=by
 refine codeAny_forLoop_any (xq K it env.locals tp Inv (lvS env.locals S0 ρ0) s0.heap F0 ρ0 s0) (fun n s1 z=> ?_) rem.length (.mk hi I ht o k rl rs)
 cases z with
 | @mk rem S1 F1 ρ1 _ hi I ht o k rl rs=>
  cases rem with
  |nil=>
   refine ht.stop hr.handled I.H.fh fun h2 e=> ?_
   refine wpAny_execs_nil (q .next S1 .next _ F1 ρ1 (fin S1 hi) ⟨I.t,⟨I.i.other o e,(k.trans (b9.at _ e)).weak fun a z=> .inl z,rl⟩,⟨rs.g,rs.o⟩⟩ .next)
  |cons f rem=>
   obtain ⟨S2,T,X⟩:=step f rem S1 hi
   refine ht.next I.H.fh (fun u h2 tk htk ru ht2 sb=> ?_) o.f
   have e:=sb.extBut
   have I2:InT K env.locals S1 ⟨h2,s1.gens,s1.drawn,tk,s1.os⟩ F1 ρ1:=⟨Nat.lt_of_lt_of_le I.t htk,I.i.other o e⟩
   refine letGo _ F1 rem u _ _ ht2 (T.run he hr.handled I2 ru fun s3 st3=> ?_)
   have ht3:=o.keep st3 ht2
   have o3:=o.step st3 ht2.alive
   refine X A s3 F1 ρ1 env he hr st3.I _ _ fun fl S4 v s4 F4 ρ4 y st4 r4=> ?_
   have st:=st3.trans st4
   have k4:=(k.trans (b9.at _ e)).trans (st.k.or it)
   have rs4:Rst s0 s4:=⟨st.rs.g.trans rs.g,st.rs.o.trans rs.o⟩
   cases r4 with
   |next=>exact ⟨rem.length,Nat.lt_succ_self _,.mk y st4.I (o3.keep st4 ht3) (o3.step st4 ht3.alive) k4 (rl.trans st.r) rs4⟩
   |ret r4=>exact q _ S4 _ s4 F4 ρ4 y ⟨st4.t,⟨st4.x.I,k4.weak fun a z=> .inl z,rl.trans st.r⟩,rs4⟩ (.ret r4)
end
end MineS
set_option backward.match.sparseCases false
namespace MineS
open PySem PySem.W PySem.Calls PyProof.Rows
noncomputable def nh:List Nat→Bool
 |[]=>true
 |x::r=>match Nat.blt x 128 with
  |true=>nh r
  |false=>false
theorem ni: ∀l:List Nat,nh l=true→(l.all fun x=>decide (x<128))=true
 |[],_=>rfl
 |x::r,h=>by
  unfold nh at h
  split at h
  ·rename_i q; rw [List.all_cons,ni r h,decide_eq_true (Nat.blt_eq.mp q)]; rfl
  ·cases h
noncomputable def CO (cs:List Nat):List Fv:=cs.map fun x=>Fv.str [x]
noncomputable def fw (tp:Bool) (S:St):V→Option (List Fv×St)
 | .f (.list l)=>some (l,S)
 | .f (.tup l)=>some (l,S)
 | .f (.str cs)=>match tp with
  |true=>none
  |false=>match nh cs with
   |true=>some (CO cs,S)
   |false=>none
 | .r i=>match S.σ[i]? with
  |some (.list l)=>some (l,⟨S.loc,S.σ.set i .dead⟩)
  |_=>none
 |_=>none
noncomputable def iO:PySem.Expr→Bool
 | .Set .. =>false
 |_=>true
noncomputable def lU:PySem.Expr→Bool
 | .Name .. =>true
 |_=>false
section
variable {prog:Program} {w:World} {K:Frag} {G:Gl} {c:Cx} {S:St}
theorem pi {A:Around} {E:Value→Shared→Prop} {s:Shared} {F:Fz} {ρ:Rho} {L:Addr} {tp:Bool} {v:V} {u:Value} {items:List Fv} {S':St} {Q:Value→Shared→Prop} (I:InT K L S s F ρ) (r:bg F ρ v u) (e:fw tp S v=some (items,S'))
  (q: ∀it s' F',InT K L S' s' F' ρ→cD F' s'.heap it tp items→Out L it S' F' ρ→b9 (lvS L S ρ) s.heap F (fun a=>lvS L S' ρ a∨a=it) s'.heap F'→Rst s s'→Q (.ref it) s'):wpAny (model prog w) A (pyIter u) Q E s:=by
 have base: ∀(o:Obj) (F':Fz) (S':St),o.isFreed=false→dO K L S s.heap F ρ S' s.heap F' ρ→cD F' (s.heap.push o) s.heap.objs.size tp items→
   (∀it s' F',InT K L S' s' F' ρ→cD F' s'.heap it tp items→Out L it S' F' ρ→b9 (lvS L S ρ) s.heap F (fun a=>lvS L S' ρ a∨a=it) s'.heap F'→Rst s s'→Q (.ref it) s')→Q (.ref s.heap.objs.size) {s with heap:=s.heap.push o}:=by
  intro o F' S' ho st ia q
  have n0:=ci s.heap
  have fr:=st.I.H.fresh n0
  have st2:=st.trans (st.I.stp (σ':=S'.σ) (Stp.heap (h':=s.heap.push o) st.I.H fun a o e=>Heap.get?_push_of_some _ e))
  refine q _ _ F' ⟨I.t,st2.I⟩ ia ⟨fr.2,fr.1,?_⟩ ⟨st2.k.ff,st2.k.hh,st2.k.nf,fun a z=> ?_⟩ ⟨rfl,rfl⟩
  ·rintro hL
   refine aA I.ns fun vs y0z1 _=> ?_; obtain ⟨ob,es,ep,h1,_⟩:=y0z1
   rw [←hL,n0] at h1; cases h1
  ·rcases z with z|z
   ·exact st2.k.nl a z
   ·exact .inr (by rw [z]; exact n0)
 unfold fw at e
 split at e<;>first|cases e; done|skip
 ·cases e
  refine AL r.inv.invList fun a o xs n y1e1 h1 h2 h3 h4=> ?_; subst y1e1
  exact PySem.wpAny_pyIter_list ⟨o,I.H.fh _ _ h1,h2,n,h3⟩ (base _ F S rfl (.refl I.i) (.list (i:=0) ⟨_,dU _ _ rfl,rfl,rfl⟩ h1 h2 h3 (by simpa using h4)) q)
 ·cases e
  refine dN r.inv.invTup fun a xs n y2e1 h1 h4=> ?_; subst y2e1
  exact PySem.wpAny_pyIter_tuple ⟨_,I.H.fh _ _ h1,rfl,n,rfl⟩ (base _ F S rfl (.refl I.i) (.tup (i:=0) ⟨_,dU _ _ rfl,rfl,rfl⟩ h1 (by simpa using h4)) q)
 ·rename_i cs
  split at e<;>first|cases e; done|skip
  split at e<;>first|cases e; done|skip
  rename_i ha
  cases e
  obtain ⟨t,rfl⟩:=r.inv.invStr
  exact PySem.wpAny_pyIter_ascii (by have:=ni cs ha; simpa using this) (base _ F S rfl (.refl I.i) (.str (i:=0) ⟨_,dU _ _ rfl,rfl,rfl⟩ (by simp [CO])) q)
 ·split at e<;>first|cases e; done|skip
  rename_i l hσ
  cases e
  refine cV r.invR fun a d y3e1 hp=> ?_; subst y3e1
  refine aA (Stp.freezeList I.H hσ hp) fun F' st rr=> ?_
  refine AL rr.invList fun a' o xs n ea h1 h2 h3 h4=> ?_
  cases ea
  exact PySem.wpAny_pyIter_list ⟨o,st.I.fh _ _ h1,h2,n,h3⟩ (base _ F' _ rfl (I.i.stp st) (.list (i:=0) ⟨_,dU _ _ rfl,rfl,rfl⟩ h1 h2 h3 (by simpa using h4)) q)
theorem aV.for {target iter:PySem.Expr} {body:List Stmt} {pos:Pos} {tp:Bool} {P:Fl→St→Prop} (Inv:List Fv→St→Prop) (hs:iO iter=true) (ht:tp=true∨lU target=true)
  (X:af prog w K c iter S fun v S1=> ∃items S2,fw tp S1 v=some (items,S2)∧Inv items S2)
  (step: ∀f rem S,Inv (f::rem) S→ ∃S',Tgt c target tp f S S'∧aP prog w K c body S' fun fl S2=>match fl with| .next=>Inv rem S2| .ret v=>P (.ret v) S2) (fin: ∀S,Inv [] S→P .next S):
  aV prog w K c (.For target iter body [] pos) S P:=fun A s F ρ env he hr hi Q E q=>by
 refine wpAny_For (X A s F ρ env he hr hi _ _ fun v S1 u s1 F1 ρ1 ⟨items,S2,e,hI⟩ st1 r1=> ?_) (fun x=>by cases iter<;>first|rfl|cases hs)
 refine pi st1.I r1 e fun it s2 F2 I2 ia o k rs=> ?_
 refine lC (S0:=S) (s0:=s) (F0:=F) (ρ0:=ρ) (P:=P) Inv he hr (fun s F rem v Q E ia hq=> ?_) step fin items hI I2 ia o (st1.k.trans k) st1.r (st1.rs.trans rs) fun fl S' u s' F' ρ' p st r=>q fl S' u s' F' ρ' p st r
 rcases ht with rfl|ht
 ·cases ia with
  |list a _ _ _ _=>exact letGo_listiter a hq
  |tup a _ _=>exact letGo_tupleiter a hq
 ·cases target<;>first|exact wpAny_pure hq|cases ht
theorem aV.forRange (g:GOK prog w K G) {x f:Str} {tp fp rpos pos:Pos} {e:PySem.Expr} {body:List Stmt} {P:Fl→St→Prop} (Inv:List Fv→St→Prop) (hs:bV e=false) (hd:sq f dbg=false) (hk:kind? c f=some .globalImplicit) (hl:look f G.bin=some (.ty "range"))
  (X:af prog w K c e S fun v S1=> ∃n:Nat,v= .f (.int (Int.ofNat n))∧n≤1000000∧Inv (upI 0 n) S1)
  (step: ∀f rem S,Inv (f::rem) S→ ∃S',Tgt c (.Name x tp) false f S S'∧aP prog w K c body S' fun fl S2=>match fl with| .next=>Inv rem S2| .ret v=>P (.ret v) S2) (fin: ∀S,Inv [] S→P .next S):
  aV prog w K c (.For (.Name x tp) (.Call (.Name f fp) [e] [] rpos) body [] pos) S P:=fun A s F ρ env he hr hi Q E q=>by
 refine bG (g.bin f _ hl) fun h0 y6w0=> ?_; refine aA y6w0 fun u h1 h2=> ?_
 have hu:=(h2 F hi.H.kle).invTy
 subst hu
 have n:=g.g3 s.heap hi.H.kin
 have n':=g.b0 s.heap hi.H.kin
 refine wpAny_For (wpAny_Call_NameR (Name_function_global he.kind ((he.kindOf f).trans hk) (loadGlobal_builtin (by rw [he.globals]; exact n) h0 (by rw [he.builtins]; exact n') h1 ?_) (fu hd))) (fun x=>rfl)
 have hns:bk [e]=true:=by unfold bk; rw [hs]; rfl
 refine m0 hns ?_
 rw [bY hs,da]
 refine spliced_cons (X A s F ρ env he hr hi _ _ fun v S1 u s1 F1 ρ1 ⟨m,hv,hm,hI⟩ st1 r1=>spliced_nil ?_)
 subst hv
 obtain ⟨t,rfl⟩:=r1.inv.invInt
 refine call_range_1 ?_
 have hsz:Builtin.Range.rangeSize 0 (Int.ofNat m) 1=(m:Int):=by rw [rangeSize_one]; split<;>simp_all
 refine wpAny_pyIter_range (IsRange.new ..) (small_one (by decide) (by decide) (by simp<;>omega) (by simp<;>omega)) ?_
 have g1: ∀a o,s1.heap.get? a=some o→((s1.heap.push {cls:= .type "range",data:= .fields #[.int 0 s1.toks,.int (Int.ofNat m) t,.int 1 (s1.toks+1)]}).push {cls:= .type "range_iterator",data:= .fields #[rawInt 0,rawInt (Builtin.Range.rangeSize 0 (Int.ofNat m) 1),rawInt 1]}).get? a=some o:=fun a o e=>Heap.get?_push_of_some _ (Heap.get?_push_of_some _ e)
 have it0:=Heap.get?_push_size (s1.heap.push {cls:= .type "range",data:= .fields #[.int 0 s1.toks,.int (Int.ofNat m) t,.int 1 (s1.toks+1)]}) (o:={cls:= .type "range_iterator",data:= .fields #[rawInt 0,rawInt (Builtin.Range.rangeSize 0 (Int.ofNat m) 1),rawInt 1]}) rfl
 generalize hh:((s1.heap.push {cls:= .type "range",data:= .fields #[.int 0 s1.toks,.int (Int.ofNat m) t,.int 1 (s1.toks+1)]}).push {cls:= .type "range_iterator",data:= .fields #[rawInt 0,rawInt (Builtin.Range.rangeSize 0 (Int.ofNat m) 1),rawInt 1]})=h2 at*
 generalize hi2:(s1.heap.push {cls:= .type "range",data:= .fields #[.int 0 s1.toks,.int (Int.ofNat m) t,.int 1 (s1.toks+1)]}).objs.size=it at*
 have n0:s1.heap.get? it=none:=by
  cases q:s1.heap.get? it with
  |none=>rfl
  |some o=>exact absurd (Heap.lt_size q) (Nat.not_lt.mpr (by rw [←hi2]; simp [Heap.size_push]))
 have fr:=st1.I.H.fresh n0
 have st2:dO K env.locals S1 s1.heap F1 ρ1 S1 h2 F1 ρ1:=st1.I.i.stp (σ':=S1.σ) (Stp.heap st1.I.H g1)
 have out:Out env.locals it S1 F1 ρ1:=by
  refine ⟨fr.2,fr.1,?_⟩
  rintro hL
  refine aA st1.I.ns fun vs y7z1 _=> ?_; obtain ⟨ob,es,ep,h1,_⟩:=y7z1
  rw [←hL,n0] at h1; cases h1
 have kp:b9 (lvS env.locals S1 ρ1) s1.heap F1 (fun a=>lvS env.locals S1 ρ1 a∨a=it) h2 F1:=⟨st2.k.ff,st2.k.hh,st2.k.nf,fun a z=>by
  rcases z with z|z
  ·exact st2.k.nl a z
  ·exact .inr (by rw [z]; exact n0)⟩
 refine lC (S0:=S) (s0:=s) (F0:=F) (ρ0:=ρ) (P:=P) (tp:=false) Inv he hr (fun s F rem v Q E ia hq=>wpAny_pure hq) step fin (upI 0 m) hI (S:=S1) (F:=F1) (ρ:=ρ1) ⟨Nat.succ_pos _,st2.I⟩ (.rng it0 hsz rfl) out (st1.k.trans kp) st1.r ⟨st1.rs.g,st1.rs.o⟩ fun fl S' u s' F' ρ' p st r=>q fl S' u s' F' ρ' p st r
end
end MineS
set_option backward.match.sparseCases true
namespace MineS
open PySem PySem.W PySem.Calls PyProof.Rows
section
variable {prog:Program} {w:World} {K:Frag} {G:Gl} {c:Cx} {S:St} {A:Around} {s:Shared}
theorem yU {R:Result→Shared→Prop} {elt target iter:PySem.Expr} {scope:Scope} {pos:Pos} {it acc:Value} {env:Env} (I:Nat→Shared→Prop)
  (kD: ∀n s,I n s→wpAny (model prog w) A (pyNext it) (fun r s₁=>match r with
   |none=>R (.ok .next) s₁
   |some v=>wpAny (model prog w) A (letOwnedTupleGo target it v) (fun _ s₁'=>wpAny (model prog w) A (assign target env v) (fun _ s₂=>wpAny (model prog w) A (eval elt env) (fun x s₃=>
     wpAny (model prog w) A (PySem.call (.builtin "list.append") [acc,x]) (fun _ s₄=> ∃m,m<n∧I m s₄) (notedBy (model prog w) A env fun e s'=>R (.error e) s') s₃)
     (notedBy (model prog w) A env fun e s'=>R (.error e) s') s₂) (notedBy (model prog w) A env fun e s'=>R (.error e) s') s₁') (notedBy (model prog w) A env fun e s'=>R (.error e) s') s₁) (notedBy (model prog w) A env fun e s'=>R (.error e) s') s)
  (n:Nat) (h:I n s):codeAny (model prog w) A (.compLoop (.ListComp elt [⟨target,iter,[],0⟩] scope pos) 0 it acc env) R s:=by
 refine codeAny_loop rfl I (fun n s hI=> ?_) n h
 show wpAny _ _ ((compTurn (.ListComp elt [⟨target,iter,[],0⟩] scope pos) 0 it acc env).onRaise (fun x=>do noteFrame x env; theTreesLotGoes x)) _ _ s
 refine wpAny_noted ?_
 rw [compTurn_list1]
 refine wpAny_bind (wpAny_standAt (wpAny_bind (wpAny_mono (kD n s hI) (fun r s₁ h₁=> ?_) fun _ _ h'=>h')))
 cases r with
 |none=>exact wpAny_pure h₁
 |some v=>
  refine wpAny_bind (wpAny_mono h₁ (fun _ s₁' h₁'=> ?_) fun _ _ h'=>h')
  exact wpAny_bind (wpAny_mono h₁' (fun _ s₂ h₂=>wpAny_bind (wpAny_bind (wpAny_mono h₂ (fun x s₃ h₃=>wpAny_bind (wpAny_mono h₃
   (fun _ s₄ h₄=>wpAny_pure (wpAny_pure ⟨rfl,h₄⟩)) fun _ _ h'=>h')) fun _ _ h'=>h'))) fun _ _ h'=>h')
end
end MineS
namespace MineS
open PySem PySem.W PySem.Calls PyProof.Rows
section
variable {prog:Program} {w:World} {K:Frag} {G:Gl} {c:Cx} {S:St}
theorem DA {L L2 it:Addr} {S3 S':St} {h3 h4 h' h2:Heap} {F3 F':Fz} {ρ3 ρ':Rho} (I3:InS K L S3 h3 F3 ρ3) (g: ∀a o,h3.get? a=some o→h4.get? a=some o) (n:h3.get? L2=none) (o:it≠L)
  (k:b9 (fun a=>lvS L2 ⟨[],S3.σ⟩ ρ3 a∨a=it) h4 F3 (fun a=>lvS L2 S' ρ' a∨a=it) h' F') (I':InS K L2 S' h' F' ρ') (r:RLe ρ3 ρ') (e:Heap.SameBut L2 h' h2):
  InS K L ⟨S3.loc,S'.σ⟩ h2 F' ρ'∧b9 (fun a=>lvS L S3 ρ3 a∨a=it) h3 F3 (lvS L ⟨S3.loc,S'.σ⟩ ρ') h2 F':=by
 refine aA I3.ns fun vs y0z1 rv=> ?_; obtain ⟨ob,es,ep,ho,rest⟩:=y0z1
 have hLL:L≠L2:=by rintro rfl; rw [n] at ho; cases ho
 have outL: ¬(lvS L2 ⟨[],S3.σ⟩ ρ3 L∨L=it):=by
  rintro ((z|z)|z)
  ·exact hLL z
  ·exact I3.Lout z
  ·exact o z.symm
 have hL':h'.get? L=some ob:=k.hh L ob (g L ob ho) outL
 have hL2:h2.get? L=some ob:=by rw [e.2 L hLL]; exact hL'
 have step: ∀a o',h'.get? a=some o'→(bC S'.σ ρ' a∨F' a≠none)→h2.get? a=some o':=fun a o' q z=>by
  rw [e.2 a]; exact q
  rintro rfl
  rcases z with z|z
  ·exact I'.Lout z
  ·exact z I'.Loff
 refine ⟨⟨I'.H.heap step,?_,fun l=> ?_,vs,⟨ob,es,ep,hL2,rest⟩,rv.mono k.ff r⟩,⟨k.ff,fun a o' q z=> ?_,fun a o' q=> ?_,fun a l=> ?_⟩⟩
 ·cases q:F' L with
  |none=>rfl
  |some o'=>
   rcases k.nf L o' q with y|y|y
   ·exact absurd I3.Loff y
   ·exact absurd y outL
   ·rw [g L ob ho] at y; cases y
 ·rcases k.nl L (.inl (.inr l)) with y|y
  ·exact outL y
  ·rw [g L ob ho] at y; cases y
 ·have hne:a≠L2:=by rintro rfl; rw [n] at q; cases q
  rw [e.2 a hne]
  refine k.hh a o' (g a o' q) fun y=>z ?_
  rcases y with (y|y)|y
  ·exact absurd y hne
  ·exact .inl (.inr y)
  ·exact .inr y
 ·rcases k.nf a o' q with y|y|y
  ·exact .inl y
  ·rcases y with (y|y)|y
   ·exact .inr (.inr (by rw [y]; exact n))
   ·exact .inr (.inl (.inl (.inr y)))
   ·exact .inr (.inl (.inr y))
  ·cases hq:h3.get? a with
   |none=>exact .inr (.inr rfl)
   |some o2=>rw [g a o2 hq] at y; cases y
 ·rcases l with rfl|l
  ·exact .inl (.inl (.inl rfl))
  ·rcases k.nl a (.inl (.inr l)) with y|y
   ·rcases y with (y|y)|y
    ·exact .inr (by rw [y]; exact n)
    ·exact .inl (.inl (.inr y))
    ·exact .inl (.inr y)
   ·cases hq:h3.get? a with
    |none=>exact .inr rfl
    |some o2=>rw [g a o2 hq] at y; cases y
end
end MineS
namespace MineS
open PySem PySem.W PySem.Calls PyProof.Rows
section
variable {prog:Program} {w:World} {K:Frag} {G:Gl} {c:Cx} {S:St}
theorem cD.again {A:Around} {E:Value→Shared→Prop} {s:Shared} {F:Fz} {it:Addr} {b:Bool} {rem:List Fv} {Q:Value→Shared→Prop} (I:cD F s.heap it b rem) (q:Q (.ref it) s):wpAny (model prog w) A (pyIter (.ref it)) Q E s:=by
 cases I with
 |list a _ _ _ _=>exact wpAny_pyIter_listiter a q
 |tup a _ _=>exact wpAny_pyIter_tupleiter a q
 |str a _=>exact wpAny_pyIter_striter_ascii a q
 |rng a _ _=>exact wpAny_pyIter_rangeiter a q
noncomputable def jG (prog:Program) (w:World) (K:Frag) (Z:Env→Fz→Prop) (c:Cx) (e:PySem.Expr) (S:St) (P:V→St→Prop):Prop:=
 ∀(A:Around) (s:Shared) (F:Fz) (ρ:Rho) (env:Env),cj c env→Z env F→dP c.d A→InT K env.locals S s F ρ→ ∀(Q:Value→Shared→Prop) (E:Value→Shared→Prop),
  (∀v S' u s' F' ρ',P v S'→bH K env.locals S s F ρ S' s' F' ρ'→bg F' ρ' v u→Q u s')→wpAny (model prog w) A (eval e env) Q E s
theorem uA {A:Around} {s:Shared} {F:Fz} {it:Addr} {tp:Bool} {rem:List Fv} {target:PySem.Expr} {u:Value} {Q:Unit→Shared→Prop} {E:Value→Shared→Prop} (ht:tp=true∨lU target=true) (ia:cD F s.heap it tp rem) (hq:Q () s):wpAny (model prog w) A (letOwnedTupleGo target (.ref it) u) Q E s:=by
 rcases ht with rfl|ht
 ·cases ia with
  |list a _ _ _ _=>exact letGo_listiter a hq
  |tup a _ _=>exact letGo_tupleiter a hq
 ·cases target<;>first|exact wpAny_pure hq|exact Bool.noConfusion ht
theorem tP {Z:Env→Fz→Prop} (zm: ∀env F F',Z env F→FLe F F'→Z env F') {elt target iter:PySem.Expr} {scope:Scope} {pos:Pos} {tp:Bool} {nm:List (Str×NameKind)} {A:Around} {cenv:Env} {it accA d:Addr} {i n:Nat} (ht:tp=true∨lU target=true)
  (he:cj ⟨nm,c.e,c.k⟩ cenv) (hr:dP c.d A) (Inv:List Fv→List Fv→St→Prop) (hlen:n≤1000000)
  (step: ∀f rem done S,done.length+rem.length<n→Inv (f::rem) done S→ ∃S',Tgt ⟨nm,c.e,c.k⟩ target tp f S S'∧jG prog w K Z ⟨nm,c.e,c.k⟩ elt S' fun v S3=> ∃g,v= .f g∧S3.σ[i]? =some (.list done)∧Inv rem (done++[g]) ⟨S3.loc,S3.σ.set i (.list (done++[g]))⟩)
  {lv:Addr→Prop} {h4:Heap} {F2:Fz} {ρ3:Rho} {s2:Shared} (hz:Z cenv F2) (ha:ρ3[i]? =some (accA,d)) {R:Result→Shared→Prop}
  (hR: ∀done S' s' F' ρ',Inv [] done S'→InT K cenv.locals S' s' F' ρ'→b9 lv h4 F2 (fun a=>lvS cenv.locals S' ρ' a∨a=it) s'.heap F'→RLe ρ3 ρ'→Rst s2 s'→R (.ok .next) s')
  (rem done:List Fv) {s:Shared} {F:Fz} {ρ:Rho} (hn:done.length+rem.length=n) (hI:Inv rem done S) (I:InT K cenv.locals S s F ρ) (ia:cD F s.heap it tp rem) (o:Out cenv.locals it S F ρ) (k:b9 lv h4 F2 (fun a=>lvS cenv.locals S ρ a∨a=it) s.heap F) (rl:RLe ρ3 ρ) (rs:Rst s2 s):
  codeAny (model prog w) A (.compLoop (.ListComp elt [⟨target,iter,[],0⟩] scope pos) 0 (.ref it) (.ref accA) cenv) R s:=by
 refine yU (xq K it cenv.locals tp (fun rem S=> ∃done,done.length+rem.length=n∧Inv rem done S) lv h4 F2 ρ3 s2) (fun m s5 z=> ?_) rem.length (.mk ⟨done,hn,hI⟩ I ia o k rl rs)
 cases z with
 | @mk rem S5 F5 ρ5 _ hd I5 ia5 o5 k5 rl5 rs5=>
  obtain ⟨done,hlen5,hI5⟩:=hd
  cases rem with
  |nil=>
   refine ia5.stop hr.handled I5.H.fh fun h6 e=> ?_
   exact hR done S5 _ F5 ρ5 hI5 ⟨I5.t,I5.i.other o5 e⟩ (k5.trans (b9.at _ e)) rl5 ⟨rs5.g,rs5.o⟩
  |cons f rem=>
   obtain ⟨S6,T,Y⟩:=step f rem done S5 (by rw [←hlen5]; exact Nat.add_lt_add_left (Nat.lt_succ_self _) _) hI5
   refine ia5.next I5.H.fh (fun u h6 tk htk ru ia6 sb=> ?_) o5.f
   have e6:=sb.extBut
   have I6:InT K cenv.locals S5 ⟨h6,s5.gens,s5.drawn,tk,s5.os⟩ F5 ρ5:=⟨Nat.lt_of_lt_of_le I5.t htk,I5.i.other o5 e6⟩
   refine uA ht ia6 (T.run he hr.handled I6 ru fun s7 st7=> ?_)
   have ia7:=o5.keep st7 ia6
   have o7:=o5.step st7 ia6.alive
   refine Y A s7 F5 ρ5 cenv he (zm _ _ _ hz k5.ff) hr st7.I _ _ fun v S8 u8 s8 F8 ρ8 z8 st8 r8=>w8 z8 fun gv hv hσ hI8=> ?_
   subst hv
   have ia8:=o7.keep st8 ia7
   have o8:=o7.step st8 ia7.alive
   refine OpK.append (prog:=prog) (w:=w) (K:=K) (c:=c) (S:=S8) (P:=fun v T=>T=⟨S8.loc,S8.σ.set i (.list (done++[gv]))⟩) hσ (Nat.le_trans (hlen5▸Nat.le_add_right _ _) hlen) rfl A s8 F8 ρ8 cenv.locals [.ref accA,u8] hr st8.I (.cons (.r (st8.r _ _ (st7.r _ _ (rl5 _ _ ha)))) (.cons r8 .nil)) _ _ fun v9 S9 u9 s9 F9 ρ9 hS9 st9 r9=> ?_
   subst hS9
   have st:=(st7.trans st8).trans st9
   exact ⟨rem.length,Nat.lt_succ_self _,.mk ⟨done++[gv],by rw [←hlen5,List.length_append,List.length_cons,Nat.add_assoc]; exact congrArg (done.length+ ·) (Nat.add_comm _ _),hI8⟩ st9.I (o8.keep st9 ia8) (o8.step st9 ia8.alive) ((k5.trans (b9.at (F:=F5) _ e6)).trans (st.k.or it)) (rl5.trans st.r) ⟨st.rs.g.trans rs5.g,st.rs.o.trans rs5.o⟩⟩
theorem jG.comp {Z:Env→Fz→Prop} (zm: ∀env F F',Z env F→FLe F F'→Z env F') {elt target iter:PySem.Expr} {scope:Scope} {pos:Pos} {tp:Bool} {nm:List (Str×NameKind)} {P:V→St→Prop} (hs:iO iter=true) (ht:tp=true∨lU target=true)
  (hclos: ∀(env:Env) (F:Fz),Z env F→ ∃cl,closureFor scope env=pure cl∧ ∀(e2:Env) (F':Fz),e2.cells=cl→FLe F F'→Z e2 F') (hrel: ∀env:Env,cj c env→(relabel scope env).names=nm) (hcell: ∀x∈scope.names,x.2≠ .cell) (hkind:scope.kind= .function) (hnames: ∀x∈scope.names,x.2= .local→scope.names.lookup x.1=some .local)
  (X:af prog w K c iter S fun v S1=> ∃(items:List Fv) (S2:St) (Inv:List Fv→List Fv→St→Prop),fw tp S1 v=some (items,S2)∧Inv items [] ⟨[],S2.σ++[.list []]⟩∧
   (∀f rem done S,done.length+rem.length<items.length→Inv (f::rem) done S→ ∃S',Tgt ⟨nm,c.e,c.k⟩ target tp f S S'∧jG prog w K Z ⟨nm,c.e,c.k⟩ elt S' fun v S3=> ∃g,v= .f g∧S3.σ[S2.σ.length]? =some (.list done)∧Inv rem (done++[g]) ⟨S3.loc,S3.σ.set S2.σ.length (.list (done++[g]))⟩)∧
   (∀done S,Inv [] done S→P (.r S2.σ.length) ⟨S2.loc,S.σ⟩)∧items.length≤1000000):
  jG prog w K Z c (.ListComp elt [⟨target,iter,[],0⟩] scope pos) S P:=fun A s F ρ env he hZ hr hi Q E q=>by
 refine aA (hclos env F hZ) fun cl hcl hZ2=> ?_
 refine wpAny_with_toks (n:=1) hi.t ?_
 rw [eval_ListComp]
 refine wpAny_comprehension_free (use:=none) rfl (fun x=>by cases iter<;>first|rfl|exact Bool.noConfusion hs) hcl hkind hnames (X A s F ρ env he hr hi _ _ fun v S1 u s1 F1 ρ1 ⟨items,S2,Inv,e,hI,step,fin,hlen⟩ st1 r1=> ?_)
 refine pi st1.I r1 e fun it s2 F2 I2 ia o k rs=> ?_
 refine wpAny_newList ?_ (by rw [sizeLine_eq]; exact Nat.zero_le _)
 refine aA (I2.i.newList (l:=[]) (us:=[]) .nil) fun ρ3 st3 r3=> ?_
 refine cV r3.invR fun a3 d3 e3 ha=> ?_
 have ia3:cD F2 (s2.heap.push {cls:= .type "list",data:= .seq ([]:List Value).toArray}) it tp items:=ia.mono (.refl F2) fun ob q=>Heap.get?_push_of_some _ q
 have o3:Out env.locals it ⟨S2.loc,S2.σ++[.list []]⟩ F2 ρ3:=o.step (s':=⟨s2.heap.push {cls:= .type "list",data:= .seq ([]:List Value).toArray},s2.gens,s2.drawn,s2.toks,s2.os⟩) ⟨I2.t,st3,⟨rfl,rfl⟩⟩ ia.alive
 generalize s2.heap.push {cls:= .type "list",data:= .seq ([]:List Value).toArray}=h3 at*
 refine wpAny_newFunctionEnv hcell (fun x hx=>nomatch hx) (fun h4 hns hsb=> ?_) hkind
 change h4.Ns h3.objs.size _ at hns
 change Heap.SameBut h3.objs.size (h3.push _) h4 at hsb
 have n:=ci h3
 have g: ∀a ob,h3.get? a=some ob→h4.get? a=some ob:=fun a ob q=>by
  rw [hsb.2 a fun z=>by rw [z,n] at q; exact nomatch q]
  exact Heap.get?_push_of_some _ q
 have I4:InS K h3.objs.size ⟨[],S2.σ++[.list []]⟩ h4 F2 ρ3:=st3.I.H.enter g n (vs:=[]) (by
  refine gD hns fun ob es ep a1 a2 a3 a4=> ?_
  exact ⟨ob,es,ep,a1,a2,a3,fun name=>by rw [a4]; rfl⟩) .nil
 have hitL:it≠h3.objs.size:=fun z=>by
  obtain ⟨ob,hob⟩:=ia3.alive
  rw [z,n] at hob; exact nomatch hob
 have o4:Out h3.objs.size it ⟨[],S2.σ++[.list []]⟩ F2 ρ3:=⟨o3.l,o3.f,hitL⟩
 have ia4:cD F2 h4 it tp items:=ia3.mono (.refl F2) fun ob q=>g it ob q
 have loop:=fun (R:Result→Shared→Prop) hR=>tP (prog:=prog) (w:=w) (K:=K) zm (elt:=elt) (iter:=iter) (scope:=scope) (pos:=pos) (A:=A) (accA:=s2.heap.objs.size) (cenv:={scope:=relabel scope env,locals:=h3.objs.size,globals:=env.globals,cells:=cl,qual:=env.qual,func:=none,code:=env.code,frame:=env.frame,builtins:=env.builtins}) ht ⟨hkind,hrel env he,he.globals,he.builtins⟩ hr Inv hlen step
  (lv:=fun a=>lvS h3.objs.size ⟨[],S2.σ++[.list []]⟩ ρ3 a∨a=it) (h4:=h4) (F2:=F2) (ρ3:=ρ3) (s2:=s2) (hZ2 _ _ rfl (st1.k.ff.trans k.ff)) (Value.ref.inj e3▸ha) (R:=R) hR items [] (s:=⟨h4,s2.gens,s2.drawn,s2.toks,s2.os⟩) (Nat.zero_add _) hI ⟨I2.t,I4⟩ ia4 o4 (.refl _ _ _) (.refl _) ⟨rfl,rfl⟩
 have hR: ∀done S' s' F' ρ',Inv [] done S'→InT K h3.objs.size S' s' F' ρ'→b9 (fun a=>lvS h3.objs.size ⟨[],S2.σ++[.list []]⟩ ρ3 a∨a=it) h4 F2 (fun a=>lvS h3.objs.size S' ρ' a∨a=it) s'.heap F'→RLe ρ3 ρ'→Rst s2 s'→
   ∃m,s'.heap.Ns h3.objs.size m∧ ∀h',Heap.SameBut h3.objs.size s'.heap h'→(1≤s'.toks→Q (.ref s2.heap.objs.size) ⟨h',s'.gens,s'.drawn,s'.toks,s'.os⟩):=by
  intro done S' s' F' ρ' hI' I' k' rl' rs'
  refine aA I'.ns fun vs hn _=> ?_
  refine ⟨_,hn,fun h2 e ht=> ?_⟩
  obtain ⟨B1,B2⟩:=DA st3.I g n o3.n k' I'.i rl' e
  exact q _ _ _ ⟨h2,s'.gens,s'.drawn,s'.toks,s'.os⟩ F' ρ' (fin done S' hI') ⟨ht,⟨B1,((st1.k.trans k).trans (st3.k.or it)).trans B2,st1.r.trans (st3.r.trans rl')⟩,⟨((st1.rs.trans rs).trans rs').g,((st1.rs.trans rs).trans rs').o⟩⟩ (r3.mono k'.ff rl')
 exact codeAny_compStart_list (loop _ fun done S' s' F' ρ' a1 a2 a3 a4 a5=>hR done S' s' F' ρ' a1 a2 a3 a4 a5) (ia4.again (loop _ fun done S' s' F' ρ' a1 a2 a3 a4 a5=>hR done S' s' F' ρ' a1 a2 a3 a4 a5))
theorem tQ {scope:Scope} (h: ∀x∈scope.names,x.2≠ .free) (env:Env):(relabel scope env).names=scope.names:=by
 unfold relabel
 refine (List.map_congr_left (g:=id) fun x hx=> ?_).trans (List.map_id _)
 obtain ⟨n,k⟩:=x
 have:=h _ hx
 cases k<;>first|rfl|exact absurd rfl this
theorem af.comp {elt target iter:PySem.Expr} {scope:Scope} {pos:Pos} {tp:Bool} {P:V→St→Prop} (hs:iO iter=true) (ht:tp=true∨lU target=true)
  (hfree: ∀x∈scope.names,x.2≠ .free) (hcell: ∀x∈scope.names,x.2≠ .cell) (hkind:scope.kind= .function) (hnames: ∀x∈scope.names,x.2= .local→scope.names.lookup x.1=some .local)
  (X:af prog w K c iter S fun v S1=> ∃(items:List Fv) (S2:St) (Inv:List Fv→List Fv→St→Prop),fw tp S1 v=some (items,S2)∧Inv items [] ⟨[],S2.σ++[.list []]⟩∧
   (∀f rem done S,done.length+rem.length<items.length→Inv (f::rem) done S→ ∃S',Tgt ⟨scope.names,c.e,c.k⟩ target tp f S S'∧af prog w K ⟨scope.names,c.e,c.k⟩ elt S' fun v S3=> ∃g,v= .f g∧S3.σ[S2.σ.length]? =some (.list done)∧Inv rem (done++[g]) ⟨S3.loc,S3.σ.set S2.σ.length (.list (done++[g]))⟩)∧
   (∀done S,Inv [] done S→P (.r S2.σ.length) ⟨S2.loc,S.σ⟩)∧items.length≤1000000):
  af prog w K c (.ListComp elt [⟨target,iter,[],0⟩] scope pos) S P:=fun A s F ρ env he hr hi Q E q=>
 jG.comp (Z:=fun _ _=>True) (nm:=scope.names) (fun _ _ _ h _=>h) hs ht (fun env F _=>⟨[],closureFor_none hfree,fun _ _ _ _=>trivial⟩) (fun env _=>tQ hfree env) hcell hkind hnames
  (X.mono fun v S1 ⟨items,S2,Inv,a1,a2,a3,a4⟩=>⟨items,S2,Inv,a1,a2,fun f rem done S b1 b2=>let ⟨S',c1,c2⟩:=a3 f rem done S b1 b2; ⟨S',c1,fun A s F ρ env he _ hr hi Q E q=>c2 A s F ρ env he hr hi Q E q⟩,a4⟩)
  A s F ρ env he trivial hr hi Q E q
end
end MineS
set_option backward.match.sparseCases false
namespace MineS
open PySem PySem.W PySem.Calls PyProof.Rows
section
variable {prog:Program} {w:World} {K:Frag} {G:Gl} {c:Cx} {S:St}
noncomputable def dW (prog:Program) (w:World) (K:Frag) (d:Nat) (f:Value) (args:List V) (σ:List MO) (P:V→List MO→Prop):Prop:=
 ∀(A:Around) (s:Shared) (F:Fz) (ρ:Rho) (vals:List Value),dP d A→0<s.toks→InH K σ s.heap F ρ→bc F ρ args vals→ ∀R:Result→Shared→Prop,
  (∀v σ' u s' F' ρ',P v σ'→Stp K σ s.heap F ρ σ' s'.heap F' ρ'→bg F' ρ' v u→Rst s s'→R (.ok (.ret u)) s')→codeAny (model prog w) A (.call f ⟨vals,[]⟩) R s
theorem aU.le {d e:Nat} {f:Value} {args:List V} {σ σ':List MO} {v:V} (h:aU prog w K d f args σ v σ') (l:d≤e):aU prog w K e f args σ v σ':=
 fun A s F ρ vals hr ht hi ra R q=>h A s F ρ vals (hr.le l) ht hi ra R q
theorem Stp.leave0 {S:St} {σ:List MO} {h h' h1:Heap} {F F':Fz} {ρ ρ':Rho} {L:Addr} (I:InH K σ h F ρ) (g: ∀a o,h.get? a=some o→h1.get? a=some o) (n:h.get? L=none) {loc:List (Str×V)} (x:dO K L ⟨loc,σ⟩ h1 F ρ S h' F' ρ'):Stp K σ h F ρ S.σ h' F' ρ':=by
 refine ⟨x.I.H,⟨x.k.ff,fun a o q z=> ?_,fun a o q=> ?_,fun a l=> ?_⟩,x.r⟩
 ·refine x.k.hh a o (g a o q) fun l=> ?_
  rcases l with rfl|l
  ·rw [n] at q; cases q
  ·exact z l
 ·rcases x.k.nf a o q with y|y|y
  ·exact .inl y
  ·rcases y with rfl|y
   ·exact .inr (.inr n)
   ·exact .inr (.inl y)
  ·cases w:h.get? a with
   |none=>exact .inr (.inr rfl)
   |some o'=>rw [g a o' w] at y; cases y
 ·rcases x.k.nl a (.inr l) with y|y
  ·rcases y with rfl|y
   ·exact .inr n
   ·exact .inl y
  ·cases w:h.get? a with
   |none=>exact .inr rfl
   |some o'=>rw [g a o' w] at y; cases y
theorem dW.fn {a:Addr} {ps:List Str} {dfl:List Fv} {body:List Stmt} {names:List (Str×NameKind)} (f:Fn K a ps dfl body names) {e k:Nat} {args:List V} {σ:List MO} {P:V→List MO→Prop} (hn:args.length+dfl.length=ps.length)
  (X:aP prog w K ⟨names,e,k⟩ body ⟨bO ps (args++dfl.map V.f),σ⟩ fun fl S'=>P (flV fl) S'.σ):dW prog w K (e+k+1) (.ref a) args σ P:=by
 intro A s F ρ vals hr ht hi ra R q
 have kin:=hi.kin
 have le:=ra.length
 have ld:f.dv.length=dfl.length:=(f.dr F hi.kle).length
 have rall:bc F ρ (args++dfl.map V.f) (vals++f.dv):=ra.app (f.dr F hi.kle).toV
 refine codeAny_call_def (fd:=f.fd) (body:=body) (binds:=bO ps (vals++f.dv)) (by have:=hr.depth; omega) (hi.fh _ _ (hi.kf _ _ f.at_)) f.data (f.lim _ kin) (f.code _ kin) f.body_ (f.bind s vals kin (by simp [le,ld]; omega)) (by rw [f.names_]; exact f.cell) (fun x hx=>by rw [f.names_]; exact f.loc _ (iz _ _ _ hx)) (fun h₀ hns keep=> ?_) f.co f.gen f.kind
 have n0:s.heap.get? s.heap.objs.size=none:=ci _
 have hns':h₀.Ns s.heap.objs.size (fun x=>look x (bO ps (vals++f.dv))):=by
  refine gD hns fun o es ep a1 a2 a3 a4=> ?_
  exact ⟨o,es,ep,a1,a2,a3,fun name=>by rw [a4]; show List.lookup name _=look name _; rw [←dZ,lB _ _ _ f.nod]⟩
 have I:InS K s.heap.objs.size ⟨bO ps (args++dfl.map V.f),σ⟩ h₀ F ρ:=hi.enter keep n0 hns' rall.zip
 refine X (A.deeper (callEnv f.fd s.heap.objs.size a)) ⟨h₀,s.gens,s.drawn,s.toks+(bO ps (vals++f.dv)).length,s.os⟩ F ρ (callEnv f.fd s.heap.objs.size a) ⟨f.kind,f.names_,f.glob,f.bui⟩ ⟨by have:=hr.depth; simp only [Around.deeper,Cx.d]; omega,by have:=hr.units; simp only [Around.deeper,Cx.d]; omega,hr.handled⟩ ⟨by show 0<s.toks+_; omega,I⟩ _ _ fun fl S' u s' F' ρ' p st rf=> ?_
 refine q _ _ _ s' F' ρ' p (Stp.leave0 hi keep n0 st.x) ?_ ⟨st.rs.g,st.rs.o⟩
 cases rf with
 |next=>exact .f .none
 |ret r=>exact r
theorem Cls.openP {C ini:Addr} (k:Cls K C ini) {d:Nat} {args:List V} {σ:List MO} {P:List MO→Prop} (x:dW prog w K d (.ref ini) (.r σ.length::args) (σ++[.inst C []]) fun v τ=>v= .f .none∧P τ)
  {A:Around} {s:Shared} {F:Fz} {ρ:Rho} {vals:List Value} (hr:dP (d+2) A) (ht:0<s.toks) (hi:InH K σ s.heap F ρ) (ra:bc F ρ args vals) {R:Result→Shared→Prop}
  (q: ∀σ' s' F' ρ',P σ'→Stp K σ s.heap F ρ σ' s'.heap F' ρ'→ρ'[σ.length]? =some (s.heap.objs.size+1,s.heap.objs.size)→Rst s s'→R (.ok (.ret (.ref (s.heap.objs.size+1)))) s'):codeAny (model prog w) A (.call (.ref C) ⟨vals,[]⟩) R s:=by
 obtain ⟨h,g,dr,t,os⟩:=s
 have kin:K.In h:=hi.kin
 refine make_core (makes_of kin k.makes) (looks_findIn kin k.init) (fun self=>bind_fn kin self k.fn) (.inl rfl) ?_
 have n0:=ci h
 have e0:(h.push emptyDict).objs.size=h.objs.size+1:=by cases h; simp [Heap.push]
 have n1:h.get? (h.objs.size+1)=none:=by
  cases q:h.get? (h.objs.size+1) with
  |none=>rfl
  |some o=>exact absurd (Heap.lt_size q) (Nat.not_lt.mpr (Nat.le_succ _))
 have a0:((h.push emptyDict).push (instObj C h.objs.size)).get? h.objs.size=some emptyDict:=Heap.get?_push_of_some _ (dU h _ rfl)
 have a1:((h.push emptyDict).push (instObj C h.objs.size)).get? (h.objs.size+1)=some (instObj C h.objs.size):=by
  have:=dU (h.push emptyDict) (instObj C h.objs.size) rfl
  rwa [e0] at this
 have st:=Stp.slot (m:= .inst C []) (p:=(h.objs.size+1,h.objs.size)) (h':=(h.push emptyDict).push (instObj C h.objs.size)) hi (fun a ha=>by
   simp [bd] at ha; rcases ha with rfl|rfl
   ·exact n1
   ·exact n0) (.inst (vs:=[]) a1 ⟨_,#[],0,a0,rfl,by simp [StrKeys],by simp [UniqKeys],fun _=>rfl⟩ .nil) fun a o e=>Heap.get?_push_of_some _ (Heap.get?_push_of_some _ e)
 have hp:(ρ++[(h.objs.size+1,h.objs.size)])[σ.length]? =some (h.objs.size+1,h.objs.size):=by rw [←hi.len]; simp
 refine x _ ⟨(h.push emptyDict).push (instObj C h.objs.size),g,dr,t,os⟩ F _ (.ref (h.objs.size+1)::vals) (hr.cls C vals) ht st.I (.cons (.r hp) (ra.mono (.refl _) (.app _ _))) _ fun v τ u s' F' ρ' ⟨hv,hP⟩ st2 r2 rs=> ?_
 subst hv
 have hu:u= .none:=by cases r2 with|f r2=>cases r2; rfl
 subst hu
 exact ⟨rfl,q τ s' F' ρ' hP (st.trans st2) (st2.r _ _ hp) ⟨rs.g,rs.o⟩⟩
theorem dW.new {C ini:Addr} (k:Cls K C ini) {d:Nat} {args:List V} {σ:List MO} {P:V→List MO→Prop} (x:dW prog w K d (.ref ini) (.r σ.length::args) (σ++[.inst C []]) fun v τ=>v= .f .none∧P (.r σ.length) τ):dW prog w K (d+2) (.ref C) args σ P:=
 fun A s F ρ vals hr ht hi ra R q=>k.openP (P:=fun τ=>P (.r σ.length) τ) x hr ht hi ra fun σ' s' F' ρ' p st e rs=>q _ σ' _ s' F' ρ' p st (.r e) rs
noncomputable def xr (C:Addr) (i:Nat) (σ:List MO):Option (Fv×List MO):=match σ[i]? with
 |some (.inst D fs)=>match Nat.beq C D with
  |true=>match lO σ fs with
   |some (gs,σ2)=>match σ2[i]? with
    |some (.inst D2 _)=>match Nat.beq C D2 with
     |true=>match fF i (σ2.take i) with
      |true=>some (.obj C gs,σ2.take i)
      |false=>none
     |false=>none
    |_=>none
   |none=>none
  |false=>none
 |_=>none
theorem dW.node {C ini:Addr} (k:Cls K C ini) {d:Nat} {args:List V} {σ:List MO} {P:V→List MO→Prop} (x:dW prog w K d (.ref ini) (.r σ.length::args) (σ++[.inst C []]) fun v τ=>v= .f .none∧ ∃f σ',xr C σ.length τ=some (f,σ')∧P (.f f) σ'):dW prog w K (d+2) (.ref C) args σ P:=
 fun A s F ρ vals hr htk hi ra R q=>k.openP (P:=fun τ=> ∃f σ',xr C σ.length τ=some (f,σ')∧P (.f f) σ') x hr htk hi ra fun τ s' F' ρ' p st e rs=>by
  refine cV p fun f σ' hs hP=> ?_
  unfold xr at hs
  split at hs<;>first|cases hs; done|skip
  rename_i D fs e1
  split at hs<;>first|cases hs; done|skip
  rename_i eD
  have eD:=Nat.eq_of_beq_eq_true eD
  split at hs<;>first|cases hs; done|skip
  rename_i gs σ2 ht
  split at hs<;>first|cases hs; done|skip
  rename_i D2 fs2 e2
  split at hs<;>first|cases hs; done|skip
  rename_i eD2
  have eD2:=Nat.eq_of_beq_eq_true eD2
  split at hs<;>first|cases hs; done|skip
  rename_i ok
  cases hs
  subst eD; subst eD2
  have R1:=st.I.ob _ _ _ e1 e
  generalize hx:s.heap.objs.size+1=ax at*
  cases R1 with
  |inst h1 h2 h3=>
   refine aA (j0 _ _ st.I h3 ht) fun F1 s1 r1=> ?_
   refine aA (Stp.freezeInst2 s1.I e2 e h1 h2 r1) fun F2 s2 r2=> ?_
   have hi2:=(List.getElem?_eq_some_iff.mp e2).1
   have e3:σ2.set σ.length .dead=σ2.take σ.length++(σ2.set σ.length .dead).drop σ.length:=by
    have:=(List.take_append_drop σ.length (σ2.set σ.length .dead)).symm
    rw [List.take_set_of_le (Nat.le_refl _)] at this
    exact this
   have lt:(σ2.take σ.length).length=σ.length:=by rw [List.length_take]; omega
   rw [e3] at s2
   have s3:=((st.trans s1).trans s2).cut hi.len (by rw [lt]; exact ok) (by omega)
   exact q _ _ _ s' F2 _ hP s3 (.f r2) rs
theorem OpK.runsP {d:Nat} {f:Value} {args:List V} {P:V→St→Prop} (x:dW prog w K d f args S.σ fun v σ'=>P v ⟨S.loc,σ'⟩):OpK prog w K (fun vs=>call f vs) d args S P:=fun A s F ρ L vals hr hi ra Q E q=>by
 refine wpAny_with_toks (n:=1) hi.t ?_
 exact wpAny_call (x A s F ρ vals hr hi.t hi.H ra _ fun v σ' u s' F' ρ' p st r rs ht=>q v _ u s' F' ρ' p (hi.on ht (hi.i.stp st) rs) r)
noncomputable def cb (prog:Program) (w:World) (K:Frag) (v:Fv) (x:Str) (f:Addr):Prop:=
 ∀(S:St) (A:Around) (s:Shared) (F:Fz) (ρ:Rho) (L:Addr) (u:Value),InT K L S s F ρ→bg F ρ (.f v) u→ ∀(pl:Sem Bool) (Q:Value×List Value→Shared→Prop) (E:Value→Shared→Prop),Q (.ref f,[u]) s→wpAny (model prog w) A (getMethod u x pl) Q E s
theorem cb.of (g:GOK prog w K G) {v:Fv} {x:Str} {C f:Nat} (hc: ∀S,kZ S (.f v) x=some C) (hm:fG G C x=some f):cb prog w K v x f∧keepIn K (.ref f)=true:=by
 obtain ⟨l,hl⟩: ∃l,bx C G.mth=some l:=by
  unfold fG at hm; split at hm
  ·exact ⟨_,by assumption⟩
  ·cases hm
 obtain ⟨k1,k2⟩:=g.gm C l hl
 refine Gy (g.mth C x f hm) fun j1 j2 j3=> ?_
 refine ⟨fun S A s F ρ L u I r pl Q E q=> ?_,j3⟩
 refine dN (lN I.i r (hc S)) fun a dx od y5e1 I1 sh=> ?_; subst y5e1
 exact method_fn I.H.kin I1 k1 k2 j1 j2 sh q
end
end MineS
namespace MineS
noncomputable section
open PySem PySem.W PySem.Calls PyProof.Rows
inductive Ob where
 |v (a:V)
 |vs (l:List V)
 |fv (a:Fv)
 |fvs (l:List Fv)
 |st (a:St)
 |mo (l:List MO)
 |fl (a:Fl)
 |n (a:Nat)
 |i (a:Int)
 |b (a:Bool)
 |p (a:Prop)
 |cs (l:List Nat)
 |by (l:Array UInt8)
 |cx (a:Cx)
 |ex (a:PySem.Expr)
 |sm (a:Stmt)
 |s (a:Str)
theorem obV {a b:V} (h:Ob.v a= .v b):a=b:=by injection h
theorem tm {a b:List Fv} (h:Ob.fvs a= .fvs b):a=b:=by injection h
theorem obS {a b:Str} (h:Ob.s a= .s b):a=b:=by injection h
theorem GN {a b:List Nat} (h:Ob.cs a= .cs b):a=b:=by injection h
theorem GO {a b:Cx} (h:Ob.cx a= .cx b):a=b:=by injection h
theorem OL {a b:PySem.Expr} (h:Ob.ex a= .ex b):a=b:=by injection h
theorem GP {a b:St} (h:Ob.st a= .st b):a=b:=by injection h
theorem OM {a b:Stmt} (h:Ob.sm a= .sm b):a=b:=by injection h
theorem ON {a b:Fv} (h:Ob.fv a= .fv b):a=b:=by injection h
theorem obB {a b:Bool} (h:Ob.b a= .b b):a=b:=by injection h
theorem obP {a b:Prop} (h:Ob.p a= .p b):a=b:=by injection h
theorem obN {a b:Nat} (h:Ob.n a= .n b):a=b:=by injection h
theorem obI {a b:Int} (h:Ob.i a= .i b):a=b:=by injection h
theorem PZ {a b:List MO} (h:Ob.mo a= .mo b):a=b:=by injection h
theorem P0 {a b:List V} (h:Ob.vs a= .vs b):a=b:=by injection h
structure Rq where
 l:List Ob
 r:List Ob
structure Ct (Q:Prop) where
 l:List Ob
 r:List Ob
 ok:l=r→Q
noncomputable def Ct.rq {Q:Prop} (x:Ct Q):Rq:=⟨x.l,x.r⟩
inductive Evt (prog:Program) (w:World) (K:Frag) where
 |val {a b:Fv} (t:Nat) (h:a=b)
 |br {a b:Bool} (t:Nat) (h:a=b)
 |prop {p:Prop} (h:p)
 |at {l:List Fv} {n:Nat} {f:Fv} (t:Nat) (h:nth l n=some f) (hn:n<2 ^ 63)
 |chr {l:List Nat} {n x:Nat} (t:Nat) (h:nth l n=some x) (hn:n<2 ^ 63)
 |num {cs:List Nat} {n:Int} (h:PySem.intText? (mk cs)=some n) (hl:cs.length≤640)
 |hex {b:Array UInt8} {cs:List Nat} (h:tj b cs)
 |fhex {cs:List Nat} {b:Array UInt8} (h:jF cs b)
 |teq {x y:List Fv} {u:Bool} (h:dk (feq 100) x y=some u)
 |mcall {d:Nat} {f:Addr} {x:Str} {v:Fv} {args:List V} {σ σ':List MO} {r:V} (hm:cb prog w K v x f∧keepIn K (.ref f)=true) (h:aU prog w K d (.ref f) (.f v::args) σ r σ')
 |call {d:Nat} {f:Value} {args:List V} {σ σ':List MO} {v:V} (h:aU prog w K d f args σ v σ')
 |callE {d:Nat} {f:Value} {args:List V} {σ σ':List MO} {v:V} (h:aU prog w K d f args σ v σ')
 |loop {c:Cx} {s:Stmt} {S S':St} {fl:Fl} (t:Nat) (h:aV prog w K c s S fun f T=>f=fl∧T=S')
 |ev {c:Cx} {e:PySem.Expr} {S S':St} {v:V} (t:Nat) (h:af prog w K c e S fun u T=>u=v∧T=S')
section
variable {prog:Program} {w:World} {K:Frag}
noncomputable def hit (t t':Nat):Bool:=match t' with
 |0=>true
 |_=>Nat.beq t t'
noncomputable def Pk {α:Type} (k:α→St→List (Evt prog w K)→Rq):α→St→Prop:=fun a T=> ∃os,(k a T os).l=(k a T os).r
noncomputable def jH (t:Nat):Rq:=⟨[.n t],[]⟩
theorem eE {t:Nat} {p:Prop} (h:(jH t).l=(jH t).r):p:=by cases h
noncomputable def ai (t:Nat) {Q:Prop}:Ct Q:=⟨[.n t],[],fun h=>by cases h⟩
noncomputable def iE (t:Nat) (v:Bool) (x y:Rq):Rq:=Bool.rec (motive:=fun _=>Nat→Rq) (fun _=>y) (fun _=>x) v t
noncomputable def bo {α:Type} (t:Nat) (o:Option α) (f:α→Rq):Rq:=Option.rec (motive:=fun _=>Nat→Rq) (fun _=>jH t) (fun a _=>f a) o t
theorem aT {α:Type} {t:Nat} {o:Option α} {f:α→Rq} (h:(bo t o f).l=(bo t o f).r): ∃a,o=some a∧(f a).l=(f a).r:=by
 cases o with
 |none=>exact eE h
 |some a=>exact ⟨a,rfl,h⟩
theorem oo {t:Nat} {v:Bool} {x y:Rq} (h:(iE t v x y).l=(iE t v x y).r):v=true∧x.l=x.r∨v=false∧y.l=y.r:=by
 cases v with
 |true=>exact .inl ⟨rfl,h⟩
 |false=>exact .inr ⟨rfl,h⟩
noncomputable def grd (t:Nat) (v:Bool) (x:Rq):Rq:=iE t v x (jH t)
theorem dl {t:Nat} {v:Bool} {x:Rq} (h:(grd t v x).l=(grd t v x).r):v=true∧x.l=x.r:=by
 cases v with
 |true=>exact ⟨rfl,h⟩
 |false=>exact eE h
noncomputable def vFv:V→Option Fv
 | .f x=>some x
 | .r _=>none
noncomputable def vR:V→Option Nat
 | .f _=>none
 | .r i=>some i
theorem g6 {v:V} {x:Fv} (h:vFv v=some x):v= .f x:=by
 cases v with
 |f y=>exact congrArg V.f (Option.some.inj h)
 |r i=>exact noS h
theorem CP {v:V} {x:Nat} (h:vR v=some x):v= .r x:=by
 cases v with
 |f y=>exact noS h
 |r i=>exact congrArg V.r (Option.some.inj h)
noncomputable def GQ:Fv→Option (List Nat)
 | .str x=>some x
 |_=>none
noncomputable def GR:Fv→Option Int
 | .int x=>some x
 |_=>none
noncomputable def CQ:Fv→Option Bool
 | .bool x=>some x
 |_=>none
noncomputable def fTup:Fv→Option (List Fv)
 | .tup x=>some x
 |_=>none
noncomputable def fNo:Fv→Option Unit
 | .none=>some ()
 |_=>none
noncomputable def AZ:Int→Option Nat
 | .ofNat n=>some n
 | .negSucc _=>none
noncomputable def CR:List Fv→Option (Fv×Fv)
 |[x,y]=>some (x,y)
 |_=>none
noncomputable def xt (v:V):Option (List Nat):=(vFv v).bind GQ
noncomputable def A0 (v:V):Option Int:=(vFv v).bind GR
noncomputable def gP (v:V):Option Bool:=(vFv v).bind CQ
noncomputable def A1 (v:V):Option (List Fv):=(vFv v).bind fTup
noncomputable def vNo (v:V):Option Unit:=(vFv v).bind fNo
noncomputable def oq (v:V):Option Nat:=(A0 v).bind AZ
noncomputable def xu (v:V):Option (Fv×Fv):=(A1 v).bind CR
theorem fR {α β:Type} {o:Option α} {f:α→Option β} {b:β} (h:o.bind f=some b): ∃a,o=some a∧f a=some b:=by
 cases o with
 |none=>exact noS h
 |some a=>exact ⟨a,rfl,h⟩
theorem DB {v:Fv} {x:List Nat} (h:GQ v=some x):v= .str x:=by
 cases v<;>first|exact noS h|exact congrArg _ (Option.some.inj h)
theorem DC {v:Fv} {x:Int} (h:GR v=some x):v= .int x:=by
 cases v<;>first|exact noS h|exact congrArg _ (Option.some.inj h)
theorem A2 {v:Fv} {x:Bool} (h:CQ v=some x):v= .bool x:=by
 cases v<;>first|exact noS h|exact congrArg _ (Option.some.inj h)
theorem DD {v:Fv} {x:List Fv} (h:fTup v=some x):v= .tup x:=by
 cases v<;>first|exact noS h|exact congrArg _ (Option.some.inj h)
theorem GS {v:Fv} {x:Unit} (h:fNo v=some x):v= .none:=by
 cases v<;>first|exact noS h|rfl
theorem vc {v:Int} {x:Nat} (h:AZ v=some x):v=Int.ofNat x:=by
 cases v with
 |ofNat n=>exact congrArg _ (Option.some.inj h)
 |negSucc n=>exact noS h
theorem A3 {l:List Fv} {q:Fv×Fv} (h:CR l=some q):l=[q.1,q.2]:=by
 match l,h with
 |[x,y],h=>rw [←Option.some.inj h]
theorem ot {v:V} {x:List Nat} (h:xt v=some x):v= .f (.str x):=aA (fR h) fun _ e h=>(g6 e).trans (congrArg _ (DB h))
theorem vd {v:V} {x:Int} (h:A0 v=some x):v= .f (.int x):=aA (fR h) fun _ e h=>(g6 e).trans (congrArg _ (DC h))
theorem g7 {v:V} {x:Bool} (h:gP v=some x):v= .f (.bool x):=aA (fR h) fun _ e h=>(g6 e).trans (congrArg _ (A2 h))
theorem vf {v:V} {x:List Fv} (h:A1 v=some x):v= .f (.tup x):=aA (fR h) fun _ e h=>(g6 e).trans (congrArg _ (DD h))
theorem yV {v:V} {x:Unit} (h:vNo v=some x):v= .f .none:=aA (fR h) fun _ e h=>(g6 e).trans (congrArg _ (GS h))
theorem iP {v:V} {x:Nat} (h:oq v=some x):v= .f (.int (Int.ofNat x)):=aA (fR h) fun _ e h=>(vd e).trans (congrArg (fun i=>V.f (.int i)) (vc h))
theorem tR {v:V} {q:Fv×Fv} (h:xu v=some q):v= .f (.tup [q.1,q.2]):=aA (fR h) fun _ e h=>(vf e).trans (congrArg (fun l=>V.f (.tup l)) (A3 h))
noncomputable def moL:Option MO→Option (List Fv)
 |some (.list l)=>some l
 |_=>none
noncomputable def moI:Option MO→Option (Addr×List (Str×V))
 |some (.inst C fs)=>some (C,fs)
 |_=>none
theorem yW {o:Option MO} {l:List Fv} (h:moL o=some l):o=some (.list l):=by
 cases o with
 |none=>exact noS h
 |some m=>cases m<;>first|exact noS h|exact congrArg (fun l=>some (MO.list l)) (Option.some.inj h)
theorem GT {o:Option MO} {q:Addr×List (Str×V)} (h:moI o=some q):o=some (.inst q.1 q.2):=by
 cases o with
 |none=>exact noS h
 |some m=>cases m<;>first|exact noS h|(rw [←Option.some.inj h])
noncomputable def norm (t:Nat) (v:Fv) (os:List (Evt prog w K)) (k:V→List (Evt prog w K)→Rq):Rq:=match os with
 | @Evt.val _ _ _ a b t' _::os'=>match hit t t' with
  |true=>⟨.fv a::(k (.f b) os').l,.fv v::(k (.f b) os').r⟩
  |false=>k (.f v) os
 |_=>k (.f v) os
theorem nj {t t':Nat} {x y:Rq} {p:Prop} (h:(match hit t t' with|true=>x|false=>y).l=(match hit t t' with|true=>x|false=>y).r) (h1:x.l=x.r→p) (h2:y.l=y.r→p):p:=by
 generalize hit t t'=b at h
 cases b with
 |true=>exact h1 h
 |false=>exact h2 h
theorem bz {t:Nat} {v:Fv} {os:List (Evt prog w K)} {k:V→List (Evt prog w K)→Rq} (h:(norm t v os k).l=(norm t v os k).r): ∃os',(k (.f v) os').l=(k (.f v) os').r:=by
 cases os with
 |nil=>exact ⟨_,h⟩
 |cons o os=>
  cases o with
  |val t' e=>exact nj h (fun h=>⟨os,by rw [←ON (List.cons.inj h).1,e]; exact (List.cons.inj h).2⟩) fun h=>⟨_,h⟩
  |_=>exact ⟨_,h⟩
noncomputable def brk (t:Nat) (v:Bool) (os:List (Evt prog w K)) (k:Bool→List (Evt prog w K)→Rq):Rq:=match os with
 | @Evt.br _ _ _ a b t' _::os'=>match hit t t' with
  |true=>⟨.b a::(k b os').l,.b v::(k b os').r⟩
  |false=>iE t v (k true os) (k false os)
 |_=>iE t v (k true os) (k false os)
theorem tS {t:Nat} {v:Bool} {k:Bool→List (Evt prog w K)→Rq} {os:List (Evt prog w K)} (h:(iE t v (k true os) (k false os)).l=(iE t v (k true os) (k false os)).r): ∃os',(k v os').l=(k v os').r:=by
 cases v<;>exact ⟨os,h⟩
theorem nk {t:Nat} {v:Bool} {os:List (Evt prog w K)} {k:Bool→List (Evt prog w K)→Rq} (h:(brk t v os k).l=(brk t v os k).r): ∃os',(k v os').l=(k v os').r:=by
 cases os with
 |nil=>exact tS h
 |cons o os=>
  cases o with
  |br t' e=>exact nj h (fun h=>⟨os,by rw [←obB (List.cons.inj h).1,e]; exact (List.cons.inj h).2⟩) fun h=>tS h
  |_=>exact tS h
noncomputable def chk (t:Nat) (v:Bool) (os:List (Evt prog w K)) (k:List (Evt prog w K)→Rq):Rq:=brk t v os fun b os=>match b with
 |true=>k os
 |false=>jH t
theorem dX {t:Nat} {v:Bool} {os:List (Evt prog w K)} {k:List (Evt prog w K)→Rq} (h:(chk t v os k).l=(chk t v os k).r):v=true∧ ∃os',(k os').l=(k os').r:=by
 obtain ⟨os',h⟩:=nk h
 cases v
 ·exact eE h
 ·exact ⟨rfl,os',h⟩
noncomputable def prp (t:Nat) (q:Prop) (os:List (Evt prog w K)) (k:List (Evt prog w K)→Rq):Rq:=match os with
 | @Evt.prop _ _ _ p _::os'=>⟨.p p::(k os').l,.p q::(k os').r⟩
 |_=>jH t
theorem GU {t:Nat} {q:Prop} {os:List (Evt prog w K)} {k:List (Evt prog w K)→Rq} (h:(prp t q os k).l=(prp t q os k).r):q∧ ∃os',(k os').l=(k os').r:=by
 cases os with
 |nil=>exact eE h
 |cons o os=>
  cases o with
  |prop e=>exact ⟨obP (List.cons.inj h).1▸e,os,(List.cons.inj h).2⟩
  |_=>exact eE h
noncomputable def xv (t:Nat) (l:List Fv) (n:Nat) (os:List (Evt prog w K)) (k:V→List (Evt prog w K)→Rq):Rq:=grd t (Nat.ble n 1000000) (bo t (nth l n) fun f=>k (.f f) os)
theorem GV {n:Nat} (h:Nat.ble n 1000000=true):n<2 ^ 63:=Nat.lt_of_le_of_lt (Nat.le_of_ble_eq_true h) (by decide)
theorem ou {t:Nat} {l:List Fv} {n:Nat} {os:List (Evt prog w K)} {k:V→List (Evt prog w K)→Rq} (h:(xv t l n os k).l=(xv t l n os k).r):n<2 ^ 63∧ ∃f,nth l n=some f∧ ∃os',(k (.f f) os').l=(k (.f f) os').r:=
 bG (dl h) fun hb h=>aA (aT h) fun f e h=>⟨GV hb,f,e,os,h⟩
noncomputable def atL (t:Nat) (l:List Fv) (n:Nat) (os:List (Evt prog w K)) (k:V→List (Evt prog w K)→Rq):Rq:=match os with
 | @Evt.at _ _ _ l' n' f t' _ _::os'=>match hit t t' with
  |true=>⟨.fvs l':: .n n'::(k (.f f) os').l,.fvs l:: .n n::(k (.f f) os').r⟩
  |false=>xv t l n os k
 |_=>xv t l n os k
theorem yX {t:Nat} {l:List Fv} {n:Nat} {os:List (Evt prog w K)} {k:V→List (Evt prog w K)→Rq} (h:(atL t l n os k).l=(atL t l n os k).r):n<2 ^ 63∧ ∃f,nth l n=some f∧ ∃os',(k (.f f) os').l=(k (.f f) os').r:=by
 cases os with
 |nil=>exact ou h
 |cons o os=>
  cases o with
  | @«at» l' n' f t' e en=>exact nj h (fun h=>by
    rw [←tm (List.cons.inj h).1,←obN (List.cons.inj (List.cons.inj h).2).1]
    exact ⟨en,f,e,os,(List.cons.inj (List.cons.inj h).2).2⟩) fun h=>ou h
  |_=>exact ou h
noncomputable def teq (t:Nat) (x y:List Fv) (os:List (Evt prog w K)) (k:Bool→List (Evt prog w K)→Rq):Rq:=match os with
 | @Evt.teq _ _ _ x' y' u _::os'=>⟨.fvs x':: .fvs y'::(k u os').l,.fvs x:: .fvs y::(k u os').r⟩
 |_=>bo t (dk (feq 100) x y) fun u=>k u os
theorem vg {t:Nat} {x y:List Fv} {os:List (Evt prog w K)} {k:Bool→List (Evt prog w K)→Rq} (h:(bo t (dk (feq 100) x y) fun u=>k u os).l=(bo t (dk (feq 100) x y) fun u=>k u os).r): ∃u,dk (feq 100) x y=some u∧ ∃os',(k u os').l=(k u os').r:=aA (aT h) fun u e h=>⟨u,e,os,h⟩
theorem yY {t:Nat} {x y:List Fv} {os:List (Evt prog w K)} {k:Bool→List (Evt prog w K)→Rq} (h:(teq t x y os k).l=(teq t x y os k).r): ∃u,dk (feq 100) x y=some u∧ ∃os',(k u os').l=(k u os').r:=by
 cases os with
 |nil=>exact vg h
 |cons o os=>
  cases o with
  | @teq x' y' u e=>
   rw [←tm (List.cons.inj h).1,←tm (List.cons.inj (List.cons.inj h).2).1]
   exact ⟨u,e,os,(List.cons.inj (List.cons.inj h).2).2⟩
  |_=>exact vg h
noncomputable def A4 (t:Nat) (l:List Nat) (i:Int) (os:List (Evt prog w K)) (k:V→List (Evt prog w K)→Rq):Rq:=bo t (AZ i) fun n=>grd t (Nat.ble n 1000000) (bo t (nth l n) fun f=>k (.f (.str [f])) os)
noncomputable def atS (t:Nat) (l:List Nat) (i:Int) (os:List (Evt prog w K)) (k:V→List (Evt prog w K)→Rq):Rq:=match os with
 | @Evt.chr _ _ _ l' n' x t' _ _::os'=>match hit t t' with
  |true=>⟨.cs l':: .i (Int.ofNat n')::(k (.f (.str [x])) os').l,.cs l:: .i i::(k (.f (.str [x])) os').r⟩
  |false=>jH t
 |_=>A4 t l i os k
theorem vh {t:Nat} {l:List Nat} {i:Int} {os:List (Evt prog w K)} {k:V→List (Evt prog w K)→Rq} (h:(A4 t l i os k).l=(A4 t l i os k).r): ∃n x,i=Int.ofNat n∧n<2 ^ 63∧nth l n=some x∧ ∃os',(k (.f (.str [x])) os').l=(k (.f (.str [x])) os').r:=
 aA (aT h) fun n e h=>bG (dl h) fun hb h=>aA (aT h) fun f e2 h=>⟨n,f,vc e,GV hb,e2,os,h⟩
theorem GW {t:Nat} {l:List Nat} {i:Int} {os:List (Evt prog w K)} {k:V→List (Evt prog w K)→Rq} (h:(atS t l i os k).l=(atS t l i os k).r): ∃n x,i=Int.ofNat n∧n<2 ^ 63∧nth l n=some x∧ ∃os',(k (.f (.str [x])) os').l=(k (.f (.str [x])) os').r:=by
 cases os with
 |nil=>exact vh h
 |cons o os=>
  cases o with
  | @chr l' n' x t' e en=>exact nj h (fun h=>by
    rw [←GN (List.cons.inj h).1]
    exact ⟨n',x,(obI (List.cons.inj (List.cons.inj h).2).1).symm,en,e,os,(List.cons.inj (List.cons.inj h).2).2⟩) fun h=>eE h
  |_=>exact vh h
end
end
end MineS
set_option backward.match.sparseCases true
namespace MineS
noncomputable section
open PySem PySem.W PySem.Calls PyProof.Rows
section
variable {prog:Program} {w:World} {K:Frag} {G:Gl}
noncomputable abbrev Os (prog:Program) (w:World) (K:Frag):=List (Evt prog w K)
noncomputable abbrev KV (prog:Program) (w:World) (K:Frag):=V→St→List (Evt prog w K)→Rq
noncomputable def xw (prog:Program) (w:World) (K:Frag) (op:Operator) (a b:V) (d:Nat) (S:St) (P:V→St→Prop):Prop:=OpK prog w K (oB (binaryOp op)) d [a,b] S P
noncomputable def xx (prog:Program) (w:World) (K:Frag) (op:CmpOp) (a b:V) (d:Nat) (S:St) (P:V→St→Prop):Prop:=OpK prog w K (oB (compareOp op)) d [a,b] S P
noncomputable def A5 (prog:Program) (w:World) (op:Operator) (a b f:Fv):Prop:= ∀{A:Around} {s:Shared} {u v:Value} {F:Fz} {Q:Value→Shared→Prop} {E:Value→Shared→Prop},aG F a u→aG F b v→(∀u tk,0<tk→aG F f u→Q u ⟨s.heap,s.gens,s.drawn,tk,s.os⟩)→0<s.toks→wpAny (model prog w) A (binaryOp op u v) Q E s
theorem xw.leaf {op:Operator} {a b f:Fv} {d:Nat} {S:St} {P:V→St→Prop} (X:A5 prog w op a b f) (p:P (.f f) S):xw prog w K op (.f a) (.f b) d S P:=by
 intro A s F ρ L vals hr hi ra Q E q
 refine bw ra.inv2 fun u v y0e1 r1 r2=> ?_; subst y0e1
 exact X r1.inv r2.inv (fun u tk ht r=>q _ S u ⟨s.heap,s.gens,s.drawn,tk,s.os⟩ F ρ p (hi.to ht) (.f r)) hi.t
theorem tT {M:Model} {A:Around} {E:Value→Shared→Prop} {s:Shared} {t:Sem Value} {Q:Value→Shared→Prop} (ht:0<s.toks) (h:wpAny M A t (fun v s'=>1≤s'.toks→Q v s') E s):wpAny M A t Q E s:=wpAny_with_toks (n:=1) ht (wpAny_mono h (fun _ _ x=>x) fun _ _ x _=>x)
theorem ow {op:Operator} {x y z:Int} (h: ∀{A:Around} {s:Shared} {t1 t2:Tok} {Q:Value→Shared→Prop} {E:Value→Shared→Prop},(∀{t tk},Q (.int z t) ⟨s.heap,s.gens,s.drawn,tk,s.os⟩)→wpAny (model prog w) A (binaryOp op (.int x t1) (.int y t2)) Q E s):A5 prog w op (.int x) (.int y) (.int z):=by
 intro A s u v F Q E r1 r2 q ht
 refine bI r1.invInt fun t1 e=> ?_; subst e
 refine bI r2.invInt fun t2 e=> ?_; subst e
 exact tT ht (h fun ht=>q _ _ ht (.int _ _))
theorem OQ {a b:List Nat} (hp:Nat.ble (a++b).length 16777216=true):A5 prog w .Add (.str a) (.str b) (.str (a++b)):=by
 intro A s u v F Q E r1 r2 q ht
 refine bI r1.invStr fun t1 e=> ?_; subst e
 refine bI r2.invStr fun t2 e=> ?_; subst e
 refine tT ht (PyProof.Rows.add_str (fun t' tk=> ?_) ?_)
 ·have e:(⟨a.toArray⟩++⟨b.toArray⟩:Str)=⟨(a++b).toArray⟩:=by
   show (⟨a.toArray++b.toArray⟩:Str)=_
   rw [List.append_toArray]
  rw [e]
  exact fun ht=>q _ _ ht (.str _ _)
 ·have hp:=Nat.ble_eq.mp hp
  rw [List.length_append] at hp
  rw [sizeLine_eq]; exact hp
theorem iF {t:Nat} {p:Prop} {z:Fv} {os:Os prog w K} {S:St} {k:KV prog w K} (h:(prp t p os fun os=>norm t z os fun v os=>k v S os).l=(prp t p os fun os=>norm t z os fun v os=>k v S os).r):p∧Pk k (.f z) S:=
 bG (GU h) fun hp y=>bI y fun os' h=>⟨hp,bz h⟩
noncomputable def opB (t:Nat) (op:Operator) (a b:V) (d:Nat) (S:St) (os:Os prog w K) (k:KV prog w K):Ct (xw prog w K op a b d S (Pk k)):=match op,a,b with
 | .Add,.f (.int a),.f (.int b)=>let r:=norm t (.int (a+b)) os fun v os=>k v S os
  ⟨r.l,r.r,fun h=> .leaf (ow fun q=>PySem.P.add_int q) (bz h)⟩
 | .Sub,.f (.int a),.f (.int b)=>let r:=norm t (.int (a-b)) os fun v os=>k v S os
  ⟨r.l,r.r,fun h=> .leaf (ow fun q=>PySem.P.sub_int q) (bz h)⟩
 | .Mult,.f (.int a),.f (.int b)=>let r:=prp t (Builtin.Int.intBits a≤64∨Builtin.Int.intBits b≤64) os fun os=>norm t (.int (a*b)) os fun v os=>k v S os
  ⟨r.l,r.r,fun h=> .leaf (ow fun q=>PyProof.Rows.mul_int q ((iF h).1.elim IntMulOk.of_left IntMulOk.of_right)) (iF h).2⟩
 | .FloorDiv,.f (.int a),.f (.int b)=>let r:=prp t (b≠0∧b.natAbs<2 ^ 100) os fun os=>norm t (.int (a.fdiv b)) os fun v os=>k v S os
  ⟨r.l,r.r,fun h=> .leaf (ow fun q=>floordiv_int (iF h).1.1 q (.inl (yE (iF h).1.2))) (iF h).2⟩
 | .Mod,.f (.int a),.f (.int b)=>let r:=prp t (b≠0) os fun os=>norm t (.int (a.fmod b)) os fun v os=>k v S os
  ⟨r.l,r.r,fun h=> .leaf (ow fun q=>mod_int' (iF h).1 q) (iF h).2⟩
 | .Pow,.f (.int a),.f (.int b)=>let r:=prp t (0≤b∧(Builtin.Int.intBits a:Int)*b≤2 ^ 27) os fun os=>norm t (.int (a ^ b.toNat)) os fun v os=>k v S os
  ⟨r.l,r.r,fun h=> .leaf (ow fun q=>pow_int (iF h).1.1 (iF h).1.2 q) (iF h).2⟩
 | .Add,.f (.str a),.f (.str b)=>let r:=chk t (Nat.ble (a++b).length 16777216) os fun os=>norm t (.str (a++b)) os fun v os=>k v S os
  ⟨r.l,r.r,fun h=>bG (dX h) fun hp y=>bI y fun os' h=> .leaf (OQ hp) (bz h)⟩
 | .Add,.r i,.r j=>match h1:S.σ[i]? with
  |some (.list l)=>match h2:S.σ[j]? with
   |some (.list l')=>match hz:Nat.ble (l.length+l'.length) 1000 with
    |true=>let r:=k (.r S.σ.length) ⟨S.loc,S.σ++[.list (l++l')]⟩ os
     ⟨r.l,r.r,fun h=>OpK.cat (c:=⟨[],d,0⟩) h1 h2 hz ⟨_,h⟩⟩
    |false=>ai t
   |_=>ai t
  |_=>ai t
 |_,_,_=>ai t
noncomputable def kc (prog:Program) (w:World) (op:CmpOp) (a b:Fv) (t:Bool):Prop:= ∀{A:Around} {s:Shared} {u v:Value} {F:Fz} {Q:Value→Shared→Prop} {E:Value→Shared→Prop},(∀a o,F a=some o→s.heap.get? a=some o)→aG F a u→aG F b v→(∀b,b=t→Q (.bool b) s)→wpAny (model prog w) A (compareOp op u v) Q E s
theorem xx.leaf {op:CmpOp} {a b:Fv} {d:Nat} {S:St} {P:V→St→Prop} {t:Bool} (X:kc prog w op a b t) (p:P (.f (.bool t)) S):xx prog w K op (.f a) (.f b) d S P:=by
 intro A s F ρ L vals hr hi ra Q E q
 refine bw ra.inv2 fun u v y6e1 r1 r2=> ?_; subst y6e1
 exact X hi.H.fh r1.inv r2.inv fun b hb=>by subst hb; exact q _ S _ _ F ρ p (.refl hi) (.f (.bool _))
noncomputable abbrev GX (prog:Program) (w:World) (op:CmpOp) (u v:Value) (t:Bool):Prop:= ∀{A:Around} {s:Shared} {Q:Value→Shared→Prop} {E:Value→Shared→Prop},(∀b,b=t→Q (.bool b) s)→wpAny (model prog w) A (compareOp op u v) Q E s
theorem ox {op:CmpOp} {x y:Int} {t:Bool} (h: ∀{t1 t2},GX prog w op (.int x t1) (.int y t2) t):kc prog w op (.int x) (.int y) t:=by
 intro A s u v F Q E fh r1 r2 q
 refine bI r1.invInt fun t1 e=> ?_; subst e
 refine bI r2.invInt fun t2 e=> ?_; subst e
 exact h q
theorem tU {op:CmpOp} {x y:List Nat} {t:Bool} (h: ∀{t1 t2},GX prog w op (.str ⟨x.toArray⟩ t1) (.str ⟨y.toArray⟩ t2) t):kc prog w op (.str x) (.str y) t:=by
 intro A s u v F Q E fh r1 r2 q
 refine bI r1.invStr fun t1 e=> ?_; subst e
 refine bI r2.invStr fun t2 e=> ?_; subst e
 exact h q
noncomputable def isN (a:Fv):Option Bool:=match a with
 | .none=>some true
 | .str _=>some false
 | .int _=>some false
 | .bytes _=>some false
 | .tup _=>some false
 | .obj _ _=>some false
 |_=>none
theorem yZ {a:Fv} {t:Bool} {F:Fz} {u:Value} (h:isN a=some t) (r:aG F a u):(u==Value.none)=t:=by
 cases a with
 |none=>cases h; rw [r.invNone]; rfl
 |str=>cases h; refine bI r.invStr fun _ e=> ?_; subst e; rfl
 |int=>cases h; refine bI r.invInt fun _ e=> ?_; subst e; rfl
 |bytes=>cases h; refine bI r.invBytes fun _ e=> ?_; subst e; rfl
 |tup=>cases h; refine dN r.invTup fun _ _ _ e _ _=> ?_; subst e; rfl
 |obj=>cases h; refine dN r.invObj fun _ _ _ e _ _=> ?_; subst e; rfl
 |_=>exact noS h
theorem cIs {a:Fv} {t:Bool} (h:isN a=some t):kc prog w .Is a .none t:=by
 intro A s u v F Q E fh r1 r2 q
 rw [r2.invNone]
 exact is_none (q _ (yZ h r1))
theorem GY {a:Fv} {t:Bool} (h:isN a=some t):kc prog w .IsNot a .none (!t):=by
 intro A s u v F Q E fh r1 r2 q
 rw [r2.invNone]
 exact isNot_none (q _ (by rw [←yZ h r1]))
theorem cIn {x:List Nat} {l:List Fv} {ys:List (List Nat)} (ht:cX l=some ys):kc prog w .In (.str x) (.tup l) (ck x ys):=by
 intro A s u v F Q E fh r1 r2 q
 refine bI r1.invStr fun t1 e=> ?_; subst e
 refine dN r2.invTup fun a xs n e h1 r3=> ?_; subst e
 exact in_tuple_strs ⟨_,fh _ _ h1,rfl,_,rfl⟩ (j8 r3 ht) (q _ (jE _ _).symm)
theorem GZ {x:List Nat} {l:List Fv} {ys:List (List Nat)} (ht:cX l=some ys):kc prog w .NotIn (.str x) (.tup l) (!ck x ys):=by
 intro A s u v F Q E fh r1 r2 q
 refine bI r1.invStr fun t1 e=> ?_; subst e
 refine dN r2.invTup fun a xs n e h1 r3=> ?_; subst e
 exact notin_tuple_strs ⟨_,fh _ _ h1,rfl,_,rfl⟩ (j8 r3 ht) (q _ (congrArg Bool.not (jE _ _).symm))
noncomputable def OR (op:CmpOp) (a b:Fv):Option {t:Bool // kc prog w op a b t}:=match op,a,b with
 | .Eq,.int a,.int b=>some ⟨ieq a b,ox fun q=>PySem.P.eq_int (q _ (oa _ _).symm)⟩
 | .NotEq,.int a,.int b=>some ⟨!ieq a b,ox fun q=>PySem.P.ne_int (q _ (by rw [oa]; rfl))⟩
 | .Lt,.int a,.int b=>some ⟨ilt a b,ox fun q=>PySem.P.lt_int (q _ rfl)⟩
 | .LtE,.int a,.int b=>some ⟨ile a b,ox fun q=>PySem.P.le_int (q _ rfl)⟩
 | .Gt,.int a,.int b=>some ⟨ilt b a,ox fun q=>PySem.P.gt_int (q _ rfl)⟩
 | .GtE,.int a,.int b=>some ⟨ile b a,ox fun q=>PySem.P.ge_int (q _ rfl)⟩
 | .Eq,.str a,.str b=>some ⟨az a b,tU fun q=>PySem.P.eq_str (q _ (lP _ _).symm)⟩
 | .NotEq,.str a,.str b=>some ⟨!az a b,tU fun q=>PySem.P.ne_str (q _ (by rw [lP]; rfl))⟩
 | .LtE,.str a,.str b=>some ⟨!llt b a,tU fun q=>PySem.P.le_str (q _ (by rw [uY]))⟩
 | .Is,a,.none=>match h:isN a with
  |some t=>some ⟨t,cIs h⟩
  |none=>none
 | .IsNot,a,.none=>match h:isN a with
  |some t=>some ⟨!t,GY h⟩
  |none=>none
 | .In,a,.str l=>match a with
  | .str [x]=>some ⟨has x l,tU fun q=>PySem.P.in_str (q _ (by rw [k6]; exact StrLaws.found_one _ _))⟩
  |_=>none
 | .NotIn,a,.str l=>match a with
  | .str [x]=>some ⟨!has x l,tU fun q=>PySem.P.notIn_str (q _ (by rw [k6]; exact congrArg Bool.not (StrLaws.found_one _ _)))⟩
  |_=>none
 | .In,a,.tup l=>match a with
  | .str x=>match ht:cX l with
   |some ys=>some ⟨ck x ys,cIn ht⟩
   |none=>none
  |_=>none
 | .NotIn,a,.tup l=>match a with
  | .str x=>match ht:cX l with
   |some ys=>some ⟨!ck x ys,GZ ht⟩
   |none=>none
  |_=>none
 |_,_,_=>none
noncomputable def opC (g:GOK prog w K G) (t:Nat) (op:CmpOp) (a b:V) (d:Nat) (S:St) (os:Os prog w K) (k:KV prog w K):Ct (xx prog w K op a b d S (Pk k)):=match op,a,b with
 | .In,.f (.str x),.f (.glob D)=>match hd:bx D G.dcs with
  |some kv=>let r:=norm t (.bool (tL (lkN x kv))) os fun v os=>k v S os
   ⟨r.l,r.r,fun h=>OpK.inDict (c:=⟨[],d,0⟩) g hd (bz h)⟩
  |none=>ai t
 | .NotIn,.f (.str x),.f (.glob D)=>match hd:bx D G.dcs with
  |some kv=>let r:=norm t (.bool (!tL (lkN x kv))) os fun v os=>k v S os
   ⟨r.l,r.r,fun h=>OpK.notInDict (c:=⟨[],d,0⟩) g hd (bz h)⟩
  |none=>ai t
 | .Eq,.f (.tup x),.f (.tup y)=>let r:=teq t x y os fun u os=>k (.f (.bool u)) S os
  ⟨r.l,r.r,fun h=>by refine aA (yY h) fun u he h=> ?_; exact OpK.eqD (c:=⟨[],d,0⟩) he h⟩
 | .NotEq,.f (.tup x),.f (.tup y)=>let r:=teq t x y os fun u os=>k (.f (.bool (!u))) S os
  ⟨r.l,r.r,fun h=>by refine aA (yY h) fun u he h=> ?_; exact OpK.neD (c:=⟨[],d,0⟩) he h⟩
 | .In,.f (.str x),.r j=>match h2:S.σ[j]? with
  |some (.list l)=>match ht:cX l with
   |some ys=>let r:=norm t (.bool (ck x ys)) os fun v os=>k v S os
    ⟨r.l,r.r,fun h=>OpK.inList (c:=⟨[],d,0⟩) h2 ht (bz h)⟩
   |none=>ai t
  |_=>ai t
 | .Eq,.r i,.r j=>match h1:S.σ[i]? with
  |some (.list l)=>match h2:S.σ[j]? with
   |some (.list l')=>match hz:Nat.beq l.length l'.length with
    |false=>let r:=k (.f (.bool false)) S os
     ⟨r.l,r.r,fun h=>OpK.eqLen (c:=⟨[],d,0⟩) h1 h2 hz ⟨_,h⟩⟩
    |true=>ai t
   |_=>ai t
  |_=>ai t
 |op,.f a,.f b=>match OR (prog:=prog) (w:=w) op a b with
  |some ⟨u,hu⟩=>let r:=norm t (.bool u) os fun v os=>k v S os
   ⟨r.l,r.r,fun h=> .leaf hu (bz h)⟩
  |none=>ai t
 |_,_,_=>ai t
end
end
end MineS
set_option backward.match.sparseCases false
namespace MineS
noncomputable section
open PySem PySem.W PySem.Calls PyProof.Rows
section
variable {prog:Program} {w:World} {K:Frag} {G:Gl}
noncomputable def gi (prog:Program) (w:World) (K:Frag) (S:St) (v i:V) (f:Fv):Prop:=
 ∀(A:Around) (s:Shared) (F:Fz) (ρ:Rho) (L:Addr) (u ui:Value) (value slice:PySem.Expr),g5 slice=true→InT K L S s F ρ→bg F ρ v u→bg F ρ i ui→ ∀(Q:Value→Shared→Prop) (E:Value→Shared→Prop),
  (∀u tk,0<tk→aG F f u→Q u ⟨s.heap,s.gens,s.drawn,tk,s.os⟩)→wpAny (model prog w) A (subscriptTail value slice u ui) Q E s
theorem gi.list {S:St} {v:V} {l:List Fv} {k:Nat} {f:Fv} (hv:v= .f (.list l)∨ ∃j,v= .r j∧S.σ[j]? =some (.list l)) (hk:nth l k=some f) (h2:k<2 ^ 63):gi prog w K S v (.f (.int (Int.ofNat k))) f:=by
 intro A s F ρ L u ui value slice hn I r1 r2 Q E q
 have key: ∃a xs,u= .ref a∧s.heap.IsList a (xs:List Value).toArray∧aJ F l xs:=by
  rcases hv with rfl|⟨j,rfl,hσ⟩
  ·exact I.H.fList r1.inv
  ·refine cV r1.invR fun a d y0e1 hp=> ?_; subst y0e1
   refine aA (I.H.invList hσ hp) fun xs L1 a4=> ?_
   exact ⟨a,xs,rfl,L1,a4⟩
 refine bw key fun a xs y2e1 L1 a4=> ?_; subst y2e1
 obtain ⟨t,rfl⟩:=r2.inv.invInt
 refine aA (a4.nth hk) fun u' b1 b2=> ?_
 exact k7 hn L1.typeIs slot_list_getitem.lookup (wpAny_getItem_list L1 (by simp) (by show (k:Int)<_; omega) (by simpa using b1) (q _ s.toks I.t b2))
theorem gi.tup {S:St} {l:List Fv} {i:Int} {k:Nat} {f:Fv} (hki:tI i l.length=some k) (hk:nth l k=some f) (h2: -(2 ^ 63)≤i∧i<2 ^ 63):gi prog w K S (.f (.tup l)) (.f (.int i)) f:=by
 intro A s F ρ L u ui value slice hn I r1 r2 Q E q
 refine bw (I.H.fTup r1.inv) fun a xs y4e1 L1 a4=> ?_; subst y4e1
 obtain ⟨t,rfl⟩:=r2.inv.invInt
 refine aA (a4.nth hk) fun u' b1 b2=> ?_
 rw [uZ] at hki
 exact k7 hn L1.typeIs slot_tuple_getitem.lookup (getItem_tuple L1 h2.1 h2.2 (by rw [List.size_toArray,a4.length]; exact hki) (by simpa using b1) (q _ s.toks I.t b2))
theorem gi.str {S:St} {cs:List Nat} {k x:Nat} (hx:nth cs k=some x) (h2:k<2 ^ 63):gi prog w K S (.f (.str cs)) (.f (.int (Int.ofNat k))) (.str [x]):=by
 intro A s F ρ L u ui value slice hn I r1 r2 Q E q
 obtain ⟨t,rfl⟩:=r1.inv.invStr
 obtain ⟨t2,rfl⟩:=r2.inv.invInt
 rw [em] at hx
 have hlt:=(List.getElem?_eq_some_iff.mp hx).1
 refine k7 hn (typeIs_str s _ _) slot_str_getitem.lookup (PySem.P.getItem_str (c:=x) (by simp; omega) ?_ (q _ _ (Nat.succ_pos _) (.str [x] _)))
 show ((seqIndex? (Int.ofNat k) cs.toArray.size).bind fun x_1=>cs.toArray[x_1]?)=some x
 rw [List.size_toArray,←uZ]
 unfold tI
 simp only [Nat.blt_eq.mpr hlt]
 simpa using hx
theorem gi.dict (g:GOK prog w K G) {S:St} {a:Addr} {k:List Nat} {kv:List (List Nat×Fv)} {f:Fv} (hkv:bx a G.dcs=some kv) (hk:lkN k kv=some f):gi prog w K S (.f (.glob a)) (.f (.str k)) f:=by
 intro A s F ρ L u ui value slice hn I r1 r2 Q E q
 obtain rfl:=r1.inv.invGlob
 obtain ⟨t,rfl⟩:=r2.inv.invStr
 obtain ⟨g1,g2⟩:=g.dcs a kv hkv
 refine bG (g2 s.heap I.H.kin) fun lo y6w0=> ?_; refine aA y6w0 fun vs hd hp=> ?_
 refine aA (oc hk) fun pp m1 m2=> ?_
 have fl:eh f=true:=m2▸g1 pp m1
 refine cV (hp.valueAt_of_lookup PyProof.V.same_str (k:=⟨k.toArray⟩) (by rw [fH,hk]; rfl)) fun v as hv hr'=> ?_
 exact k7 hn hd.typeIs slot_dict_getitem.lookup (wpAny_getItem_of (strKind_is prog w _ t) hd.mapOf hv (q _ _ (Nat.succ_pos _) (lQ fl hr')))
theorem af.idx2 {c:Cx} {S:St} {e j:PySem.Expr} {pos:Pos} {P:V→St→Prop} (hn:g5 j=true)
  (X:af prog w K c e S fun v S1=>af prog w K c j S1 fun i S2=> ∃f,gi prog w K S2 v i f∧P (.f f) S2):af prog w K c (.Subscript e j pos) S P:=fun A s F ρ env he hr hi Q E q=>by
 refine Subscript_ (X A s F ρ env he hr hi _ _ fun v S1 u s1 F1 ρ1 y st1 r1=>y A s1 F1 ρ1 env he hr st1.I _ _ fun i S2 ui s2 F2 ρ2 ⟨f,h1,h3⟩ st2 r2=> ?_)
 exact h1 A s2 F2 ρ2 env.locals u ui e j hn st2.I (r1.mono st2.k.ff st2.r) r2 Q E fun u tk ht r=>q _ S2 u _ F2 ρ2 h3 ((st1.trans st2).to ht) (.f r)
noncomputable def G0 (g:GOK prog w K G) (t:Nat) (v i:V) (S:St) (os:Os prog w K) (k:KV prog w K):Ct (∃f,gi prog w K S v i f∧Pk k (.f f) S):=match v with
 | .f (.list l)=>match i with
  | .f (.int (.ofNat n))=>let r:=atL t l n os fun v os=>k v S os
   ⟨r.l,r.r,fun h=>by refine bG (yX h) fun h1 y9w0=> ?_; refine aA y9w0 fun f h2 h3=> ?_; exact ⟨f,.list (.inl rfl) h2 h1,h3⟩⟩
  |_=>ai t
 | .r j=>match hσ:S.σ[j]? with
  |some (.list l)=>match i with
   | .f (.int (.ofNat n))=>let r:=atL t l n os fun v os=>k v S os
    ⟨r.l,r.r,fun h=>by refine bG (yX h) fun h1 y10w0=> ?_; refine aA y10w0 fun f h2 h3=> ?_; exact ⟨f,.list (.inr ⟨j,rfl,hσ⟩) h2 h1,h3⟩⟩
   |_=>ai t
  |_=>ai t
 | .f (.tup l)=>match i with
  | .f (.int i)=>match hi:tI i l.length with
   |some n=>match hf:nth l n with
    |some f=>match hb:Nat.ble i.natAbs 1000 with
     |true=>let r:=k (.f f) S os
      ⟨r.l,r.r,fun h=>⟨f,.tup hi hf (by have:=Nat.ble_eq.mp hb; omega),os,h⟩⟩
     |false=>ai t
    |none=>ai t
   |none=>ai t
  |_=>ai t
 | .f (.str cs)=>match i with
  | .f (.int i)=>let r:=atS t cs i os fun v os=>k v S os
   ⟨r.l,r.r,fun h=>by refine OF (GW h) fun n x y11e1 h1 h2 h3=> ?_; subst y11e1; exact ⟨_,.str h2 h1,h3⟩⟩
  |_=>ai t
 | .f (.glob a)=>match i with
  | .f (.str x)=>match hd:bx a G.dcs with
   |some kv=>match hf:lkN x kv with
    |some f=>let r:=k (.f f) S os
     ⟨r.l,r.r,fun h=>⟨f,.dict g hd hf,os,h⟩⟩
    |none=>ai t
   |none=>ai t
  |_=>ai t
 |_=>ai t
inductive BtP (u:Unit):Type where
 |len|ord|max|min|isin|upper|lower|asc|lstrip|find|join|split|append|hex|get
noncomputable abbrev Bt:=BtP ()
noncomputable def Bt.id:Bt→String
 | .len=>"len"| .ord=>"ord"| .max=>"max"| .min=>"min"| .isin=>"isinstance"| .upper=>"str.upper"| .lower=>"str.lower"| .asc=>"str.isascii"| .lstrip=>"str.lstrip"
 | .find=>"str.find"| .join=>"str.join"| .split=>"str.split"| .append=>"list.append"| .hex=>"bytes.hex"| .get=>"dict.get"
noncomputable def et (prog:Program) (w:World) (K:Frag) (f:Value) (args:List V) (d:Nat) (S:St) (P:V→St→Prop):Prop:=OpK prog w K (fun vs=>PySem.call f vs) d args S P
noncomputable def lV (G:Gl) (D:Nat) (c:Bool) (f:List Nat→Bool):Fv:=Bool.rec .none (Option.rec .none (fun l=> .bool (f l)) (bx D G.sup)) (cC D G.own && c)
theorem DE {D:Nat} {c b:Bool} {f:List Nat→Bool} (h:lV G D c f= .bool b):cC D G.own=true∧c=true∧ ∃l,bx D G.sup=some l∧f l=b:=by
 unfold lV at h
 cases h1:cC D G.own with
 |false=>rw [h1] at h; cases h
 |true=>cases c with
  |false=>rw [h1] at h; cases h
  |true=>
   rw [h1] at h
   cases h2:bx D G.sup with
   |none=>rw [h2] at h; cases h
   |some l=>rw [h2] at h; cases h; exact ⟨rfl,rfl,l,rfl,rfl⟩
theorem y0 {t D:Nat} {c:Bool} {f:List Nat→Bool} {os:Os prog w K} {S:St} {k:KV prog w K} {p:Prop} (h:(norm t (lV G D c f) os fun v os=>bo t (gP v) fun b=>k (.f (.bool b)) S os).l=(norm t (lV G D c f) os fun v os=>bo t (gP v) fun b=>k (.f (.bool b)) S os).r) (q: ∀{l},cC D G.own=true→c=true→bx D G.sup=some l→Pk k (.f (.bool (f l))) S→p):p:=by
 refine bI (bz h) fun os' h=> ?_
 refine aA (aT h) fun b e h=> ?_
 obtain ⟨h1,h2,l,h3,rfl⟩:=DE (Option.some.inj (congrArg vFv (g7 e)))
 exact q h1 h2 h3 ⟨_,h⟩
noncomputable def tn (g:GOK prog w K G) (t:Nat) (id:Bt) (args:List V) (d:Nat) (S:St) (os:Os prog w K) (k:KV prog w K):Ct (et prog w K (.builtin id.id) args d S (Pk k)):=match id with
 | .len=>match args with
  |[v]=>match hl:xh S v with
   |some n=>let r:=chk t (Nat.blt n (2 ^ 63)) os fun os=>norm t (.int (Int.ofNat n)) os fun v os=>k v S os
    ⟨r.l,r.r,fun h=>by refine bG (dX h) fun h1 y12w0=> ?_; refine bI y12w0 fun os' h=> ?_; exact OpK.len (c:=⟨[],d,0⟩) hl (Nat.blt_eq.mp h1) (bz h)⟩
   |none=>ai t
  |_=>ai t
 | .ord=>match args with
  |[.f (.str [x])]=>let r:=norm t (.int (Int.ofNat x)) os fun v os=>k v S os
   ⟨r.l,r.r,fun h=>OpK.ord (c:=⟨[],d,0⟩) (bz h)⟩
  |_=>ai t
 | .max=>match args with
  |[.f (.int a),.f (.int b)]=>let r:=norm t (.int (if b>a then b else a)) os fun v os=>k v S os
   ⟨r.l,r.r,fun h=>OpK.max (c:=⟨[],d,0⟩) (bz h)⟩
  |_=>ai t
 | .min=>match args with
  |[.f (.int a),.f (.int b)]=>let r:=norm t (.int (if b<a then b else a)) os fun v os=>k v S os
   ⟨r.l,r.r,fun h=>OpK.min (c:=⟨[],d,0⟩) (bz h)⟩
  |_=>ai t
 | .isin=>match args with
  |[.f f,.f (.ty T)]=>match hb:xm f T with
   |some b=>let r:=k (.f (.bool b)) S os
    ⟨r.l,r.r,fun h=>OpK.isaTy (c:=⟨[],d,0⟩) hb ⟨_,h⟩⟩
   |none=>ai t
  |[.f (.obj D fs),.f (.glob C)]=>let r:=norm t (lV G D (cC C G.own) (cC C)) os fun v os=>bo t (gP v) fun b=>k (.f (.bool b)) S os
   ⟨r.l,r.r,fun h=>y0 h fun h1 h2 h3 h=>OpK.isa (c:=⟨[],d,0⟩) g h1 h2 h3 h⟩
  |[.f (.obj D fs),.f (.tup cs)]=>match h0:k9 cs with
   |some as=>let r:=norm t (lV G D (xo G.own as) (fun l=>tN l as)) os fun v os=>bo t (gP v) fun b=>k (.f (.bool b)) S os
    ⟨r.l,r.r,fun h=>y0 h fun h1 h2 h3 h=>OpK.isaT (c:=⟨[],d,0⟩) g h1 h0 h2 h3 h⟩
   |none=>ai t
  |_=>ai t
 | .upper=>match args with
  |[.f (.str cs)]=>let r:=chk t (Nat.ble (upL cs).length 16777216) os fun os=>norm t (.str (upL cs)) os fun v os=>k v S os
   ⟨r.l,r.r,fun h=>by refine bG (dX h) fun h1 y13w0=> ?_; refine bI y13w0 fun os' h=> ?_; exact OpK.upper (c:=⟨[],d,0⟩) (Nat.ble_eq.mp h1) (bz h)⟩
  |_=>ai t
 | .lower=>match args with
  |[.f (.str cs)]=>let r:=chk t (Nat.ble (loL cs).length 16777216) os fun os=>norm t (.str (loL cs)) os fun v os=>k v S os
   ⟨r.l,r.r,fun h=>by refine bG (dX h) fun h1 y14w0=> ?_; refine bI y14w0 fun os' h=> ?_; exact OpK.lower (c:=⟨[],d,0⟩) (Nat.ble_eq.mp h1) (bz h)⟩
  |_=>ai t
 | .asc=>match args with
  |[.f (.str cs)]=>let r:=norm t (.bool (xi cs)) os fun v os=>k v S os
   ⟨r.l,r.r,fun h=>OpK.isascii (c:=⟨[],d,0⟩) (bz h)⟩
  |_=>ai t
 | .lstrip=>match args with
  |[.f (.str cs),.f (.str ds)]=>let r:=chk t (Nat.ble cs.length 16777216) os fun os=>norm t (.str (og cs ds)) os fun v os=>k v S os
   ⟨r.l,r.r,fun h=>by refine bG (dX h) fun h1 y15w0=> ?_; refine bI y15w0 fun os' h=> ?_; exact OpK.lstrip (c:=⟨[],d,0⟩) (Nat.ble_eq.mp h1) (bz h)⟩
  |_=>ai t
 | .find=>match args with
  |[.f (.str cs),.f (.str ds),.f (.int i)]=>let r:=norm t (.int (k8 cs ds i)) os fun v os=>k v S os
   ⟨r.l,r.r,fun h=>OpK.find (c:=⟨[],d,0⟩) (bz h)⟩
  |_=>ai t
 | .join=>match args with
  |[.f (.str sep),.r i]=>match h1:S.σ[i]? with
   |some (.list l)=>match h2:cX l with
    |some ys=>let r:=chk t (Nat.ble (cJ sep.length ys) 16777216) os fun os=>norm t (.str (fi sep ys)) os fun v os=>k v S os
     ⟨r.l,r.r,fun h=>by refine bG (dX h) fun h3 y16w0=> ?_; refine bI y16w0 fun os' h=> ?_; exact OpK.join (c:=⟨[],d,0⟩) h1 h2 (Nat.ble_eq.mp h3) (bz h)⟩
    |none=>ai t
   |_=>ai t
  |_=>ai t
 | .split=>match args with
  |[.f (.str cs),.f (.str ds)]=>match h1:Nat.beq ds.length 0 with
   |false=>let r:=chk t (Nat.ble cs.length 10000) os fun os=>chk t (Nat.ble (Builtin.Str.partsBetween (mk cs) (Builtin.Str.occurrences (mk cs) (mk ds) 0 (mk cs).length ((mk cs).length+1)) (mk ds).length).length 10000) os fun os=>k (.r S.σ.length) ⟨S.loc,S.σ++[.list (AU (m7 cs ds))]⟩ os
    ⟨r.l,r.r,fun h=>by refine bG (dX h) fun h2 y17w0=> ?_; refine bI y17w0 fun os' h=> ?_; refine bG (dX h) fun h3 y18w0=> ?_; refine bI y18w0 fun os' h=> ?_; exact OpK.split (c:=⟨[],d,0⟩) h1 ⟨Nat.ble_eq.mp h2,Nat.ble_eq.mp h3⟩ ⟨_,h⟩⟩
   |true=>ai t
  |_=>ai t
 | .append=>match args with
  |[.r i,.f f]=>match h1:S.σ[i]? with
   |some (.list l)=>let r:=chk t (Nat.ble l.length 1000000) os fun os=>k (.f .none) ⟨S.loc,S.σ.set i (.list (l++[f]))⟩ os
    ⟨r.l,r.r,fun h=>by refine bG (dX h) fun h2 y19w0=> ?_; refine bI y19w0 fun os' h=> ?_; exact OpK.append (c:=⟨[],d,0⟩) h1 (Nat.ble_eq.mp h2) ⟨_,h⟩⟩
   |_=>ai t
  |_=>ai t
 | .hex=>match args with
  |[.f (.bytes b)]=>match os with
   | @Evt.hex _ _ _ b' cs hb::os'=>match h1:Nat.ble cs.length 1000 with
    |true=>let r:=k (.f (.str cs)) S os'
     ⟨.by b'::r.l,.by b::r.r,fun h=>by
      injection h with h2 h3
      injection h2 with h2
      subst h2
      exact OpK.hex (c:=⟨[],d,0⟩) hb h1 ⟨_,h3⟩⟩
    |false=>ai t
   |_=>ai t
  |_=>ai t
 | .get=>match args with
  |[.f (.glob a),.f (.str x),.f f]=>match h1:bx a G.dcs with
   |some kv=>match h2:eh f with
    |true=>let r:=norm t (match lkN x kv with|some y=>y|none=>f) os fun v os=>k v S os
     ⟨r.l,r.r,fun h=>OpK.get2 (c:=⟨[],d,0⟩) g h1 h2 (bz h)⟩
    |false=>ai t
   |none=>ai t
  |_=>ai t
inductive TtP (u:Unit):Type where
 |int|str|tuple
noncomputable abbrev Tt:=TtP ()
noncomputable def Tt.id:Tt→String
 | .int=>"int"| .str=>"str"| .tuple=>"tuple"
noncomputable def CS (t:Nat) (T:Tt) (args:List V) (d:Nat) (S:St) (os:Os prog w K) (k:KV prog w K):Ct (et prog w K (.type T.id) args d S (Pk k)):=match T with
 | .int=>match args with
  |[.f (.int i)]=>let r:=k (.f (.int i)) S os
   ⟨r.l,r.r,fun h=>OpK.intI (c:=⟨[],d,0⟩) ⟨_,h⟩⟩
  |[.f (.bool b)]=>let r:=norm t (.int (if b=true then 1 else 0)) os fun v os=>k v S os
   ⟨r.l,r.r,fun h=>OpK.intB (c:=⟨[],d,0⟩) (bz h)⟩
  |[.f (.str cs),.f (.int b)]=>match os with
   | @Evt.num _ _ _ cs' n h1 h2::os'=>let r:=k (.f (.int n)) S os'
    ⟨.cs cs':: .i 10::r.l,.cs cs:: .i b::r.r,fun h=>by
      injection h with h3 h4
      injection h4 with h4 h5
      injection h3 with h3
      injection h4 with h4
      subst h3; subst h4
      exact OpK.int10 (c:=⟨[],d,0⟩) h1 h2 ⟨_,h5⟩⟩
   |_=>ai t
  |_=>ai t
 | .str=>match args with
  |[.f (.int i)]=>let r:=chk t (Nat.blt i.natAbs (2 ^ 1000)) os fun os=>norm t (.str (AQ i)) os fun v os=>k v S os
   ⟨r.l,r.r,fun h=>by refine bG (dX h) fun h1 y20w0=> ?_; refine bI y20w0 fun os' h=> ?_; exact OpK.strI (c:=⟨[],d,0⟩) (Nat.blt_eq.mp h1) (bz h)⟩
  |_=>ai t
 | .tuple=>match args with
  |[.r i]=>match h1:S.σ[i]? with
   |some (.list l)=>match h2:Nat.ble l.length 1000 with
    |true=>let r:=k (.f (.tup l)) S os
     ⟨r.l,r.r,fun h=>OpK.tupL (c:=⟨[],d,0⟩) h1 h2 ⟨_,h⟩⟩
    |false=>ai t
   |_=>ai t
  |_=>ai t
end
end
end MineS
namespace MineS
noncomputable section
open PySem PySem.W PySem.Calls PyProof.Rows
noncomputable def btT:List (Str×Bt):=[(⟨#[108,101,110]⟩,.len),(⟨#[111,114,100]⟩,.ord),(⟨#[109,97,120]⟩,.max),(⟨#[109,105,110]⟩,.min),(⟨#[105,115,105,110,115,116,97,110,99,101]⟩,.isin)]
noncomputable def ttT:List (Str×Tt):=[(⟨#[105,110,116]⟩,.int),(⟨#[115,116,114]⟩,.str),(⟨#[116,117,112,108,101]⟩,.tuple)]
noncomputable def A6:List (Str×Bt):=[(⟨#[117,112,112,101,114]⟩,.upper),(⟨#[108,111,119,101,114]⟩,.lower),(⟨#[105,115,97,115,99,105,105]⟩,.asc),(⟨#[108,115,116,114,105,112]⟩,.lstrip),(⟨#[102,105,110,100]⟩,.find),(⟨#[106,111,105,110]⟩,.join),(⟨#[115,112,108,105,116]⟩,.split)]
theorem lW {α β:Type} (f:α→β) (x:Str): ∀l:List (Str×α),look x (l.map fun p=>(p.1,f p.2))=(look x l).map f
 |[]=>rfl
 |(y,v)::r=>by
  simp only [List.map_cons,look]
  cases sq x y
  ·exact lW f x r
  ·rfl
noncomputable def vi:Str:=⟨#[97,112,112,101,110,100]⟩
noncomputable def lX:Str:=⟨#[114,101,112,108,97,99,101]⟩
noncomputable def lY:Str:=⟨#[102,114,111,109,104,101,120]⟩
noncomputable def G1:Str:=⟨#[104,101,120]⟩
noncomputable def G2:Str:=⟨#[103,101,116]⟩
noncomputable def np:Str:=⟨#[114,97,110,103,101]⟩
noncomputable def y4:Str:=⟨#[98,121,116,101,115]⟩
theorem xy:vi=Str.ofString "append":=by decide
theorem uB:lX=Str.ofString "replace":=by decide
theorem uC:lY=Str.ofString "fromhex":=by decide
theorem DF:G1=Str.ofString "hex":=by decide
theorem DG:G2=Str.ofString "get":=by decide
theorem DH:(A6.map fun p=>(p.1,p.2.id))=GJ:=by decide
structure FnP (K:Frag) where
 a:Addr
 ps:List Str
 dfl:List Fv
 body:List Stmt
 names:List (Str×NameKind)
 ok:Fn K a ps dfl body names
structure ClP (K:Frag) where
 C:Addr
 ini:FnP K
 froz:Bool
 ok:Cls K C ini.a
structure Tbl (prog:Program) (w:World) (K:Frag) (G:Gl) where
 g:GOK prog w K G
 bis:G.bis=btT.map fun p=>(p.1,p.2.id)
 bin: ∀f T,look f ttT=some T→look f G.bin=some (.ty T.id)
 bytes:look y4 G.bin=some (.ty "bytes")
 range:look np G.bin=some (.ty "range")
 fx:List (FnP K)
 cx:List (ClP K)
noncomputable def xz {K:Frag} (a n:Nat):List (FnP K)→Option {p:FnP K // p.a=a∧n+p.dfl.length=p.ps.length}
 |[]=>none
 |p::r=>match h:Nat.beq p.a a with
  |true=>match h2:Nat.beq (n+p.dfl.length) p.ps.length with
   |true=>some ⟨p,Nat.eq_of_beq_eq_true h,Nat.eq_of_beq_eq_true h2⟩
   |false=>xz a n r
  |false=>xz a n r
noncomputable def CT {K:Frag} (a n:Nat):List (ClP K)→Option {p:ClP K // p.C=a∧n+p.ini.dfl.length=p.ini.ps.length}
 |[]=>none
 |p::r=>match h:Nat.beq p.C a with
  |true=>match h2:Nat.beq (n+p.ini.dfl.length) p.ini.ps.length with
   |true=>some ⟨p,Nat.eq_of_beq_eq_true h,Nat.eq_of_beq_eq_true h2⟩
   |false=>none
  |false=>CT a n r
noncomputable def xA (n a b:Nat):Bool:=match Nat.beq a n with
 |true=>match Nat.ble n b with
  |true=>true
  |false=>Nat.ble b n
 |false=>Nat.ble b n
theorem A7 {n a b:Nat} (h:xA n a b=true):a=n∧n≤b∨b≤n:=by
 unfold xA at h
 split at h
 ·rename_i h1
  split at h
  ·rename_i h2; exact .inl ⟨Nat.eq_of_beq_eq_true h1,Nat.ble_eq.mp h2⟩
  ·exact .inr (Nat.ble_eq.mp h)
 ·exact .inr (Nat.ble_eq.mp h)
section
variable {prog:Program} {w:World} {K:Frag} {G:Gl}
structure Ih (prog:Program) (w:World) (K:Frag) (c:Cx) where
 e:(e:PySem.Expr)→(S:St)→Os prog w K→(k:KV prog w K)→Ct (af prog w K c e S (Pk k))
 b:(e:PySem.Expr)→(S:St)→Os prog w K→(k:Bool→St→Os prog w K→Rq)→Ct (aS prog w K c e S (Pk k))
 x:(ss:List Stmt)→(S:St)→Os prog w K→(k:Fl→St→Os prog w K→Rq)→Ct (aP prog w K c ss S (Pk k))
section
variable {c:Cx}
theorem bB.mono {S:St} {es:List PySem.Expr} {P P':List V→St→Prop} (x:bB prog w K c es S P) (h: ∀v T,P v T→P' v T):bB prog w K c es S P':=
 fun A s F ρ env he hr hi pos Q E q=>x A s F ρ env he hr hi pos Q E fun v S' u s' F' ρ' p=>q v S' u s' F' ρ' (h v S' p)
theorem OpK.mono {S:St} {t:List Value→Sem Value} {d:Nat} {as:List V} {P P':V→St→Prop} (x:OpK prog w K t d as S P) (h: ∀v T,P v T→P' v T):OpK prog w K t d as S P':=
 fun A s F ρ L vals hr hi ra Q E q=>x A s F ρ L vals hr hi ra Q E fun v S' u s' F' ρ' p=>q v S' u s' F' ρ' (h v S' p)
theorem aS.mono {S:St} {e:PySem.Expr} {P P':Bool→St→Prop} (x:aS prog w K c e S P) (h: ∀v T,P v T→P' v T):aS prog w K c e S P':=
 fun A s F ρ env he hr hi Q E q=>x A s F ρ env he hr hi Q E fun v S' s' F' ρ' p=>q v S' s' F' ρ' (h v S' p)
theorem aV.mono {S:St} {e:Stmt} {P P':Fl→St→Prop} (x:aV prog w K c e S P) (h: ∀v T,P v T→P' v T):aV prog w K c e S P':=
 fun A s F ρ env he hr hi Q E q=>x A s F ρ env he hr hi Q E fun v S' u s' F' ρ' p=>q v S' u s' F' ρ' (h v S' p)
theorem aP.mono {S:St} {e:List Stmt} {P P':Fl→St→Prop} (x:aP prog w K c e S P) (h: ∀v T,P v T→P' v T):aP prog w K c e S P':=
 fun A s F ρ env he hr hi Q E q=>x A s F ρ env he hr hi Q E fun v S' u s' F' ρ' p=>q v S' u s' F' ρ' (h v S' p)
end
noncomputable def xB (a:Nat) (args:List V) (d:Nat) (S:St) (k:KV prog w K) (os:Os prog w K) (args':List V) (σ σ':List MO) (v:V) (b1 b2:Ob) (hh:b1=b2→aU prog w K d (.ref a) args' σ v σ'):Ct (et prog w K (.ref a) args d S (Pk k)):=
 let n:=σ.length
 let r:=k v ⟨S.loc,σ'++S.σ.drop n⟩ os
 ⟨b1:: .b (tF n args):: .b (fF n (S.σ.take n)):: .b (xA n σ'.length S.σ.length):: .vs args':: .mo σ::r.l,b2:: .b true:: .b true:: .b true:: .vs args:: .mo (S.σ.take n)::r.r,fun h=>by
  injection h with h0 h
  injection h with h1 h
  injection h with h2 h
  injection h with h3 h
  injection h with h4 h
  injection h with h5 h
  injection h1 with h1
  injection h2 with h2
  injection h3 with h3
  injection h4 with h4
  injection h5 with h5
  have hr:=hh h0
  subst h4
  rw [h5] at hr
  exact OpK.runs (c:=⟨[],d,0⟩) hr (Nat.le_refl _) h1 h2 (A7 h3) ⟨_,h⟩⟩
variable (T:Tbl prog w K G)
noncomputable def xC (r:(c:Cx)→Ih prog w K c) (t a:Nat) (args:List V) (e k:Nat) (S:St) (os:Os prog w K) (kk:KV prog w K):Ct (et prog w K (.ref a) args (e+k) S (Pk kk)):=match CT a (args.length+1) T.cx with
 |some ⟨p,hp,hn⟩=>match k with
  |k+3=>match hz:p.froz with
   |true=>let x:=(r ⟨p.ini.names,e,k⟩).x p.ini.body ⟨bO p.ini.ps ((.r S.σ.length::args)++p.ini.dfl.map V.f),S.σ++[.inst p.C []]⟩ os fun fl S' os=>bo t (vNo (flV fl)) fun _=>bo t (xr p.C S.σ.length S'.σ) fun q=>kk (.f q.1) ⟨S.loc,q.2⟩ os
    ⟨x.l,x.r,fun h=>by
     subst hp
     refine OpK.runsP (dW.node p.ok (dW.fn (e:=e) (k:=k) (args:= .r S.σ.length::args) p.ini.ok hn (aP.mono (x.ok h) fun fl T ⟨os',z⟩=> ?_)))
     exact aA (aT z) fun _ hv z=>aA (aT z) fun q hs z=>⟨yV hv,q.1,q.2,hs,os',z⟩⟩
   |false=>let x:=(r ⟨p.ini.names,e,k⟩).x p.ini.body ⟨bO p.ini.ps ((.r S.σ.length::args)++p.ini.dfl.map V.f),S.σ++[.inst p.C []]⟩ os fun fl S' os=>bo t (vNo (flV fl)) fun _=>kk (.r S.σ.length) ⟨S.loc,S'.σ⟩ os
    ⟨x.l,x.r,fun h=>by
     subst hp
     refine OpK.runsP (dW.new p.ok (dW.fn (e:=e) (k:=k) (args:= .r S.σ.length::args) p.ini.ok hn (aP.mono (x.ok h) fun fl T ⟨os',z⟩=> ?_)))
     exact aA (aT z) fun _ hv z=>⟨yV hv,os',z⟩⟩
  |_=>ai t
 |none=>match xz a args.length T.fx with
  |some ⟨p,hp,hn⟩=>match k with
   |k+1=>let x:=(r ⟨p.names,e,k⟩).x p.body ⟨bO p.ps (args++p.dfl.map V.f),S.σ⟩ os fun fl S' os=>kk (flV fl) ⟨S.loc,S'.σ⟩ os
    ⟨x.l,x.r,fun h=>by subst hp; exact OpK.runsP (dW.fn p.ok hn (x.ok h))⟩
   |0=>ai t
  |none=>ai t
noncomputable def tq (r:(c:Cx)→Ih prog w K c) (t a:Nat) (args:List V) (e k:Nat) (S:St) (os:Os prog w K) (kk:KV prog w K):Ct (et prog w K (.ref a) args (e+k) S (Pk kk)):=match os with
 | @Evt.call _ _ _ d' (.ref b) args' σ σ' v hr::os'=>match hab:Nat.beq a b with
  |true=>xB a args (e+k) S kk os' args' σ σ' v (.b (Nat.ble d' k)) (.b true) fun z=>by
   have:=Nat.eq_of_beq_eq_true hab
   subst this
   injection z with z
   exact hr.le (Nat.le_trans (Nat.ble_eq.mp z) (Nat.le_add_left k e))
  |false=>xC T r t a args e k S os kk
 | @Evt.callE _ _ _ d' (.ref b) args' σ σ' v hr::os'=>match hab:Nat.beq a b with
  |true=>xB a args (e+k) S kk os' args' σ σ' v (.n d') (.n e) fun z=>by
   have:=Nat.eq_of_beq_eq_true hab
   subst this
   injection z with z
   subst z
   exact hr.le (Nat.le_add_right _ k)
  |false=>xC T r t a args e k S os kk
 |os=>xC T r t a args e k S os kk
variable {c:Cx}
noncomputable def OS (ih:Ih prog w K c) (e:PySem.Expr) (es:List PySem.Expr) (S:St) (os:Os prog w K) (k:List V→St→Os prog w K→Rq) (rec:(S:St)→(os:Os prog w K)→(k:List V→St→Os prog w K→Rq)→Ct (bB prog w K c es S (Pk k))):Ct (bB prog w K c (e::es) S (Pk k)):=match hs:bV e with
  |true=>ai 1
  |false=>let x:=ih.e e S os fun v S os=>(rec S os fun vs S os=>k (v::vs) S os).rq
   ⟨x.l,x.r,fun h=> .cons hs (af.mono (x.ok h) fun v T ⟨os',z⟩=>(rec T os' _).ok z)⟩
noncomputable def jI (ih:Ih prog w K c):(es:List PySem.Expr)→(S:St)→(os:Os prog w K)→(k:List V→St→Os prog w K→Rq)→Ct (bB prog w K c es S (Pk k))
 |[],S,os,k=>let r:=k [] S os; ⟨r.l,r.r,fun h=> .nil ⟨os,h⟩⟩
 |e::es,S,os,k=>OS ih e es S os k (jI ih es)
noncomputable def xD:BoolOp→Bool
 | .And=>true
 | .Or=>false
noncomputable def xE (op:BoolOp) (b:Bool):Bool:=match b with
 |true=>xD op
 |false=>match xD op with
  |true=>false
  |false=>true
theorem y5 {op:BoolOp} {b:Bool} (h:xE op b=true):b=(op== .And):=by cases op<;>cases b<;>first|rfl|cases h
theorem y6 {op:BoolOp} {b:Bool} (h:xE op b=false): ¬b=(op== .And):=by cases op<;>cases b<;>first|(cases h; done)|exact nofun|(intro h; cases h)
noncomputable def OT (ih:Ih prog w K c) (op:BoolOp) (e:PySem.Expr) (es:List PySem.Expr) (S:St) (os:Os prog w K) (k:Bool→St→Os prog w K→Rq) (rec:(S:St)→(os:Os prog w K)→Ct (AllK prog w K c op es S (Pk k))):Ct (AllK prog w K c op (e::es) S (Pk k)):=
 let x:=ih.b e S os fun b S os=>iE 2 (xE op b) (rec S os).rq (k b S os)
 ⟨x.l,x.r,fun h=> .cons (aS.mono (x.ok h) fun b T ⟨os',z⟩=>by
   rcases oo z with ⟨hb,z⟩|⟨hb,z⟩
   ·rw [if_pos (y5 hb)]
    exact (rec T os').ok z
   ·rw [if_neg (y6 hb)]
    exact ⟨os',z⟩)⟩
noncomputable def G3 (ih:Ih prog w K c) (op:BoolOp):(es:List PySem.Expr)→(S:St)→(os:Os prog w K)→(k:Bool→St→Os prog w K→Rq)→Ct (AllK prog w K c op es S (Pk k))
 |[],S,os,k=>let r:=k (xD op) S os; ⟨r.l,r.r,fun h=> .nil ⟨os,by cases op<;>exact h⟩⟩
 |e::es,S,os,k=>OT ih op e es S os k fun S os=>G3 ih op es S os k
noncomputable def Mh (ih:Ih prog w K c) (op:BoolOp) (pos:Pos) (e e2:PySem.Expr) (es:List PySem.Expr) (S:St) (os:Os prog w K) (k:KV prog w K) (rec:(S:St)→(os:Os prog w K)→Ct (af prog w K c (.BoolOp op (e2::es) pos) S (Pk k))):Ct (af prog w K c (.BoolOp op (e::e2::es) pos) S (Pk k)):=
 let x:=ih.e e S os fun v S os=>bo 4 (gP v) fun b=>brk (pos.line*1000+pos.col) b os fun b os=>iE 3 (xE op b) (rec S os).rq (k (.f (.bool b)) S os)
 ⟨x.l,x.r,fun h=> .bool (af.mono (x.ok h) fun v T ⟨os',z⟩=>by
   refine aA (aT z) fun b hv z=> ?_
   obtain ⟨os2,z⟩:=nk z
   rw [g7 hv]
   show if _ then _ else _
   rcases oo z with ⟨hb,z⟩|⟨hb,z⟩
   ·rw [if_pos (y5 hb)]
    exact (rec T os2).ok z
   ·rw [if_neg (y6 hb)]
    exact ⟨os2,z⟩)⟩
noncomputable def CU (ih:Ih prog w K c) (op:BoolOp) (pos:Pos):(es:List PySem.Expr)→(e:PySem.Expr)→(S:St)→(os:Os prog w K)→(k:KV prog w K)→Ct (af prog w K c (.BoolOp op (e::es) pos) S (Pk k))
 |[],e,S,os,k=>let x:=ih.e e S os k; ⟨x.l,x.r,fun h=> .one (x.ok h)⟩
 |e2::es,e,S,os,k=>Mh ih op pos e e2 es S os k fun S os=>CU ih op pos es e2 S os k
end
end
end MineS
namespace MineS
noncomputable section
open PySem PySem.W PySem.Calls PyProof.Rows
section
variable {prog:Program} {w:World} {K:Frag} {G:Gl} {c:Cx}
noncomputable def tg (p:Pos):Nat:=p.line*1000+p.col
noncomputable def xF (c:Cx) (target:PySem.Expr) (tp:Bool) (f:Fv) (S:St):Option {S':St // Tgt c target tp f S S'}:=match target with
 | .Name x p=>match tp with
  |false=>match hk:kind? c x with
   |some .local=>some ⟨⟨put x (.f f) S.loc,S.σ⟩,.name hk⟩
   |_=>none
  |true=>none
 | .Tuple es k p=>match es with
  |[.Name a pa,.Name b pb]=>match tp with
   |true=>match f with
    | .tup [x,y]=>match ha:kind? c a with
     |some .local=>match hb:kind? c b with
      |some .local=>some ⟨⟨put b (.f y) (put a (.f x) S.loc),S.σ⟩,.pair ha hb⟩
      |_=>none
     |_=>none
    |_=>none
   |false=>none
  |_=>none
 |_=>none
noncomputable def tpB (target:PySem.Expr):Option {tp:Bool // tp=true∨lU target=true}:=match target with
 | .Name _ _=>some ⟨false,.inr rfl⟩
 | .Tuple _ _ _=>some ⟨true,.inl rfl⟩
 |_=>none
noncomputable def g8 (ih:Ih prog w K c) (target:PySem.Expr) (tp:Bool) (body:List Stmt) (k:Fl→St→Os prog w K→Rq):List Fv→St→Os prog w K→Rq
 |[],S,os=>k .next S os
 |f::rem,S,os=>bo 10 (xF c target tp f S) fun q=>(ih.x body q.1 os fun fl S2 os=>match fl with
   | .next=>g8 ih target tp body k rem S2 os
   | .ret v=>k (.ret v) S2 os).rq
theorem pj {ih:Ih prog w K c} {target:PySem.Expr} {tp:Bool} {body:List Stmt} {k:Fl→St→Os prog w K→Rq} {f:Fv} {rem:List Fv} {S:St} (h: ∃os,(g8 ih target tp body k (f::rem) S os).l=(g8 ih target tp body k (f::rem) S os).r):
  ∃S',Tgt c target tp f S S'∧aP prog w K c body S' fun fl S2=>match fl with| .next=> ∃os,(g8 ih target tp body k rem S2 os).l=(g8 ih target tp body k rem S2 os).r| .ret v=>Pk k (.ret v) S2:=by
 obtain ⟨os,z⟩:=h
 refine aA (aT (o:=xF c target tp f S) z) fun q _ z=>⟨q.1,q.2,aP.mono (Ct.ok _ z) fun fl S2 ⟨os',z⟩=> ?_⟩
 cases fl
 ·exact ⟨os',z⟩
 ·exact ⟨os',z⟩
noncomputable def G4 (ih:Ih prog w K c) (target iter:PySem.Expr) (body:List Stmt) (pos:Pos) (S:St) (os:Os prog w K) (k:Fl→St→Os prog w K→Rq):Ct (aV prog w K c (.For target iter body [] pos) S (Pk k)):=match hs:iO iter with
 |false=>ai 12
 |true=>match tpB target with
  |none=>ai 13
  |some ⟨tp,ht⟩=>let x:=ih.e iter S os fun v S1 os=>bo 14 (fw tp S1 v) fun q=>g8 ih target tp body k q.1 q.2 os
   ⟨x.l,x.r,fun h=>aV.for (fun rem S=> ∃os,(g8 ih target tp body k rem S os).l=(g8 ih target tp body k rem S os).r) hs ht (af.mono (x.ok h) fun v S1 ⟨os',z⟩=>aA (aT z) fun q e z=>⟨q.1,q.2,e,os',z⟩) (fun _ _ _ z=>pj z) fun _ z=>z⟩
noncomputable def Mi (g:GOK prog w K G) (hr:look np G.bin=some (.ty "range")) (ih:Ih prog w K c) (x:Str) (tp:Pos) (f:Str) (fp:Pos) (e:PySem.Expr) (rpos:Pos) (body:List Stmt) (pos:Pos) (S:St) (os:Os prog w K) (k:Fl→St→Os prog w K→Rq) (hf:sq f np=true):Ct (aV prog w K c (.For (.Name x tp) (.Call (.Name f fp) [e] [] rpos) body [] pos) S (Pk k)):=match hs:bV e with
 |true=>ai 130
 |false=>match hd:sq f dbg with
  |true=>ai 131
  |false=>match hk:kind? c f with
   |some .globalImplicit=>let y:=ih.e e S os fun v S1 os=>bo 133 (oq v) fun n=>grd 132 (Nat.ble n 1000000) (g8 ih (.Name x tp) false body k (upI 0 n) S1 os)
    ⟨y.l,y.r,fun h=>aV.forRange g (fun rem S=> ∃os,(g8 ih (.Name x tp) false body k rem S os).l=(g8 ih (.Name x tp) false body k rem S os).r) hs hd hk (by rw [(bU _ _).mp hf]; exact hr) (af.mono (y.ok h) fun v S1 ⟨os',z⟩=>aA (aT z) fun n e z=>bG (dl z) fun hz z=>⟨n,iP e,Nat.ble_eq.mp hz,os',z⟩) (fun _ _ _ z=>pj z) fun _ z=>z⟩
   |_=>ai 134
noncomputable def ke (ih:Ih prog w K c) (test:PySem.Expr) (body:List Stmt) (k:Fl→St→Os prog w K→Rq):Nat→St→Os prog w K→Rq
 |0,S,os=>jH 15
 |n+1,S,os=>(ih.b test S os fun b S1 os=>match b with
  |true=>(ih.x body S1 os fun fl S2 os=>match fl with
   | .next=>ke ih test body k n S2 os
   | .ret v=>k (.ret v) S2 os).rq
  |false=>k .next S1 os).rq
noncomputable def y7 (ih:Ih prog w K c) (test:PySem.Expr) (body:List Stmt) (pos:Pos) (S:St) (os:Os prog w K) (k:Fl→St→Os prog w K→Rq):Ct (aV prog w K c (.While test body [] pos) S (Pk k)):=
 let r:=ke ih test body k 100 S os
 ⟨r.l,r.r,fun h=>by
  refine aV.while (fun n S=> ∃os,(ke ih test body k n S os).l=(ke ih test body k n S os).r) ?_ 100 ⟨os,h⟩
  rintro n S ⟨os,z⟩
  cases n with
  |zero=>exact eE z
  |succ n=>
   refine aS.mono (Ct.ok (ih.b test S os fun b S1 os=>match b with
    |true=>(ih.x body S1 os fun fl S2 os=>match fl with
     | .next=>ke ih test body k n S2 os
     | .ret v=>k (.ret v) S2 os).rq
    |false=>k .next S1 os) z) fun b S1 ⟨os',z⟩=> ?_
   cases b
   ·rw [if_neg (by simp)]; exact ⟨os',z⟩
   ·rw [if_pos rfl]
    refine aP.mono (Ct.ok _ z) fun fl S2 ⟨os',z⟩=> ?_
    cases fl
    ·exact ⟨n,Nat.lt_succ_self n,os',z⟩
    ·exact ⟨os',z⟩⟩
noncomputable def G5 (o:Option NameKind):Bool:=Option.rec false (fun k=>NameKind.rec true false false false false k) o
noncomputable def nmK (names:List (Str×NameKind)) (x:Str) (kd:NameKind):Bool:=NameKind.rec (G5 (look x names)) false false true true kd
noncomputable def A8 (names:List (Str×NameKind)):List (Str×NameKind)→Bool
 |[]=>true
 |p::r=>nmK names p.1 p.2 && A8 names r
theorem DI {o:Option NameKind} (h:G5 o=true):o=some .local:=by
 cases o with
 |none=>exact Bool.noConfusion h
 |some k=>cases k<;>first|exact Bool.noConfusion h|rfl
theorem G6 {names:List (Str×NameKind)} {x:Str} {kd:NameKind} (h:nmK names x kd=true):kd≠ .free∧kd≠ .cell∧(kd= .local→names.lookup x=some .local):=by
 cases kd with
 |«local»=>exact ⟨nofun,nofun,fun _=>(dZ _ _).symm.trans (DI h)⟩
 |cell=>exact Bool.noConfusion h
 |free=>exact Bool.noConfusion h
 |globalExplicit=>exact ⟨nofun,nofun,nofun⟩
 |globalImplicit=>exact ⟨nofun,nofun,nofun⟩
theorem DJ {names:List (Str×NameKind)}: ∀l:List (Str×NameKind),A8 names l=true→ ∀x∈l,x.2≠ .free∧x.2≠ .cell∧(x.2= .local→names.lookup x.1=some .local):=by
 intro l
 induction l with
 |nil=>intro _ x hx; exact nomatch hx
 |cons p r ih=>
  intro h x hx
  have h:=(Bool.and_eq_true _ _).mp h
  rcases List.mem_cons.mp hx with e|hx
  ·rw [e]; exact G6 h.1
  ·exact ih h.2 x hx
noncomputable def xG:ScopeKind→Bool
 | .function=>true
 |_=>false
theorem vj {k:ScopeKind} (h:xG k=true):k= .function:=by cases k<;>first|rfl|cases h
noncomputable def gQ {c':Cx} (ih:Ih prog w K c') (elt target:PySem.Expr) (tp:Bool) (acc:Nat) (kf:List Fv→St→Os prog w K→Rq):List Fv→List Fv→St→Os prog w K→Rq
 |[],done,S,os=>kf done S os
 |f::rem,done,S,os=>bo 22 (xF c' target tp f S) fun q=>(ih.e elt q.1 os fun v S3 os=>bo 21 (vFv v) fun g=>bo 20 (moL S3.σ[acc]?) fun l=>⟨.fvs l::(gQ ih elt target tp acc kf rem (done++[g]) ⟨S3.loc,S3.σ.set acc (.list (done++[g]))⟩ os).l,.fvs done::(gQ ih elt target tp acc kf rem (done++[g]) ⟨S3.loc,S3.σ.set acc (.list (done++[g]))⟩ os).r⟩).rq
theorem xH {c':Cx} {ih:Ih prog w K c'} {elt target:PySem.Expr} {tp:Bool} {acc:Nat} {kf:List Fv→St→Os prog w K→Rq} {f:Fv} {rem done:List Fv} {S:St} (h: ∃os,(gQ ih elt target tp acc kf (f::rem) done S os).l=(gQ ih elt target tp acc kf (f::rem) done S os).r):
  ∃S',Tgt c' target tp f S S'∧af prog w K c' elt S' fun v S3=> ∃g,v= .f g∧S3.σ[acc]? =some (.list done)∧ ∃os,(gQ ih elt target tp acc kf rem (done++[g]) ⟨S3.loc,S3.σ.set acc (.list (done++[g]))⟩ os).l=(gQ ih elt target tp acc kf rem (done++[g]) ⟨S3.loc,S3.σ.set acc (.list (done++[g]))⟩ os).r:=by
 obtain ⟨os,z⟩:=h
 exact aA (aT (o:=xF c' target tp f S) z) fun q _ z=>⟨q.1,q.2,af.mono (Ct.ok _ z) fun v S3 ⟨os',z⟩=>aA (aT z) fun g e z=>aA (aT z) fun l e2 z=>⟨g,g6 e,by rw [yW e2,tm (List.cons.inj z).1],os',(List.cons.inj z).2⟩⟩
noncomputable def Mj (r:(c:Cx)→Ih prog w K c) (elt target iter:PySem.Expr) (scope:Scope) (pos:Pos) (S:St) (os:Os prog w K) (k:KV prog w K):Ct (af prog w K c (.ListComp elt [⟨target,iter,[],0⟩] scope pos) S (Pk k)):=match hs:iO iter with
 |false=>ai 23
 |true=>match tpB target with
  |none=>ai 24
  |some ⟨tp,ht⟩=>match hn:A8 scope.names scope.names with
   |false=>ai 25
   |true=>match hf:xG scope.kind with
    |false=>ai 26
    |true=>let x:=(r c).e iter S os fun v S1 os=>bo 28 (fw tp S1 v) fun q=>grd 27 (Nat.ble q.1.length 1000000) (gQ (r ⟨scope.names,c.e,c.k⟩) elt target tp q.2.σ.length (fun done S os=>k (.r q.2.σ.length) ⟨q.2.loc,S.σ⟩ os) q.1 [] ⟨[],q.2.σ++[.list []]⟩ os)
     ⟨x.l,x.r,fun h=>
      have nm:=DJ _ hn
      af.comp (tp:=tp) hs ht (fun x hx=>(nm x hx).1) (fun x hx=>(nm x hx).2.1) (vj hf) (fun x hx=>(nm x hx).2.2) (af.mono (x.ok h) fun v S1 ⟨os',z⟩=>aA (aT z) fun q e z=>bG (dl z) fun hz z=>
       ⟨q.1,q.2,fun rem done S=> ∃os,(gQ (r ⟨scope.names,c.e,c.k⟩) elt target tp q.2.σ.length (fun done S os=>k (.r q.2.σ.length) ⟨q.2.loc,S.σ⟩ os) rem done S os).l=(gQ (r ⟨scope.names,c.e,c.k⟩) elt target tp q.2.σ.length (fun done S os=>k (.r q.2.σ.length) ⟨q.2.loc,S.σ⟩ os) rem done S os).r,e,⟨os',z⟩,fun f rem done S _ z=>xH z,fun done S z=>z,Nat.ble_eq.mp hz⟩)⟩
end
end
end MineS
namespace MineS
noncomputable section
open PySem PySem.W PySem.Calls PyProof.Rows
section
variable {prog:Program} {w:World} {K:Frag} {G:Gl} {c:Cx}
theorem DK {C f:Addr} {x:Str} (hm:fG G C x=some f): ∃l,bx C G.mth=some l:=by
 unfold fG at hm
 cases h:bx C G.mth with
 |some l=>exact ⟨l,rfl⟩
 |none=>rw [h] at hm; exact noS hm
theorem af.methAny (g:GOK prog w K G) {S:St} {o:PySem.Expr} {x:Str} {apos pos:Pos} {args:List PySem.Expr} {P:V→St→Prop} (hb:d0 o=true) (hs:bk args=true) (hl:Nat.blt args.length 30=true) (hp:Nat.beq apos.endLine pos.line=true)
  (X:af prog w K c o S fun v S1=>(∃C f,kZ S1 v x=some C∧fG G C x=some f∧bB prog w K c args S1 fun vs S2=>et prog w K (.ref f) (v::vs) c.d S2 P)∨
   (∃id,cK prog w K S1 v x id∧bB prog w K c args S1 fun vs S2=>et prog w K (.builtin id) (v::vs) c.d S2 P)∨
   (∃y f,v= .f y∧cb prog w K y x f∧keepIn K (.ref f)=true∧bB prog w K c args S1 fun vs S2=>et prog w K (.ref f) (v::vs) c.d S2 P)):
  af prog w K c (.Call (.Attribute o x apos) args [] pos) S P:=fun A s F ρ env he hr hi Q E q=>by
 obtain ⟨pl,e⟩:=eR (env:=env) (x:=x) hb hs hl hp
 rw [e]
 refine wpAny_bind (X A s F ρ env he hr hi _ _ fun v S1 u s1 F1 ρ1 h st1 r1=> ?_)
 rcases h with ⟨C,f,hc,hm,y⟩|⟨id,hm,y⟩|⟨vv,f,rfl,hm,j3,y⟩
 ·refine dN (lN st1.I.i r1 hc) fun a dx od y0e1 I1 sh=> ?_; subst y0e1
  refine bI (DK hm) fun l hl=> ?_
  obtain ⟨k1,k2⟩:=g.gm C l hl
  refine Gy (g.mth C x f hm) fun j1 j2 j3=> ?_
  refine wpAny_bind (wpAny_standAt (wpAny_bind (wpAny_holding (method_fn st1.I.H.kin I1 k1 k2 j1 j2 sh ?_))))
  refine fg st1.I.H.kin j3 hs (y A s1 F1 ρ1 env he hr st1.I pos _ _ fun vs S2 us s2 F2 ρ2 z st2 r2=>⟨st2.I.H.kin,?_⟩)
  exact z A s2 F2 ρ2 env.locals (_::us) hr st2.I (.cons (r1.mono st2.k.ff st2.r) r2) Q E fun v S' u' s' F' ρ' p st3 r3=>q v S' u' s' F' ρ' p ((st1.trans st2).trans st3) r3
 ·refine wpAny_bind (wpAny_standAt (wpAny_bind (wpAny_holding (hm A s1 F1 ρ1 env.locals u st1.I r1 pl _ _ ?_))))
  refine gO hs (y A s1 F1 ρ1 env he hr st1.I pos _ _ fun vs S2 us s2 F2 ρ2 z st2 r2=> ?_)
  exact z A s2 F2 ρ2 env.locals (_::us) hr st2.I (.cons (r1.mono st2.k.ff st2.r) r2) Q E fun v S' u' s' F' ρ' p st3 r3=>q v S' u' s' F' ρ' p ((st1.trans st2).trans st3) r3
 ·refine wpAny_bind (wpAny_standAt (wpAny_bind (wpAny_holding (hm S1 A s1 F1 ρ1 env.locals u st1.I r1 pl _ _ ?_))))
  refine fg st1.I.H.kin j3 hs (y A s1 F1 ρ1 env he hr st1.I pos _ _ fun vs S2 us s2 F2 ρ2 z st2 r2=>⟨st2.I.H.kin,?_⟩)
  exact z A s2 F2 ρ2 env.locals (_::us) hr st2.I (.cons (r1.mono st2.k.ff st2.r) r2) Q E fun v S' u' s' F' ρ' p st3 r3=>q v S' u' s' F' ρ' p ((st1.trans st2).trans st3) r3
variable (T:Tbl prog w K G)
noncomputable def Ml (x:Str) (p:Pos) (S:St) (os:Os prog w K) (k:KV prog w K):Ct (af prog w K c (.Name x p) S (Pk k)):=match hd:sq x dbg with
 |true=>ai 30
 |false=>match hk:kind? c x with
  |some .local=>match hl:look x S.loc with
   |some v=>let r:=k v S os; ⟨r.l,r.r,fun h=> .local hd hk hl ⟨os,h⟩⟩
   |none=>ai 31
  |some .globalImplicit=>match hl:look x G.glb with
   |some f=>let r:=k (.f f) S os; ⟨r.l,r.r,fun h=> .global T.g hd hk hl ⟨os,h⟩⟩
   |none=>match hl2:look x G.bin with
    |some f=>let r:=k (.f f) S os; ⟨r.l,r.r,fun h=> .builtinTy T.g hd hk hl2 ⟨os,h⟩⟩
    |none=>ai 32
  |_=>ai 33
noncomputable def Mm (r:(c:Cx)→Ih prog w K c) (f:Str) (fp:Pos) (args:List PySem.Expr) (pos:Pos) (S:St) (os:Os prog w K) (k:KV prog w K):Ct (af prog w K c (.Call (.Name f fp) args [] pos) S (Pk k)):=match hs:bk args with
 |false=>ai 34
 |true=>match hd:sq f dbg with
  |true=>ai 35
  |false=>match hk:kind? c f with
   |some .globalImplicit=>match hl:look f G.glb with
    |some (.glob a)=>match hm:cC a G.fns with
     |true=>let x:=jI (r c) args S os fun vs S os=>(tq T r (tg pos) a vs c.e c.k S os k).rq
      ⟨x.l,x.r,fun h=> .call T.g hs (.global T.g hd hk hl ⟨a,rfl,hm,bB.mono (x.ok h) fun vs S' ⟨os',z⟩=>(tq T r (tg pos) a vs c.e c.k S' os' k).ok z⟩)⟩
     |false=>ai 36
    |some _=>ai 37
    |none=>match hb:look f btT with
     |some id=>let x:=jI (r c) args S os fun vs S os=>(tn T.g (tg pos) id vs c.d S os k).rq
      ⟨x.l,x.r,fun h=> .callB T.g (id:=id.id) hs hd hk (by rw [T.bis,lW,hb]; rfl) (bB.mono (x.ok h) fun vs S' ⟨os',z⟩=>(tn T.g (tg pos) id vs c.d S' os' k).ok z)⟩
     |none=>match ht:look f ttT with
      |some ty=>let x:=jI (r c) args S os fun vs S os=>(CS (tg pos) ty vs c.d S os k).rq
       ⟨x.l,x.r,fun h=> .callT T.g hs hd hk (T.bin f ty ht) (bB.mono (x.ok h) fun vs S' ⟨os',z⟩=>(CS (tg pos) ty vs c.d S' os' k).ok z)⟩
      |none=>ai 38
   |_=>ai 39
theorem DL {S:St} {cs:List Nat} {x:Str} {id:Bt} (h:look x A6=some id):cK prog w K S (.f (.str cs)) x id.id:=cK.strs (by rw [←DH,lW,h]; rfl)
noncomputable abbrev A9 (prog:Program) (w:World) (K:Frag) (G:Gl) (c:Cx) (v:V) (x:Str) (args:List PySem.Expr) (S:St) (P:V→St→Prop):Prop:=(∃C f,kZ S v x=some C∧fG G C x=some f∧bB prog w K c args S fun vs S2=>et prog w K (.ref f) (v::vs) c.d S2 P)∨
   (∃id,cK prog w K S v x id∧bB prog w K c args S fun vs S2=>et prog w K (.builtin id) (v::vs) c.d S2 P)∨
   (∃y f,v= .f y∧cb prog w K y x f∧keepIn K (.ref f)=true∧bB prog w K c args S fun vs S2=>et prog w K (.ref f) (v::vs) c.d S2 P)
noncomputable def xI (ih:Ih prog w K c) (v:V) (x:Str) (id:Bt) (args:List PySem.Expr) (t:Nat) (S:St) (os:Os prog w K) (k:KV prog w K) (hm:cK prog w K S v x id.id):Ct (A9 prog w K G c v x args S (Pk k)):=
 let y:=jI ih args S os fun vs S os=>(tn T.g t id (v::vs) c.d S os k).rq
 ⟨y.l,y.r,fun h=> .inr (.inl ⟨_,hm,bB.mono (y.ok h) fun vs S' ⟨os',z⟩=>(tn T.g t id (v::vs) c.d S' os' k).ok z⟩)⟩
noncomputable def Mn (ih:Ih prog w K c) (v:V) (x:Str) (args:List PySem.Expr) (S:St) (k:KV prog w K) (os':Os prog w K) (d:Nat) (f:Addr) (x':Str) (v':Fv) (args':List V) (σ σ':List MO) (r:V) (hm:cb prog w K v' x' f∧keepIn K (.ref f)=true) (hr:aU prog w K d (.ref f) (.f v'::args') σ r σ'):Ct (A9 prog w K G c v x args S (Pk k)):=
 let y:=jI ih args S os' fun vs S os=>(xB f (.f v'::vs) c.d S k os (.f v'::args') σ σ' r (.n d) (.n c.e) fun z=>by
  injection z with z
  subst z
  exact hr.le (Nat.le_add_right _ _)).rq
 ⟨.v (.f v'):: .s x'::y.l,.v v:: .s x::y.r,fun h=>by
  have h1:=obV (List.cons.inj h).1
  have h2:=obS (List.cons.inj (List.cons.inj h).2).1
  replace h:=(List.cons.inj (List.cons.inj h).2).2
  subst h1; subst h2
  exact .inr (.inr ⟨v',f,rfl,hm.1,hm.2,bB.mono (y.ok h) fun vs S' ⟨os',z⟩=>Ct.ok _ z⟩)⟩
noncomputable def CV (r:(c:Cx)→Ih prog w K c) (v:V) (x:Str) (args:List PySem.Expr) (t:Nat) (S:St) (os:Os prog w K) (k:KV prog w K):Ct (A9 prog w K G c v x args S (Pk k)):=match os with
 | @Evt.mcall _ _ _ d f x' v' args' σ σ' rr hm hr::os'=>Mn (r c) v x args S k os' d f x' v' args' σ σ' rr hm hr
 |os=>match hc:kZ S v x with
  |some C=>match hm:fG G C x with
   |some f=>let y:=jI (r c) args S os fun vs S os=>(tq T r t f (v::vs) c.e c.k S os k).rq
    ⟨y.l,y.r,fun h=> .inl ⟨C,f,hc,hm,bB.mono (y.ok h) fun vs S' ⟨os',z⟩=>(tq T r t f (v::vs) c.e c.k S' os' k).ok z⟩⟩
   |none=>ai 40
  |none=>match v with
   | .r i=>match hx:sq x vi with
    |true=>match hσ:S.σ[i]? with
     |some (.list l)=>xI T (r c) (.r i) x .append args t S os k (by rw [(bU _ _).mp hx,xy]; exact cK.append hσ)
     |_=>ai 41
    |false=>ai 42
   | .f (.str cs)=>match hl:look x A6 with
    |some id=>xI T (r c) (.f (.str cs)) x id args t S os k (DL hl)
    |none=>ai 43
   | .f (.bytes b)=>match hx:sq x G1 with
    |true=>xI T (r c) (.f (.bytes b)) x .hex args t S os k (by rw [(bU _ _).mp hx,DF]; exact cK.hex)
    |false=>ai 44
   | .f (.glob a)=>match hx:sq x G2 with
    |true=>match hd:bx a G.dcs with
     |some _=>xI T (r c) (.f (.glob a)) x .get args t S os k (by rw [(bU _ _).mp hx,DG]; exact cK.get T.g hd)
     |none=>ai 45
    |false=>ai 46
   |_=>ai 47
noncomputable def Mo (ih:Ih prog w K c) (o:PySem.Expr) (x:Str) (hx:sq x lX=true) (apos:Pos) (args:List PySem.Expr) (pos:Pos) (S:St) (os:Os prog w K) (k:KV prog w K) (hb:d0 o=true) (hp:Nat.beq apos.endLine pos.line=true):Ct (af prog w K c (.Call (.Attribute o x apos) args [] pos) S (Pk k)):=match args with
 |[.Constant (.str y) ky py,.Constant (.str z) kz pz]=>match hyz:sq y z with
  |true=>ai 48
  |false=>match hz:Nat.ble (unS z).length 14 with
   |false=>ai 49
   |true=>let x':=ih.e o S os fun v S os=>bo 50 (xt v) fun cs=>chk (tg pos) (Nat.ble cs.length 1000000) os fun os=>norm (tg pos) (.str (m6 cs (unS y) (unS z))) os fun v os=>k v S os
    ⟨x'.l,x'.r,fun h=> .replace (by rw [←uB]; exact hx) hb hp hyz hz (af.mono (x'.ok h) fun v T ⟨os',z⟩=>aA (aT z) fun cs e z=>bG (dX z) fun h1 z=>bI z fun os2 z=>⟨cs,ot e,Nat.ble_eq.mp h1,bz z⟩)⟩
 |_=>ai 51
noncomputable def fhx (t:Nat) (cs:List Nat) (os:Os prog w K) (k:Array UInt8→Os prog w K→Rq):Rq:=match os with
 | @Evt.fhex _ _ _ cs' b _::os'=>grd t (Nat.ble b.size 1000) ⟨.cs cs'::(k b os').l,.cs cs::(k b os').r⟩
 |_=>jH t
theorem G7 {t:Nat} {cs:List Nat} {os:Os prog w K} {k:Array UInt8→Os prog w K→Rq} (h:(fhx t cs os k).l=(fhx t cs os k).r): ∃b os',jF cs b∧b.size≤1000∧(k b os').l=(k b os').r:=by
 cases os with
 |nil=>exact eE h
 |cons o os=>
  cases o with
  | @fhex cs' b hh=>exact bG (dl h) fun hz h=>⟨b,os,GN (List.cons.inj h).1▸hh,Nat.ble_eq.mp hz,(List.cons.inj h).2⟩
  |_=>exact eE h
noncomputable def Mp (ih:Ih prog w K c) (o:PySem.Expr) (x:Str) (hx:sq x lY=true) (apos:Pos) (args:List PySem.Expr) (pos:Pos) (S:St) (os:Os prog w K) (k:KV prog w K) (hp:Nat.beq apos.endLine pos.line=true):Ct (af prog w K c (.Call (.Attribute o x apos) args [] pos) S (Pk k)):=match o with
 | .Name f fp=>match args with
  |[e]=>match hb:sq f y4 with
   |false=>ai 52
   |true=>match hd:sq f dbg with
    |true=>ai 53
    |false=>match hk:kind? c f with
     |some .globalImplicit=>match hs:bV e with
      |true=>ai 54
      |false=>let x':=ih.e e S os fun v S os=>bo 57 (xt v) fun cs=>fhx 55 cs os fun b os=>k (.f (.bytes b)) S os
       ⟨x'.l,x'.r,fun h=> .fromhex T.g (by rw [←uC]; exact hx) hd hk (by rw [(bU _ _).mp hb]; exact T.bytes) hs hp (af.mono (x'.ok h) fun v S' ⟨os',z⟩=>aA (aT z) fun cs e z=>bw (G7 z) fun b os2 hh hz z=>⟨cs,b,ot e,hh,hz,os2,z⟩)⟩
     |_=>ai 58
  |_=>ai 59
 |_=>ai 60
noncomputable def Mq (r:(c:Cx)→Ih prog w K c) (o:PySem.Expr) (x:Str) (apos:Pos) (args:List PySem.Expr) (pos:Pos) (S:St) (os:Os prog w K) (k:KV prog w K):Ct (af prog w K c (.Call (.Attribute o x apos) args [] pos) S (Pk k)):=match hb:d0 o with
 |false=>ai 61
 |true=>match hs:bk args with
  |false=>ai 62
  |true=>match hl:Nat.blt args.length 30 with
   |false=>ai 63
   |true=>match hp:Nat.beq apos.endLine pos.line with
    |false=>ai 64
    |true=>match hx:sq x lX with
     |true=>Mo (r c) o x hx apos args pos S os k hb hp
     |false=>match hx2:sq x lY with
      |true=>Mp T (r c) o x hx2 apos args pos S os k hp
      |false=>let y:=(r c).e o S os fun v S os=>(CV T r v x args (tg pos) S os k).rq
       ⟨y.l,y.r,fun h=> .methAny T.g hb hs hl hp (af.mono (y.ok h) fun v S' ⟨os',z⟩=>(CV T r v x args (tg pos) S' os' k).ok z)⟩
noncomputable def Mr (ih:Ih prog w K c) (e:PySem.Expr) (x:Str) (pos:Pos) (S:St) (os:Os prog w K) (k:KV prog w K):Ct (af prog w K c (.Attribute e x pos) S (Pk k)):=match hs:d0 e with
 |false=>ai 65
 |true=>let y:=ih.e e S os fun v S os=>bo 67 (xa S v x) fun q=>grd 66 (iy G q.1 x) (k q.2 S os)
  ⟨y.l,y.r,fun h=> .attr T.g hs (af.mono (y.ok h) fun v S' ⟨os',z⟩=>aA (aT z) fun q hf z=>bG (dl z) fun ha z=>⟨q.1,q.2,hf,ha,os',z⟩)⟩
noncomputable def unC (ih:Ih prog w K c) (op:UnaryOp) (e:PySem.Expr) (pos:Pos) (S:St) (os:Os prog w K) (k:KV prog w K):Ct (af prog w K c (.UnaryOp op e pos) S (Pk k)):=match op with
 | .USub=>let y:=ih.e e S os fun v S os=>bo 68 (A0 v) fun i=>k (.f (.int (-i))) S os
  ⟨y.l,y.r,fun h=> .un (af.mono (y.ok h) fun v S' ⟨os',z⟩=>aA (aT z) fun i e z=>by rw [vd e]; exact OpK.neg ⟨_,z⟩)⟩
 | .Not=>let y:=ih.e e S os fun v S os=>bo 69 (gP v) fun b=>k (.f (.bool (!b))) S os
  ⟨y.l,y.r,fun h=> .un (af.mono (y.ok h) fun v S' ⟨os',z⟩=>aA (aT z) fun b e z=>by rw [g7 e]; exact OpK.notB ⟨_,z⟩)⟩
 |_=>ai 70
noncomputable def OU (ih:Ih prog w K c) (l:PySem.Expr) (op:Operator) (r:PySem.Expr) (pos:Pos) (S:St) (os:Os prog w K) (k:KV prog w K):Ct (af prog w K c (.BinOp l op r pos) S (Pk k)):=
 let y:=ih.e l S os fun a S os=>(ih.e r S os fun b S os=>(opB (tg pos) op a b c.d S os k).rq).rq
 ⟨y.l,y.r,fun h=> .bin (af.mono (y.ok h) fun a S1 ⟨os1,z1⟩=>af.mono (Ct.ok _ z1) fun b S2 ⟨os2,z2⟩=>(opB (tg pos) op a b c.d S2 os2 k).ok z2)⟩
noncomputable def OV (ih:Ih prog w K c) (l:PySem.Expr) (op:CmpOp) (r:PySem.Expr) (pos:Pos) (S:St) (os:Os prog w K) (k:KV prog w K):Ct (af prog w K c (.Compare l [op] [r] pos) S (Pk k)):=match hm:behindInMarks op r with
 |true=>ai 71
 |false=>let y:=ih.e l S os fun a S os=>(ih.e r S os fun b S os=>(opC T.g (tg pos) op a b c.d S os k).rq).rq
  ⟨y.l,y.r,fun h=> .cmp hm (af.mono (y.ok h) fun a S1 ⟨os1,z1⟩=>af.mono (Ct.ok _ z1) fun b S2 ⟨os2,z2⟩=>(opC T.g (tg pos) op a b c.d S2 os2 k).ok z2)⟩
noncomputable def OW (ih:Ih prog w K c) (es:List PySem.Expr) (n:Nat) (pos:Pos) (S:St) (os:Os prog w K) (k:KV prog w K):Ct (af prog w K c (.Tuple es n pos) S (Pk k)):=
 let y:=jI ih es S os fun vs S os=>bo 73 (frl vs) fun l=>grd 72 (Nat.ble l.length 1000) (k (.f (.tup l)) S os)
 ⟨y.l,y.r,fun h=> .tup (bB.mono (y.ok h) fun vs S' ⟨os',z⟩=>aA (aT z) fun l hl z=>bG (dl z) fun hz z=>⟨l,hl,hz,os',z⟩)⟩
noncomputable def OX (ih:Ih prog w K c) (es:List PySem.Expr) (pos:Pos) (S:St) (os:Os prog w K) (k:KV prog w K):Ct (af prog w K c (.List es pos) S (Pk k)):=
 let y:=jI ih es S os fun vs S os=>bo 75 (frl vs) fun l=>grd 74 (Nat.ble l.length 1000) (k (.r S.σ.length) ⟨S.loc,S.σ++[.list l]⟩ os)
 ⟨y.l,y.r,fun h=> .list (bB.mono (y.ok h) fun vs S' ⟨os',z⟩=>aA (aT z) fun l hl z=>bG (dl z) fun hz z=>⟨l,hl,hz,os',z⟩)⟩
noncomputable def OY (ih:Ih prog w K c) (e l u:PySem.Expr) (sp pos:Pos) (S:St) (os:Os prog w K) (k:KV prog w K):Ct (af prog w K c (.Subscript e (.Slice (some l) (some u) none sp) pos) S (Pk k)):=
 let y:=ih.e e S os fun v S os=>(ih.e l S os fun a S os=>(ih.e u S os fun b S os=>bo 76 (xt v) fun cs=>bo 76 (oq a) fun i=>bo 76 (oq b) fun j=>chk (tg pos) (Nat.ble cs.length 16777216) os fun os=>norm (tg pos) (.str ((cs.take j).drop i)) os fun v os=>k v S os).rq).rq
 ⟨y.l,y.r,fun h=> .slice (af.mono (y.ok h) fun v S1 ⟨os1,z1⟩=>af.mono (Ct.ok _ z1) fun a S2 ⟨os2,z2⟩=>af.mono (Ct.ok _ z2) fun b S3 ⟨os3,z3⟩=>aA (aT z3) fun cs e1 z=>aA (aT z) fun i e2 z=>aA (aT z) fun j e3 z=>bG (dX z) fun h1 z=>bI z fun os4 z4=>⟨cs,i,j,ot e1,iP e2,iP e3,Nat.ble_eq.mp h1,bz z4⟩)⟩
noncomputable def OZ (ih:Ih prog w K c) (e l:PySem.Expr) (sp pos:Pos) (S:St) (os:Os prog w K) (k:KV prog w K):Ct (af prog w K c (.Subscript e (.Slice (some l) none none sp) pos) S (Pk k)):=
 let y:=ih.e e S os fun v S os=>(ih.e l S os fun a S os=>bo 80 (A1 v) fun l=>bo 80 (oq a) fun i=>grd 79 (Nat.ble 1 i) (grd 78 (Nat.ble i l.length) (grd 77 (Nat.ble l.length 1000) (k (.f (.tup (l.drop i))) S os)))).rq
 ⟨y.l,y.r,fun h=> .sliceT (af.mono (y.ok h) fun v S1 ⟨os1,z1⟩=>af.mono (Ct.ok _ z1) fun a S2 ⟨os2,z2⟩=>aA (aT z2) fun l e1 z=>aA (aT z) fun i e2 z=>bG (dl z) fun h1 z=>bG (dl z) fun h2 z=>bG (dl z) fun h3 z=>⟨l,i,vf e1,iP e2,h1,h2,h3,os2,z⟩)⟩
noncomputable def O0 (ih:Ih prog w K c) (e j:PySem.Expr) (pos:Pos) (S:St) (os:Os prog w K) (k:KV prog w K) (hn:g5 j=true):Ct (af prog w K c (.Subscript e j pos) S (Pk k)):=
 let y:=ih.e e S os fun v S os=>(ih.e j S os fun i S os=>(G0 T.g (tg pos) v i S os k).rq).rq
 ⟨y.l,y.r,fun h=> .idx2 hn (af.mono (y.ok h) fun v S1 ⟨os1,z1⟩=>af.mono (Ct.ok _ z1) fun i S2 ⟨os2,z2⟩=>(G0 T.g (tg pos) v i S2 os2 k).ok z2)⟩
noncomputable def O1 (ih:Ih prog w K c) (e j:PySem.Expr) (pos:Pos) (S:St) (os:Os prog w K) (k:KV prog w K):Ct (af prog w K c (.Subscript e j pos) S (Pk k)):=match hn:g5 j with
 |true=>O0 T ih e j pos S os k hn
 |false=>match j with
  | .Slice (some l) u none sp=>match u with
   |some u=>OY ih e l u sp pos S os k
   |none=>OZ ih e l sp pos S os k
  |_=>ai 81
noncomputable def O2 (r:(c:Cx)→Ih prog w K c) (elt:PySem.Expr) (gens:List Comprehension) (sc:Scope) (pos:Pos) (S:St) (os:Os prog w K) (k:KV prog w K):Ct (af prog w K c (.ListComp elt gens sc pos) S (Pk k)):=match os with
 | @Evt.ev _ _ _ c' e' S' S2 v t' hh::os'=>let r:=k v S2 os'
  ⟨.cx c':: .ex e':: .st S'::r.l,.cx c:: .ex (.ListComp elt gens sc pos):: .st S::r.r,fun h=>by
   have h1:=GO (List.cons.inj h).1
   replace h:=(List.cons.inj h).2
   have h2:=OL (List.cons.inj h).1
   replace h:=(List.cons.inj h).2
   have h3:=GP (List.cons.inj h).1
   subst h1; subst h2; subst h3
   exact af.mono hh fun u T e=>⟨os',by rw [e.1,e.2]; exact (List.cons.inj h).2⟩⟩
 |os=>match gens with
  |[⟨target,iter,[],0⟩]=>Mj r elt target iter sc pos S os k
  |_=>ai 82
noncomputable def Ms (r:(c:Cx)→Ih prog w K c) (c:Cx) (e:PySem.Expr) (S:St) (os:Os prog w K) (k:KV prog w K):Ct (af prog w K c e S (Pk k)):=match e with
 | .Constant v n p=>match hc:cst v with
  |some f=>let r:=k (.f f) S os; ⟨r.l,r.r,fun h=> .const hc ⟨os,h⟩⟩
  |none=>ai 83
 | .Name x p=>Ml T x p S os k
 | .Attribute e x p=>Mr T (r c) e x p S os k
 | .BinOp l op rr p=>OU (r c) l op rr p S os k
 | .UnaryOp op e p=>unC (r c) op e p S os k
 | .Compare l ops rs p=>match ops with
  |[op]=>match rs with
   |[rr]=>OV T (r c) l op rr p S os k
   |_=>ai 84
  |_=>ai 85
 | .IfExp t a b p=>let y:=(r c).b t S os fun y S os=>match y with
   |true=>((r c).e a S os k).rq
   |false=>((r c).e b S os k).rq
  ⟨y.l,y.r,fun h=> .ite (aS.mono (y.ok h) fun y S' ⟨os',z⟩=>by
   cases y
   ·exact ((r c).e b S' os' k).ok z
   ·exact ((r c).e a S' os' k).ok z)⟩
 | .BoolOp op es p=>match es with
  |e::es=>CU (r c) op p es e S os k
  |[]=>ai 86
 | .Tuple es n p=>OW (r c) es n p S os k
 | .List es p=>OX (r c) es p S os k
 | .Subscript e j p=>O1 T (r c) e j p S os k
 | .Call f args kws p=>match kws with
  |[]=>match f with
   | .Name f fp=>Mm T r f fp args p S os k
   | .Attribute o x ap=>Mq T r o x ap args p S os k
   |_=>ai 87
  |_=>ai 88
 | .ListComp elt gens sc p=>O2 r elt gens sc p S os k
 |_=>ai 89
end
end
end MineS
namespace MineS
noncomputable section
open PySem PySem.W PySem.Calls PyProof.Rows
section
variable {prog:Program} {w:World} {K:Frag} {G:Gl} {c:Cx}
noncomputable def tV (t:Nat) (v:V) (os:Os prog w K) (k:Bool→Os prog w K→Rq):Rq:=bo t (gP v) fun b=>brk t b os k
theorem oy {t:Nat} {v:V} {os:Os prog w K} {S:St} {k:Bool→St→Os prog w K→Rq} (h:(tV t v os fun b os=>k b S os).l=(tV t v os fun b os=>k b S os).r):gg v fun b=>Pk k b S:=
 aA (aT h) fun b e z=>by rw [g7 e]; exact nk z
noncomputable abbrev G8 (e:PySem.Expr):Prop:= ∀env:Env,PySem.isTrue e env (eval e env)=(do let v←eval e env; standAt e.pos; holding [v] (truthy v))
variable (T:Tbl prog w K G)
noncomputable def kg (ih:Ih prog w K c) (e:PySem.Expr) (t:Nat) (S:St) (os:Os prog w K) (k:Bool→St→Os prog w K→Rq) (hp:G8 e):Ct (aS prog w K c e S (Pk k)):=
 let y:=ih.e e S os fun v S os=>tV t v os fun b os=>k b S os
 ⟨y.l,y.r,fun h=> .plain hp (af.mono (y.ok h) fun v S' ⟨os',z⟩=>oy z)⟩
noncomputable def O3 (ih:Ih prog w K c) (l:PySem.Expr) (op:CmpOp) (r:PySem.Expr) (pos:Pos) (S:St) (os:Os prog w K) (k:Bool→St→Os prog w K→Rq):Ct (aS prog w K c (.Compare l [op] [r] pos) S (Pk k)):=match hm:behindInMarks op r with
 |true=>ai 91
 |false=>let y:=ih.e l S os fun a S os=>(ih.e r S os fun b S os=>(opC T.g (tg pos) op a b c.d S os fun v S os=>tV (tg pos) v os fun b os=>k b S os).rq).rq
  ⟨y.l,y.r,fun h=> .cmp hm (af.mono (y.ok h) fun a S1 ⟨os1,z1⟩=>af.mono (Ct.ok _ z1) fun b S2 ⟨os2,z2⟩=>OpK.mono (Ct.ok _ z2) fun v S3 ⟨os3,z3⟩=>oy z3)⟩
noncomputable def O4 (ih:Ih prog w K c) (l:PySem.Expr) (op op2:CmpOp) (m r:PySem.Expr) (pos:Pos) (S:St) (os:Os prog w K) (k:Bool→St→Os prog w K→Rq):Ct (aS prog w K c (.Compare l [op,op2] [m,r] pos) S (Pk k)):=match hm:behindInMarks op2 r with
 |true=>ai 92
 |false=>let y:=ih.e l S os fun a S os=>(ih.e m S os fun b S os=>(opC T.g (tg pos) op a b c.d S os fun v S os=>bo 93 (gP v) fun t=>brk (tg pos) t os fun t os=>iE 93 t (ih.e r S os fun d S os=>(opC T.g (tg pos) op2 b d c.d S os fun v S os=>tV (tg pos) v os fun b os=>k b S os).rq).rq (k false S os)).rq).rq
  ⟨y.l,y.r,fun h=> .chain hm (af.mono (y.ok h) fun a S1 ⟨os1,z1⟩=>af.mono (Ct.ok _ z1) fun b S2 ⟨os2,z2⟩=>OpK.mono (Ct.ok _ z2) fun v S3 ⟨os3,z3⟩=>aA (aT z3) fun t e z=>bI (nk z) fun os4 z=>by
   rw [g7 e]
   show if _ then _ else _
   rcases oo z with ⟨ht,z⟩|⟨ht,z⟩
   ·rw [if_pos ht]
    exact af.mono (Ct.ok _ z) fun d S4 ⟨os5,z5⟩=>OpK.mono (Ct.ok _ z5) fun v S5 ⟨os6,z6⟩=>oy z6
   ·rw [if_neg (by rw [ht]; exact Bool.false_ne_true)]
    exact ⟨os4,z⟩)⟩
noncomputable def Mt (r:(c:Cx)→Ih prog w K c) (c:Cx) (e:PySem.Expr) (S:St) (os:Os prog w K) (k:Bool→St→Os prog w K→Rq):Ct (aS prog w K c e S (Pk k)):=match e with
 | .UnaryOp op e p=>match op with
  | .Not=>let y:=(r c).b e S os fun b S os=>k (!b) S os
   ⟨y.l,y.r,fun h=> .not (aS.mono (y.ok h) fun b S' ⟨os',z⟩=>⟨os',z⟩)⟩
  |_=>ai 94
 | .BoolOp op es p=>let y:=G3 (r c) op es S os k
  ⟨y.l,y.r,fun h=> .bool (y.ok h)⟩
 | .Compare l ops rs p=>match ops with
  |[op]=>match rs with
   |[rr]=>O3 T (r c) l op rr p S os k
   |_=>ai 95
  |[op,op2]=>match rs with
   |[m,rr]=>O4 T (r c) l op op2 m rr p S os k
   |_=>ai 96
  |_=>ai 97
 | .Name x p=>kg (r c) (.Name x p) (tg p) S os k (fun _=>rfl)
 | .Attribute e x p=>kg (r c) (.Attribute e x p) (tg p) S os k (fun _=>rfl)
 | .Call f args kws p=>kg (r c) (.Call f args kws p) (tg p) S os k (fun _=>rfl)
 | .Constant v n p=>kg (r c) (.Constant v n p) (tg p) S os k (fun _=>rfl)
 | .Subscript e j p=>kg (r c) (.Subscript e j p) (tg p) S os k (fun _=>rfl)
 |_=>ai 98
noncomputable def O5 (ih:Ih prog w K c) (x:Str) (p:Pos) (e:PySem.Expr) (pos:Pos) (S:St) (os:Os prog w K) (k:Fl→St→Os prog w K→Rq):Ct (aV prog w K c (.Assign [.Name x p] e pos) S (Pk k)):=match hc:dy e with
 |false=>ai 100
 |true=>match hk:kind? c x with
  |some .local=>let y:=ih.e e S os fun v S os=>k .next ⟨put x v S.loc,S.σ⟩ os
   ⟨y.l,y.r,fun h=> .name hc hk (af.mono (y.ok h) fun v S' ⟨os',z⟩=>⟨os',z⟩)⟩
  |_=>ai 101
noncomputable def O6 (ih:Ih prog w K c) (o:PySem.Expr) (x:Str) (p:Pos) (e:PySem.Expr) (pos:Pos) (S:St) (os:Os prog w K) (k:Fl→St→Os prog w K→Rq):Ct (aV prog w K c (.Assign [.Attribute o x p] e pos) S (Pk k)):=match hc:dy e with
 |false=>ai 102
 |true=>let y:=ih.e e S os fun v S os=>(ih.e o S os fun ov S os=>bo 106 (vR ov) fun i=>bo 105 (moI S.σ[i]?) fun q=>grd 104 (iy G q.1 x) (grd 103 (Nat.ble q.2.length 100) (k .next ⟨S.loc,S.σ.set i (.inst q.1 (put x v q.2))⟩ os))).rq
  ⟨y.l,y.r,fun h=> .attr T.g hc (af.mono (y.ok h) fun v S1 ⟨os1,z1⟩=>af.mono (Ct.ok _ z1) fun ov S2 ⟨os2,z2⟩=>aA (aT z2) fun i e z=>aA (aT z) fun q hσ z=>bG (dl z) fun ha z=>bG (dl z) fun hl z=>⟨i,q.1,q.2,CP e,GT hσ,ha,hl,os2,z⟩)⟩
noncomputable def O7 (ih:Ih prog w K c) (o j:PySem.Expr) (p:Pos) (e:PySem.Expr) (pos:Pos) (S:St) (os:Os prog w K) (k:Fl→St→Os prog w K→Rq):Ct (aV prog w K c (.Assign [.Subscript o j p] e pos) S (Pk k)):=match hc:dy e with
 |false=>ai 107
 |true=>let y:=ih.e e S os fun v S os=>(ih.e o S os fun ov S os=>(ih.e j S os fun jv S os=>bo 111 (vFv v) fun f=>bo 111 (vR ov) fun i=>bo 111 (oq jv) fun n=>bo 110 (moL S.σ[i]?) fun l=>grd 109 (Nat.blt n l.length) (grd 108 (Nat.blt n 1000) (k .next ⟨S.loc,S.σ.set i (.list (l.set n f))⟩ os))).rq).rq
  ⟨y.l,y.r,fun h=> .sub hc (af.mono (y.ok h) fun v S1 ⟨os1,z1⟩=>af.mono (Ct.ok _ z1) fun ov S2 ⟨os2,z2⟩=>af.mono (Ct.ok _ z2) fun jv S3 ⟨os3,z3⟩=>aA (aT z3) fun f e1 z=>aA (aT z) fun i e2 z=>aA (aT z) fun n e3 z=>aA (aT z) fun l hσ z=>bG (dl z) fun h1 z=>bG (dl z) fun h2 z=>⟨f,i,l,n,g6 e1,CP e2,iP e3,yW hσ,h1,h2,os3,z⟩)⟩
noncomputable def O8 (ih:Ih prog w K c) (a:Str) (pa:Pos) (b:Str) (pb:Pos) (n:Nat) (tp:Pos) (e:PySem.Expr) (pos:Pos) (S:St) (os:Os prog w K) (k:Fl→St→Os prog w K→Rq):Ct (aV prog w K c (.Assign [.Tuple [.Name a pa,.Name b pb] n tp] e pos) S (Pk k)):=match ha:kind? c a with
 |some .local=>match hb:kind? c b with
  |some .local=>match ht:xd e with
   |true=>match e with
    | .Tuple [e1,e2] n2 p2=>match h1:bV e1 with
     |true=>ai 112
     |false=>match h2:bV e2 with
      |true=>ai 113
      |false=>match hw:swp [e1,e2] with
       |false=>ai 114
       |true=>match hab:sq a b with
        |true=>ai 115
        |false=>match hl:Nat.beq pb.line pa.line with
         |false=>ai 116
         |true=>let y:=ih.e (.Tuple [e1,e2] n2 p2) S os fun v S os=>bo 117 (xu v) fun q=>k .next ⟨put a (.f q.1) (put b (.f q.2) S.loc),S.σ⟩ os
          ⟨y.l,y.r,fun h=> .pairSw h1 h2 hw hab hl ha hb (af.mono (y.ok h) fun v S' ⟨os',z⟩=>aA (aT z) fun q e z=>⟨q.1,q.2,tR e,os',z⟩)⟩
    |_=>ai 118
   |false=>match hc:dy e with
    |false=>ai 119
    |true=>let y:=ih.e e S os fun v S os=>bo 120 (xu v) fun q=>k .next ⟨put b (.f q.2) (put a (.f q.1) S.loc),S.σ⟩ os
     ⟨y.l,y.r,fun h=> .pair hc ht ha hb (af.mono (y.ok h) fun v S' ⟨os',z⟩=>aA (aT z) fun q e z=>⟨q.1,q.2,tR e,os',z⟩)⟩
  |_=>ai 121
 |_=>ai 122
noncomputable def CX (s:Stmt) (S:St) (k:Fl→St→Os prog w K→Rq) (c':Cx) (s':Stmt) (S' S2:St) (fl:Fl) (hh:aV prog w K c' s' S' fun f T=>f=fl∧T=S2) (os':Os prog w K):Ct (aV prog w K c s S (Pk k)):=
 let r:=k fl S2 os'
 ⟨.cx c':: .sm s':: .st S'::r.l,.cx c:: .sm s:: .st S::r.r,fun h=>by
  have h1:=GO (List.cons.inj h).1
  replace h:=(List.cons.inj h).2
  have h2:=OM (List.cons.inj h).1
  replace h:=(List.cons.inj h).2
  have h3:=GP (List.cons.inj h).1
  subst h1; subst h2; subst h3
  exact aV.mono hh fun u T e=>⟨os',by rw [e.1,e.2]; exact (List.cons.inj h).2⟩⟩
noncomputable def G9 (ih:Ih prog w K c) (t i:PySem.Expr) (b:List Stmt) (p:Pos) (S:St) (os:Os prog w K) (k:Fl→St→Os prog w K→Rq):Ct (aV prog w K c (.For t i b [] p) S (Pk k)):=match t,i with
 | .Name x tp,.Call (.Name f fp) [e] [] rpos=>match hf:sq f np with
  |true=>Mi T.g T.range ih x tp f fp e rpos b p S os k hf
  |false=>G4 ih (.Name x tp) (.Call (.Name f fp) [e] [] rpos) b p S os k
 |t,i=>G4 ih t i b p S os k
noncomputable def Mu (ih:Ih prog w K c) (st:Stmt) (S:St) (os:Os prog w K) (k:Fl→St→Os prog w K→Rq):Ct (aV prog w K c st S (Pk k)):=match st with
 | .Expr e p=>match hc:dy e with
  |true=>let y:=ih.e e S os fun _ S os=>k .next S os
   ⟨y.l,y.r,fun h=> .expr hc (af.mono (y.ok h) fun v S' ⟨os',z⟩=>⟨os',z⟩)⟩
  |false=>ai 123
 | .Return e p=>match e with
  |some e=>let y:=ih.e e S os fun v S os=>k (.ret v) S os
   ⟨y.l,y.r,fun h=> .ret (af.mono (y.ok h) fun v S' ⟨os',z⟩=>⟨os',z⟩)⟩
  |none=>let r:=k (.ret (.f .none)) S os
   ⟨r.l,r.r,fun h=> .ret0 ⟨os,h⟩⟩
 | .If t a b p=>let y:=ih.b t S os fun y S os=>match y with
   |true=>(ih.x a S os k).rq
   |false=>(ih.x b S os k).rq
  ⟨y.l,y.r,fun h=> .ite (aS.mono (y.ok h) fun y S' ⟨os',z⟩=>by
   cases y
   ·exact (ih.x b S' os' k).ok z
   ·exact (ih.x a S' os' k).ok z)⟩
 | .Assign ts e p=>match ts with
  |[.Name x p']=>O5 ih x p' e p S os k
  |[.Attribute o x p']=>O6 T ih o x p' e p S os k
  |[.Subscript o j p']=>O7 ih o j p' e p S os k
  |[.Tuple [.Name a pa,.Name b pb] n tp]=>O8 ih a pa b pb n tp e p S os k
  |_=>ai 124
 | .While t b o p=>match o with
  |[]=>match os with
   | @Evt.loop _ _ _ c' s' S' S2 fl t' hh::os'=>match hit (tg p) t' with
    |true=>CX _ S k c' s' S' S2 fl hh os'
    |false=>y7 ih t b p S os k
   |os=>y7 ih t b p S os k
  |_=>ai 125
 | .For t i b o p=>match o with
  |[]=>match os with
   | @Evt.loop _ _ _ c' s' S' S2 fl t' hh::os'=>match hit (tg p) t' with
    |true=>CX _ S k c' s' S' S2 fl hh os'
    |false=>G9 T ih t i b p S os k
   |os=>G9 T ih t i b p S os k
  |_=>ai 126
 |_=>ai 127
noncomputable def Ha (ih:Ih prog w K c) (st:Stmt) (ss:List Stmt) (S:St) (os:Os prog w K) (k:Fl→St→Os prog w K→Rq) (rec:(S:St)→(os:Os prog w K)→Ct (aP prog w K c ss S (Pk k))):Ct (aP prog w K c (st::ss) S (Pk k)):=
 let y:=Mu T ih st S os fun fl S os=>match fl with
   | .next=>(rec S os).rq
   | .ret v=>k (.ret v) S os
 ⟨y.l,y.r,fun h=> .cons (aV.mono (y.ok h) fun fl S' ⟨os',z⟩=>match fl,z with
   | .next,z=>(rec S' os').ok z
   | .ret v,z=>⟨os',z⟩)⟩
noncomputable def CY (ih:Ih prog w K c):(ss:List Stmt)→(S:St)→(os:Os prog w K)→(k:Fl→St→Os prog w K→Rq)→Ct (aP prog w K c ss S (Pk k))
 |[],S,os,k=>let r:=k .next S os; ⟨r.l,r.r,fun h=> .nil ⟨os,h⟩⟩
 |st::ss,S,os,k=>Ha T ih st ss S os k fun S os=>CY ih ss S os k
noncomputable def bot (c:Cx):Ih prog w K c:=⟨fun _ _ _ _=>ai 128,fun _ _ _ _=>ai 128,fun _ _ _ _=>ai 128⟩
noncomputable def step (r:(c:Cx)→Ih prog w K c) (c:Cx):Ih prog w K c:=⟨Ms T r c,Mt T r c,CY T (r c)⟩
noncomputable def run (n:Nat):(c:Cx)→Ih prog w K c:=Nat.rec bot (fun _ r=>step T r) n
noncomputable def Ba (n:Nat) (v:V) (σ':List MO) (fl:Fl) (S:St) (_:Os prog w K):Rq:=
 ⟨[.v (flV fl),.mo (S.σ.take σ'.length),.b (fF σ'.length σ'),.b (okV σ'.length v),.b (Nat.ble n σ'.length)],[.v v,.mo σ',.b true,.b true,.b true]⟩
noncomputable def fnC (p:FnP K) (e k:Nat) (args:List V) (σ:List MO) (os:Os prog w K) (v:V) (σ':List MO):Ct (aP prog w K ⟨p.names,e,k⟩ p.body ⟨bO p.ps (args++p.dfl.map V.f),σ⟩ (Pk (prog:=prog) (w:=w) (K:=K) (Ba σ.length v σ'))):=(run T 200 ⟨p.names,e,k⟩).x p.body ⟨bO p.ps (args++p.dfl.map V.f),σ⟩ os (Ba σ.length v σ')
theorem aU.of (p:FnP K) {e k:Nat} {args:List V} {σ σ':List MO} {v:V} (os:Os prog w K) (hn:Nat.beq (args.length+p.dfl.length) p.ps.length=true) (h:(fnC T p e k args σ os v σ').l=(fnC T p e k args σ os v σ').r):aU prog w K (e+k+1) (.ref p.a) args σ v σ':=by
 refine aU.fn p.ok (Nat.eq_of_beq_eq_true hn) (aP.mono (Ct.ok _ h) fun fl S ⟨os',z⟩=> ?_)
 unfold Ba at z
 injection z with h1 z
 injection z with h2 z
 injection z with h3 z
 injection z with h4 z
 injection z with h5 z
 injection h1 with h1
 injection h2 with h2
 injection h3 with h3
 injection h4 with h4
 injection h5 with h5
 refine ⟨h1,S.σ.drop σ'.length,?_,h3,h4,Nat.ble_eq.mp h5⟩
 conv=>lhs; rw [←List.take_append_drop σ'.length S.σ]
 rw [h2]
noncomputable def Hb (c:Cx) (t:PySem.Expr) (S:St) (os:Os prog w K) (b:Bool) (S':St):Ct (aS prog w K c t S (Pk (prog:=prog) (w:=w) (K:=K) fun b1 S1 _=>⟨[.b b1,.st S1],[.b b,.st S']⟩)):=(run T 200 c).b t S os fun b1 S1 _=>⟨[.b b1,.st S1],[.b b,.st S']⟩
theorem aS.of {t:PySem.Expr} {S S':St} (os:Os prog w K) {b:Bool} (h:(Hb T c t S os b S').l=(Hb T c t S os b S').r):aS prog w K c t S fun b1 S1=>b1=b∧S1=S':=aS.mono (Ct.ok _ h) fun b1 S1 ⟨_,z⟩=>by
 injection z with h1 z
 injection z with h2 z
 injection h1 with h1
 injection h2 with h2
 exact ⟨h1,h2⟩
noncomputable def Hc (c:Cx) (t:List Stmt) (S:St) (os:Os prog w K) (f:Fl) (S':St):Ct (aP prog w K c t S (Pk (prog:=prog) (w:=w) (K:=K) fun f1 S1 _=>⟨[.fl f1,.st S1],[.fl f,.st S']⟩)):=(run T 200 c).x t S os fun f1 S1 _=>⟨[.fl f1,.st S1],[.fl f,.st S']⟩
theorem aP.of {t:List Stmt} {S S':St} (os:Os prog w K) {f:Fl} (h:(Hc T c t S os f S').l=(Hc T c t S os f S').r):aP prog w K c t S fun f1 S1=>f1=f∧S1=S':=aP.mono (Ct.ok _ h) fun b1 S1 ⟨_,z⟩=>by
 injection z with h1 z
 injection z with h2 z
 injection h1 with h1
 injection h2 with h2
 exact ⟨h1,h2⟩
noncomputable def whT:Stmt→PySem.Expr
 | .While t _ _ _=>t
 |_=> .Constant .none 0 ⟨0,0,0,0⟩
noncomputable def whB:Stmt→List Stmt
 | .While _ b _ _=>b
 | .For _ _ b _ _=>b
 |_=>[]
noncomputable def whP:Stmt→Pos
 | .While _ _ _ p=>p
 | .For _ _ _ _ p=>p
 |_=>⟨0,0,0,0⟩
noncomputable def stA:List Stmt→Nat→Stmt
 |[],_=> .Pass ⟨0,0,0,0⟩
 |a::_,0=>a
 |_::r,n+1=>stA r n
end
end
end MineS
set_option backward.match.sparseCases true
namespace MineS
noncomputable section
open PySem PySem.W PySem.Calls PyProof.Rows
noncomputable def O9:Value→Tok
 | .int _ t=>t
 | .str _ t=>t
 |_=>0
noncomputable def Mv (t:Tok):Fv→Option Value
 | .none=>some .none
 | .int i=>some (.int i t)
 | .str cs=>some (.str ⟨cs.toArray⟩ t)
 | .glob a=>some (.ref a)
 | .ty n=>some (.type n)
 |_=>none
noncomputable def eqO (u:Value) (o:Option Value):Bool:=Option.rec false (fun v=>decide (u=v)) o
noncomputable def Bb (f:Fv) (u:Value):Bool:=eqO u (Mv (O9 u) f)
noncomputable def xJ:List Fv→List Value→Bool
 |[],us=>us.isEmpty
 |f::fs,us=>List.rec false (fun u r _=>Bb f u && xJ fs r) us
noncomputable def g9 (K:Frag) (f:Fv) (u:Value):Prop:= ∀F:Fz,FLe (fun a=>K.lookup a) F→aG F f u
theorem vk {f:Fv} {u:Value} (h:Bb f u=true) (F:Fz):aG F f u:=by
 cases f<;>first|exact Bool.noConfusion h|(rw [show u=_ from of_decide_eq_true h]; constructor)
theorem vm (F:Fz): ∀(fs:List Fv) (us:List Value),xJ fs us=true→aJ F fs us:=by
 intro fs
 induction fs with
 |nil=>
  intro us h
  cases us with
  |nil=>exact .nil
  |cons=>exact Bool.noConfusion h
 |cons f fs ih=>
  intro us h
  cases us with
  |nil=>exact Bool.noConfusion h
  |cons u us=>
   have h:=(Bool.and_eq_true _ _).mp h
   exact .cons (vk h.1 F) (ih us h.2)
noncomputable def Bc:Option Obj→List Value×Nat
 |some ⟨_,_,.seq xs n,_⟩=>(xs.toList,n)
 |_=>([],0)
theorem gV {K:Frag} {a:Addr} {l:List Fv} (h:K.lookup a=some (n8 (Bc (K.lookup a)).1.toArray (Bc (K.lookup a)).2)) (hl:xJ l (Bc (K.lookup a)).1=true):g9 K (.tup l) (.ref a):=fun F L=> .tup (L _ _ h) (vm F l _ hl)
theorem fy {α:Type} {x:Str} {v:α}: ∀{l:List (Str×α)},look x l=some v→(x,v)∈l
 |[],h=>by cases h
 |(y,u)::r,h=>by
  simp only [look] at h
  split at h
  ·rename_i q; cases h; rw [(bU _ _).mp q]; simp
  ·simp [fy h]
theorem eu {α:Type} {a:Nat} {v:α}: ∀{l:List (Nat×α)},bx a l=some v→(a,v)∈l
 |[],h=>by cases h
 |(b,u)::r,h=>by
  simp only [bx] at h
  split at h
  ·rename_i q; cases h; rw [Nat.eq_of_beq_eq_true q]; simp
  ·simp [eu h]
theorem hG {a:Nat}: ∀{l:List Nat},cC a l=true→a∈l
 |[],h=>by cases h
 |b::r,h=>by
  simp only [cC] at h
  split at h
  ·rename_i q; rw [Nat.eq_of_beq_eq_true q]; simp
  ·simp [hG h]
noncomputable def Hd (es:Array DictEntry):Bool:=es.toList.all fun e=>match e.key with
 | .str _ _=>true
 |_=>false
theorem DM {es:Array DictEntry} (h:Hd es=true):StrKeys es:=by
 intro e he
 have:=List.all_eq_true.mp h e (by simpa using he)
 split at this
 ·rename_i q; exact ⟨_,_,q⟩
 ·cases this
noncomputable def nsO (K:Frag) (a:Addr):Option (Array DictEntry):=match K.lookup a with
 |some ⟨_,_,.dict es _,_⟩=>match Hd es with
  |true=>some es
  |false=>none
 |_=>none
theorem nq {K:Frag} {a:Addr} {es:Array DictEntry} (h:nsO K a=some es): ∀h:Heap,K.In h→h.Ns a (fun x=>nsFind es x):=by
 intro hp X
 unfold nsO at h
 split at h
 ·rename_i e
  split at h
  ·rename_i q
   cases h
   exact ⟨_,_,_,X _ _ e,rfl,DM q,fun _=>rfl⟩
  ·cases h
 ·cases h
noncomputable def Bd (f:Fv) (o:Option Value):Bool:=Option.rec false (fun u=>Bb f u) o
theorem vo {K:Frag} {f:Fv} {o:Option Value} (h:Bd f o=true): ∃u,o=some u∧g9 K f u:=by
 cases o with
 |none=>exact Bool.noConfusion h
 |some u=>exact ⟨u,rfl,fun F _=>vk h F⟩
structure Chk (K:Frag) (G:Gl) (e3 e0:Array DictEntry):Prop where
 n3:nsO K 3=some e3
 n0:nsO K 0=some e0
 glb: ∀p∈G.glb,∃u,nsFind e3 p.1=some u∧g9 K p.2 u
 bin:(G.bin.all fun p=>(nsFind e3 p.1).isNone && Bd p.2 (nsFind e0 p.1))=true
 bis:(G.bis.all fun p=>(nsFind e3 p.1).isNone && match nsFind e0 p.1 with|some (.builtin i)=>i==p.2|_=>false)=true
 fns:(G.fns.all fun a=>keepIn K (.ref a))=true
 ga:(G.att.all fun p=>findIn K (.ref p.1) (Str.ofString "__getattribute__")==some (some (.builtin "object.__getattribute__")) && findIn K (.ref p.1) (Str.ofString "__setattr__")==some (some (.builtin "object.__setattr__")) && hasDictIn K p.1 && plainOver K p.1)=true
 att:(G.att.all fun p=>p.2.all fun x=>match findIn K (.ref p.1) x with|some r=>noGet K r && takerIn K p.1 x==some none|none=>false)=true
 gm:(G.mth.all fun p=>plainGet K p.1 (Str.ofString "x"))=true
 mth:(G.mth.all fun p=>p.2.all fun q=>findIn K (.ref p.1) q.1==some (some (.ref q.2)) && typeIn K (.ref q.2)==some (.type "function") && keepIn K (.ref q.2))=true
 own:(G.own.all fun D=>plainGet K D (Str.ofString "__class__") && hasDictIn K D && findIn K (.ref D) (Str.ofString "__class__")==some (some (.builtin "object.__class__")) && mroIn K D (.type "object")==some true)=true
 own2:specialIn K (.builtin "object.__class__") (Str.ofString "__get__")=some (some (.builtin "getset_descriptor.__get__"))
 own3:takesIn K (.builtin "object.__class__")=some true
 sup:(G.sup.all fun p=>G.own.all fun C=>kitOne K (.ref p.1) (.ref C)==some (cC C p.2))=true
theorem de {α:Type} {p:α→Bool} {l:List α} (h:l.all p=true) {x:α} (hx:x∈l):p x=true:=List.all_eq_true.mp h x hx
noncomputable def Chk.gok {K:Frag} {G:Gl} {e3 e0:Array DictEntry} {prog:Program} {w:World} (k:Chk K G e3 e0) (dcs: ∀a kv,bx a G.dcs=some kv→(∀p∈kv,eh p.2=true)∧ ∀h:Heap,K.In h→IsDict prog w h a (kv.map fun p=>(.str ⟨p.1.toArray⟩,eK p.2)) []):GOK prog w K G where
 mg:=fun x=>nsFind e3 x
 mb:=fun x=>nsFind e0 x
 g3:=nq k.n3
 b0:=nq k.n0
 glb:=fun x f h=>k.glb (x,f) (fy h)
 bin:=fun x f h=>
  have:=(Bool.and_eq_true _ _).mp (de k.bin (fy h))
  ⟨Option.isNone_iff_eq_none.mp this.1,vo this.2⟩
 bis:=fun x f h=>by
  have:=de k.bis (fy h)
  dsimp only at this
  rw [Bool.and_eq_true] at this
  refine ⟨Option.isNone_iff_eq_none.mp this.1,?_⟩
  have h2:=this.2
  split at h2
  ·rename_i u hu; rw [hu,eq_of_beq h2]
  ·cases h2
 fns:=fun a h=>de k.fns (hG h)
 ga:=fun c l h=>by
  have:=de k.ga (eu h)
  simp only [Bool.and_eq_true,beq_iff_eq] at this
  exact ⟨this.1.1.1,this.1.1.2,this.1.2,this.2⟩
 att:=fun c x h=>by
  unfold iy at h
  split at h
  ·rename_i l hl
   have:=de (de k.att (eu hl)) ((jD x l).mp h)
   dsimp only at this
   split at this
   ·rename_i r hr
    rw [Bool.and_eq_true,beq_iff_eq] at this
    exact ⟨r,hr,this.1,this.2⟩
   ·cases this
  ·cases h
 gm:=fun c l h=>by
  have:=de k.gm (eu h)
  unfold plainGet at this
  simp only [Bool.and_eq_true,beq_iff_eq] at this
  exact this
 mth:=fun c x f h=>by
  unfold fG at h
  split at h
  ·rename_i l hl
   have:=de (de k.mth (eu hl)) (fy h)
   simp only [Bool.and_eq_true,beq_iff_eq] at this
   exact ⟨this.1.1,this.1.2,this.2⟩
  ·cases h
 own:=fun D h=>by
  have:=de k.own (hG h)
  simp only [Bool.and_eq_true,beq_iff_eq] at this
  exact ⟨this.1.1.1,this.1.1.2,this.1.2,k.own2,k.own3,this.2⟩
 sup:=fun D l C h hc=>by
  have:=de (de k.sup (eu h)) (hG hc)
  exact beq_iff_eq.mp this
 dcs:=dcs
noncomputable def tt (K:Frag) (cd:Value) (q:Str):Bool:=match cd with
 | .ref c=>match K.lookup c with
  |some ⟨_,_,.fields vs,_⟩=>match vs.toList with
   |_:: .str q' _::_=>sq q q'
   |_=>false
  |_=>false
 |_=>false
theorem tW {K:Frag} {cd:Value} {q:Str} (h:tt K cd q=true): ∀hp:Heap,K.In hp→hp.CodeRec cd q:=by
 intro hp X
 unfold tt at h
 split at h
 ·split at h
  ·rename_i y1 y2 vs y3 e
   split at h
   ·rename_i v q' t r hv
    refine ⟨_,_,vs,t,rfl,X _ _ e,rfl,?_⟩
    rw [(bU _ _).mp h,←Array.getElem?_toList,hv]; rfl
   ·cases h
  ·cases h
 ·cases h
noncomputable def scB (sc:Scope) (ps:List Str):Bool:= !sc.isCoroutine && !sc.isGenerator && xG sc.kind && (sc.names.all fun x=>match x.2 with| .cell=>false|_=>true) && (ps.all fun x=>match look x sc.names with|some .local=>true|_=>false) && jC ps
theorem He {K:Frag} {es:Array DictEntry} (h:nsO K 2=some es) (h2:nsFind es (Str.ofString "sys.recursionlimit")=none): ∀hp:Heap,K.In hp→hp.NoLimit:=fun hp X=>⟨_,nq h hp X,h2⟩
noncomputable def Bnd (K:Frag) (fd:FuncData) (ps:List Str) (dv:List Value):Prop:= ∀(s:Shared) (vals:List Value),K.In s.heap→(vals++dv).length=ps.length→BindsTo s fd ⟨vals,[]⟩ (bO ps (vals++dv))
noncomputable def Fn.of {K:Frag} {a:Addr} {o:Obj} {fd:FuncData} {body:List Stmt} {ps:List Str} {dfl:List Fv} {dv:List Value} (hat:K.lookup a=some o) (hd:o.data= .func fd) (hb:fd.body= .stmts body) (hg:fd.globals=3) (hbu:fd.builtins=0) (hc:tt K fd.code fd.qualname=true) (lim: ∀hp:Heap,K.In hp→hp.NoLimit)
  (hs:scB fd.scope ps=true) (dr:xJ dfl dv=true) (bnd:Bnd K fd ps dv):Fn K a ps dfl body fd.scope.names:=
 have hs':((((fd.scope.isCoroutine=false∧fd.scope.isGenerator=false)∧xG fd.scope.kind=true)∧(∀x∈fd.scope.names,(match x.2 with| .cell=>false|_=>true)=true))∧(∀x∈ps,(match look x fd.scope.names with|some .local=>true|_=>false)=true))∧jC ps=true:=by
  unfold scB at hs
  simpa only [Bool.and_eq_true,Bool.not_eq_true',List.all_eq_true] using hs
 {o:=o,fd:=fd,at_:=hat,data:=hd,body_:=hb,names_:=rfl,co:=hs'.1.1.1.1.1,gen:=hs'.1.1.1.1.2,kind:=vj hs'.1.1.1.2,glob:=hg,bui:=hbu,code:=tW hc,lim:=lim,dv:=dv,dr:=fun F _=>vm F _ _ dr,bind:=bnd,nod:=hs'.2
  cell:=fun x hx e=>by have:=hs'.1.1.2 x hx; rw [e] at this; cases this
  loc:=fun x hx=>by
   have:=hs'.1.2 x hx
   split at this
   ·rename_i e; rw [←dZ]; exact e
   ·cases this}
noncomputable def tX:Nat→(List Value→Prop)→Prop
 |0,p=>p []
 |n+1,p=> ∀a,tX n fun l=>p (a::l)
theorem Hf: ∀(n:Nat) (p:List Value→Prop),tX n p→ ∀l:List Value,l.length=n→p l:=by
 intro n
 induction n with
 |zero=>intro p h l e; rw [List.length_eq_zero_iff.mp e]; exact h
 |succ n ih=>
  intro p h l e
  cases l with
  |nil=>exact Nat.noConfusion e
  |cons a l=>exact ih _ (h a) l (Nat.succ.inj e)
theorem Pa {K:Frag} {fd:FuncData} {ps:List Str} (h:tX ps.length fun l=>bindArgs fd ⟨l,[]⟩=pure (bO ps l)):Bnd K fd ps []:=fun s vals _ e=>by
 rw [List.append_nil] at e ⊢
 exact BindsTo.of_eq (Hf _ _ h vals e)
theorem xK {K:Frag} {fd:FuncData} {ps:List Str} {dv:List Value} (n:Nat) (hn:n+dv.length=ps.length) (h:tX n fun l=> ∀S,peek K S (bindArgs fd ⟨l,[]⟩)=some (bO ps (l++dv))):Bnd K fd ps dv:=fun s vals X e=>fun M A E Q q Γ p _=>
 wp_of_peek X q _ (Hf _ _ h vals (by rw [List.length_append,←hn] at e; exact Nat.add_right_cancel e) _)
noncomputable def Hg:Option Value→Addr
 |some (.ref a)=>a
 |_=>0
theorem tpO {K:Frag} {f:Fv} {o:Option Value} (h:o=some (.ref (Hg o))) (r:g9 K f (.ref (Hg o))): ∃u,o=some u∧g9 K f u:=⟨_,h,r⟩
theorem Be {K:Frag} {es:Array DictEntry} {l:List (Str×Fv)} (h:(l.all fun p=>Bd p.2 (nsFind es p.1))=true): ∀p∈l,∃u,nsFind es p.1=some u∧g9 K p.2 u:=fun p hp=>vo (de h hp)
theorem DN {K:Frag} {es:Array DictEntry} {l a b:List (Str×Fv)} (e:l=a++b) (h1: ∀p∈a,∃u,nsFind es p.1=some u∧g9 K p.2 u) (h2: ∀p∈b,∃u,nsFind es p.1=some u∧g9 K p.2 u): ∀p∈l,∃u,nsFind es p.1=some u∧g9 K p.2 u:=fun p hp=>
 (List.mem_append.mp (e▸hp)).elim (h1 p) (h2 p)
noncomputable def oz:List DictEntry→List (List Nat×Fv)→Bool
 |[],[]=>true
 |e::es,(k,f)::kv=>(match e.key with
  | .str x _=>az x.cps.toList k && !k.isEmpty
  |_=>false) && (match f,e.val with
  | .int i,.int j _=>decide (i=j)
  | .str cs,.str s _=>az cs s.cps.toList
  |_,_=>false) && oz es kv
 |_,_=>false
theorem oC {h:Heap}: ∀{es:List DictEntry} {kv:List (List Nat×Fv)},oz es kv=true→ReadsAll h (es.map (·.key)) ((kv.map fun p=>(PyData.str ⟨p.1.toArray⟩,eK p.2)).map (·.1)) []∧ReadsAll h (es.map (·.val)) ((kv.map fun p=>(PyData.str ⟨p.1.toArray⟩,eK p.2)).map (·.2)) []∧ ∀p∈kv,eh p.2=true
 |[],[],_=>⟨.nil,.nil,by simp⟩
 |e::es,(k,f)::kv,h'=>by
  unfold oz at h'
  rw [Bool.and_eq_true,Bool.and_eq_true] at h'
  obtain ⟨⟨h1,h2⟩,h3⟩:=h'
  obtain ⟨r1,r2,r3⟩:=oC (h:=h) h3
  have k1:Reads h e.key (.str ⟨k.toArray⟩) []:=by
   split at h1
   ·rename_i x t hk
    rw [Bool.and_eq_true] at h1
    rw [hk,←(bj _ _).mp h1.1]
    have:=Reads.str (h:=h) x t
    simpa using this
   ·cases h1
  have k2:Reads h e.val (eK f) []∧eh f=true:=by
   split at h2
   ·rename_i i j t hk; rw [hk,of_decide_eq_true h2]; exact ⟨.int _ _,rfl⟩
   ·rename_i cs s t hk
    rw [hk,(bj _ _).mp h2]
    have:=Reads.str (h:=h) s t
    exact ⟨by simpa [eK] using this,rfl⟩
   ·cases h2
  exact ⟨.cons k1 r1,.cons k2.1 r2,by
   intro p hp
   rcases List.mem_cons.mp hp with rfl|hp
   ·exact k2.2
   ·exact r3 p hp⟩
 |[],_::_,h'=>by unfold oz at h'; cases h'
 |_::_,[],h'=>by unfold oz at h'; cases h'
theorem nr: ∀{l:List Str},jC l=true→l.Nodup
 |[],_=> .nil
 |x::r,h=>by
  unfold jC at h
  split at h
  ·cases h
  ·rename_i q
   rw [List.nodup_cons]
   refine ⟨fun hx=> ?_,nr h⟩
   rw [(jD x r).mpr hx] at q; cases q
theorem oD {prog:Program} {w:World} {K:Frag} {a:Addr} {es:Array DictEntry} {n:Nat} {kv:List (List Nat×Fv)} (hK:K.lookup a=some ⟨.type "dict",none,.dict es n,#[]⟩) (hs:(a==sysModules)=false) (hc:oz es.toList kv=true) (hn:jC (kv.map fun p=>mk p.1)=true)
  (hh:es.toList.map (·.hash)=es.toList.map fun e=>match e.key with| .str x _=>hashStr w x|_=>0):(∀p∈kv,eh p.2=true)∧ ∀h:Heap,K.In h→IsDict prog w h a (kv.map fun p=>(.str ⟨p.1.toArray⟩,eK p.2)) []:=by
 refine ⟨(oC (h:=default) hc).2.2,fun h X=> ?_⟩
 obtain ⟨r1,r2,_⟩:=oC (h:=h) hc
 refine IsDict.of0 ⟨hs,_,es,n,X _ _ hK,⟨rfl,rfl,rfl⟩,rfl,r1,r2,fun q hq=> ?_,?_⟩ ?_
 ·obtain ⟨p,_,rfl⟩:=List.mem_map.mp hq; exact ⟨_,rfl⟩
 ·have:=nr hn
  rw [List.map_map]
  have e:((fun x:PyData×PyData=>x.1)∘fun p:List Nat×Fv=>(PyData.str ⟨p.1.toArray⟩,eK p.2))=PyData.str∘fun p=>mk p.1:=rfl
  rw [e,←List.map_map]
  exact List.pairwise_map.mpr (List.Pairwise.imp (fun h e=>h (by injection e)) this)
 ·intro o es' n' ho hd e he x t hk
  rw [X _ _ hK] at ho; cases ho; cases hd
  have he':e∈es.toList:=by simpa using he
  have: ∀{l:List DictEntry},l.map (·.hash)=l.map (fun e=>match e.key with| .str x _=>hashStr w x|_=>0)→ ∀e∈l,e.hash=match e.key with| .str x _=>hashStr w x|_=>0:=by
   intro l
   induction l with
   |nil=>intro _ e he; cases he
   |cons a l ih=>
    intro h e he
    injection h with h1 h2
    rcases List.mem_cons.mp he with rfl|he
    ·exact h1
    ·exact ih h2 e he
  rw [this hh e he',hk]
noncomputable def oA:List Obj→Nat→Obj
 |[],_=>⟨.none,none,.plain,#[]⟩
 |a::_,0=>a
 |_::r,n+1=>oA r n
end
end MineS
namespace MineS
noncomputable section
open PySem PySem.W PySem.Calls PyProof.Rows
noncomputable abbrev mm:Nat→Nat:=fun a=>if a=50 then 1 else if a=64 then 16 else if a=511 then 1 else if a=524 then 1 else 0
noncomputable def KK (P:Params):Frag:=[(3,oA (Mine.ob35 P) 3),
 (0,boot_o_0 P),
 (2,oA (Mine.ob35 P) 2),
 (28,oA (Mine.c0x0 P mm) 13),
 (27,oA (Mine.c0x0 P mm) 12),
 (33,oA (Mine.c0x0 P mm) 18),
 (32,oA (Mine.c0x0 P mm) 17),
 (80,oA (Mine.c2x0 P) 13),
 (79,oA (Mine.c2x0 P) 12),
 (87,oA (Mine.c2x0 P) 20),
 (86,oA (Mine.c2x0 P) 19),
 (106,oA (Mine.c3x0 P) 13),
 (105,oA (Mine.c3x0 P) 12),
 (113,oA (Mine.c3x0 P) 20),
 (112,oA (Mine.c3x0 P) 19),
 (132,oA (Mine.c4x0 P) 13),
 (131,oA (Mine.c4x0 P) 12),
 (139,oA (Mine.c4x0 P) 20),
 (138,oA (Mine.c4x0 P) 19),
 (158,oA (Mine.c5x0 P) 13),
 (157,oA (Mine.c5x0 P) 12),
 (165,oA (Mine.c5x0 P) 20),
 (164,oA (Mine.c5x0 P) 19),
 (184,oA (Mine.c6x0 P) 13),
 (183,oA (Mine.c6x0 P) 12),
 (191,oA (Mine.c6x0 P) 20),
 (190,oA (Mine.c6x0 P) 19),
 (210,oA (Mine.c7x0 P) 13),
 (209,oA (Mine.c7x0 P) 12),
 (217,oA (Mine.c7x0 P) 20),
 (216,oA (Mine.c7x0 P) 19),
 (236,oA (Mine.c8x0 P) 13),
 (235,oA (Mine.c8x0 P) 12),
 (243,oA (Mine.c8x0 P) 20),
 (242,oA (Mine.c8x0 P) 19),
 (340,oA (Mine.c12x0 P) 13),
 (339,oA (Mine.c12x0 P) 12),
 (345,oA (Mine.c12x0 P) 18),
 (344,oA (Mine.c12x0 P) 17),
 (364,oA (Mine.c13x0 P) 13),
 (363,oA (Mine.c13x0 P) 12),
 (371,oA (Mine.c13x0 P) 20),
 (370,oA (Mine.c13x0 P) 19),
 (390,oA (Mine.c14x0 P) 13),
 (389,oA (Mine.c14x0 P) 12),
 (397,oA (Mine.c14x0 P) 20),
 (396,oA (Mine.c14x0 P) 19),
 (416,oA (Mine.c15x0 P) 13),
 (415,oA (Mine.c15x0 P) 12),
 (423,oA (Mine.c15x0 P) 20),
 (422,oA (Mine.c15x0 P) 19),
 (442,oA (Mine.c16x0 P) 13),
 (441,oA (Mine.c16x0 P) 12),
 (449,oA (Mine.c16x0 P) 20),
 (448,oA (Mine.c16x0 P) 19),
 (468,oA (Mine.c17x0 P) 13),
 (467,oA (Mine.c17x0 P) 12),
 (475,oA (Mine.c17x0 P) 20),
 (474,oA (Mine.c17x0 P) 19),
 (487,oA (Mine.c17x0 P) 32),
 (486,oA (Mine.c17x0 P) 31),
 (494,oA (Mine.c17x0 P) 39),
 (493,oA (Mine.c17x0 P) 38),
 (554,oA (Mine.c22x0 P) 6),
 (553,oA (Mine.c22x0 P) 5),
 (561,oA (Mine.c22x0 P) 13),
 (560,oA (Mine.c22x0 P) 12),
 (568,oA (Mine.c22x0 P) 20),
 (567,oA (Mine.c22x0 P) 19),
 (582,oA (Mine.c23x0 P) 13),
 (581,oA (Mine.c23x0 P) 12),
 (589,oA (Mine.c23x0 P) 20),
 (588,oA (Mine.c23x0 P) 19),
 (596,oA (Mine.c23x0 P) 27),
 (595,oA (Mine.c23x0 P) 26),
 (603,oA (Mine.c23x0 P) 34),
 (602,oA (Mine.c23x0 P) 33),
 (610,oA (Mine.c23x1 P) 1),
 (609,oA (Mine.c23x1 P) 0),
 (638,oA (Mine.c24x0 P) 13),
 (637,oA (Mine.c24x0 P) 12),
 (645,oA (Mine.c24x0 P) 20),
 (644,oA (Mine.c24x0 P) 19),
 (659,oA (Mine.c24x0 P) 34),
 (658,oA (Mine.c24x0 P) 33),
 (666,oA (Mine.c24x1 P) 1),
 (665,oA (Mine.c24x1 P) 0),
 (673,oA (Mine.c24x1 P) 8),
 (672,oA (Mine.c24x1 P) 7),
 (680,oA (Mine.c24x1 P) 15),
 (679,oA (Mine.c24x1 P) 14),
 (687,oA (Mine.c24x1 P) 22),
 (686,oA (Mine.c24x1 P) 21),
 (694,oA (Mine.c24x1 P) 29),
 (693,oA (Mine.c24x1 P) 28),
 (701,oA (Mine.c24x1 P) 36),
 (700,oA (Mine.c24x1 P) 35),
 (708,oA (Mine.c24x2 P) 3),
 (707,oA (Mine.c24x2 P) 2),
 (715,oA (Mine.c24x2 P) 10),
 (714,oA (Mine.c24x2 P) 9),
 (722,oA (Mine.c24x2 P) 17),
 (721,oA (Mine.c24x2 P) 16),
 (736,oA (Mine.c25x0 P) 6),
 (735,oA (Mine.c25x0 P) 5),
 (754,oA (Mine.c29x0 P) 13),
 (753,oA (Mine.c29x0 P) 12),
 (762,oA (Mine.c29x0 P) 21),
 (761,oA (Mine.c29x0 P) 20),
 (769,oA (Mine.c29x0 P) 28),
 (768,oA (Mine.c29x0 P) 27),
 (776,oA (Mine.c29x0 P) 35),
 (775,oA (Mine.c29x0 P) 34),
 (783,oA (Mine.c29x1 P) 2),
 (782,oA (Mine.c29x1 P) 1),
 (790,oA (Mine.c29x1 P) 9),
 (789,oA (Mine.c29x1 P) 8),
 (797,oA (Mine.c29x1 P) 16),
 (796,oA (Mine.c29x1 P) 15),
 (804,oA (Mine.c29x1 P) 23),
 (803,oA (Mine.c29x1 P) 22),
 (811,oA (Mine.c29x1 P) 30),
 (810,oA (Mine.c29x1 P) 29),
 (818,oA (Mine.c29x1 P) 37),
 (817,oA (Mine.c29x1 P) 36),
 (825,oA (Mine.c29x2 P) 4),
 (824,oA (Mine.c29x2 P) 3),
 (839,oA (Mine.c29x2 P) 18),
 (838,oA (Mine.c29x2 P) 17),
 (846,oA (Mine.c29x2 P) 25),
 (845,oA (Mine.c29x2 P) 24),
 (853,oA (Mine.c29x2 P) 32),
 (852,oA (Mine.c29x2 P) 31),
 (875,oA (Mine.c30x0 P) 7),
 (874,oA (Mine.c30x0 P) 6),
 (882,oA (Mine.c30x0 P) 14),
 (881,oA (Mine.c30x0 P) 13),
 (889,oA (Mine.c30x0 P) 21),
 (888,oA (Mine.c30x0 P) 20),
 (896,oA (Mine.c30x0 P) 28),
 (895,oA (Mine.c30x0 P) 27),
 (903,oA (Mine.c30x0 P) 35),
 (902,oA (Mine.c30x0 P) 34),
 (917,oA (Mine.c31x0 P) 13),
 (916,oA (Mine.c31x0 P) 12),
 (925,oA (Mine.c31x0 P) 21),
 (924,oA (Mine.c31x0 P) 20),
 (930,oA (Mine.c31x0 P) 26),
 (929,oA (Mine.c31x0 P) 25),
 (937,oA (Mine.c31x0 P) 33),
 (936,oA (Mine.c31x0 P) 32),
 (944,oA (Mine.c31x1 P) 0),
 (943,oA (Mine.c31x0 P) 39),
 (951,oA (Mine.c31x1 P) 7),
 (950,oA (Mine.c31x1 P) 6),
 (958,oA (Mine.c31x1 P) 14),
 (957,oA (Mine.c31x1 P) 13),
 (979,oA (Mine.c33x0 P) 13),
 (978,oA (Mine.c33x0 P) 12),
 (986,oA (Mine.c33x0 P) 20),
 (985,oA (Mine.c33x0 P) 19),
 (993,oA (Mine.c33x0 P) 27),
 (992,oA (Mine.c33x0 P) 26),
 (1000,oA (Mine.c33x0 P) 34),
 (999,oA (Mine.c33x0 P) 33),
 (1014,oA (Mine.c33x1 P) 8),
 (1013,oA (Mine.c33x1 P) 7),
 (1021,oA (Mine.c33x1 P) 15),
 (1020,oA (Mine.c33x1 P) 14),
 (1028,oA (Mine.c33x1 P) 22),
 (1027,oA (Mine.c33x1 P) 21),
 (1042,oA (Mine.c33x1 P) 36),
 (1041,oA (Mine.c33x1 P) 35),
 (1049,oA (Mine.c33x2 P) 3),
 (1048,oA (Mine.c33x2 P) 2),
 (1056,oA (Mine.c33x2 P) 10),
 (1055,oA (Mine.c33x2 P) 9),
 (1063,oA (Mine.c33x2 P) 17),
 (1062,oA (Mine.c33x2 P) 16),
 (1070,oA (Mine.c33x2 P) 24),
 (1069,oA (Mine.c33x2 P) 23),
 (1077,oA (Mine.c33x2 P) 31),
 (1076,oA (Mine.c33x2 P) 30),
 (1084,oA (Mine.c33x2 P) 38),
 (1083,oA (Mine.c33x2 P) 37),
 (1091,oA (Mine.c33x3 P) 5),
 (1090,oA (Mine.c33x3 P) 4),
 (1105,oA (Mine.c34x0 P) 6),
 (1104,oA (Mine.c34x0 P) 5),
 (1112,oA (Mine.c34x0 P) 13),
 (1111,oA (Mine.c34x0 P) 12),
 (1119,oA (Mine.c34x0 P) 20),
 (1118,oA (Mine.c34x0 P) 19),
 (1126,oA (Mine.c34x0 P) 27),
 (1125,oA (Mine.c34x0 P) 26),
 (1133,oA (Mine.c34x0 P) 34),
 (1132,oA (Mine.c34x0 P) 33),
 (1140,oA (Mine.c34x1 P) 1),
 (1139,oA (Mine.c34x1 P) 0),
 (1147,oA (Mine.c34x1 P) 8),
 (1146,oA (Mine.c34x1 P) 7),
 (1152,oA (Mine.c34x1 P) 13),
 (1151,oA (Mine.c34x1 P) 12),
 (1157,oA (Mine.c34x1 P) 18),
 (1156,oA (Mine.c34x1 P) 17),
 (1164,oA (Mine.c34x1 P) 25),
 (1163,oA (Mine.c34x1 P) 24),
 (1171,oA (Mine.c34x1 P) 32),
 (1170,oA (Mine.c34x1 P) 31),
 (755,oA (Mine.c29x0 P) 14),
 (918,oA (Mine.c31x0 P) 14),
 (50,oA (Mine.c0x0 P mm) 35),
 (49,oA (Mine.c0x0 P mm) 34),
 (64,oA (Mine.c1x0 P mm) 9),
 (63,oA (Mine.c1x0 P mm) 8),
 (90,oA (Mine.c2x0 P) 23),
 (89,oA (Mine.c2x0 P) 22),
 (116,oA (Mine.c3x0 P) 23),
 (115,oA (Mine.c3x0 P) 22),
 (142,oA (Mine.c4x0 P) 23),
 (141,oA (Mine.c4x0 P) 22),
 (168,oA (Mine.c5x0 P) 23),
 (167,oA (Mine.c5x0 P) 22),
 (194,oA (Mine.c6x0 P) 23),
 (193,oA (Mine.c6x0 P) 22),
 (220,oA (Mine.c7x0 P) 23),
 (219,oA (Mine.c7x0 P) 22),
 (246,oA (Mine.c8x0 P) 23),
 (245,oA (Mine.c8x0 P) 22),
 (272,oA (Mine.c9x0 P) 23),
 (271,oA (Mine.c9x0 P) 22),
 (298,oA (Mine.c10x0 P) 23),
 (297,oA (Mine.c10x0 P) 22),
 (324,oA (Mine.c11x0 P) 23),
 (323,oA (Mine.c11x0 P) 22),
 (348,oA (Mine.c12x0 P) 21),
 (347,oA (Mine.c12x0 P) 20),
 (374,oA (Mine.c13x0 P) 23),
 (373,oA (Mine.c13x0 P) 22),
 (400,oA (Mine.c14x0 P) 23),
 (399,oA (Mine.c14x0 P) 22),
 (426,oA (Mine.c15x0 P) 23),
 (425,oA (Mine.c15x0 P) 22),
 (452,oA (Mine.c16x0 P) 23),
 (451,oA (Mine.c16x0 P) 22),
 (478,oA (Mine.c17x0 P) 23),
 (477,oA (Mine.c17x0 P) 22),
 (620,oA (Mine.c23x1 P) 11),
 (619,oA (Mine.c23x1 P) 10),
 (725,oA (Mine.c24x2 P) 20),
 (724,oA (Mine.c24x2 P) 19),
 (863,oA (Mine.c29x3 P) 2),
 (862,oA (Mine.c29x3 P) 1),
 (961,oA (Mine.c31x1 P) 17),
 (960,oA (Mine.c31x1 P) 16),
 (1094,oA (Mine.c33x3 P) 8),
 (1093,oA (Mine.c33x3 P) 7),
 (546,oA (Mine.c20x0 P) 19),
 (548,oA (Mine.c22x0 P) 0),
 (549,oA (Mine.c22x0 P) 1),
 (739,oA (Mine.c28x0 P) 0),
 (740,oA (Mine.c28x0 P) 1),
 (868,oA (Mine.c30x0 P) 0),
 (547,oA (Mine.c21x0 P) 0),
 (737,oA (Mine.c26x0 P) 0),
 (738,oA (Mine.c27x0 P) 0)]
noncomputable def kAs:List Addr:=[3,0,2,28,27,33,32,80,79,87,86,106,105,113,112,132,131,139,138,158,157,165,164,184,183,191,190,210,209,217,216,236,235,243,242,340,339,345,344,364,363,371,370,390,389,397,396,416,415,423,422,442,441,449,448,468,467,475,474,487,486,494,493,554,553,561,560,568,567,582,581,589,588,596,595,603,602,610,609,638,637,645,644,659,658,666,665,673,672,680,679,687,686,694,693,701,700,708,707,715,714,722,721,736,735,754,753,762,761,769,768,776,775,783,782,790,789,797,796,804,803,811,810,818,817,825,824,839,838,846,845,853,852,875,874,882,881,889,888,896,895,903,902,917,916,925,924,930,929,937,936,944,943,951,950,958,957,979,978,986,985,993,992,1000,999,1014,1013,1021,1020,1028,1027,1042,1041,1049,1048,1056,1055,1063,1062,1070,1069,1077,1076,1084,1083,1091,1090,1105,1104,1112,1111,1119,1118,1126,1125,1133,1132,1140,1139,1147,1146,1152,1151,1157,1156,1164,1163,1171,1170,755,918,50,49,64,63,90,89,116,115,142,141,168,167,194,193,220,219,246,245,272,271,298,297,324,323,348,347,374,373,400,399,426,425,452,451,478,477,620,619,725,724,863,862,961,960,1094,1093,546,548,549,739,740,868,547,737,738]
theorem Mw (P:Params):(KK P).In (Mine.hZ P):=Frag.in_of (as:=kAs) (by kernel_rfl) (by kernel_rfl)
noncomputable def xL:List (Str×Fv):=[(kz0,.glob 28),
 (kz1,.glob 33),
 (kz2,.glob 50),
 (kz3,.glob 64),
 (kz4,.glob 90),
 (kz5,.glob 116),
 (kz6,.glob 142),
 (kz7,.glob 168),
 (kz8,.glob 194),
 (kz9,.glob 220),
 (Nn,.glob 246),
 (No,.glob 272),
 (Np,.glob 298),
 (Nq,.glob 324),
 (Nr,.glob 348),
 (Nt,.glob 374),
 (Nv,.glob 400),
 (Nw,.glob 426),
 (Nx,.glob 452),
 (Ny,.glob 478),
 (FS,.glob 487),
 (FT,.glob 494),
 (Nz,.glob 547),
 (FU,.glob 554),
 (FV,.glob 561),
 (FW,.glob 568),
 (NA,.glob 620),
 (NB,.glob 725),
 (FX,.glob 736),
 (NC,.glob 737),
 (ND,.glob 738),
 (NE,.glob 863),
 (FY,.glob 875),
 (FZ,.glob 882),
 (F6,.glob 889),
 (F7,.glob 896),
 (Ga,.glob 903),
 (NG,.glob 961),
 (NH,.glob 1094),
 (Gb,.glob 1105),
 (Gc,.glob 1112),
 (Gd,.glob 1119),
 (Ge,.glob 1126),
 (Gf,.glob 1133),
 (Gg,.glob 1140),
 (Gh,.glob 1147),
 (Gi,.glob 1152),
 (Gj,.glob 1157),
 (Gk,.glob 1164),
 (Gm,.glob 1171),
 (NI,.str [39,34,96,91]),
 (NJ,.str [32,9,10,13,12]),
 (NK,.str [48,49,50,51,52,53,54,55,56,57]),
 (NL,.str [48,49,50,51,52,53,54,55,56,57,97,98,99,100,101,102,65,66,67,68,69,70]),
 (NM,.str [97,98,99,100,101,102,103,104,105,106,107,108,109,110,111,112,113,114,115,116,117,118,119,120,121,122,65,66,67,68,69,70,71,72,73,74,75,76,77,78,79,80,81,82,83,84,85,86,87,88,89,90,95]),
 (NN,.str [97,98,99,100,101,102,103,104,105,106,107,108,109,110,111,112,113,114,115,116,117,118,119,120,121,122,65,66,67,68,69,70,71,72,73,74,75,76,77,78,79,80,81,82,83,84,85,86,87,88,89,90,95,48,49,50,51,52,53,54,55,56,57,36]),
 (NO,.str [40,41,44,46,59,43,45,42,47,37,61,60,62,38,124,126]),
 (NP,.int 999),
 (NQ,.int 9223372036854775808),
 (NR,.int 1),
 (NS,.int 3),
 (NT,.int 4),
 (NU,.int 5),
 (NV,.int 10),
 (NW,.int 11),
 (NX,.int 12),
 (NY,.int 50),
 (Gn,.tup [.str [60,61],.str [62,61],.str [60,62],.str [33,61],.str [61,61],.str [124,124],.str [60,60],.str [62,62]]),
 (Go,.tup [.str [65,68,68],.str [65,76,76],.str [65,76,84,69,82],.str [65,78,68],.str [65,83],.str [65,85,84,79,73,78,67,82,69,77,69,78,84],.str [66,69,84,87,69,69,78],.str [67,65,83,69],.str [67,72,69,67,75],.str [67,79,76,76,65,84,69],.str [67,79,77,77,73,84],.str [67,79,78,83,84,82,65,73,78,84],.str [67,82,69,65,84,69],.str [68,69,70,65,85,76,84],.str [68,69,70,69,82,82,65,66,76,69],.str [68,69,76,69,84,69],.str [68,73,83,84,73,78,67,84],.str [68,82,79,80],.str [69,76,83,69],.str [69,83,67,65,80,69],.str [69,88,67,69,80,84],.str [69,88,73,83,84,83],.str [70,79,82,69,73,71,78],.str [70,82,79,77],.str [71,82,79,85,80],.str [72,65,86,73,78,71],.str [73,78],.str [73,78,68,69,88],.str [73,78,83,69,82,84],.str [73,78,84,69,82,83,69,67,84],.str [73,78,84,79],.str [73,83],.str [73,83,78,85,76,76],.str [74,79,73,78],.str [76,73,77,73,84],.str [78,79,84],.str [78,79,84,72,73,78,71],.str [78,79,84,78,85,76,76],.str [78,85,76,76],.str [79,78],.str [79,82],.str [79,82,68,69,82],.str [80,82,73,77,65,82,89],.str [82,69,70,69,82,69,78,67,69,83],.str [82,69,84,85,82,78,73,78,71],.str [83,69,76,69,67,84],.str [83,69,84],.str [84,65,66,76,69],.str [84,72,69,78],.str [84,79],.str [84,82,65,78,83,65,67,84,73,79,78],.str [85,78,73,79,78],.str [85,78,73,81,85,69],.str [85,80,68,65,84,69],.str [85,83,73,78,71],.str [86,65,76,85,69,83],.str [87,72,69,78],.str [87,72,69,82,69]]),
 (Gp,.tup [.str [67,82,79,83,83],.str [70,85,76,76],.str [73,78,68,69,88,69,68],.str [73,78,78,69,82],.str [76,69,70,84],.str [78,65,84,85,82,65,76],.str [79,85,84,69,82],.str [82,73,71,72,84]]),
 (Gq,.tup [.str [73,78],.str [76,73,75,69],.str [71,76,79,66],.str [66,69,84,87,69,69,78],.str [78,85,76,76]]),
 (Gr,.tup [.str [45],.str [43],.str [126]]),
 (Gs,.tup [.str [65,66,79,82,84],.str [65,83,67],.str [66,69,71,73,78],.str [66,89],.str [67,65,83,84],.str [68,69,70,69,82,82,69,68],.str [68,69,83,67],.str [69,78,68],.str [69,88,67,76,85,83,73,86,69],.str [69,88,80,76,65,73,78],.str [70,65,73,76],.str [71,76,79,66],.str [73,70],.str [73,71,78,79,82,69],.str [73,77,77,69,68,73,65,84,69],.str [75,69,89],.str [76,73,75,69],.str [79,70,70,83,69,84],.str [80,82,65,71,77,65],.str [82,69,76,69,65,83,69],.str [82,69,80,76,65,67,69],.str [82,79,76,76,66,65,67,75],.str [83,65,86,69,80,79,73,78,84],.str [84,79],.str [84,82,65,78,83,65,67,84,73,79,78],.str [86,65,67,85,85,77],.str [87,73,84,72,79,85,84]])]
noncomputable def Pb:List Nat:=[28,33,487,494,554,561,568,736,875,882,889,896,903,1105,1112,1119,1126,1133,1140,1147,1152,1157,1164,1171,90,116,142,168,194,220,246,348,374,400,426,452,478,620,725,863,961,1094]
noncomputable def Pd:List (Nat×List Str):=[(620,[wP,cW,cP,lF]),
 (725,[cW,lF,Ay,Gu]),
 (863,[tD,nX]),
 (961,[nX]),
 (1094,[cW,Gv,Gw,wQ]),
 (90,[cP]),
 (116,[Az,AA,nY,lF,wQ]),
 (142,[wR]),
 (168,[nZ,AB]),
 (194,[nZ,lH,AC]),
 (220,[cP,AD,AE,fE]),
 (246,[cP,AF,fE]),
 (348,[wS,AG,AH]),
 (374,[n7,wT,wU,wV]),
 (400,[cP,tc]),
 (426,[cP,wY]),
 (452,[cP,fE]),
 (478,[wZ,cP,w0,w4,fE])]
noncomputable def Pe:List (Nat×List (Str×Nat)):=[(620,[(Cz,589),(CA,596),(Jz,603),(JA,610)]),
 (725,[(JB,645),(JC,659),(JD,666),(JE,673),(JF,680),(JG,687),(JH,694),(wR,701),(JI,708),(JJ,715),(JK,722)]),
 (863,[(JL,762),(w5,769),(JM,776),(JN,783),(JO,790),(JP,797),(JQ,804),(JR,811),(JS,818),(JT,825),(CB,839),(JU,846),(JV,853)]),
 (961,[(te,925),(JW,930),(JX,937),(JY,944),(JZ,951),(CB,958)]),
 (1094,[(J0,986),(J1,993),(J2,1000),(J3,1014),(CA,1021),(Cz,1028),(J4,1042),(J5,1049),(J6,1056),(J7,1063),(J8,1070),(J9,1077),(Ka,1084),(Kb,1091)]),
 (90,[(eg,87)]),
 (116,[(eg,113)]),
 (142,[(eg,139)]),
 (168,[(eg,165)]),
 (194,[(eg,191)]),
 (220,[(eg,217)]),
 (246,[(eg,243)]),
 (348,[(eg,345)]),
 (374,[(eg,371)]),
 (400,[(eg,397)]),
 (426,[(eg,423)]),
 (452,[(eg,449)]),
 (478,[(eg,475)])]
noncomputable def Pf:List (Nat×List (List Nat×Fv)):=[(547,[([61,61],.str [61]),([33,61],.str [60,62])]),
 (737,[([61],.int 4),([60,62],.int 4),([60],.int 5),([60,61],.int 5),([62],.int 5),([62,61],.int 5),([38],.int 6),([124],.int 6),([60,60],.int 6),([62,62],.int 6),([43],.int 7),([45],.int 7),([42],.int 8),([47],.int 8),([37],.int 8),([124,124],.int 9)]),
 (738,[([79,82],.int 1),([65,78,68],.int 2),([73,83],.int 4),([73,78],.int 4),([76,73,75,69],.int 4),([71,76,79,66],.int 4),([66,69,84,87,69,69,78],.int 4),([73,83,78,85,76,76],.int 4),([78,79,84,78,85,76,76],.int 4),([78,79,84],.int 4),([67,79,76,76,65,84,69],.int 10)])]
noncomputable def Pg:List Nat:=[90,116,142,168,194,220,246,272,298,324,348,374,400,426,452,478]
noncomputable def Ph:List (Nat×List Nat):=[(90,[90]),(116,[116]),(142,[142]),(168,[168]),(194,[194]),(220,[220]),(246,[246]),(348,[348]),(374,[374]),(400,[400]),(426,[426]),(452,[452]),(478,[478])]
noncomputable def Pi:List (Str×Fv):=[(Kc,.ty "int"),(Kd,.ty "str"),(Ke,.ty "tuple"),(Kf,.ty "bytes"),(Kg,.ty "range")]
noncomputable def GG:Gl:=⟨xL,Pi,btT.map fun p=>(p.1,p.2.id),Pb,Pd,Pe,Pf,Pg,Ph⟩
noncomputable def es3 (P:Params):Array DictEntry:=(nsO (KK P) 3).getD #[]
noncomputable def es0 (P:Params):Array DictEntry:=(nsO (KK P) 0).getD #[]
noncomputable def es2 (P:Params):Array DictEntry:=(nsO (KK P) 2).getD #[]
theorem tps (P:Params): ∀p∈xL.drop 67,∃u,nsFind (es3 P) p.1=some u∧g9 (KK P) p.2 u:=
 show∀p∈[(Gn,.tup [.str [60,61],.str [62,61],.str [60,62],.str [33,61],.str [61,61],.str [124,124],.str [60,60],.str [62,62]]),(Go,.tup [.str [65,68,68],.str [65,76,76],.str [65,76,84,69,82],.str [65,78,68],.str [65,83],.str [65,85,84,79,73,78,67,82,69,77,69,78,84],.str [66,69,84,87,69,69,78],.str [67,65,83,69],.str [67,72,69,67,75],.str [67,79,76,76,65,84,69],.str [67,79,77,77,73,84],.str [67,79,78,83,84,82,65,73,78,84],.str [67,82,69,65,84,69],.str [68,69,70,65,85,76,84],.str [68,69,70,69,82,82,65,66,76,69],.str [68,69,76,69,84,69],.str [68,73,83,84,73,78,67,84],.str [68,82,79,80],.str [69,76,83,69],.str [69,83,67,65,80,69],.str [69,88,67,69,80,84],.str [69,88,73,83,84,83],.str [70,79,82,69,73,71,78],.str [70,82,79,77],.str [71,82,79,85,80],.str [72,65,86,73,78,71],.str [73,78],.str [73,78,68,69,88],.str [73,78,83,69,82,84],.str [73,78,84,69,82,83,69,67,84],.str [73,78,84,79],.str [73,83],.str [73,83,78,85,76,76],.str [74,79,73,78],.str [76,73,77,73,84],.str [78,79,84],.str [78,79,84,72,73,78,71],.str [78,79,84,78,85,76,76],.str [78,85,76,76],.str [79,78],.str [79,82],.str [79,82,68,69,82],.str [80,82,73,77,65,82,89],.str [82,69,70,69,82,69,78,67,69,83],.str [82,69,84,85,82,78,73,78,71],.str [83,69,76,69,67,84],.str [83,69,84],.str [84,65,66,76,69],.str [84,72,69,78],.str [84,79],.str [84,82,65,78,83,65,67,84,73,79,78],.str [85,78,73,79,78],.str [85,78,73,81,85,69],.str [85,80,68,65,84,69],.str [85,83,73,78,71],.str [86,65,76,85,69,83],.str [87,72,69,78],.str [87,72,69,82,69]]),(Gp,.tup [.str [67,82,79,83,83],.str [70,85,76,76],.str [73,78,68,69,88,69,68],.str [73,78,78,69,82],.str [76,69,70,84],.str [78,65,84,85,82,65,76],.str [79,85,84,69,82],.str [82,73,71,72,84]]),(Gq,.tup [.str [73,78],.str [76,73,75,69],.str [71,76,79,66],.str [66,69,84,87,69,69,78],.str [78,85,76,76]]),(Gr,.tup [.str [45],.str [43],.str [126]]),(Gs,.tup [.str [65,66,79,82,84],.str [65,83,67],.str [66,69,71,73,78],.str [66,89],.str [67,65,83,84],.str [68,69,70,69,82,82,69,68],.str [68,69,83,67],.str [69,78,68],.str [69,88,67,76,85,83,73,86,69],.str [69,88,80,76,65,73,78],.str [70,65,73,76],.str [71,76,79,66],.str [73,70],.str [73,71,78,79,82,69],.str [73,77,77,69,68,73,65,84,69],.str [75,69,89],.str [76,73,75,69],.str [79,70,70,83,69,84],.str [80,82,65,71,77,65],.str [82,69,76,69,65,83,69],.str [82,69,80,76,65,67,69],.str [82,79,76,76,66,65,67,75],.str [83,65,86,69,80,79,73,78,84],.str [84,79],.str [84,82,65,78,83,65,67,84,73,79,78],.str [86,65,67,85,85,77],.str [87,73,84,72,79,85,84]])],∃u,nsFind (es3 P) p.1=some u∧g9 (KK P) p.2 u from
 List.forall_mem_cons.mpr ⟨tpO (by kernel_rfl) (gV (by kernel_rfl) (by kernel_rfl)),List.forall_mem_cons.mpr ⟨tpO (by kernel_rfl) (gV (by kernel_rfl) (by kernel_rfl)),List.forall_mem_cons.mpr ⟨tpO (by kernel_rfl) (gV (by kernel_rfl) (by kernel_rfl)),List.forall_mem_cons.mpr ⟨tpO (by kernel_rfl) (gV (by kernel_rfl) (by kernel_rfl)),List.forall_mem_cons.mpr ⟨tpO (by kernel_rfl) (gV (by kernel_rfl) (by kernel_rfl)),List.forall_mem_cons.mpr ⟨tpO (by kernel_rfl) (gV (by kernel_rfl) (by kernel_rfl)),fun _ h=>nomatch h⟩⟩⟩⟩⟩⟩
theorem Hh (P:Params):Chk (KK P) GG (es3 P) (es0 P) where
 n3:=by kernel_rfl
 n0:=by kernel_rfl
 glb:=DN (a:=xL.take 67) (b:=xL.drop 67) (by kernel_rfl) (Be (by kernel_rfl)) (tps P)
 bin:=by kernel_rfl
 bis:=by kernel_rfl
 fns:=by kernel_rfl
 ga:=by kernel_rfl
 att:=by kernel_rfl
 gm:=by kernel_rfl
 mth:=by kernel_rfl
 own:=by kernel_rfl
 own2:=by kernel_rfl
 own3:=by kernel_rfl
 sup:=by kernel_rfl
theorem lim (P:Params): ∀h:Heap,(KK P).In h→h.NoLimit:=He (es:=es2 P) (by kernel_rfl) (by kernel_rfl)
noncomputable def y8 (P:Params):Array DictEntry×Nat:=match oA (KK P|>.map (·.2)) 263 with|⟨_,_,.dict es n,_⟩=>(es,n)|_=>(#[],0)
noncomputable def la:List (List Nat×Fv):=[([61,61],.str [61]),([33,61],.str [60,62])]
theorem Hi (prog:Program) (w:World):(∀p∈la,eh p.2=true)∧ ∀h:Heap,(KK w.params).In h→IsDict prog w h 547 (la.map fun p=>(.str ⟨p.1.toArray⟩,eK p.2)) []:=oD (prog:=prog) (w:=w) (K:=KK w.params) (a:=547) (es:=(y8 w.params).1) (n:=(y8 w.params).2) (kv:=la) (by kernel_rfl) (by kernel_rfl) (by kernel_rfl) (by kernel_rfl) (by kernel_rfl)
noncomputable def y9 (P:Params):Array DictEntry×Nat:=match oA (KK P|>.map (·.2)) 264 with|⟨_,_,.dict es n,_⟩=>(es,n)|_=>(#[],0)
noncomputable def nA:List (List Nat×Fv):=[([61],.int 4),([60,62],.int 4),([60],.int 5),([60,61],.int 5),([62],.int 5),([62,61],.int 5),([38],.int 6),([124],.int 6),([60,60],.int 6),([62,62],.int 6),([43],.int 7),([45],.int 7),([42],.int 8),([47],.int 8),([37],.int 8),([124,124],.int 9)]
theorem Hj (prog:Program) (w:World):(∀p∈nA,eh p.2=true)∧ ∀h:Heap,(KK w.params).In h→IsDict prog w h 737 (nA.map fun p=>(.str ⟨p.1.toArray⟩,eK p.2)) []:=oD (prog:=prog) (w:=w) (K:=KK w.params) (a:=737) (es:=(y9 w.params).1) (n:=(y9 w.params).2) (kv:=nA) (by kernel_rfl) (by kernel_rfl) (by kernel_rfl) (by kernel_rfl) (by kernel_rfl)
noncomputable def za (P:Params):Array DictEntry×Nat:=match oA (KK P|>.map (·.2)) 265 with|⟨_,_,.dict es n,_⟩=>(es,n)|_=>(#[],0)
noncomputable def nD:List (List Nat×Fv):=[([79,82],.int 1),([65,78,68],.int 2),([73,83],.int 4),([73,78],.int 4),([76,73,75,69],.int 4),([71,76,79,66],.int 4),([66,69,84,87,69,69,78],.int 4),([73,83,78,85,76,76],.int 4),([78,79,84,78,85,76,76],.int 4),([78,79,84],.int 4),([67,79,76,76,65,84,69],.int 10)]
theorem Hk (prog:Program) (w:World):(∀p∈nD,eh p.2=true)∧ ∀h:Heap,(KK w.params).In h→IsDict prog w h 738 (nD.map fun p=>(.str ⟨p.1.toArray⟩,eK p.2)) []:=oD (prog:=prog) (w:=w) (K:=KK w.params) (a:=738) (es:=(za w.params).1) (n:=(za w.params).2) (kv:=nD) (by kernel_rfl) (by kernel_rfl) (by kernel_rfl) (by kernel_rfl) (by kernel_rfl)
theorem dcs (prog:Program) (w:World): ∀a kv,bx a GG.dcs=some kv→(∀p∈kv,eh p.2=true)∧ ∀h:Heap,(KK w.params).In h→IsDict prog w h a (kv.map fun p=>(.str ⟨p.1.toArray⟩,eK p.2)) []:=by
 intro a kv h
 have:=eu h
 have e:GG.dcs=[(547,la),(737,nA),(738,nD)]:=by kernel_rfl
 rw [e] at this
 simp only [List.mem_cons,Prod.mk.injEq,List.not_mem_nil,or_false] at this
 rcases this with ⟨rfl,rfl⟩|⟨rfl,rfl⟩|⟨rfl,rfl⟩
 ·exact Hi prog w
 ·exact Hj prog w
 ·exact Hk prog w
noncomputable def gok (prog:Program) (w:World):GOK prog w (KK w.params) GG:=(Hh w.params).gok (dcs prog w)
noncomputable def d6 (o:Obj):FuncData:=match o.data with| .func fd=>fd|_=>default
noncomputable def mo0:Value:= .str Kh 194
noncomputable def mo1:Value:= .str Ki 908
noncomputable def mo2:Value:= .str Kj 1709
noncomputable def mo3:Value:= .str mU 1270
noncomputable def mo4:Value:= .str Kk 1867
noncomputable def mo5:Value:= .str kX 1606
noncomputable def mo6:Value:= .str Kl 1545
noncomputable def mo7:Value:= .str Km 815
noncomputable def Hl (α:Type):Nat→Type
 |0=>α
 |n+1=>Value→Hl α n
noncomputable def cur {α:Type}:(n:Nat)→(List Value→α)→Hl α n
 |0,f=>f []
 |n+1,f=>fun a=>cur n fun l=>f (a::l)
theorem zb {α:Type}: ∀(n:Nat) {f g:List Value→α},cur n f=cur n g→tX n fun l=>f l=g l
 |0,_,_,h=>h
 |n+1,_,_,h=>fun a=>zb n (congrFun h a)
noncomputable def bdy (s:Stmt) (q:Str) (a:Nat) (m:Value):Obj:=Mine.fn s q .none (.ref (a-1)) m
noncomputable def fm (P:Params) (a:Addr) (ps:List Str) (s:Stmt) (q:Str) (m:Value) (h:((KK P).lookup a,tt (KK P) (.ref (a-1)) q && scB (Mine.fS s) ps,cur ps.length fun l=>bindArgs (d6 (bdy s q a m)) ⟨l,[]⟩)=(some (bdy s q a m),true,cur ps.length fun l=>pure (bO ps l))):FnP (KK P):=
 ⟨a,ps,[],Mine.fB s,(Mine.fS s).names,Fn.of (o:=bdy s q a m) (fd:=d6 (bdy s q a m)) (dv:=[]) (congrArg (·.1) h) rfl rfl rfl rfl ((Bool.and_eq_true _ _).mp (congrArg (·.2.1) h)).1 (lim P) ((Bool.and_eq_true _ _).mp (congrArg (·.2.1) h)).2 rfl (Pa (zb _ (congrArg (·.2.2) h)))⟩
noncomputable def Bf (P:Params):FnP (KK P):=fm P 28 [dF] (Mine.st 2) kz0 mo0 (by kernel_rfl)
noncomputable def gr (P:Params):FnP (KK P):=fm P 33 [cN] (Mine.st 3) kz1 mo0 (by kernel_rfl)
noncomputable def oE (P:Params):FnP (KK P):=fm P 80 [au,cP] (Mine.mt 6 0) Kn mo0 (by kernel_rfl)
noncomputable def bZ (P:Params):FnP (KK P):=fm P 87 [au] (Mine.mt 6 1) Ko mo0 (by kernel_rfl)
noncomputable def uD (P:Params):FnP (KK P):=fm P 106 [au,Az,AA] (Mine.mt 7 0) Kp mo0 (by kernel_rfl)
noncomputable def jJ (P:Params):FnP (KK P):=fm P 113 [au] (Mine.mt 7 1) Kq mo0 (by kernel_rfl)
noncomputable def nE (P:Params):FnP (KK P):=fm P 132 [au,wR] (Mine.mt 8 0) Kr mo0 (by kernel_rfl)
noncomputable def fT (P:Params):FnP (KK P):=fm P 139 [au] (Mine.mt 8 1) Ks mo0 (by kernel_rfl)
noncomputable def tY (P:Params):FnP (KK P):=fm P 158 [au,nZ,AB] (Mine.mt 9 0) Kt mo0 (by kernel_rfl)
noncomputable def iG (P:Params):FnP (KK P):=fm P 165 [au] (Mine.mt 9 1) Ku mo0 (by kernel_rfl)
noncomputable def pQ (P:Params):FnP (KK P):=fm P 184 [au,nZ,lH,AC] (Mine.mt 10 0) Kv mo0 (by kernel_rfl)
noncomputable def hH (P:Params):FnP (KK P):=fm P 191 [au] (Mine.mt 10 1) Kw mo0 (by kernel_rfl)
noncomputable def oF (P:Params):FnP (KK P):=fm P 210 [au,cP,AD,AE,fE] (Mine.mt 11 0) Kx mo0 (by kernel_rfl)
noncomputable def gF (P:Params):FnP (KK P):=fm P 217 [au] (Mine.mt 11 1) Ky mo0 (by kernel_rfl)
noncomputable def pR (P:Params):FnP (KK P):=fm P 236 [au,cP,AF,fE] (Mine.mt 12 0) Kz mo0 (by kernel_rfl)
noncomputable def hJ (P:Params):FnP (KK P):=fm P 243 [au] (Mine.mt 12 1) KA mo0 (by kernel_rfl)
noncomputable def uE (P:Params):FnP (KK P):=fm P 340 [au,wS,AG,AH] (Mine.mt 16 0) KB mo0 (by kernel_rfl)
noncomputable def bv (P:Params):FnP (KK P):=fm P 345 [au] (Mine.mt 16 1) KC mo0 (by kernel_rfl)
noncomputable def uF (P:Params):FnP (KK P):=fm P 364 [au,n7,wT,wU,wV] (Mine.mt 17 0) KD mo0 (by kernel_rfl)
noncomputable def jK (P:Params):FnP (KK P):=fm P 371 [au] (Mine.mt 17 1) KF mo0 (by kernel_rfl)
noncomputable def uG (P:Params):FnP (KK P):=fm P 390 [au,cP,tc] (Mine.mt 18 0) KG mo0 (by kernel_rfl)
noncomputable def jL (P:Params):FnP (KK P):=fm P 397 [au] (Mine.mt 18 1) KH mo0 (by kernel_rfl)
noncomputable def oG (P:Params):FnP (KK P):=fm P 416 [au,cP,wY] (Mine.mt 19 0) KI mo0 (by kernel_rfl)
noncomputable def gG (P:Params):FnP (KK P):=fm P 423 [au] (Mine.mt 19 1) KJ mo0 (by kernel_rfl)
noncomputable def pS (P:Params):FnP (KK P):=fm P 442 [au,cP,fE] (Mine.mt 20 0) KL mo0 (by kernel_rfl)
noncomputable def hM (P:Params):FnP (KK P):=fm P 449 [au] (Mine.mt 20 1) KM mo0 (by kernel_rfl)
noncomputable def tZ (P:Params):FnP (KK P):=fm P 468 [au,wZ,cP,w0,w4,fE] (Mine.mt 21 0) KN mo0 (by kernel_rfl)
noncomputable def eU (P:Params):FnP (KK P):=fm P 475 [au] (Mine.mt 21 1) KO mo0 (by kernel_rfl)
noncomputable def eV (P:Params):FnP (KK P):=fm P 487 [tD] (Mine.st 23) FS mo7 (by kernel_rfl)
noncomputable def uH (P:Params):FnP (KK P):=fm P 494 [tD] (Mine.st 24) FT mo7 (by kernel_rfl)
noncomputable def Bg (P:Params):FnP (KK P):=fm P 554 [cW] (Mine.st 43) FU mo1 (by kernel_rfl)
noncomputable def pT (P:Params):FnP (KK P):=fm P 561 [kY] (Mine.st 44) FV mo1 (by kernel_rfl)
noncomputable def oH (P:Params):FnP (KK P):=fm P 568 [kY] (Mine.st 45) FW mo1 (by kernel_rfl)
noncomputable def uI (P:Params):FnP (KK P):=fm P 582 [au,wP,cW,cP,lF] (Mine.mt 46 0) KP mo1 (by kernel_rfl)
noncomputable def oI (P:Params):FnP (KK P):=fm P 589 [au,cW] (Mine.mt 46 1) KQ mo1 (by kernel_rfl)
noncomputable def pU (P:Params):FnP (KK P):=fm P 596 [au,cW] (Mine.mt 46 2) KR mo1 (by kernel_rfl)
noncomputable def oJ (P:Params):FnP (KK P):=fm P 603 [au] (Mine.mt 46 3) KS mo1 (by kernel_rfl)
noncomputable def nF (P:Params):FnP (KK P):=fm P 610 [au] (Mine.mt 46 4) KT mo1 (by kernel_rfl)
noncomputable def oK (P:Params):FnP (KK P):=fm P 638 [au,cW] (Mine.mt 47 0) KU mo1 (by kernel_rfl)
noncomputable def lZ (P:Params):FnP (KK P):=fm P 645 [au,wP,cW,cP,mV] (Mine.mt 47 1) KX mo1 (by kernel_rfl)
noncomputable def cz (P:Params):FnP (KK P):=fm P 659 [au] (Mine.mt 47 3) KY mo1 (by kernel_rfl)
noncomputable def dm (P:Params):FnP (KK P):=fm P 666 [au,CC,mV] (Mine.mt 47 4) KZ mo1 (by kernel_rfl)
noncomputable def fU (P:Params):FnP (KK P):=fm P 673 [au,kY] (Mine.mt 47 5) K1 mo1 (by kernel_rfl)
noncomputable def dL (P:Params):FnP (KK P):=fm P 680 [au,CD,CE] (Mine.mt 47 6) K2 mo1 (by kernel_rfl)
noncomputable def iQ (P:Params):FnP (KK P):=fm P 687 [au,CD] (Mine.mt 47 7) K3 mo1 (by kernel_rfl)
noncomputable def oL (P:Params):FnP (KK P):=fm P 694 [au] (Mine.mt 47 8) K4 mo1 (by kernel_rfl)
noncomputable def l4 (P:Params):FnP (KK P):=fm P 701 [au] (Mine.mt 47 9) K5 mo1 (by kernel_rfl)
noncomputable def ki (P:Params):FnP (KK P):=fm P 708 [au,CE,mV,wS] (Mine.mt 47 10) K6 mo1 (by kernel_rfl)
noncomputable def oM (P:Params):FnP (KK P):=fm P 715 [au,kY] (Mine.mt 47 11) K7 mo1 (by kernel_rfl)
noncomputable def kj (P:Params):FnP (KK P):=fm P 722 [au] (Mine.mt 47 12) K8 mo1 (by kernel_rfl)
noncomputable def ey (P:Params):FnP (KK P):=fm P 736 [cW] (Mine.st 48) FX mo1 (by kernel_rfl)
noncomputable def hY (P:Params):FnP (KK P):=fm P 754 [au,tD,nX] (Mine.mt 58 0) K9 mo3 (by kernel_rfl)
noncomputable def ab (P:Params):FnP (KK P):=⟨762,[au,mW],[.int 1],Mine.fB (Mine.mt 58 1),(Mine.fS (Mine.mt 58 1)).names,Fn.of (o:=(Mine.fn (Mine.mt 58 1) tf (.ref 755) (.ref 761) (.str mU 1270))) (fd:=d6 (Mine.fn (Mine.mt 58 1) tf (.ref 755) (.ref 761) (.str mU 1270))) (dv:=[.int 1 1272]) (by kernel_rfl) (by kernel_rfl) (by kernel_rfl) (by kernel_rfl) (by kernel_rfl) (by kernel_rfl) (lim P) (by kernel_rfl) (by kernel_rfl) (xK 1 rfl fun a S=>by show _=_; kernel_rfl)⟩
noncomputable def dG (P:Params):FnP (KK P):=⟨762,[au,mW],[],Mine.fB (Mine.mt 58 1),(Mine.fS (Mine.mt 58 1)).names,Fn.of (o:=(Mine.fn (Mine.mt 58 1) tf (.ref 755) (.ref 761) (.str mU 1270))) (fd:=d6 (Mine.fn (Mine.mt 58 1) tf (.ref 755) (.ref 761) (.str mU 1270))) (dv:=[]) (by kernel_rfl) (by kernel_rfl) (by kernel_rfl) (by kernel_rfl) (by kernel_rfl) (by kernel_rfl) (lim P) (by kernel_rfl) (by kernel_rfl) (xK 2 rfl fun a b S=>by show _=_; kernel_rfl)⟩
noncomputable def aL (P:Params):FnP (KK P):=fm P 769 [au] (Mine.mt 58 2) La mo3 (by kernel_rfl)
noncomputable def ak (P:Params):FnP (KK P):=fm P 776 [au,lH,w5] (Mine.mt 58 3) Lb mo3 (by kernel_rfl)
noncomputable def gH (P:Params):FnP (KK P):=fm P 783 [au,lH] (Mine.mt 58 4) Lc mo3 (by kernel_rfl)
noncomputable def gR (P:Params):FnP (KK P):=fm P 790 [au,lH,cW,fE] (Mine.mt 58 5) Ld mo3 (by kernel_rfl)
noncomputable def gS (P:Params):FnP (KK P):=fm P 797 [au,lH,fE] (Mine.mt 58 6) Le mo3 (by kernel_rfl)
noncomputable def aI (P:Params):FnP (KK P):=fm P 804 [au] (Mine.mt 58 7) Lg mo3 (by kernel_rfl)
noncomputable def ag (P:Params):FnP (KK P):=fm P 811 [au] (Mine.mt 58 8) Lh mo3 (by kernel_rfl)
noncomputable def gI (P:Params):FnP (KK P):=fm P 818 [au] (Mine.mt 58 9) Li mo3 (by kernel_rfl)
noncomputable def fV (P:Params):FnP (KK P):=fm P 825 [au] (Mine.mt 58 10) Lj mo3 (by kernel_rfl)
noncomputable def ib (P:Params):FnP (KK P):=fm P 839 [au] (Mine.mt 58 12) Lk mo3 (by kernel_rfl)
noncomputable def ic (P:Params):FnP (KK P):=fm P 846 [au] (Mine.mt 58 13) Ll mo3 (by kernel_rfl)
noncomputable def hS (P:Params):FnP (KK P):=fm P 853 [au] (Mine.mt 58 14) Lm mo3 (by kernel_rfl)
noncomputable def zc (P:Params):FnP (KK P):=fm P 875 [n7] (Mine.st 61) FY mo6 (by kernel_rfl)
noncomputable def t5 (P:Params):FnP (KK P):=fm P 882 [n7] (Mine.st 62) FZ mo6 (by kernel_rfl)
noncomputable def pV (P:Params):FnP (KK P):=fm P 889 [cP] (Mine.st 63) F6 mo6 (by kernel_rfl)
noncomputable def t6 (P:Params):FnP (KK P):=fm P 896 [tc] (Mine.st 64) F7 mo6 (by kernel_rfl)
noncomputable def aF (P:Params):FnP (KK P):=fm P 903 [dF] (Mine.st 69) Ga mo5 (by kernel_rfl)
noncomputable def ie (P:Params):FnP (KK P):=fm P 917 [au,nX] (Mine.mt 70 0) Ln mo5 (by kernel_rfl)
noncomputable def ct (P:Params):FnP (KK P):=⟨925,[au,dF,mW],[.int 1],Mine.fB (Mine.mt 70 1),(Mine.fS (Mine.mt 70 1)).names,Fn.of (o:=(Mine.fn (Mine.mt 70 1) th (.ref 918) (.ref 924) (.str kX 1606))) (fd:=d6 (Mine.fn (Mine.mt 70 1) th (.ref 918) (.ref 924) (.str kX 1606))) (dv:=[.int 1 1272]) (by kernel_rfl) (by kernel_rfl) (by kernel_rfl) (by kernel_rfl) (by kernel_rfl) (by kernel_rfl) (lim P) (by kernel_rfl) (by kernel_rfl) (xK 2 rfl fun a b S=>by show _=_; kernel_rfl)⟩
noncomputable def cY (P:Params):FnP (KK P):=⟨925,[au,dF,mW],[],Mine.fB (Mine.mt 70 1),(Mine.fS (Mine.mt 70 1)).names,Fn.of (o:=(Mine.fn (Mine.mt 70 1) th (.ref 918) (.ref 924) (.str kX 1606))) (fd:=d6 (Mine.fn (Mine.mt 70 1) th (.ref 918) (.ref 924) (.str kX 1606))) (dv:=[]) (by kernel_rfl) (by kernel_rfl) (by kernel_rfl) (by kernel_rfl) (by kernel_rfl) (by kernel_rfl) (lim P) (by kernel_rfl) (by kernel_rfl) (xK 3 rfl fun a b c S=>by show _=_; kernel_rfl)⟩
noncomputable def aa (P:Params):FnP (KK P):=fm P 937 [au,dF] (Mine.mt 70 3) Lo mo5 (by kernel_rfl)
noncomputable def hV (P:Params):FnP (KK P):=fm P 944 [au,dF] (Mine.mt 70 4) Lp mo5 (by kernel_rfl)
noncomputable def ig (P:Params):FnP (KK P):=fm P 951 [au,dF] (Mine.mt 70 5) Lq mo5 (by kernel_rfl)
noncomputable def ii (P:Params):FnP (KK P):=fm P 958 [au,dF] (Mine.mt 70 6) Lr mo5 (by kernel_rfl)
noncomputable def ls (P:Params):FnP (KK P):=fm P 979 [au,cW] (Mine.mt 73 0) Ls mo2 (by kernel_rfl)
noncomputable def lu (P:Params):FnP (KK P):=fm P 986 [au] (Mine.mt 73 1) Lu mo2 (by kernel_rfl)
noncomputable def ez (P:Params):FnP (KK P):=fm P 993 [au,Lv] (Mine.mt 73 2) Lw mo2 (by kernel_rfl)
noncomputable def nG (P:Params):FnP (KK P):=fm P 1000 [au] (Mine.mt 73 3) Lx mo2 (by kernel_rfl)
noncomputable def jM (P:Params):FnP (KK P):=fm P 1014 [au] (Mine.mt 73 5) Ly mo2 (by kernel_rfl)
noncomputable def dt (P:Params):FnP (KK P):=fm P 1021 [au,cW] (Mine.mt 73 6) Lz mo2 (by kernel_rfl)
noncomputable def cZ (P:Params):FnP (KK P):=fm P 1028 [au,cW] (Mine.mt 73 7) LA mo2 (by kernel_rfl)
noncomputable def dI (P:Params):FnP (KK P):=fm P 1042 [au] (Mine.mt 73 9) LB mo2 (by kernel_rfl)
noncomputable def cT (P:Params):FnP (KK P):=fm P 1049 [au,cW] (Mine.mt 73 10) LC mo2 (by kernel_rfl)
noncomputable def cO (P:Params):FnP (KK P):=fm P 1056 [au,cW] (Mine.mt 73 11) LD mo2 (by kernel_rfl)
noncomputable def iR (P:Params):FnP (KK P):=fm P 1063 [au,cW] (Mine.mt 73 12) LE mo2 (by kernel_rfl)
noncomputable def iH (P:Params):FnP (KK P):=fm P 1070 [au,cW] (Mine.mt 73 13) LG mo2 (by kernel_rfl)
noncomputable def iJ (P:Params):FnP (KK P):=fm P 1077 [au] (Mine.mt 73 14) LH mo2 (by kernel_rfl)
noncomputable def jR (P:Params):FnP (KK P):=fm P 1084 [au] (Mine.mt 73 15) LI mo2 (by kernel_rfl)
noncomputable def jS (P:Params):FnP (KK P):=fm P 1091 [au] (Mine.mt 73 16) LJ mo2 (by kernel_rfl)
noncomputable def gj (P:Params):FnP (KK P):=fm P 1105 [CF,LK] (Mine.st 75) Gb mo4 (by kernel_rfl)
noncomputable def gk (P:Params):FnP (KK P):=fm P 1112 [nY,LL] (Mine.st 76) Gc mo4 (by kernel_rfl)
noncomputable def xM (P:Params):FnP (KK P):=fm P 1119 [nY,LM] (Mine.st 77) Gd mo4 (by kernel_rfl)
noncomputable def eW (P:Params):FnP (KK P):=fm P 1126 [nY] (Mine.st 78) Ge mo4 (by kernel_rfl)
noncomputable def aE (P:Params):FnP (KK P):=fm P 1133 [nY,LP] (Mine.st 79) Gf mo4 (by kernel_rfl)
noncomputable def uJ (P:Params):FnP (KK P):=fm P 1140 [n7] (Mine.st 80) Gg mo4 (by kernel_rfl)
noncomputable def t7 (P:Params):FnP (KK P):=fm P 1147 [w6] (Mine.st 81) Gh mo4 (by kernel_rfl)
noncomputable def ao (P:Params):FnP (KK P):=fm P 1152 [w6] (Mine.st 82) Gi mo4 (by kernel_rfl)
noncomputable def uK (P:Params):FnP (KK P):=fm P 1157 [w6] (Mine.st 83) Gj mo4 (by kernel_rfl)
noncomputable def dd (P:Params):FnP (KK P):=fm P 1164 [cW] (Mine.st 84) Gk mo4 (by kernel_rfl)
noncomputable def gl (P:Params):FnP (KK P):=fm P 1171 [CF] (Mine.st 85) Gm mo4 (by kernel_rfl)
noncomputable def zd (P:Params):ClP (KK P):=⟨90,oE P,true,⟨by kernel_rfl,by kernel_rfl,by kernel_rfl⟩⟩
noncomputable def Hm (P:Params):ClP (KK P):=⟨116,uD P,true,⟨by kernel_rfl,by kernel_rfl,by kernel_rfl⟩⟩
noncomputable def xN (P:Params):ClP (KK P):=⟨142,nE P,true,⟨by kernel_rfl,by kernel_rfl,by kernel_rfl⟩⟩
noncomputable def DO (P:Params):ClP (KK P):=⟨168,tY P,true,⟨by kernel_rfl,by kernel_rfl,by kernel_rfl⟩⟩
noncomputable def Bh (P:Params):ClP (KK P):=⟨194,pQ P,true,⟨by kernel_rfl,by kernel_rfl,by kernel_rfl⟩⟩
noncomputable def ze (P:Params):ClP (KK P):=⟨220,oF P,true,⟨by kernel_rfl,by kernel_rfl,by kernel_rfl⟩⟩
noncomputable def Bi (P:Params):ClP (KK P):=⟨246,pR P,true,⟨by kernel_rfl,by kernel_rfl,by kernel_rfl⟩⟩
noncomputable def Hn (P:Params):ClP (KK P):=⟨348,uE P,true,⟨by kernel_rfl,by kernel_rfl,by kernel_rfl⟩⟩
noncomputable def Ho (P:Params):ClP (KK P):=⟨374,uF P,true,⟨by kernel_rfl,by kernel_rfl,by kernel_rfl⟩⟩
noncomputable def Hp (P:Params):ClP (KK P):=⟨400,uG P,true,⟨by kernel_rfl,by kernel_rfl,by kernel_rfl⟩⟩
noncomputable def zf (P:Params):ClP (KK P):=⟨426,oG P,true,⟨by kernel_rfl,by kernel_rfl,by kernel_rfl⟩⟩
noncomputable def Bj (P:Params):ClP (KK P):=⟨452,pS P,true,⟨by kernel_rfl,by kernel_rfl,by kernel_rfl⟩⟩
noncomputable def DP (P:Params):ClP (KK P):=⟨478,tZ P,true,⟨by kernel_rfl,by kernel_rfl,by kernel_rfl⟩⟩
noncomputable def Hq (P:Params):ClP (KK P):=⟨620,uI P,true,⟨by kernel_rfl,by kernel_rfl,by kernel_rfl⟩⟩
noncomputable def zh (P:Params):ClP (KK P):=⟨725,oK P,false,⟨by kernel_rfl,by kernel_rfl,by kernel_rfl⟩⟩
noncomputable def kl (P:Params):ClP (KK P):=⟨863,hY P,false,⟨by kernel_rfl,by kernel_rfl,by kernel_rfl⟩⟩
noncomputable def km (P:Params):ClP (KK P):=⟨961,ie P,true,⟨by kernel_rfl,by kernel_rfl,by kernel_rfl⟩⟩
noncomputable def t8 (P:Params):ClP (KK P):=⟨1094,ls P,false,⟨by kernel_rfl,by kernel_rfl,by kernel_rfl⟩⟩
noncomputable def fxL (P:Params):List (FnP (KK P)):=[Bf P,gr P,bZ P,jJ P,fT P,iG P,hH P,gF P,hJ P,bv P,jK P,jL P,gG P,hM P,eU P,eV P,uH P,Bg P,pT P,oH P,oI P,pU P,oJ P,nF P,lZ P,cz P,dm P,fU P,dL P,iQ P,oL P,l4 P,ki P,oM P,kj P,ey P,ab P,dG P,aL P,ak P,gH P,gR P,gS P,aI P,ag P,gI P,fV P,ib P,ic P,hS P,zc P,t5 P,pV P,t6 P,aF P,ct P,cY P,aa P,hV P,ig P,ii P,lu P,ez P,nG P,jM P,dt P,cZ P,dI P,cT P,cO P,iR P,iH P,iJ P,jR P,jS P,gj P,gk P,xM P,eW P,aE P,uJ P,t7 P,ao P,uK P,dd P,gl P]
noncomputable def cxL (P:Params):List (ClP (KK P)):=[zd P,Hm P,xN P,DO P,Bh P,ze P,Bi P,Hn P,Ho P,Hp P,zf P,Bj P,DP P,Hq P,zh P,kl P,km P,t8 P]
theorem Hr (f:Str) (T:Tt) (h:look f ttT=some T):look f GG.bin=some (.ty T.id):=by
 have:=fy h
 simp only [ttT,List.mem_cons,Prod.mk.injEq,List.not_mem_nil,or_false] at this
 rcases this with ⟨rfl,rfl⟩|⟨rfl,rfl⟩|⟨rfl,rfl⟩<;>kernel_rfl
noncomputable def TT (prog:Program) (w:World):Tbl prog w (KK w.params) GG:=⟨gok prog w,rfl,Hr,by kernel_rfl,by kernel_rfl,fxL w.params,cxL w.params⟩
theorem rOf {prog:Program} {w:World} (e k:Nat) (F:(P:Params)→FnP (KK P)) {args:List V} {σ σ':List MO} {v:V} (os:Os prog w (KK w.params)) (h:(Nat.beq (args.length+(F w.params).dfl.length) (F w.params).ps.length,(fnC (TT prog w) (F w.params) e k args σ os v σ').l)=(true,(fnC (TT prog w) (F w.params) e k args σ os v σ').r)):aU prog w (KK w.params) (e+k+1) (.ref (F w.params).a) args σ v σ':=
 aU.of (TT prog w) (F w.params) os (congrArg (·.1) h) (congrArg (·.2) h)
end
end MineS
namespace MineS
noncomputable section
open PySem PySem.W PySem.Calls PyProof.Rows
noncomputable def wd (k t:List Nat) (v:Fv) (p:Int):Fv:= .obj 620 [(wP,.str k),(cW,.str t),(cP,v),(lF,.int p)]
noncomputable def stm (tx:List Nat) (ws:List Fv) (n d:Nat):MO:= .inst 1094 [(cW,.f (.str tx)),(Gv,.f (.list ws)),(Gw,.f (.int (Int.ofNat n))),(wQ,.f (.int (Int.ofNat d)))]
noncomputable def rdr:MO:= .inst 863 [(tD,.r 0),(nX,.f .none)]
noncomputable def xO (s:List Nat):Fv:=match lkN s nA with|some y=>y|none=> .int 0
noncomputable def oN (s:List Nat):Fv:=match lkN s nD with|some y=>y|none=> .int 0
section
variable {prog:Program} {w:World}
noncomputable abbrev KW (w:World):Frag:=KK w.params
noncomputable def RR (prog:Program) (w:World) (e:Nat) (p:FnP (KW w)) (args:List Fv) (tx:List Nat) (ws:List Fv) (dp n:Nat) (v:Fv) (n':Nat):Prop:=
 aU prog w (KW w) e (.ref p.a) (.r 1::args.map V.f) [stm tx ws n dp,rdr] (.f v) [stm tx ws n' dp,rdr]
theorem dR {α:Type}: ∀{l:List α} {n:Nat} {f:α},nth l n=some f→n<l.length
 |_::_,0,_,_=>Nat.succ_pos _
 |_::r,n+1,f,h=>Nat.succ_lt_succ (dR (l:=r) h)
noncomputable def EA {ws:List Fv} {n:Nat} {f:Fv} (t:Nat) (L:ws.length≤1000000) (h:nth ws n=some f):Evt prog w (KW w):= .at t h (by have:=dR h; omega)
variable {tx:List Nat} {ws:List Fv} {n dp e:Nat}
theorem zi (L:ws.length≤1000000) {f:Fv} (h:nth ws (n+1)=some f):aU prog w (KW w) 5 (.ref ((ez w.params)).a) [.r 0,.f (.int 1)] [stm tx ws n dp] (.f f) [stm tx ws n dp]:=
 rOf 0 4 ez [.br 0 (b:=true) (Nat.blt_eq.mpr (by omega:ws.length<2 ^ 63)),.val 707026 (a:= .int (if Int.ofNat ws.length-1<Int.ofNat n+1 then Int.ofNat ws.length-1 else Int.ofNat n+1)) (b:= .int (Int.ofNat (n+1))) (by have:=dR h; rw [if_neg (by simp; omega)]; rfl),EA 0 L h] (by kernel_rfl)
theorem Bk (L:ws.length≤1000000) {s:List Nat} {v:Fv} {p:Int} (h:nth ws n=some (wd kq0 s v p)):RR prog w 10 (aL w.params) [] tx ws dp n (xO s) n:=
 rOf 0 9 aL [EA 0 L h] (by kernel_rfl)
theorem DQ (L:ws.length≤1000000) {s:List Nat} {v:Fv} {p:Int} (h:nth ws n=some (wd kq1 s v p)):RR prog w 10 (aL w.params) [] tx ws dp n (.int 0) n:=
 rOf 0 9 aL [EA 0 L h] (by kernel_rfl)
noncomputable def gJ:List (List Nat):=[kq2,kq3,kq4,kq5,kq6,kq7,kq8,kq9,aQ,aZ,bK,bm,gz,bE]
theorem DR (L:ws.length≤1000000) {s:List Nat} {v:Fv} {p:Int} (hs:s∈gJ) (h:nth ws n=some (wd an s v p)):RR prog w 10 (aL w.params) [] tx ws dp n (oN s) n:=by
 simp only [gJ,List.mem_cons,List.not_mem_nil,or_false] at hs
 rcases hs with rfl|rfl|rfl|rfl|rfl|rfl|rfl|rfl|rfl|rfl|rfl|rfl|rfl|rfl<;>
  exact rOf 0 9 aL [EA 0 L h] (by kernel_rfl)
theorem DS (L:ws.length≤1000000) {s:List Nat} {v v2:Fv} {p p2:Int} (hs:s∈[kq5,kq6,kq7,kq8]) (h:nth ws n=some (wd an bT v p)) (h2:nth ws (n+1)=some (wd an s v2 p2)):RR prog w 10 (aL w.params) [] tx ws dp n (.int 4) n:=by
 simp only [List.mem_cons,List.not_mem_nil,or_false] at hs
 rcases hs with rfl|rfl|rfl|rfl<;>
  exact rOf 0 9 aL [EA 0 L h,.call (zi (tx:=tx) (dp:=dp) L h2)] (by kernel_rfl)
inductive fI (prog:Program) (w:World) (e:Nat) (tx:List Nat) (ws:List Fv) (dp:Nat) (least:Int) (v:Fv) (m:Nat) (lf:Int):Fv→Nat→Int→Nat→Prop
 |stop:ile least lf=false→fI prog w e tx ws dp least v m lf v m lf 0
 |step {f f2:Fv} {n n2 c:Nat} {l l2:Int}:ile least l=true→RR prog w e (ak w.params) [f,.int l] tx ws dp n f2 n2→RR prog w 10 (aL w.params) [] tx ws dp n2 (.int l2) n2→fI prog w e tx ws dp least v m lf f2 n2 l2 c→fI prog w e tx ws dp least v m lf f n l (c+1)
noncomputable def exS (w:World):Stmt:=stA ((ab w.params)).body 3
noncomputable def exL (least:Int) (f:Fv) (l:Int):List (Str×V):=[(au,.r 1),(mW,.f (.int least)),(Ay,.f f),(w5,.f (.int l))]
noncomputable def exI (least:Int) (tx:List Nat) (ws:List Fv) (dp:Nat) (f:Fv) (n:Nat) (l:Int):St:=⟨exL least f l,[stm tx ws n dp,rdr]⟩
theorem vr {k:Nat} {least l lf:Int} {f v:Fv} {m c:Nat} (h:fI prog w e tx ws dp least v m lf f n l c):aV prog w (KW w) ⟨((ab w.params)).names,e,k+12⟩ (.While (whT (exS w)) (whB (exS w)) [] (whP (exS w))) (exI least tx ws dp f n l) fun fl T=>fl= .next∧T=exI least tx ws dp v m lf:=by
 refine aV.while (fun c S=> ∃f n l,S=exI least tx ws dp f n l∧fI prog w e tx ws dp least v m lf f n l c) ?_ c ⟨f,n,l,rfl,h⟩
 rintro c S ⟨f,n,l,rfl,h⟩
 cases h with
 |stop hl=>
  refine aS.mono (aS.of (S':=exI least tx ws dp v m lf) (TT prog w) (b:=false) [.br 0 hl] (by kernel_rfl)) fun b S1 ⟨e1,e2⟩=> ?_
  subst e1; subst e2
  rw [if_neg (by simp)]
  exact ⟨rfl,rfl⟩
 | @step _ f2 _ n2 c _ l2 hl ho hv hr=>
  refine aS.mono (aS.of (S':=exI least tx ws dp f n l) (TT prog w) (b:=true) [.br 0 hl] (by kernel_rfl)) fun b S1 ⟨e1,e2⟩=> ?_
  subst e1; subst e2
  rw [if_pos rfl]
  refine aP.mono (aP.of (S':=exI least tx ws dp f2 n2 l2) (TT prog w) (f:= .next) [.callE ho,.call hv] (by kernel_rfl)) fun fl S1 ⟨e1,e2⟩=> ?_
  subst e1; subst e2
  exact ⟨_,Nat.lt_succ_self _,_,_,_,rfl,hr⟩
theorem hig (d:Nat):Fv.int (Int.ofNat (d+1)-1)= .int (Int.ofNat d):=congrArg Fv.int (by simp)
theorem DT {least l lf:Int} {f v:Fv} {a m c:Nat} (hd:ilt 50 (Int.ofNat dp+1)=false) (hp:RR prog w e (ag w.params) [] tx ws (dp+1) n f a) (hv:RR prog w 10 (aL w.params) [] tx ws (dp+1) a (.int l) a) (hl:fI prog w e tx ws (dp+1) least v m lf f a l c):RR prog w (e+40) (ab w.params) [.int least] tx ws dp n v m:=
 rOf e 39 dG [.br 0 hd,.callE hp,.call hv,.loop 0 (vr (k:=27) hl),.val 764021 (hig dp)] (by kernel_rfl)
theorem Bl {l lf:Int} {f v:Fv} {a m c:Nat} (hd:ilt 50 (Int.ofNat dp+1)=false) (hp:RR prog w e (ag w.params) [] tx ws (dp+1) n f a) (hv:RR prog w 10 (aL w.params) [] tx ws (dp+1) a (.int l) a) (hl:fI prog w e tx ws (dp+1) 1 v m lf f a l c):RR prog w (e+40) (ab w.params) [] tx ws dp n v m:=
 rOf e 39 ab [.br 0 hd,.callE hp,.call hv,.loop 0 (vr (k:=27) hl),.val 764021 (hig dp)] (by kernel_rfl)
end
end
end MineS
namespace MineS
noncomputable section
open PySem PySem.W PySem.Calls PyProof.Rows
noncomputable def ce (v:Fv):Fv:= .obj 90 [(cP,v)]
noncomputable def gn (t c:Fv):Fv:= .obj 116 [(Az,t),(AA,c),(nY,.none),(lF,.none),(wQ,.int 0)]
noncomputable def fj (n:Fv):Fv:= .obj 142 [(wR,n)]
noncomputable def dJ (op:List Nat) (x:Fv):Fv:= .obj 168 [(nZ,.str op),(AB,x)]
noncomputable def fW (op:List Nat) (l r:Fv):Fv:= .obj 194 [(nZ,.str op),(lH,l),(AC,r)]
noncomputable def ko (v lo hi:Fv) (g:Bool):Fv:= .obj 220 [(cP,v),(AD,lo),(AE,hi),(fE,.bool g)]
noncomputable def fX (v:Fv) (items:List Fv) (g:Bool):Fv:= .obj 246 [(cP,v),(AF,.list items),(fE,.bool g)]
noncomputable def bA (b:Fv) (ws:List Fv) (o:Fv):Fv:= .obj 348 [(wS,b),(AG,.list ws),(AH,o)]
noncomputable def fq (nm:Fv) (as:List Fv) (d s:Bool):Fv:= .obj 374 [(n7,nm),(wT,.list as),(wU,.bool d),(wV,.bool s)]
noncomputable def kr (v ty:Fv):Fv:= .obj 400 [(cP,v),(tc,ty)]
noncomputable def l5 (v c:Fv):Fv:= .obj 426 [(cP,v),(wY,c)]
noncomputable def ks (v:Fv) (g:Bool):Fv:= .obj 452 [(cP,v),(fE,.bool g)]
noncomputable def fJ (word:List Nat) (v p e:Fv) (g:Bool):Fv:= .obj 478 [(wZ,.str word),(cP,v),(w0,p),(w4,e),(fE,.bool g)]
noncomputable def isK (f:Fv) (x:List Nat):Bool:=match f with
 | .obj _ [(_,.str k),(_,.str t),_,_]=>az k an && az t x
 |_=>false
noncomputable def isS (f:Fv) (x:List Nat):Bool:=match f with
 | .obj _ [(_,.str k),(_,.str t),_,_]=>az k kq0 && az t x
 |_=>false
noncomputable def dn (f:Fv):Prop:= ∃k t v p,f=wd k t v p
section
variable {prog:Program} {w:World} {tx:List Nat} {ws:List Fv} {n dp e:Nat}
theorem eF (L:ws.length≤1000000) {f:Fv} {x:List Nat} (hf:dn f) (h:nth ws n=some f) (hx:isK f x=false):aU prog w (KW w) 10 (.ref ((cT w.params)).a) [.r 0,.f (.str x)] [stm tx ws n dp] (.f (.bool false)) [stm tx ws n dp]:=by
 obtain ⟨k,t,v,p,rfl⟩:=hf
 replace hx:(az k an && az t x)=false:=hx
 cases hk:az k an
 ·exact rOf 0 9 cT [EA 0 L h,.br 230015 hk] (by kernel_rfl)
 ·rw [hk] at hx
  exact rOf 0 9 cT [EA 0 L h,.br 230015 hk,.br 734015 (show az t x=false from hx)] (by kernel_rfl)
theorem eX (L:ws.length≤1000000) {f:Fv} {x:List Nat} (hf:dn f) (h:nth ws n=some f) (hx:isS f x=false):aU prog w (KW w) 10 (.ref ((cO w.params)).a) [.r 0,.f (.str x)] [stm tx ws n dp] (.f (.bool false)) [stm tx ws n dp]:=by
 obtain ⟨k,t,v,p,rfl⟩:=hf
 replace hx:(az k kq0 && az t x)=false:=hx
 cases hk:az k kq0
 ·exact rOf 0 9 cO [EA 0 L h,.br 227015 hk] (by kernel_rfl)
 ·rw [hk] at hx
  exact rOf 0 9 cO [EA 0 L h,.br 227015 hk,.br 740015 (show az t x=false from hx)] (by kernel_rfl)
theorem fY (L:ws.length≤1000000) {f:Fv} {x:List Nat} (hf:dn f) (h:nth ws n=some f) (hx:isK f x=false):aU prog w (KW w) 10 (.ref ((dt w.params)).a) [.r 0,.f (.str x)] [stm tx ws n dp] (.f (.bool false)) [stm tx ws n dp]:=by
 obtain ⟨k,t,v,p,rfl⟩:=hf
 replace hx:(az k an && az t x)=false:=hx
 cases hk:az k an
 ·exact rOf 0 9 dt [EA 0 L h,.br 230015 hk] (by kernel_rfl)
 ·rw [hk] at hx
  have hx:az t x=false:=hx
  exact rOf 0 9 dt [EA 0 L h,.br 230015 hk,.val 230039 (congrArg Fv.bool hx)] (by kernel_rfl)
theorem kt (L:ws.length≤1000000) {f:Fv} {x:List Nat} (hf:dn f) (h:nth ws n=some f) (hx:isS f x=false):aU prog w (KW w) 10 (.ref ((cZ w.params)).a) [.r 0,.f (.str x)] [stm tx ws n dp] (.f (.bool false)) [stm tx ws n dp]:=by
 obtain ⟨k,t,v,p,rfl⟩:=hf
 replace hx:(az k kq0 && az t x)=false:=hx
 cases hk:az k kq0
 ·exact rOf 0 9 cZ [EA 0 L h,.br 227015 hk] (by kernel_rfl)
 ·rw [hk] at hx
  have hx:az t x=false:=hx
  exact rOf 0 9 cZ [EA 0 L h,.br 227015 hk,.val 227039 (congrArg Fv.bool hx)] (by kernel_rfl)
theorem iK (L:ws.length≤1000000) {f:Fv} (hf:dn f) (h:nth ws n=some f) (hx:isK f jT=false) (hy:isK f jU=false):aU prog w (KW w) 12 (.ref ((dI w.params)).a) [.r 0] [stm tx ws n dp] (.f (.bool false)) [stm tx ws n dp]:=
 rOf 0 11 dI [.call (fY (tx:=tx) (dp:=dp) L hf h hx),.call (fY (tx:=tx) (dp:=dp) L hf h hy)] (by kernel_rfl)
noncomputable abbrev PP (prog:Program) (w:World) (e:Nat) (tx:List Nat) (ws:List Fv) (dp n:Nat) (v:Fv) (n':Nat):Prop:=RR prog w e (ag w.params) [] tx ws dp n v n'
theorem DU (L:ws.length≤1000000) {i p:Int} {t:List Nat} (h:nth ws n=some (wd eJ t (.int i) p)) (hi:ieq i 9223372036854775808=false):PP prog w 30 tx ws dp n (ce (.int i)) (n+1):=
 rOf 0 29 ag [EA 0 L h,EA 0 L h,.br 491037 hi,EA 0 L h] (by kernel_rfl)
theorem DV (L:ws.length≤1000000) {s t:List Nat} {p:Int} (h:nth ws n=some (wd bN t (.str s) p)):PP prog w 30 tx ws dp n (ce (.str s)) (n+1):=
 rOf 0 29 ag [EA 0 L h,EA 0 L h,EA 0 L h] (by kernel_rfl)
theorem DW (L:ws.length≤1000000) {s:Array UInt8} {t:List Nat} {p:Int} (h:nth ws n=some (wd gZ t (.bytes s) p)):PP prog w 30 tx ws dp n (ce (.bytes s)) (n+1):=
 rOf 0 29 ag [EA 0 L h,EA 0 L h,EA 0 L h] (by kernel_rfl)
theorem DY (L:ws.length≤1000000) {i p:Int} {t:List Nat} (h:nth ws n=some (wd dh t (.int i) p)):PP prog w 30 tx ws dp n (fj (.int i)) (n+1):=
 rOf 0 29 ag [EA 0 L h,EA 0 L h,EA 0 L h] (by kernel_rfl)
theorem Bm (L:ws.length≤1000000) {v:Fv} {p:Int} (h:nth ws n=some (wd an cU v p)):PP prog w 30 tx ws dp n (ce .none) (n+1):=
 rOf 0 29 ag [EA 0 L h,EA 0 L h,EA 0 L h] (by kernel_rfl)
theorem DZ (L:ws.length≤1000000) {f v v2 v3:Fv} {p p3:Int} {m:Nat} (h:nth ws n=some (wd kq0 ad v p)) (hf:dn f) (h1:nth ws (n+1)=some f) (a1:isK f jT=false) (a2:isK f jU=false)
  (hx:RR prog w e (ab w.params) [] tx ws dp (n+1) v2 m) (h2:nth ws m=some (wd kq0 ac v3 p3)):PP prog w (e+30) tx ws dp n v2 (m+1):=
 rOf e 29 ag [EA 0 L h,EA 0 L h,EA 0 L h,.call (iK (tx:=tx) (dp:=dp) L hf h1 a1 a2),.callE hx,EA 0 L h2] (by kernel_rfl)
theorem D0 (L:ws.length≤1000000) {i p p2:Int} {v:Fv} {t:List Nat} (h:nth ws n=some (wd kq0 bF v p)) (h2:nth ws (n+1)=some (wd eJ t (.int i) p2)):PP prog w 30 tx ws dp n (ce (.int (0-i))) (n+2):=
 rOf 0 29 ag [EA 0 L h,EA 0 L h,EA 0 L h2,EA 0 L h2] (by kernel_rfl)
theorem vt (L:ws.length≤1000000) {p:Int} {v x:Fv} {s:List Nat} {m:Nat} (hs:s=g0∨s=jV) (h:nth ws n=some (wd kq0 s v p)) (hd:ilt 50 (Int.ofNat dp+1)=false) (hx:PP prog w e tx ws (dp+1) (n+1) x m):PP prog w (e+30) tx ws dp n (dJ s x) m:=by
 rcases hs with rfl|rfl<;>exact rOf e 29 ag [EA 0 L h,EA 0 L h,.br 760011 hd,.callE hx,.val 764021 (hig dp)] (by kernel_rfl)
theorem D1 (L:ws.length≤1000000) {p p2:Int} {v x v2:Fv} {k t:List Nat} {m:Nat} (h:nth ws n=some (wd kq0 bF v p)) (h2:nth ws (n+1)=some (wd k t v2 p2)) (hk:az k eJ=false) (hd:ilt 50 (Int.ofNat dp+1)=false) (hx:PP prog w e tx ws (dp+1) (n+1) x m):PP prog w (e+30) tx ws dp n (dJ bF x) m:=
 rOf e 29 ag [EA 0 L h,EA 0 L h,EA 0 L h2,.br 481036 hk,.br 760011 hd,.callE hx,.val 764021 (hig dp)] (by kernel_rfl)
noncomputable def oO:List Nat:=[90,116,142,168,194,220,246,348,374,400,426,452,478]
theorem Hs {α β:Type} {f:α→β} {y:β} {l:List α} (h:l.map f=l.map fun _=>y) {x:α} (hx:x∈l):f x=y:=List.map_inj_left.mp h x hx
noncomputable abbrev isG (D C:Nat):Fv:=lV GG D (cC C GG.own) (cC C)
theorem isE {D:Nat} (h:D∈oO):isG D 298= .bool false:=Hs (f:=fun D=>isG D 298) (by kernel_rfl) h
theorem isL {D:Nat} (h:D∈[116,142,168,194,220,246,348,374,400,426,452,478]):isG D 90= .bool false:=Hs (f:=fun D=>isG D 90) (by kernel_rfl) h
theorem D3 (L:ws.length≤1000000) {p:Int} {v:Fv} {D:Nat} {fs:List (Str×Fv)} {m:Nat} (hD:D∈oO) (h:nth ws n=some (wd an bT v p)) (hx:RR prog w e (ab w.params) [.int 4] tx ws dp (n+1) (.obj D fs) m):PP prog w (e+30) tx ws dp n (dJ ei (.obj D fs)) m:=
 rOf e 29 ag [EA 0 L h,EA 0 L h,.callE hx,.val 476015 (isE hD)] (by kernel_rfl)
end
end
end MineS
namespace MineS
noncomputable section
open PySem PySem.W PySem.Calls PyProof.Rows
noncomputable def Pj:List (List Nat):=[E0,E1,E2,kq3,gz,E3,kq8,aj,E4,kq9,E5,E6,E7,E8,E9,Fa,gC,Fb,bK,bE,Fc,As,Fd,Fe,Ff,Fg,kq5,Fh,Fi,Fj,Fk,kq4,Au,Fm,Fp,bT,Fq,Av,cU,Fr,kq2,Fs,Ft,Fu,Fw,jT,Fx,Fy,aZ,Aw,Ax,FA,FC,FD,FE,jU,aQ,FF]
noncomputable def Pl:List (List Nat):=[FG,FH,FI,FJ,FK,FL,FM,FN]
structure dK (t:List Nat):Prop where
 nt:az t bT=false
 nl:az t cU=false
 ex:az t As=false
 ca:az t aj=false
 cs:az t fM=false
 fr:(!ck t Pj)=true
 jn:(!ck t Pl)=true
 se:az t jT=false
 va:az t jU=false
 wh:az t aQ=false
 di:az t gC=false
theorem Stp.frzL {K:Frag} {σ σ2:List MO} {l:List Fv} {h h':Heap} {F F':Fz} {ρ ρ':Rho} {u:Value} (I:InH K σ h F ρ) (x:Stp K σ h F ρ (σ2++[.list l]) h' F' ρ') (r:bg F' ρ' (.r σ2.length) u) (ok:fF σ2.length σ2=true) (le:σ.length≤σ2.length):
  ∃F2 ρ2,Stp K σ h F ρ σ2 h' F2 ρ2∧aG F2 (.list l) u:=by
 obtain ⟨a,d,rfl,hp⟩:=r.invR
 obtain ⟨F2,s2,r2⟩:=Stp.freezeList (i:=σ2.length) (l:=l) x.I (by simp) hp
 have e3:(σ2++[MO.list l]).set σ2.length .dead=σ2++[.dead]:=by simp
 rw [e3] at s2
 exact ⟨F2,_,(x.trans s2).cut I.len ok le,r2⟩
theorem aU.freeze {prog:Program} {w:World} {K:Frag} {d n:Nat} {f:Value} {args:List V} {σ σ2:List MO} {l:List Fv} (h:aU prog w K d f args σ (.r n) (σ2++[.list l])) (hn:n=σ2.length) (ok:fF σ2.length σ2=true) (le:Nat.ble σ.length σ2.length=true):aU prog w K d f args σ (.f (.list l)) σ2:=
 fun A s F ρ vals hr ht hi ra R q=>h A s F ρ vals hr ht hi ra R fun u s' F' ρ' st r=>by
  subst hn
  obtain ⟨F2,ρ2,s2,r2⟩:=Stp.frzL hi st r ok (Nat.ble_eq.mp le)
  exact q u s' F2 ρ2 s2 (.f r2)
section
variable {prog:Program} {w:World} {tx:List Nat} {ws:List Fv} {n dp e:Nat}
theorem Pm (L:ws.length≤1000000) {x f:Fv} {m:Nat} (hx:RR prog w e (ab w.params) [] tx ws dp n x m) (hf:dn f) (h:nth ws m=some f) (hs:isS f nW=false):RR prog w (e+20) (aI w.params) [] tx ws dp n (.list [x]) m:=
 aU.freeze (n:=2) (rOf e 19 aI [.callE hx,.call (eX (tx:=tx) (dp:=dp) L hf h hs)] (by kernel_rfl)) rfl rfl rfl
theorem Pn (L:ws.length≤1000000) {x y f v:Fv} {m a:Nat} {p:Int} (hx:RR prog w e (ab w.params) [] tx ws dp n x a) (h1:nth ws a=some (wd kq0 nW v p)) (hy:RR prog w e (ab w.params) [] tx ws dp (a+1) y m) (hf:dn f) (h:nth ws m=some f) (hs:isS f nW=false):RR prog w (e+20) (aI w.params) [] tx ws dp n (.list [x,y]) m:=
 aU.freeze (n:=2) (rOf e 19 aI [.callE hx,EA 0 L h1,.callE hy,.call (eX (tx:=tx) (dp:=dp) L hf h hs)] (by kernel_rfl)) rfl rfl rfl
noncomputable abbrev OO (prog:Program) (w:World) (e:Nat) (left:Fv) (l:Int) (tx:List Nat) (ws:List Fv) (dp n:Nat) (v:Fv) (n':Nat):Prop:=RR prog w e (ak w.params) [left,.int l] tx ws dp n v n'
noncomputable abbrev XX (prog:Program) (w:World) (e:Nat) (least:Int) (tx:List Nat) (ws:List Fv) (dp n:Nat) (v:Fv) (n':Nat):Prop:=RR prog w e (ab w.params) [.int least] tx ws dp n v n'
variable {left:Fv} {l:Int}
theorem D4 (L:ws.length≤1000000) {s:List Nat} {v x:Fv} {p:Int} {m:Nat} (h:nth ws n=some (wd kq0 s v p)) (hx:XX prog w e (l+1) tx ws dp (n+1) x m):OO prog w (e+30) left l tx ws dp n (fW s left x) m:=
 rOf e 29 ak [EA 0 L h,.callE hx] (by kernel_rfl)
theorem Mx (L:ws.length≤1000000) {v x:Fv} {p:Int} {m:Nat} (h:nth ws n=some (wd an kq2 v p)) (hx:XX prog w e (l+1) tx ws dp (n+1) x m):OO prog w (e+30) left l tx ws dp n (fW tA left x) m:=
 rOf e 29 ak [EA 0 L h,.callE hx] (by kernel_rfl)
theorem Ht (L:ws.length≤1000000) {v x:Fv} {p:Int} {m:Nat} (h:nth ws n=some (wd an kq3 v p)) (hx:XX prog w e (l+1) tx ws dp (n+1) x m):OO prog w (e+30) left l tx ws dp n (fW tC left x) m:=
 rOf e 29 ak [EA 0 L h,.callE hx] (by kernel_rfl)
theorem Hu (L:ws.length≤1000000) {v x:Fv} {t:List Nat} {p p2:Int} (h:nth ws n=some (wd an kq9 v p)) (ht:dK t) (h2:nth ws (n+1)=some (wd an t x p2)):OO prog w 30 left l tx ws dp n (l5 left x) (n+2):=
 rOf 0 29 ak [EA 0 L h,EA 0 L h2,.br 754015 ht.fr,EA 0 L h2] (by kernel_rfl)
theorem zj (L:ws.length≤1000000) {v f:Fv} {p:Int} {m:Nat} (h:nth ws n=some (wd an kq4 v p)) (hf:dn f) (h2:nth ws (n+1)=some f) (hk:isK f bT=false) (hx:XX prog w e 5 tx ws dp (n+1) (ce .none) m):OO prog w (e+30) left l tx ws dp n (ks left false) m:=
 rOf e 29 ak [EA 0 L h,.call (eF (tx:=tx) (dp:=dp) L hf h2 hk),.callE hx] (by kernel_rfl)
theorem uc (L:ws.length≤1000000) {v v2:Fv} {p p2:Int} {m:Nat} (h:nth ws n=some (wd an kq4 v p)) (h2:nth ws (n+1)=some (wd an bT v2 p2)) (hx:XX prog w e 5 tx ws dp (n+2) (ce .none) m):OO prog w (e+30) left l tx ws dp n (ks left true) m:=
 rOf e 29 ak [EA 0 L h,EA 0 L h2,.callE hx] (by kernel_rfl)
inductive d5:Fv→Prop
 |other {D:Nat} {fs:List (Str×Fv)}:D∈[116,142,168,194,220,246,348,374,400,426,452,478]→d5 (.obj D fs)
 |int {i:Int}:d5 (ce (.int i))
 |str {i:List Nat}:d5 (ce (.str i))
 |bytes {i:Array UInt8}:d5 (ce (.bytes i))
theorem My (L:ws.length≤1000000) {v f x:Fv} {p:Int} {m:Nat} (h:nth ws n=some (wd an kq4 v p)) (hf:dn f) (h2:nth ws (n+1)=some f) (hk:isK f bT=false) (nn:d5 x) (hx:XX prog w e 5 tx ws dp (n+1) x m):OO prog w (e+30) left l tx ws dp n (fW iD left x) m:=by
 cases nn with
 |other hD=>exact rOf e 29 ak [EA 0 L h,.call (eF (tx:=tx) (dp:=dp) L hf h2 hk),.callE hx,.val 433011 (isL hD)] (by kernel_rfl)
 |_=>exact rOf e 29 ak [EA 0 L h,.call (eF (tx:=tx) (dp:=dp) L hf h2 hk),.callE hx] (by kernel_rfl)
theorem Bn (L:ws.length≤1000000) {v v2 x:Fv} {p p2:Int} {m:Nat} (h:nth ws n=some (wd an kq4 v p)) (h2:nth ws (n+1)=some (wd an bT v2 p2)) (nn:d5 x) (hx:XX prog w e 5 tx ws dp (n+2) x m):OO prog w (e+30) left l tx ws dp n (fW jW left x) m:=by
 cases nn with
 |other hD=>exact rOf e 29 ak [EA 0 L h,EA 0 L h2,.callE hx,.val 433011 (isL hD)] (by kernel_rfl)
 |_=>exact rOf e 29 ak [EA 0 L h,EA 0 L h2,.callE hx] (by kernel_rfl)
theorem Bp (L:ws.length≤1000000) {v v2 x y:Fv} {p p2:Int} {a m:Nat} (h:nth ws n=some (wd an kq8 v p)) (hx:XX prog w e 4 tx ws dp (n+1) x a) (h2:nth ws a=some (wd an kq3 v2 p2)) (hy:XX prog w e 5 tx ws dp (a+1) y m):OO prog w (e+30) left l tx ws dp n (ko left x y false) m:=
 rOf e 29 ak [EA 0 L h,.callE hx,EA 0 L h2,.callE hy] (by kernel_rfl)
theorem Bq (L:ws.length≤1000000) {v v2 v3:Fv} {p p2 p3:Int} (h:nth ws n=some (wd an kq5 v p)) (h2:nth ws (n+1)=some (wd kq0 ad v2 p2)) (h3:nth ws (n+2)=some (wd kq0 ac v3 p3)):OO prog w 30 left l tx ws dp n (fX left [] false) (n+3):=
 rOf 0 29 ak [EA 0 L h,EA 0 L h2,EA 0 L h3,EA 0 L h3,EA 0 L h3,EA 0 L h3] (by kernel_rfl)
theorem D5 (L:ws.length≤1000000) {v v2 v3 f:Fv} {p p2 p3:Int} {xs:List Fv} {m:Nat} (h:nth ws n=some (wd an kq5 v p)) (h2:nth ws (n+1)=some (wd kq0 ad v2 p2)) (hf:dn f) (h4:nth ws (n+2)=some f) (a1:isK f jT=false) (a2:isK f jU=false) (a3:isS f ac=false) (hx:RR prog w e (aI w.params) [] tx ws dp (n+2) (.list xs) m) (h3:nth ws m=some (wd kq0 ac v3 p3)):OO prog w (e+30) left l tx ws dp n (fX left xs false) (m+1):=
 rOf e 29 ak [EA 0 L h,EA 0 L h2,.call (iK (tx:=tx) (dp:=dp) L hf h4 a1 a2),.call (kt (tx:=tx) (dp:=dp) L hf h4 a3),.callE hx,EA 0 L h3] (by kernel_rfl)
theorem Br (L:ws.length≤1000000) {v f x:Fv} {p:Int} {u lo:List Nat} {m:Nat} (hu:u=kq6∧lo=jX∨u=kq7∧lo=jY) (h:nth ws n=some (wd an u v p)) (hx:XX prog w e 5 tx ws dp (n+1) x m) (hf:dn f) (h2:nth ws m=some f) (he:isK f bE=false):OO prog w (e+30) left l tx ws dp n (fJ lo left x .none false) m:=by
 rcases hu with ⟨rfl,rfl⟩|⟨rfl,rfl⟩<;>exact rOf e 29 ak [EA 0 L h,.callE hx,.call (eF (tx:=tx) (dp:=dp) L hf h2 he)] (by kernel_rfl)
theorem Bs (L:ws.length≤1000000) {v v2 x y:Fv} {p p2:Int} {u lo:List Nat} {a m:Nat} (hu:u=kq6∧lo=jX∨u=kq7∧lo=jY) (h:nth ws n=some (wd an u v p)) (hx:XX prog w e 5 tx ws dp (n+1) x a) (h2:nth ws a=some (wd an bE v2 p2)) (hy:XX prog w e 5 tx ws dp (a+1) y m):OO prog w (e+30) left l tx ws dp n (fJ lo left x y false) m:=by
 rcases hu with ⟨rfl,rfl⟩|⟨rfl,rfl⟩<;>exact rOf e 29 ak [EA 0 L h,.callE hx,EA 0 L h2,.callE hy] (by kernel_rfl)
theorem Bu (L:ws.length≤1000000) {v v2 x y:Fv} {p p2:Int} {a m:Nat} {v0:Fv} {p0:Int} (h0:nth ws n=some (wd an bT v0 p0)) (h:nth ws (n+1)=some (wd an kq8 v p)) (hx:XX prog w e 4 tx ws dp (n+2) x a) (h2:nth ws a=some (wd an kq3 v2 p2)) (hy:XX prog w e 5 tx ws dp (a+1) y m):OO prog w (e+30) left l tx ws dp n (ko left x y true) m:=
 rOf e 29 ak [EA 0 L h0,EA 0 L h,.callE hx,EA 0 L h2,.callE hy] (by kernel_rfl)
theorem Bv (L:ws.length≤1000000) {v v2 v3:Fv} {p p2 p3:Int} {v0:Fv} {p0:Int} (h0:nth ws n=some (wd an bT v0 p0)) (h:nth ws (n+1)=some (wd an kq5 v p)) (h2:nth ws (n+2)=some (wd kq0 ad v2 p2)) (h3:nth ws (n+3)=some (wd kq0 ac v3 p3)):OO prog w 30 left l tx ws dp n (fX left [] true) (n+4):=
 rOf 0 29 ak [EA 0 L h0,EA 0 L h,EA 0 L h2,EA 0 L h3,EA 0 L h3,EA 0 L h3,EA 0 L h3] (by kernel_rfl)
theorem D6 (L:ws.length≤1000000) {v v2 v3 f:Fv} {p p2 p3:Int} {xs:List Fv} {m:Nat} {v0:Fv} {p0:Int} (h0:nth ws n=some (wd an bT v0 p0)) (h:nth ws (n+1)=some (wd an kq5 v p)) (h2:nth ws (n+2)=some (wd kq0 ad v2 p2)) (hf:dn f) (h4:nth ws (n+3)=some f) (a1:isK f jT=false) (a2:isK f jU=false) (a3:isS f ac=false) (hx:RR prog w e (aI w.params) [] tx ws dp (n+3) (.list xs) m) (h3:nth ws m=some (wd kq0 ac v3 p3)):OO prog w (e+30) left l tx ws dp n (fX left xs true) (m+1):=
 rOf e 29 ak [EA 0 L h0,EA 0 L h,EA 0 L h2,.call (iK (tx:=tx) (dp:=dp) L hf h4 a1 a2),.call (kt (tx:=tx) (dp:=dp) L hf h4 a3),.callE hx,EA 0 L h3] (by kernel_rfl)
theorem Bw (L:ws.length≤1000000) {v f x:Fv} {p:Int} {u lo:List Nat} {m:Nat} {v0:Fv} {p0:Int} (hu:u=kq6∧lo=jX∨u=kq7∧lo=jY) (h0:nth ws n=some (wd an bT v0 p0)) (h:nth ws (n+1)=some (wd an u v p)) (hx:XX prog w e 5 tx ws dp (n+2) x m) (hf:dn f) (h2:nth ws m=some f) (he:isK f bE=false):OO prog w (e+30) left l tx ws dp n (fJ lo left x .none true) m:=by
 rcases hu with ⟨rfl,rfl⟩|⟨rfl,rfl⟩<;>exact rOf e 29 ak [EA 0 L h0,EA 0 L h,.callE hx,.call (eF (tx:=tx) (dp:=dp) L hf h2 he)] (by kernel_rfl)
theorem Bx (L:ws.length≤1000000) {v v2 x y:Fv} {p p2:Int} {u lo:List Nat} {a m:Nat} {v0:Fv} {p0:Int} (hu:u=kq6∧lo=jX∨u=kq7∧lo=jY) (h0:nth ws n=some (wd an bT v0 p0)) (h:nth ws (n+1)=some (wd an u v p)) (hx:XX prog w e 5 tx ws dp (n+2) x a) (h2:nth ws a=some (wd an bE v2 p2)) (hy:XX prog w e 5 tx ws dp (a+1) y m):OO prog w (e+30) left l tx ws dp n (fJ lo left x y true) m:=by
 rcases hu with ⟨rfl,rfl⟩|⟨rfl,rfl⟩<;>exact rOf e 29 ak [EA 0 L h0,EA 0 L h,.callE hx,EA 0 L h2,.callE hy] (by kernel_rfl)
end
end
end MineS
namespace MineS
noncomputable section
open PySem PySem.W PySem.Calls PyProof.Rows
section
variable {prog:Program} {w:World} {tx:List Nat} {ws:List Fv} {n dp e:Nat}
noncomputable def idE (L:ws.length≤1000000) {t:List Nat} {v:Fv} {p:Int} (h:nth ws n=some (wd an t v p)) (o:dK t):List (Evt prog w (KW w)):=[EA 0 L h,.br 473011 o.nt,EA 0 L h,.br 499011 o.nl,.br 502011 o.ex,.br 505011 o.ca,.br 507011 o.cs,EA 0 L h,.br 754015 o.fr,EA 0 L h]
theorem Hv (L:ws.length≤1000000) {t:List Nat} {v f:Fv} {p:Int} (h:nth ws n=some (wd an t v p)) (o:dK t) (hf:dn f) (h2:nth ws (n+1)=some f) (a1:isS f fO=false) (a2:isS f ad=false):PP prog w 30 tx ws dp n (gn .none v) (n+1):=
 rOf 0 29 ag (idE L h o++[.call (eX (tx:=tx) (dp:=dp) L hf h2 a1),.call (eX (tx:=tx) (dp:=dp) L hf h2 a2)]) (by kernel_rfl)
theorem D7 (L:ws.length≤1000000) {t t2:List Nat} {v v2 v3:Fv} {p p2 p3:Int} (h:nth ws n=some (wd an t v p)) (o:dK t) (h2:nth ws (n+1)=some (wd kq0 fO v2 p2)) (h3:nth ws (n+2)=some (wd an t2 v3 p3)) (o2:dK t2):PP prog w 30 tx ws dp n (gn v v3) (n+3):=
 rOf 0 29 ag (idE L h o++[EA 0 L h2,EA 0 L h3,.br 754015 o2.fr,EA 0 L h3]) (by kernel_rfl)
theorem zk (L:ws.length≤1000000) {t:List Nat} {v v2 v3:Fv} {p p2 p3:Int} (h:nth ws n=some (wd an t v p)) (o:dK t) (h2:nth ws (n+1)=some (wd kq0 ad v2 p2)) (h3:nth ws (n+2)=some (wd kq0 ac v3 p3)):PP prog w 30 tx ws dp n (fq v [] false false) (n+3):=
 rOf 0 29 ag (idE L h o++[EA 0 L h2,EA 0 L h2,EA 0 L h3,EA 0 L h3,EA 0 L h3,EA 0 L h3]) (by kernel_rfl)
theorem zl (L:ws.length≤1000000) {t:List Nat} {v v2 v3 v4:Fv} {p p2 p3 p4:Int} (h:nth ws n=some (wd an t v p)) (o:dK t) (h2:nth ws (n+1)=some (wd kq0 ad v2 p2)) (h3:nth ws (n+2)=some (wd kq0 fD v3 p3)) (h4:nth ws (n+3)=some (wd kq0 ac v4 p4)):PP prog w 30 tx ws dp n (fq v [] false true) (n+4):=
 rOf 0 29 ag (idE L h o++[EA 0 L h2,EA 0 L h2,EA 0 L h3,EA 0 L h4]) (by kernel_rfl)
theorem By (L:ws.length≤1000000) {t:List Nat} {v v2 v3 f:Fv} {p p2 p3:Int} {xs:List Fv} {m:Nat} (h:nth ws n=some (wd an t v p)) (o:dK t) (h2:nth ws (n+1)=some (wd kq0 ad v2 p2)) (hf:dn f) (h4:nth ws (n+2)=some f) (a1:isS f fD=false) (a2:isK f gC=false) (a3:isS f ac=false)
  (hx:RR prog w e (aI w.params) [] tx ws dp (n+2) (.list xs) m) (h3:nth ws m=some (wd kq0 ac v3 p3)):PP prog w (e+30) tx ws dp n (fq v xs false false) (m+1):=
 rOf e 29 ag (idE L h o++[EA 0 L h2,EA 0 L h2,.call (eX (tx:=tx) (dp:=dp) L hf h4 a1),.call (eF (tx:=tx) (dp:=dp) L hf h4 a2),.call (kt (tx:=tx) (dp:=dp) L hf h4 a3),.callE hx,EA 0 L h3]) (by kernel_rfl)
theorem zn (L:ws.length≤1000000) {t:List Nat} {v v2 v3 v4:Fv} {p p2 p3 p4:Int} {xs:List Fv} {m:Nat} (h:nth ws n=some (wd an t v p)) (o:dK t) (h2:nth ws (n+1)=some (wd kq0 ad v2 p2)) (h4:nth ws (n+2)=some (wd an gC v4 p4))
  (hx:RR prog w e (aI w.params) [] tx ws dp (n+3) (.list xs) m) (h3:nth ws m=some (wd kq0 ac v3 p3)):PP prog w (e+30) tx ws dp n (fq v xs true false) (m+1):=
 rOf e 29 ag (idE L h o++[EA 0 L h2,EA 0 L h2,EA 0 L h4,EA 0 L h4,.callE hx,EA 0 L h3]) (by kernel_rfl)
noncomputable abbrev TY (prog:Program) (w:World) (tx:List Nat) (ws:List Fv) (dp n:Nat) (v:List Nat) (n':Nat):Prop:=aU prog w (KW w) 25 (.ref ((eV w.params)).a) [.r 0] [stm tx ws n dp] (.f (.str v)) [stm tx ws n' dp]
theorem xP (L:ws.length≤1000000) {t:List Nat} {v2 v4 v5:Fv} {p p2 p3 p4 p5:Int} {t3:List Nat} (h:nth ws n=some (wd an t (.str FO) p)) (o:dK t) (h2:nth ws (n+1)=some (wd kq0 ad v2 p2)) (h3:nth ws (n+2)=some (wd eJ t3 (.int 10) p3)) (h4:nth ws (n+3)=some (wd kq0 ac v4 p4)):TY prog w tx ws dp n lD (n+4):=
 rOf 0 24 eV [EA 0 L h,.br 236015 o.fr,.br 163010 o.jn,EA 0 L h,EA 0 L h2,EA 0 L h2,EA 0 L h3,EA 0 L h3,EA 0 L h3,EA 0 L h3,EA 0 L h4,EA 0 L h4] (by kernel_rfl)
theorem pk (L:ws.length≤1000000) {t t2:List Nat} {v4:Fv} {p p2 p4:Int} (h:nth ws n=some (wd an t (.str FP) p)) (o:dK t) (h2:nth ws (n+1)=some (wd an t2 (.str FQ) p2)) (o2:dK t2) (h4:nth ws (n+2)=some (wd kq0 ac v4 p4)):TY prog w tx ws dp n jZ (n+2):=
 rOf 0 24 eV [EA 0 L h,.br 236015 o.fr,.br 163010 o.jn,EA 0 L h,EA 0 L h2,.br 236015 o2.fr,.br 163010 o2.jn,EA 0 L h2,EA 0 L h4,EA 0 L h4] (by kernel_rfl)
theorem zo (L:ws.length≤1000000) {t:List Nat} {v4:Fv} {p p4:Int} (h:nth ws n=some (wd an t (.str lD) p)) (o:dK t) (h4:nth ws (n+1)=some (wd kq0 ac v4 p4)):TY prog w tx ws dp n lD (n+1):=
 rOf 0 24 eV [EA 0 L h,.br 236015 o.fr,.br 163010 o.jn,EA 0 L h,EA 0 L h4,EA 0 L h4] (by kernel_rfl)
theorem Bz (L:ws.length≤1000000) {v v2 v3 v4 x:Fv} {p p2 p3 p4:Int} {ty:List Nat} {a m:Nat} (h:nth ws n=some (wd an fM v p)) (h2:nth ws (n+1)=some (wd kq0 ad v2 p2)) (hx:RR prog w e (ab w.params) [] tx ws dp (n+2) x a) (h3:nth ws a=some (wd an gz v3 p3)) (ht:TY prog w tx ws dp (a+1) ty m) (h4:nth ws m=some (wd kq0 ac v4 p4)):PP prog w (e+40) tx ws dp n (kr x (.str ty)) (m+1):=
 rOf e 39 ag [EA 0 L h,EA 0 L h,.call (zi (tx:=tx) (dp:=dp) L h2),EA 0 L h,EA 0 L h2,.callE hx,EA 0 L h3,.call ht,EA 0 L h4] (by kernel_rfl)
theorem uL (L:ws.length≤1000000) {v:Fv} {p:Int} {v1 u1 x1 y1:Fv} {p1 q1:Int} {a1 b1:Nat} {vn:Fv} {pn:Int} (h:nth ws n=some (wd an aj v p)) (hw1:nth ws (n+1)=some (wd an aQ v1 p1)) (hx1:RR prog w e (ab w.params) [] tx ws dp (n+2) x1 a1) (ht1:nth ws a1=some (wd an aZ u1 q1)) (hy1:RR prog w e (ab w.params) [] tx ws dp (a1+1) y1 b1) (hn:nth ws b1=some (wd an bm vn pn)):PP prog w (e+30) tx ws dp n (bA .none [.tup [x1,y1]] .none) (b1+1):=
 rOf e 29 ag [EA 0 L h,EA 0 L h,EA 0 L h,EA 0 L hw1,EA 0 L hw1,.callE hx1,EA 0 L ht1,.callE hy1,EA 0 L hn,EA 0 L hn,EA 0 L hn] (by kernel_rfl)
theorem uM (L:ws.length≤1000000) {v:Fv} {p:Int} {v1 u1 x1 y1:Fv} {p1 q1:Int} {a1 b1:Nat} {ve o0:Fv} {pe:Int} {c0:Nat} {vn:Fv} {pn:Int} (h:nth ws n=some (wd an aj v p)) (hw1:nth ws (n+1)=some (wd an aQ v1 p1)) (hx1:RR prog w e (ab w.params) [] tx ws dp (n+2) x1 a1) (ht1:nth ws a1=some (wd an aZ u1 q1)) (hy1:RR prog w e (ab w.params) [] tx ws dp (a1+1) y1 b1) (he:nth ws b1=some (wd an bK ve pe)) (ho:RR prog w e (ab w.params) [] tx ws dp (b1+1) o0 c0) (hn:nth ws c0=some (wd an bm vn pn)):PP prog w (e+30) tx ws dp n (bA .none [.tup [x1,y1]] o0) (c0+1):=
 rOf e 29 ag [EA 0 L h,EA 0 L h,EA 0 L h,EA 0 L hw1,EA 0 L hw1,.callE hx1,EA 0 L ht1,.callE hy1,EA 0 L he,EA 0 L he,.callE ho,EA 0 L hn] (by kernel_rfl)
theorem uN (L:ws.length≤1000000) {v:Fv} {p:Int} {v1 u1 x1 y1:Fv} {p1 q1:Int} {a1 b1:Nat} {v2 u2 x2 y2:Fv} {p2 q2:Int} {a2 b2:Nat} {vn:Fv} {pn:Int} (h:nth ws n=some (wd an aj v p)) (hw1:nth ws (n+1)=some (wd an aQ v1 p1)) (hx1:RR prog w e (ab w.params) [] tx ws dp (n+2) x1 a1) (ht1:nth ws a1=some (wd an aZ u1 q1)) (hy1:RR prog w e (ab w.params) [] tx ws dp (a1+1) y1 b1) (hw2:nth ws b1=some (wd an aQ v2 p2)) (hx2:RR prog w e (ab w.params) [] tx ws dp (b1+1) x2 a2) (ht2:nth ws a2=some (wd an aZ u2 q2)) (hy2:RR prog w e (ab w.params) [] tx ws dp (a2+1) y2 b2) (hn:nth ws b2=some (wd an bm vn pn)):PP prog w (e+30) tx ws dp n (bA .none [.tup [x1,y1],.tup [x2,y2]] .none) (b2+1):=
 rOf e 29 ag [EA 0 L h,EA 0 L h,EA 0 L h,EA 0 L hw1,EA 0 L hw1,.callE hx1,EA 0 L ht1,.callE hy1,EA 0 L hw2,.callE hx2,EA 0 L ht2,.callE hy2,EA 0 L hn,EA 0 L hn,EA 0 L hn] (by kernel_rfl)
theorem uO (L:ws.length≤1000000) {v:Fv} {p:Int} {v1 u1 x1 y1:Fv} {p1 q1:Int} {a1 b1:Nat} {v2 u2 x2 y2:Fv} {p2 q2:Int} {a2 b2:Nat} {ve o0:Fv} {pe:Int} {c0:Nat} {vn:Fv} {pn:Int} (h:nth ws n=some (wd an aj v p)) (hw1:nth ws (n+1)=some (wd an aQ v1 p1)) (hx1:RR prog w e (ab w.params) [] tx ws dp (n+2) x1 a1) (ht1:nth ws a1=some (wd an aZ u1 q1)) (hy1:RR prog w e (ab w.params) [] tx ws dp (a1+1) y1 b1) (hw2:nth ws b1=some (wd an aQ v2 p2)) (hx2:RR prog w e (ab w.params) [] tx ws dp (b1+1) x2 a2) (ht2:nth ws a2=some (wd an aZ u2 q2)) (hy2:RR prog w e (ab w.params) [] tx ws dp (a2+1) y2 b2) (he:nth ws b2=some (wd an bK ve pe)) (ho:RR prog w e (ab w.params) [] tx ws dp (b2+1) o0 c0) (hn:nth ws c0=some (wd an bm vn pn)):PP prog w (e+30) tx ws dp n (bA .none [.tup [x1,y1],.tup [x2,y2]] o0) (c0+1):=
 rOf e 29 ag [EA 0 L h,EA 0 L h,EA 0 L h,EA 0 L hw1,EA 0 L hw1,.callE hx1,EA 0 L ht1,.callE hy1,EA 0 L hw2,.callE hx2,EA 0 L ht2,.callE hy2,EA 0 L he,EA 0 L he,.callE ho,EA 0 L hn] (by kernel_rfl)
theorem uQ (L:ws.length≤1000000) {v:Fv} {p:Int} {b0 f:Fv} {a0:Nat} {v1 u1 x1 y1:Fv} {p1 q1:Int} {a1 b1:Nat} {vn:Fv} {pn:Int} (h:nth ws n=some (wd an aj v p)) (hf:dn f) (hf1:nth ws (n+1)=some f) (hf2:isK f aQ=false) (hb:RR prog w e (ab w.params) [] tx ws dp (n+1) b0 a0) (hw1:nth ws a0=some (wd an aQ v1 p1)) (hx1:RR prog w e (ab w.params) [] tx ws dp (a0+1) x1 a1) (ht1:nth ws a1=some (wd an aZ u1 q1)) (hy1:RR prog w e (ab w.params) [] tx ws dp (a1+1) y1 b1) (hn:nth ws b1=some (wd an bm vn pn)):PP prog w (e+30) tx ws dp n (bA b0 [.tup [x1,y1]] .none) (b1+1):=
 rOf e 29 ag [EA 0 L h,EA 0 L h,EA 0 L h,.call (fY (tx:=tx) (dp:=dp) L hf hf1 hf2),.callE hb,EA 0 L hw1,.callE hx1,EA 0 L ht1,.callE hy1,EA 0 L hn,EA 0 L hn,EA 0 L hn] (by kernel_rfl)
theorem uR (L:ws.length≤1000000) {v:Fv} {p:Int} {b0 f:Fv} {a0:Nat} {v1 u1 x1 y1:Fv} {p1 q1:Int} {a1 b1:Nat} {ve o0:Fv} {pe:Int} {c0:Nat} {vn:Fv} {pn:Int} (h:nth ws n=some (wd an aj v p)) (hf:dn f) (hf1:nth ws (n+1)=some f) (hf2:isK f aQ=false) (hb:RR prog w e (ab w.params) [] tx ws dp (n+1) b0 a0) (hw1:nth ws a0=some (wd an aQ v1 p1)) (hx1:RR prog w e (ab w.params) [] tx ws dp (a0+1) x1 a1) (ht1:nth ws a1=some (wd an aZ u1 q1)) (hy1:RR prog w e (ab w.params) [] tx ws dp (a1+1) y1 b1) (he:nth ws b1=some (wd an bK ve pe)) (ho:RR prog w e (ab w.params) [] tx ws dp (b1+1) o0 c0) (hn:nth ws c0=some (wd an bm vn pn)):PP prog w (e+30) tx ws dp n (bA b0 [.tup [x1,y1]] o0) (c0+1):=
 rOf e 29 ag [EA 0 L h,EA 0 L h,EA 0 L h,.call (fY (tx:=tx) (dp:=dp) L hf hf1 hf2),.callE hb,EA 0 L hw1,.callE hx1,EA 0 L ht1,.callE hy1,EA 0 L he,EA 0 L he,.callE ho,EA 0 L hn] (by kernel_rfl)
theorem uS (L:ws.length≤1000000) {v:Fv} {p:Int} {b0 f:Fv} {a0:Nat} {v1 u1 x1 y1:Fv} {p1 q1:Int} {a1 b1:Nat} {v2 u2 x2 y2:Fv} {p2 q2:Int} {a2 b2:Nat} {vn:Fv} {pn:Int} (h:nth ws n=some (wd an aj v p)) (hf:dn f) (hf1:nth ws (n+1)=some f) (hf2:isK f aQ=false) (hb:RR prog w e (ab w.params) [] tx ws dp (n+1) b0 a0) (hw1:nth ws a0=some (wd an aQ v1 p1)) (hx1:RR prog w e (ab w.params) [] tx ws dp (a0+1) x1 a1) (ht1:nth ws a1=some (wd an aZ u1 q1)) (hy1:RR prog w e (ab w.params) [] tx ws dp (a1+1) y1 b1) (hw2:nth ws b1=some (wd an aQ v2 p2)) (hx2:RR prog w e (ab w.params) [] tx ws dp (b1+1) x2 a2) (ht2:nth ws a2=some (wd an aZ u2 q2)) (hy2:RR prog w e (ab w.params) [] tx ws dp (a2+1) y2 b2) (hn:nth ws b2=some (wd an bm vn pn)):PP prog w (e+30) tx ws dp n (bA b0 [.tup [x1,y1],.tup [x2,y2]] .none) (b2+1):=
 rOf e 29 ag [EA 0 L h,EA 0 L h,EA 0 L h,.call (fY (tx:=tx) (dp:=dp) L hf hf1 hf2),.callE hb,EA 0 L hw1,.callE hx1,EA 0 L ht1,.callE hy1,EA 0 L hw2,.callE hx2,EA 0 L ht2,.callE hy2,EA 0 L hn,EA 0 L hn,EA 0 L hn] (by kernel_rfl)
theorem uT (L:ws.length≤1000000) {v:Fv} {p:Int} {b0 f:Fv} {a0:Nat} {v1 u1 x1 y1:Fv} {p1 q1:Int} {a1 b1:Nat} {v2 u2 x2 y2:Fv} {p2 q2:Int} {a2 b2:Nat} {ve o0:Fv} {pe:Int} {c0:Nat} {vn:Fv} {pn:Int} (h:nth ws n=some (wd an aj v p)) (hf:dn f) (hf1:nth ws (n+1)=some f) (hf2:isK f aQ=false) (hb:RR prog w e (ab w.params) [] tx ws dp (n+1) b0 a0) (hw1:nth ws a0=some (wd an aQ v1 p1)) (hx1:RR prog w e (ab w.params) [] tx ws dp (a0+1) x1 a1) (ht1:nth ws a1=some (wd an aZ u1 q1)) (hy1:RR prog w e (ab w.params) [] tx ws dp (a1+1) y1 b1) (hw2:nth ws b1=some (wd an aQ v2 p2)) (hx2:RR prog w e (ab w.params) [] tx ws dp (b1+1) x2 a2) (ht2:nth ws a2=some (wd an aZ u2 q2)) (hy2:RR prog w e (ab w.params) [] tx ws dp (a2+1) y2 b2) (he:nth ws b2=some (wd an bK ve pe)) (ho:RR prog w e (ab w.params) [] tx ws dp (b2+1) o0 c0) (hn:nth ws c0=some (wd an bm vn pn)):PP prog w (e+30) tx ws dp n (bA b0 [.tup [x1,y1],.tup [x2,y2]] o0) (c0+1):=
 rOf e 29 ag [EA 0 L h,EA 0 L h,EA 0 L h,.call (fY (tx:=tx) (dp:=dp) L hf hf1 hf2),.callE hb,EA 0 L hw1,.callE hx1,EA 0 L ht1,.callE hy1,EA 0 L hw2,.callE hx2,EA 0 L ht2,.callE hy2,EA 0 L he,EA 0 L he,.callE ho,EA 0 L hn] (by kernel_rfl)
end
end
end MineS
namespace MineS
noncomputable section
open PySem PySem.W PySem.Calls PyProof.Rows
noncomputable def l6:List Nat:=Nk
noncomputable def fZ:List Nat:=Nl
noncomputable def nmS:List Nat:=Nm
noncomputable def so2:List (List Nat):=[kE,kF,iU,vE,vF,kG,kH,kI]
noncomputable def so1:List Nat:=IU
noncomputable def scn (T:List Nat) (n:Nat) (g:Int):MO:= .inst 725 [(cW,.f (.str T)),(lF,.f (.int (Int.ofNat n))),(Ay,.r 1),(Gu,.f (.int g))]
noncomputable def SC (T:List Nat) (n:Nat) (g:Int) (ws:List Fv):List MO:=[scn T n g,.list ws]
section
variable {prog:Program} {w:World} {T:List Nat} {ws:List Fv} {n e:Nat} {g:Int}
theorem b63 (hT:T.length≤1000000):Nat.blt T.length (2 ^ 63)=true:=Nat.blt_eq.mpr (by omega)
theorem b24 (hT:T.length≤1000000):Nat.ble T.length 16777216=true:=Nat.ble_eq.mpr (by omega)
noncomputable def EC {x:Nat} (t:Nat) (hT:T.length≤1000000) (h:nth T n=some x):Evt prog w (KW w):= .chr t h (by have:=dR h; omega)
theorem ltI {a b:Nat} (h:a<b):ilt (Int.ofNat a) (Int.ofNat b)=true:=by simp [ilt,h]
theorem Hw {a b:Nat} (h:b≤a):ilt (Int.ofNat a) (Int.ofNat b)=false:=by simp [ilt,h]
theorem slI {a b:Nat} {x:List Nat} (h:(T.take b).drop a=x):Fv.str ((T.take b).drop a)= .str x:=congrArg Fv.str h
structure oP (T S:List Nat) (b s:Nat):Prop where
 le:b≤s
 inn: ∀j,b≤j→j<s→ ∃c,nth T j=some c∧has c S=true
 out:s=T.length∨ ∃c,nth T s=some c∧has c S=false
theorem oP.len {S:List Nat} {b s:Nat} (h:oP T S b s) (hb:b≤T.length):s≤T.length:=by
 rcases h.out with h1|⟨c,h1,_⟩
 ·omega
 ·have:=dR h1; omega
noncomputable def eoW (w:World):Stmt:=stA ((dm w.params)).body 1
noncomputable def eoL (S T:List Nat) (j:Nat):List (Str×V):=[(au,.r 0),(CC,.f (.str S)),(mV,.f (.int (Int.ofNat j))),(cW,.f (.str T))]
theorem D8 {k:Nat} (hT:T.length≤1000000) {S:List Nat} {b s:Nat} (hs:oP T S b s) (hb:b≤T.length):aV prog w (KW w) ⟨((dm w.params)).names,e,k+5⟩ (.While (whT (eoW w)) (whB (eoW w)) [] (whP (eoW w))) ⟨eoL S T b,SC T n g ws⟩ fun fl T'=>fl= .next∧T'=⟨eoL S T s,SC T n g ws⟩:=by
 have hl:=hs.len hb
 refine aV.while (fun c Z=> ∃j,Z=⟨eoL S T j,SC T n g ws⟩∧b≤j∧j+c=s) ?_ (s-b) ⟨b,rfl,Nat.le_refl _,by have:=hs.le; omega⟩
 rintro c Z ⟨j,rfl,hj,hc⟩
 cases c with
 |zero=>
  have hjs:j=s:=by omega
  subst hjs
  rcases hs.out with h1|⟨x,h1,h2⟩
  ·refine aS.mono (aS.of (S':=⟨eoL S T j,SC T n g ws⟩) (TT prog w) (b:=false) [.br 274020 (b63 hT),.br 274014 (Hw (Nat.le_of_eq h1.symm))] (by kernel_rfl)) fun b S1 ⟨e1,e2⟩=> ?_
   subst e1; subst e2
   rw [if_neg (by simp)]
   exact ⟨rfl,rfl⟩
  ·refine aS.mono (aS.of (S':=⟨eoL S T j,SC T n g ws⟩) (TT prog w) (b:=false) [.br 274020 (b63 hT),.br 274014 (ltI (dR h1)),EC 0 hT h1,.br 274034 h2] (by kernel_rfl)) fun b S1 ⟨e1,e2⟩=> ?_
   subst e1; subst e2
   rw [if_neg (by simp)]
   exact ⟨rfl,rfl⟩
 |succ c=>
  obtain ⟨x,h1,h2⟩:=hs.inn j hj (by omega)
  refine aS.mono (aS.of (S':=⟨eoL S T j,SC T n g ws⟩) (TT prog w) (b:=true) [.br 274020 (b63 hT),.br 274014 (ltI (dR h1)),EC 0 hT h1,.br 274034 h2] (by kernel_rfl)) fun b S1 ⟨e1,e2⟩=> ?_
  subst e1; subst e2
  rw [if_pos rfl]
  refine aP.mono (aP.of (S':=⟨eoL S T (j+1),SC T n g ws⟩) (TT prog w) (f:= .next) [] (by kernel_rfl)) fun fl S1 ⟨e1,e2⟩=> ?_
  subst e1; subst e2
  exact ⟨c,Nat.lt_succ_self _,j+1,rfl,by omega,by omega⟩
theorem ku (hT:T.length≤1000000) {S:List Nat} {b s:Nat} (hs:oP T S b s) (hb:b≤T.length):aU prog w (KW w) 10 (.ref ((dm w.params)).a) [.r 0,.f (.str S),.f (.int (Int.ofNat b))] (SC T n g ws) (.f (.int (Int.ofNat s))) (SC T n g ws):=
 rOf 0 9 dm [.loop 0 (D8 (e:=0) (n:=n) (g:=g) (ws:=ws) (k:=4) hT hs hb)] (by kernel_rfl)
structure CZ (T:List Nat) (b s:Nat):Prop where
 le:b≤s
 inn: ∀j,b≤j→j<s→ ∃c,nth T j=some c∧has c nmS=true
 out:s=T.length∨ ∃c,nth T s=some c∧has c nmS=false∧ilt 127 (Int.ofNat c)=false
noncomputable def baW (w:World):Stmt:=stA ((fU w.params)).body 3
noncomputable def baL (T:List Nat) (x j:Nat):List (Str×V):=[(au,.r 0),(kY,.f (.str [x])),(cW,.f (.str T)),(mV,.f (.int (Int.ofNat j)))]
theorem D9 {k x:Nat} (hT:T.length≤1000000) {b s:Nat} (hs:CZ T b s):aV prog w (KW w) ⟨((fU w.params)).names,e,k+5⟩ (.While (whT (baW w)) (whB (baW w)) [] (whP (baW w))) ⟨baL T x b,SC T n g ws⟩ fun fl T'=>fl= .next∧T'=⟨baL T x s,SC T n g ws⟩:=by
 refine aV.while (fun c Z=> ∃j,Z=⟨baL T x j,SC T n g ws⟩∧b≤j∧j+c=s) ?_ (s-b) ⟨b,rfl,Nat.le_refl _,by have:=hs.le; omega⟩
 rintro c Z ⟨j,rfl,hj,hc⟩
 cases c with
 |zero=>
  have hjs:j=s:=by omega
  subst hjs
  rcases hs.out with h1|⟨y,h1,h2,h3⟩
  ·refine aS.mono (aS.of (S':=⟨baL T x j,SC T n g ws⟩) (TT prog w) (b:=false) [.br 284020 (b63 hT),.br 284014 (Hw (Nat.le_of_eq h1.symm))] (by kernel_rfl)) fun b S1 ⟨e1,e2⟩=> ?_
   subst e1; subst e2
   rw [if_neg (by simp)]
   exact ⟨rfl,rfl⟩
  ·refine aS.mono (aS.of (S':=⟨baL T x j,SC T n g ws⟩) (TT prog w) (b:=false) [.br 284020 (b63 hT),.br 284014 (ltI (dR h1)),EC 0 hT h1,.br 284035 h2,EC 0 hT h1,.br 284062 h3] (by kernel_rfl)) fun b S1 ⟨e1,e2⟩=> ?_
   subst e1; subst e2
   rw [if_neg (by simp)]
   exact ⟨rfl,rfl⟩
 |succ c=>
  obtain ⟨y,h1,h2⟩:=hs.inn j hj (by omega)
  refine aS.mono (aS.of (S':=⟨baL T x j,SC T n g ws⟩) (TT prog w) (b:=true) [.br 284020 (b63 hT),.br 284014 (ltI (dR h1)),EC 0 hT h1,.br 284035 h2] (by kernel_rfl)) fun b S1 ⟨e1,e2⟩=> ?_
  subst e1; subst e2
  rw [if_pos rfl]
  refine aP.mono (aP.of (S':=⟨baL T x (j+1),SC T n g ws⟩) (TT prog w) (f:= .next) [] (by kernel_rfl)) fun fl S1 ⟨e1,e2⟩=> ?_
  subst e1; subst e2
  exact ⟨c,Nat.lt_succ_self _,j+1,rfl,by omega,by omega⟩
noncomputable def ruS (w:World):Stmt:=stA ((cz w.params)).body 1
noncomputable def rl (T:List Nat):Option Nat→List (Str×V)
 |none=>[(au,.r 0),(CG,.f (.int (Int.ofNat T.length)))]
 |some x=>[(au,.r 0),(CG,.f (.int (Int.ofNat T.length))),(kY,.f (.str [x]))]
noncomputable def dM (prog:Program) (w:World) (T:List Nat) (n:Nat) (g:Int) (ws:List Fv) (c n':Nat) (g':Int) (ws':List Fv):Prop:=
 ∀(o:Option Nat),aP prog w (KW w) ⟨((cz w.params)).names,0,40⟩ (whB (ruS w)) ⟨rl T o,SC T n g ws⟩ fun fl S=>fl= .next∧S=⟨rl T (some c),SC T n' g' ws'⟩
theorem aw (hW:ws.length≤1000000):Nat.ble ws.length 1000000=true:=Nat.ble_eq.mpr hW
noncomputable def blk:List Nat:=IV
noncomputable def quo:List Nat:=IW
theorem BA (hT:T.length≤1000000) (h:nth T n=some 32):dM prog w T n g ws 32 (n+1) g ws:=fun o=>by
 cases o<;>exact aP.of (TT prog w) [EC 0 hT h] (by kernel_rfl)
structure Mk (c:Nat):Prop where
 m1:has c blk=false
 m2:has c l6=false
 m3:ilt 127 (Int.ofNat c)=false
 m4:has c fZ=false
 m5:has c quo=false
theorem Mz (hT:T.length≤1000000) (hW:ws.length≤1000000) {c:Nat} {pr:List Nat} (h:nth T n=some c) (m:Mk c) (hp:(T.take (n+2)).drop n=pr) (h1:az pr ij=false) (h2:az pr ik=false) (h3:ck pr so2=false) (h4:has c so1=true):dM prog w T n g ws c (n+1) g (ws++[wd kq0 [c] .none (Int.ofNat n)]):=fun o=>by
 cases o<;>exact aP.of (TT prog w) [EC 0 hT h,.br 259015 m.m1,.br 261017 m.m2,.br 261036 m.m3,.br 263017 m.m4,.br 265017 m.m5,.br 349015 (b24 hT),.val 349015 (slI hp),.br 350011 h1,.br 353013 h2,.br 356013 h3,.br 358013 h4,.br 249008 (aw hW)] (by kernel_rfl)
theorem MA (hT:T.length≤1000000) (hW:ws.length≤1000000) {c:Nat} {pr out:List Nat} (h:nth T n=some c) (m:Mk c) (hp:(T.take (n+2)).drop n=pr) (h1:az pr ij=false) (h2:az pr ik=false) (h3:ck pr so2=true) (h4:(match lkN pr la with|some y=>y|none=>Fv.str pr)= .str out):dM prog w T n g ws c (n+2) g (ws++[wd kq0 out .none (Int.ofNat n)]):=fun o=>by
 cases o<;>exact aP.of (TT prog w) [EC 0 hT h,.br 259015 m.m1,.br 261017 m.m2,.br 261036 m.m3,.br 263017 m.m4,.br 265017 m.m5,.br 349015 (b24 hT),.val 349015 (slI hp),.br 350011 h1,.br 353013 h2,.br 356013 h3,.val 357032 h4,.br 249008 (aw hW)] (by kernel_rfl)
theorem Ea (hT:T.length≤1000000) (hW:ws.length≤1000000) {c s:Nat} {W U:List Nat} (h:nth T n=some c) (h1:has c blk=false) (h2:has c l6=true) (h3:has c Cb=false) (hs:CZ T (n+1) s) (hw:(T.take s).drop n=W) (hA:xi W=true) (hU:upL W=U) (hz:Nat.ble (upL W).length 16777216=true):dM prog w T n g ws c s g (ws++[wd an U (.str W) (Int.ofNat n)]):=fun o=>by
 cases o<;>exact aP.of (TT prog w) [EC 0 hT h,.br 259015 h1,.br 261017 h2,.br 281011 h3,.loop 284008 (D9 (e:=0) (n:=n) (g:=g) (ws:=ws) (k:=34) (x:=c) hT hs),.br 286018 (b24 hT),.val 286018 (slI hw),.br 211007 hA,.br 212015 hz,.val 212015 (congrArg Fv.str hU),.br 249008 (aw hW)] (by kernel_rfl)
structure Nu (D:List Nat) (i:Int):Prop where
 c:D≠[]
 z: ∃D',og D f7=D'∧D.length≤20∧D'.length≤20∧(az D' []=true∧i=0∨az D' []=false∧PySem.intText? (mk D')=some i)
theorem Hx (hT:T.length≤1000000) (hW:ws.length≤1000000) {c s:Nat} {pr D bh:List Nat} {i:Int} (h:nth T n=some c) (h1:has c blk=false) (h2:has c l6=false) (h3:ilt 127 (Int.ofNat c)=false) (h4:has c fZ=true) (hp:(T.take (n+2)).drop n=pr) (h5:ck pr [mc,md]=false) (hs:oP T fZ n s) (hn:n<s) (hd:(T.take s).drop n=D) (N:Nu D i) (hi:ilt 9223372036854775808 i=false)
  (hb:(T.take (s+1)).drop s=bh) (hbh:bh=[]∨ ∃x,bh=[x]∧az [x] fO=false∧has x nmS=false∧ilt 127 (Int.ofNat x)=false):dM prog w T n g ws c s g (ws++[wd eJ [] (.int i) (Int.ofNat n)]):=fun o=>by
 obtain ⟨D',hl,hz1,hz2,N⟩:=N.z
 have e1:ieq (Int.ofNat n) (Int.ofNat s)=false:=by unfold ieq; rw [decide_eq_false]; intro e; injection e; omega
 have z1:Nat.ble D.length 16777216=true:=Nat.ble_eq.mpr (by omega)
 have z2:Nat.blt D'.length (2 ^ 63)=true:=Nat.blt_eq.mpr (by omega)
 have z3:ilt 20 (Int.ofNat D'.length)=false:=by simp [ilt]; omega
 have hnT:=dR h
 rcases N with ⟨N1,rfl⟩|⟨N1,N2⟩
 ·have N1':(!az D' [])=false:=by rw [N1]; rfl
  rcases hbh with rfl|⟨x,rfl,x1,x2,x3⟩
  ·cases o<;>exact aP.of (TT prog w) [EC 0 hT h,.br 259015 h1,.br 261017 h2,.br 261036 h3,.br 263017 h4,.br 322011 (b24 hT),.val 322011 (slI hp),.br 322011 h5,.call (ku (ws:=ws) (n:=n) (g:=g) hT hs (by omega)),.br 340011 e1,.br 342018 (b24 hT),.val 342018 (slI hd),.br 342018 z1,.val 342018 (congrArg Fv.str hl),.br 343011 z2,.br 343011 z3,.br 345037 N1',.br 332015 hi,.br 334017 (b24 hT),.val 334017 (slI hb),.br 249008 (aw hW)] (by kernel_rfl)
  ·cases o<;>exact aP.of (TT prog w) [EC 0 hT h,.br 259015 h1,.br 261017 h2,.br 261036 h3,.br 263017 h4,.br 322011 (b24 hT),.val 322011 (slI hp),.br 322011 h5,.call (ku (ws:=ws) (n:=n) (g:=g) hT hs (by omega)),.br 340011 e1,.br 342018 (b24 hT),.val 342018 (slI hd),.br 342018 z1,.val 342018 (congrArg Fv.str hl),.br 343011 z2,.br 343011 z3,.br 345037 N1',.br 332015 hi,.br 334017 (b24 hT),.val 334017 (slI hb),.br 335029 x1,.br 217011 x2,.br 335046 x3,.br 249008 (aw hW)] (by kernel_rfl)
 ·have N1':(!az D' [])=true:=by rw [N1]; rfl
  rcases hbh with rfl|⟨x,rfl,x1,x2,x3⟩
  ·cases o<;>exact aP.of (TT prog w) [EC 0 hT h,.br 259015 h1,.br 261017 h2,.br 261036 h3,.br 263017 h4,.br 322011 (b24 hT),.val 322011 (slI hp),.br 322011 h5,.call (ku (ws:=ws) (n:=n) (g:=g) hT hs (by omega)),.br 340011 e1,.br 342018 (b24 hT),.val 342018 (slI hd),.br 342018 z1,.val 342018 (congrArg Fv.str hl),.br 343011 z2,.br 343011 z3,.br 345037 N1',.num N2 (by omega),.br 332015 hi,.br 334017 (b24 hT),.val 334017 (slI hb),.br 249008 (aw hW)] (by kernel_rfl)
  ·cases o<;>exact aP.of (TT prog w) [EC 0 hT h,.br 259015 h1,.br 261017 h2,.br 261036 h3,.br 263017 h4,.br 322011 (b24 hT),.val 322011 (slI hp),.br 322011 h5,.call (ku (ws:=ws) (n:=n) (g:=g) hT hs (by omega)),.br 340011 e1,.br 342018 (b24 hT),.val 342018 (slI hd),.br 342018 z1,.val 342018 (congrArg Fv.str hl),.br 343011 z2,.br 343011 z3,.br 345037 N1',.num N2 (by omega),.br 332015 hi,.br 334017 (b24 hT),.val 334017 (slI hb),.br 335029 x1,.br 217011 x2,.br 335046 x3,.br 249008 (aw hW)] (by kernel_rfl)
theorem Hy (hT:T.length≤1000000) (hW:ws.length≤1000000) {s:Nat} {pr D:List Nat} {i:Int} (h:nth T n=some 63) (hp:(T.take (n+2)).drop n=pr) (h1:az pr ij=false) (h2:az pr ik=false) (h3:ck pr so2=false) (hs:oP T fZ (n+1) s) (hn:n+1<s) (hd:(T.take s).drop (n+1)=D) (N:Nu D i) (hi:ile 1 i=true) (hj:ile i 999=true): ∃g',dM prog w T n g ws 63 s g' (ws++[wd dh [] (.int i) (Int.ofNat n)]):=by
 refine ⟨if i>g then i else g,fun o=> ?_⟩
 obtain ⟨D',hl,hz1,hz2,N⟩:=N.z
 have e1:ieq (Int.ofNat (n+1)) (Int.ofNat s)=false:=by unfold ieq; rw [decide_eq_false]; intro e; injection e; omega
 have z1:Nat.ble D.length 16777216=true:=Nat.ble_eq.mpr (by omega)
 have z2:Nat.blt D'.length (2 ^ 63)=true:=Nat.blt_eq.mpr (by omega)
 have z3:ilt 20 (Int.ofNat D'.length)=false:=by simp [ilt]; omega
 have hnT:=dR h
 rcases N with ⟨N1,rfl⟩|⟨N1,N2⟩
 ·cases hi
 ·have N1':(!az D' [])=true:=by rw [N1]; rfl
  cases o<;>exact aP.of (TT prog w) [EC 0 hT h,.br 349015 (b24 hT),.val 349015 (slI hp),.br 350011 h1,.br 353013 h2,.br 356013 h3,.call (ku (ws:=ws) (n:=n) (g:=g) hT hs (by omega)),.br 368038 e1,.br 340011 e1,.br 342018 (b24 hT),.val 342018 (slI hd),.br 342018 z1,.val 342018 (congrArg Fv.str hl),.br 343011 z2,.br 343011 z3,.br 345037 N1',.num N2 (by omega),.br 369015 hi,.br 369015 hj,.br 249008 (aw hW)] (by kernel_rfl)
noncomputable def Clo (prog:Program) (w:World) (T:List Nat) (ws:List Fv) (n:Nat) (g:Int) (q b s:Nat) (a:List Nat):Prop:=aU prog w (KW w) 10 (.ref ((dL w.params)).a) [.r 0,.f (.str [q]),.f (.int (Int.ofNat b))] (SC T n g ws) (.f (.tup [.str a,.int (Int.ofNat (s+1))])) (SC T n g ws)
theorem Po (hT:T.length≤1000000) {q b s:Nat} {a pr:List Nat} (hq:q=39∨q=34) (hf:k8 T [q] (Int.ofNat b)=Int.ofNat s) (hp:(T.take (s+2)).drop (s+1)=pr) (h1:az pr [q]=false) (ha:(T.take s).drop b=a) (hz:a.length≤1000000) (hj:fi [] [a]=a):Clo prog w T ws n g q b s a:=by
 have z1:ilt (Int.ofNat s) 0=false:=by simp [ilt]
 have z2:ile 0 (Int.ofNat s)=true:=by simp [ile]
 have z3:Nat.ble (cJ 0 [a]) 16777216=true:=Nat.ble_eq.mpr (by simp [cJ]; omega)
 rcases hq with rfl|rfl<;>exact rOf 0 9 dL [.val 291014 (congrArg Fv.int hf),.br 292014 z2,.br 292027 (b24 hT),.val 292027 (slI hp),.br 292027 h1,.br 296011 z1,.br 298021 (b24 hT),.val 298021 (slI ha),.br 299016 z3,.val 299016 (congrArg Fv.str hj)] (by kernel_rfl)
theorem Pp (hT:T.length≤1000000) {q n0 s t:Nat} {a b pr:List Nat} (hq:q=39∨q=34) (hf:k8 T [q] (Int.ofNat n0)=Int.ofNat s) (hp0:(T.take (s+2)).drop (s+1)=[q]) (ha:(T.take (s+1)).drop n0=a) (hf2:k8 T [q] (Int.ofNat (s+2))=Int.ofNat t) (hp:(T.take (t+2)).drop (t+1)=pr) (h1:az pr [q]=false) (hb:(T.take t).drop (s+2)=b) (hz:a.length+b.length≤1000000) (hj:fi [] [a,b]=a++b):Clo prog w T ws n g q n0 t (a++b):=by
 have z1:ilt (Int.ofNat t) 0=false:=by simp [ilt]
 have z2: ∀s,ile 0 (Int.ofNat s)=true:=fun s=>by simp [ile]
 have z3:Nat.ble (cJ 0 [a,b]) 16777216=true:=Nat.ble_eq.mpr (by simp [cJ]; omega)
 rcases hq with rfl|rfl<;>exact rOf 0 9 dL [.val 291014 (congrArg Fv.int hf),.br 292014 (z2 s),.br 292027 (b24 hT),.val 292027 (slI hp0),.br 293025 (b24 hT),.val 293025 (slI ha),.val 295018 (congrArg Fv.int hf2),.br 292014 (z2 t),.br 292027 (b24 hT),.val 292027 (slI hp),.br 292027 h1,.br 296011 z1,.br 298021 (b24 hT),.val 298021 (slI hb),.br 299016 z3,.val 299016 (congrArg Fv.str hj)] (by kernel_rfl)
noncomputable def kq:Nat→List Nat
 |39=>bN
 |_=>an
theorem Pq (hT:T.length≤1000000) (hW:ws.length≤1000000) {q s:Nat} {a:List Nat} (hq:q=39∨q=34) (h:nth T n=some q) (hc:Clo prog w T ws n g q (n+1) s a):dM prog w T n g ws q (s+1) g (ws++[wd (kq q) [] (.str a) (Int.ofNat n)]):=fun o=>by
 rcases hq with rfl|rfl<;>cases o<;>exact aP.of (TT prog w) [EC 0 hT h,.call hc,.br 249008 (aw hW)] (by kernel_rfl)
theorem Eb (hT:T.length≤1000000) (hW:ws.length≤1000000) {c s:Nat} {F:List Nat} {by_:Array UInt8} (hc:c=120∧F=[]∧by_= #[]∨c=88∧F=[]∧by_= #[]∨c=120∧F=vH∧by_= #[254,16]∨c=88∧F=vI∧by_= #[254,16]) (h:nth T n=some c) (h0:(T.take (n+2)).drop (n+1)=[39]) (hcl:Clo prog w T ws n g 39 (n+2) s F):dM prog w T n g ws c (s+1) g (ws++[wd gZ [] (.bytes by_) (Int.ofNat n)]):=fun o=>by
 rcases hc with ⟨rfl,rfl,rfl⟩|⟨rfl,rfl,rfl⟩|⟨rfl,rfl,rfl⟩|⟨rfl,rfl,rfl⟩
 ·cases o<;>exact aP.of (TT prog w) [EC 0 hT h,.br 281028 (b24 hT),.val 281028 (slI h0),.call hcl,.prop (by decide:(2:Int)≠0),.fhex CN,.br 249008 (aw hW)] (by kernel_rfl)
 ·cases o<;>exact aP.of (TT prog w) [EC 0 hT h,.br 281028 (b24 hT),.val 281028 (slI h0),.call hcl,.prop (by decide:(2:Int)≠0),.fhex CN,.br 249008 (aw hW)] (by kernel_rfl)
 ·cases o<;>exact aP.of (TT prog w) [EC 0 hT h,.br 281028 (b24 hT),.val 281028 (slI h0),.call hcl,.prop (by decide:(2:Int)≠0),.fhex Mf,.br 249008 (aw hW)] (by kernel_rfl)
 ·cases o<;>exact aP.of (TT prog w) [EC 0 hT h,.br 281028 (b24 hT),.val 281028 (slI h0),.call hcl,.prop (by decide:(2:Int)≠0),.fhex Mg,.br 249008 (aw hW)] (by kernel_rfl)
end
end
end MineS
namespace MineS
noncomputable section
open PySem PySem.W PySem.Calls PyProof.Rows
section
variable {prog:Program} {w:World} {T:List Nat} {e:Nat}
inductive kx (prog:Program) (w:World) (T:List Nat) (gf:Int) (W:List Fv) (lf:Option Nat):Nat→Int→List Fv→Option Nat→Nat→Prop
 |stop:kx prog w T gf W lf T.length gf W lf 0
 |step {n n' c k:Nat} {g g':Int} {ws ws':List Fv} {o:Option Nat}:n<T.length→dM prog w T n g ws c n' g' ws'→kx prog w T gf W lf n' g' ws' (some c) k→kx prog w T gf W lf n g ws o (k+1)
theorem Ec (hT:T.length≤1000000) {gf g:Int} {W ws:List Fv} {n k:Nat} {o lf:Option Nat} (h:kx prog w T gf W lf n g ws o k):aV prog w (KW w) ⟨((cz w.params)).names,0,40⟩ (.While (whT (ruS w)) (whB (ruS w)) [] (whP (ruS w))) ⟨rl T o,SC T n g ws⟩ fun fl S=>fl= .next∧S=⟨rl T lf,SC T T.length gf W⟩:=by
 refine aV.while (fun c Z=> ∃n g ws o,Z=⟨rl T o,SC T n g ws⟩∧kx prog w T gf W lf n g ws o c) ?_ k ⟨n,g,ws,o,rfl,h⟩
 rintro c Z ⟨n,g,ws,o,rfl,h⟩
 cases h with
 |stop=>
  have z:ilt (Int.ofNat T.length) (Int.ofNat T.length)=false:=by simp [ilt]
  have:aS prog w (KW w) ⟨((cz w.params)).names,0,40⟩ (whT (ruS w)) ⟨rl T lf,SC T T.length gf W⟩ fun b1 S1=>b1=false∧S1=⟨rl T lf,SC T T.length gf W⟩:=by
   cases lf<;>exact aS.of (TT prog w) [.br 257014 z] (by kernel_rfl)
  refine aS.mono this fun b S1 ⟨e1,e2⟩=> ?_
  subst e1; subst e2
  rw [if_neg (by simp)]
  exact ⟨rfl,rfl⟩
 | @step _ n' c' k' _ g' _ ws' _ hn hs hr=>
  have z:ilt (Int.ofNat n) (Int.ofNat T.length)=true:=ltI hn
  have:aS prog w (KW w) ⟨((cz w.params)).names,0,40⟩ (whT (ruS w)) ⟨rl T o,SC T n g ws⟩ fun b1 S1=>b1=true∧S1=⟨rl T o,SC T n g ws⟩:=by
   cases o<;>exact aS.of (TT prog w) [.br 257014 z] (by kernel_rfl)
  refine aS.mono this fun b S1 ⟨e1,e2⟩=> ?_
  subst e1; subst e2
  rw [if_pos rfl]
  refine aP.mono (hs o) fun fl S1 ⟨e1,e2⟩=> ?_
  subst e1; subst e2
  exact ⟨k',Nat.lt_succ_self _,n',g',ws',_,rfl,hr⟩
theorem Hz (hT:T.length≤1000000) {gf:Int} {W:List Fv} {k:Nat} {lf:Option Nat} (hW:W.length≤1000000) (h:kx prog w T gf W lf 0 0 [] none k):aU prog w (KW w) 41 (.ref ((cz w.params)).a) [.r 0] (SC T 0 0 []) (.r 1) (SC T T.length gf (W++[wd kq1 [] .none (Int.ofNat T.length)])):=by
 cases lf<;>exact rOf 0 40 cz [.br 256015 (b63 hT),.loop 257008 (Ec hT h),.br 249008 (aw hW)] (by kernel_rfl)
theorem aU.freezeAt {prog:Program} {w:World} {K:Frag} {d n:Nat} {f:Value} {args:List V} {σ σ' σ2:List MO} {l:List Fv} (h:aU prog w K d f args σ (.r n) σ') (hn:σ'[n]? =some (.list l)) (hc:(σ'.set n .dead).take σ2.length=σ2) (ok:fF σ2.length σ2=true) (le:Nat.ble σ.length σ2.length=true):aU prog w K d f args σ (.f (.list l)) σ2:=
 fun A s F ρ vals hr ht hi ra R q=>h A s F ρ vals hr ht hi ra R fun u s' F' ρ' st r=>by
  obtain ⟨a,d,rfl,hp⟩:=r.invR
  obtain ⟨F2,s2,r2⟩:=Stp.freezeList st.I hn hp
  have e3:σ'.set n .dead=σ2++(σ'.set n .dead).drop σ2.length:=by
   conv=>lhs; rw [←List.take_append_drop σ2.length (σ'.set n .dead)]
   rw [hc]
  rw [e3] at s2
  exact q _ s' F2 _ ((st.trans s2).cut hi.len ok (Nat.ble_eq.mp le)) (.f r2)
theorem BB (hT:T.length≤1000000) {gf:Int} {W:List Fv} {k:Nat} {lf:Option Nat} (hW:W.length≤1000000) (h:kx prog w T gf W lf 0 0 [] none k):aU prog w (KW w) 50 (.ref ((ey w.params)).a) [.f (.str T)] [] (.f (.list (W++[wd kq1 [] .none (Int.ofNat T.length)]))) []:=
 aU.freezeAt (n:=1) (σ':=SC T T.length gf (W++[wd kq1 [] .none (Int.ofNat T.length)])) (rOf 0 49 ey [.call (Hz hT hW h)] (by kernel_rfl)) rfl rfl rfl rfl
theorem Ed {ws:List Fv} {nd v:Fv} {p:Int} {t:List Nat} {m:Nat} (L:ws.length≤1000000) (hw:aU prog w (KW w) 50 (.ref ((ey w.params)).a) [.f (.str T)] [] (.f (.list ws)) []) (hx:RR prog w e (ab w.params) [] T ws 0 0 nd m) (hm:nth ws m=some (wd kq1 t v p)):aU prog w (KW w) (e+70) (.ref ((dd w.params)).a) [.f (.str T)] [] (.f nd) []:=
 rOf e 69 dd [.call hw,.callE hx,EA 0 L hm] (by kernel_rfl)
end
end
end MineS
namespace MineS
noncomputable section
open PySem PySem.W PySem.Calls PyProof.Rows
section
variable {prog:Program} {w:World} {e:Nat}
noncomputable def aK (prog:Program) (w:World) (e:Nat) (x r:Fv):Prop:= ∃f,(cb prog w (KW w) x eg f∧keepIn (KW w) (.ref f)=true)∧aU prog w (KW w) e (.ref f) [.f x] [] (.f r) []
theorem aK.le {x r:Fv} {e e2:Nat} (h:aK prog w e x r) (l:e≤e2):aK prog w e2 x r:=by
 obtain ⟨f,h1,h2⟩:=h; exact ⟨f,h1,h2.le l⟩
noncomputable def tup (s:List Nat) (l:List Fv):Fv:= .tup (.str s::l)
theorem BC:aK prog w 10 (ce .none) (tup cE [.str iV,.none]):=by
 exact ⟨_,cb.of (gok prog w) (C:=90) (f:=((bZ w.params)).a) (fun S=>by kernel_rfl) (by kernel_rfl),rOf 0 9 bZ [] (by kernel_rfl)⟩
theorem gW {i:Int}:aK prog w 10 (ce (.int i)) (tup cE [.str iW,.int i]):=by
 exact ⟨_,cb.of (gok prog w) (C:=90) (f:=((bZ w.params)).a) (fun S=>by kernel_rfl) (by kernel_rfl),rOf 0 9 bZ [] (by kernel_rfl)⟩
theorem oQ {i:List Nat}:aK prog w 10 (ce (.str i)) (tup cE [.str bN,.str i]):=by
 exact ⟨_,cb.of (gok prog w) (C:=90) (f:=((bZ w.params)).a) (fun S=>by kernel_rfl) (by kernel_rfl),rOf 0 9 bZ [] (by kernel_rfl)⟩
theorem ud {i:Array UInt8}:aK prog w 10 (ce (.bytes i)) (tup cE [.str gZ,.bytes i]):=by
 exact ⟨_,cb.of (gok prog w) (C:=90) (f:=((bZ w.params)).a) (fun S=>by kernel_rfl) (by kernel_rfl),rOf 0 9 bZ [] (by kernel_rfl)⟩
theorem hX {t c:Fv}:aK prog w 10 (gn t c) (tup an [t,c]):=by
 exact ⟨_,cb.of (gok prog w) (C:=116) (f:=((jJ w.params)).a) (fun S=>by kernel_rfl) (by kernel_rfl),rOf 0 9 jJ [] (by kernel_rfl)⟩
theorem dA {t:Fv}:aK prog w 10 (fj t) (tup dh [t]):=by
 exact ⟨_,cb.of (gok prog w) (C:=142) (f:=((fT w.params)).a) (fun S=>by kernel_rfl) (by kernel_rfl),rOf 0 9 fT [] (by kernel_rfl)⟩
theorem Ee {op:List Nat} {x rx:Fv} (h1:aK prog w e x rx):aK prog w (e+20) (dJ op x) (tup im [.str op,rx]):=by
 obtain ⟨f1,m1,h1⟩:=h1; exact ⟨_,cb.of (gok prog w) (C:=168) (f:=((iG w.params)).a) (fun S=>by kernel_rfl) (by kernel_rfl),rOf e 19 iG [.mcall m1 h1] (by kernel_rfl)⟩
theorem Ef {op:List Nat} {x y rx ry:Fv} (h1:aK prog w e x rx)(h2:aK prog w e y ry):aK prog w (e+20) (fW op x y) (tup gM [.str op,rx,ry]):=by
 obtain ⟨f1,m1,h1⟩:=h1; obtain ⟨f2,m2,h2⟩:=h2; exact ⟨_,cb.of (gok prog w) (C:=194) (f:=((hH w.params)).a) (fun S=>by kernel_rfl) (by kernel_rfl),rOf e 19 hH [.mcall m1 h1,.mcall m2 h2] (by kernel_rfl)⟩
theorem Eg {g:Bool} {x y v rx ry rv:Fv} (h1:aK prog w e x rx)(h2:aK prog w e y ry)(h3:aK prog w e v rv):aK prog w (e+20) (ko x y v g) (tup pY [rx,ry,rv,.bool g]):=by
 obtain ⟨f1,m1,h1⟩:=h1; obtain ⟨f2,m2,h2⟩:=h2; obtain ⟨f3,m3,h3⟩:=h3; exact ⟨_,cb.of (gok prog w) (C:=220) (f:=((gF w.params)).a) (fun S=>by kernel_rfl) (by kernel_rfl),rOf e 19 gF [.mcall m1 h1,.mcall m2 h2,.mcall m3 h3] (by kernel_rfl)⟩
theorem Eh {t:Fv} {x rx:Fv} (h1:aK prog w e x rx):aK prog w (e+20) (kr x t) (tup gN [rx,t]):=by
 obtain ⟨f1,m1,h1⟩:=h1; exact ⟨_,cb.of (gok prog w) (C:=400) (f:=((jL w.params)).a) (fun S=>by kernel_rfl) (by kernel_rfl),rOf e 19 jL [.mcall m1 h1] (by kernel_rfl)⟩
theorem Ei {t:Fv} {x rx:Fv} (h1:aK prog w e x rx):aK prog w (e+20) (l5 x t) (tup pZ [rx,t]):=by
 obtain ⟨f1,m1,h1⟩:=h1; exact ⟨_,cb.of (gok prog w) (C:=426) (f:=((gG w.params)).a) (fun S=>by kernel_rfl) (by kernel_rfl),rOf e 19 gG [.mcall m1 h1] (by kernel_rfl)⟩
theorem Ej {g:Bool} {x rx:Fv} (h1:aK prog w e x rx):aK prog w (e+20) (ks x g) (tup qa [rx,.bool g]):=by
 obtain ⟨f1,m1,h1⟩:=h1; exact ⟨_,cb.of (gok prog w) (C:=452) (f:=((hM w.params)).a) (fun S=>by kernel_rfl) (by kernel_rfl),rOf e 19 hM [.mcall m1 h1] (by kernel_rfl)⟩
noncomputable def nH (prog:Program) (w:World) (e:Nat) (xs rs:List Fv):Prop:=aU prog w (KW w) e (.ref ((gr w.params)).a) [.f (.list xs)] [] (.f (.tup rs)) []
theorem xQ:nH prog w 10 [] []:=rOf 0 9 gr [] (by kernel_rfl)
theorem C0 {D:Nat} {fs:List (Str×Fv)} {rx:Fv} (h1:aK prog w e (.obj D fs) rx):nH prog w (e+20) [.obj D fs] [rx]:=by
 obtain ⟨f1,m1,h1⟩:=h1; exact rOf e 19 gr [.mcall m1 h1] (by kernel_rfl)
theorem C1 {D D2:Nat} {fs fs2:List (Str×Fv)} {rx ry:Fv} (h1:aK prog w e (.obj D fs) rx) (h2:aK prog w e (.obj D2 fs2) ry):nH prog w (e+20) [.obj D fs,.obj D2 fs2] [rx,ry]:=by
 obtain ⟨f1,m1,h1⟩:=h1; obtain ⟨f2,m2,h2⟩:=h2; exact rOf e 19 gr [.mcall m1 h1,.mcall m2 h2] (by kernel_rfl)
theorem oR {g:Bool} {xs rs:List Fv} {x rx:Fv} (h1:aK prog w e x rx)(hr:nH prog w e xs rs):aK prog w (e+20) (fX x xs g) (tup io [rx,.tup rs,.bool g]):=by
 obtain ⟨f1,m1,h1⟩:=h1; exact ⟨_,cb.of (gok prog w) (C:=246) (f:=((hJ w.params)).a) (fun S=>by kernel_rfl) (by kernel_rfl),rOf e 19 hJ [.mcall m1 h1,.callE hr] (by kernel_rfl)⟩
theorem lc {g b:Bool} {t:Fv} {xs rs:List Fv} (hr:nH prog w e xs rs):aK prog w (e+20) (fq t xs g b) (tup f8 [t,.tup rs,.bool g,.bool b]):=by
 exact ⟨_,cb.of (gok prog w) (C:=374) (f:=((jK w.params)).a) (fun S=>by kernel_rfl) (by kernel_rfl),rOf e 19 jK [.callE hr] (by kernel_rfl)⟩
theorem Ek {g:Bool} {wo:List Nat} {x y rx ry:Fv} (h1:aK prog w e x rx)(h2:aK prog w e y ry):aK prog w (e+20) (fJ wo x y .none g) (tup iX [tup wo [rx,ry],.none,.bool g]):=by
 obtain ⟨f1,m1,h1⟩:=h1; obtain ⟨f2,m2,h2⟩:=h2; exact ⟨_,cb.of (gok prog w) (C:=478) (f:=((eU w.params)).a) (fun S=>by kernel_rfl) (by kernel_rfl),rOf e 19 eU [.mcall m1 h1,.mcall m2 h2] (by kernel_rfl)⟩
theorem El {g:Bool} {wo:List Nat} {D:Nat} {fs:List (Str×Fv)} {x y rx ry rv:Fv} (h1:aK prog w e x rx)(h2:aK prog w e y ry)(h3:aK prog w e (.obj D fs) rv):aK prog w (e+20) (fJ wo x y (.obj D fs) g) (tup iX [tup wo [rx,ry],rv,.bool g]):=by
 obtain ⟨f1,m1,h1⟩:=h1; obtain ⟨f2,m2,h2⟩:=h2; obtain ⟨f3,m3,h3⟩:=h3; exact ⟨_,cb.of (gok prog w) (C:=478) (f:=((eU w.params)).a) (fun S=>by kernel_rfl) (by kernel_rfl),rOf e 19 eU [.mcall m1 h1,.mcall m2 h2,.mcall m3 h3] (by kernel_rfl)⟩
theorem xR {x1 y1 r1 s1:Fv} (hx1:aK prog w e x1 r1) (hy1:aK prog w e y1 s1):aK prog w (e+20) (bA .none [.tup [x1,y1]] .none) (tup bD [.none,.tup [.tup [r1,s1]],.none]):=by
 obtain ⟨fx1,mx1,hx1⟩:=hx1; obtain ⟨fy1,my1,hy1⟩:=hy1; exact ⟨_,cb.of (gok prog w) (C:=348) (f:=((bv w.params)).a) (fun S=>by kernel_rfl) (by kernel_rfl),rOf e 19 bv [.mcall mx1 hx1,.mcall my1 hy1] (by kernel_rfl)⟩
theorem xS {C:Nat} {cs:List (Str×Fv)} {ro x1 y1 r1 s1:Fv} (hx1:aK prog w e x1 r1) (hy1:aK prog w e y1 s1) (ho:aK prog w e (.obj C cs) ro):aK prog w (e+20) (bA .none [.tup [x1,y1]] (.obj C cs)) (tup bD [.none,.tup [.tup [r1,s1]],ro]):=by
 obtain ⟨fx1,mx1,hx1⟩:=hx1; obtain ⟨fy1,my1,hy1⟩:=hy1; obtain ⟨fo,mo,ho⟩:=ho; exact ⟨_,cb.of (gok prog w) (C:=348) (f:=((bv w.params)).a) (fun S=>by kernel_rfl) (by kernel_rfl),rOf e 19 bv [.mcall mx1 hx1,.mcall my1 hy1,.mcall mo ho] (by kernel_rfl)⟩
theorem xT {x1 y1 x2 y2 r1 s1 r2 s2:Fv} (hx1:aK prog w e x1 r1) (hy1:aK prog w e y1 s1) (hx2:aK prog w e x2 r2) (hy2:aK prog w e y2 s2):aK prog w (e+20) (bA .none [.tup [x1,y1],.tup [x2,y2]] .none) (tup bD [.none,.tup [.tup [r1,s1],.tup [r2,s2]],.none]):=by
 obtain ⟨fx1,mx1,hx1⟩:=hx1; obtain ⟨fy1,my1,hy1⟩:=hy1; obtain ⟨fx2,mx2,hx2⟩:=hx2; obtain ⟨fy2,my2,hy2⟩:=hy2; exact ⟨_,cb.of (gok prog w) (C:=348) (f:=((bv w.params)).a) (fun S=>by kernel_rfl) (by kernel_rfl),rOf e 19 bv [.mcall mx1 hx1,.mcall my1 hy1,.mcall mx2 hx2,.mcall my2 hy2] (by kernel_rfl)⟩
theorem xU {C:Nat} {cs:List (Str×Fv)} {ro x1 y1 x2 y2 r1 s1 r2 s2:Fv} (hx1:aK prog w e x1 r1) (hy1:aK prog w e y1 s1) (hx2:aK prog w e x2 r2) (hy2:aK prog w e y2 s2) (ho:aK prog w e (.obj C cs) ro):aK prog w (e+20) (bA .none [.tup [x1,y1],.tup [x2,y2]] (.obj C cs)) (tup bD [.none,.tup [.tup [r1,s1],.tup [r2,s2]],ro]):=by
 obtain ⟨fx1,mx1,hx1⟩:=hx1; obtain ⟨fy1,my1,hy1⟩:=hy1; obtain ⟨fx2,mx2,hx2⟩:=hx2; obtain ⟨fy2,my2,hy2⟩:=hy2; obtain ⟨fo,mo,ho⟩:=ho; exact ⟨_,cb.of (gok prog w) (C:=348) (f:=((bv w.params)).a) (fun S=>by kernel_rfl) (by kernel_rfl),rOf e 19 bv [.mcall mx1 hx1,.mcall my1 hy1,.mcall mx2 hx2,.mcall my2 hy2,.mcall mo ho] (by kernel_rfl)⟩
theorem xV {B:Nat} {bs:List (Str×Fv)} {rb x1 y1 r1 s1:Fv} (hx1:aK prog w e x1 r1) (hy1:aK prog w e y1 s1) (hb:aK prog w e (.obj B bs) rb):aK prog w (e+20) (bA (.obj B bs) [.tup [x1,y1]] .none) (tup bD [rb,.tup [.tup [r1,s1]],.none]):=by
 obtain ⟨fx1,mx1,hx1⟩:=hx1; obtain ⟨fy1,my1,hy1⟩:=hy1; obtain ⟨fb,mb,hb⟩:=hb; exact ⟨_,cb.of (gok prog w) (C:=348) (f:=((bv w.params)).a) (fun S=>by kernel_rfl) (by kernel_rfl),rOf e 19 bv [.mcall mx1 hx1,.mcall my1 hy1,.mcall mb hb] (by kernel_rfl)⟩
theorem xW {B C:Nat} {bs cs:List (Str×Fv)} {rb ro x1 y1 r1 s1:Fv} (hx1:aK prog w e x1 r1) (hy1:aK prog w e y1 s1) (hb:aK prog w e (.obj B bs) rb) (ho:aK prog w e (.obj C cs) ro):aK prog w (e+20) (bA (.obj B bs) [.tup [x1,y1]] (.obj C cs)) (tup bD [rb,.tup [.tup [r1,s1]],ro]):=by
 obtain ⟨fx1,mx1,hx1⟩:=hx1; obtain ⟨fy1,my1,hy1⟩:=hy1; obtain ⟨fb,mb,hb⟩:=hb; obtain ⟨fo,mo,ho⟩:=ho; exact ⟨_,cb.of (gok prog w) (C:=348) (f:=((bv w.params)).a) (fun S=>by kernel_rfl) (by kernel_rfl),rOf e 19 bv [.mcall mx1 hx1,.mcall my1 hy1,.mcall mb hb,.mcall mo ho] (by kernel_rfl)⟩
theorem xX {B:Nat} {bs:List (Str×Fv)} {rb x1 y1 x2 y2 r1 s1 r2 s2:Fv} (hx1:aK prog w e x1 r1) (hy1:aK prog w e y1 s1) (hx2:aK prog w e x2 r2) (hy2:aK prog w e y2 s2) (hb:aK prog w e (.obj B bs) rb):aK prog w (e+20) (bA (.obj B bs) [.tup [x1,y1],.tup [x2,y2]] .none) (tup bD [rb,.tup [.tup [r1,s1],.tup [r2,s2]],.none]):=by
 obtain ⟨fx1,mx1,hx1⟩:=hx1; obtain ⟨fy1,my1,hy1⟩:=hy1; obtain ⟨fx2,mx2,hx2⟩:=hx2; obtain ⟨fy2,my2,hy2⟩:=hy2; obtain ⟨fb,mb,hb⟩:=hb; exact ⟨_,cb.of (gok prog w) (C:=348) (f:=((bv w.params)).a) (fun S=>by kernel_rfl) (by kernel_rfl),rOf e 19 bv [.mcall mx1 hx1,.mcall my1 hy1,.mcall mx2 hx2,.mcall my2 hy2,.mcall mb hb] (by kernel_rfl)⟩
theorem xY {B C:Nat} {bs cs:List (Str×Fv)} {rb ro x1 y1 x2 y2 r1 s1 r2 s2:Fv} (hx1:aK prog w e x1 r1) (hy1:aK prog w e y1 s1) (hx2:aK prog w e x2 r2) (hy2:aK prog w e y2 s2) (hb:aK prog w e (.obj B bs) rb) (ho:aK prog w e (.obj C cs) ro):aK prog w (e+20) (bA (.obj B bs) [.tup [x1,y1],.tup [x2,y2]] (.obj C cs)) (tup bD [rb,.tup [.tup [r1,s1],.tup [r2,s2]],ro]):=by
 obtain ⟨fx1,mx1,hx1⟩:=hx1; obtain ⟨fy1,my1,hy1⟩:=hy1; obtain ⟨fx2,mx2,hx2⟩:=hx2; obtain ⟨fy2,my2,hy2⟩:=hy2; obtain ⟨fb,mb,hb⟩:=hb; obtain ⟨fo,mo,ho⟩:=ho; exact ⟨_,cb.of (gok prog w) (C:=348) (f:=((bv w.params)).a) (fun S=>by kernel_rfl) (by kernel_rfl),rOf e 19 bv [.mcall mx1 hx1,.mcall my1 hy1,.mcall mx2 hx2,.mcall my2 hy2,.mcall mb hb,.mcall mo ho] (by kernel_rfl)⟩
end
end
end MineS
namespace MineS
noncomputable section
open PySem PySem.W PySem.Calls PyProof.Rows
noncomputable def Sm (n:Nat) (a:List Nat):Prop:=a.length≤n
theorem Sm.app {n m:Nat} {a b:List Nat} (h:Sm n a) (k:Sm m b):Sm (n+m) (a++b):=by unfold Sm at*; rw [List.length_append]; omega
theorem sL (l:List Nat):Sm l.length l:=Nat.le_refl _
theorem ok {n:Nat} {a:List Nat} (h:Sm n a) (k:Nat.ble n 16777216=true):Nat.ble a.length 16777216=true:=Nat.ble_eq.mpr (Nat.le_trans h (Nat.ble_eq.mp k))
theorem ue (s a:List Nat):fi s [a]=a:=by
 show unS (Builtin.Str.glued (mk s) [mk a])=a
 unfold Builtin.Str.glued
 simp [mk,unS]
theorem uf (s a b:List Nat):fi s [a,b]=a++s++b:=by
 show unS (Builtin.Str.glued (mk s) [mk a,mk b])=_
 unfold Builtin.Str.glued
 simp [mk,unS]
noncomputable def tld (g:Bool):List Nat:=match g with
 |true=>IX
 |false=>aH
section
variable {prog:Program} {w:World} {e:Nat}
noncomputable def LT (prog:Program) (w:World) (e:Nat) (r:Fv) (t:List Nat):Prop:=aU prog w (KW w) e (.ref ((ao w.params)).a) [.f r] [] (.f (.str t)) []
theorem HA {rx:Fv} {x:List Nat} {op:List Nat} (hx:LT prog w e rx x) (zx:Sm 100000 x) (zop:Sm 10 op):LT prog w (e+40) (tup im [.str op,rx]) (((op++cG)++x)++ac):=by
 exact rOf e 39 ao [.br 833015 (ok (zop.app (sL cG)) rfl),.callE hx,.br 833015 (ok ((zop.app (sL cG)).app zx) rfl),.br 833015 (ok (((zop.app (sL cG)).app zx).app (sL ac)) rfl)] (by kernel_rfl)
theorem HB {rx ry:Fv} {x y:List Nat} {op:List Nat} (hx:LT prog w e rx x) (zx:Sm 100000 x)(hy:LT prog w e ry y) (zy:Sm 100000 y) (zop:Sm 10 op):LT prog w (e+40) (tup gM [.str op,rx,ry]) ((((((ad++x)++iY)++op)++cG)++y)++ac):=by
 exact rOf e 39 ao [.callE hx,.br 835015 (ok ((sL ad).app zx) rfl),.br 835015 (ok (((sL ad).app zx).app (sL iY)) rfl),.br 835015 (ok ((((sL ad).app zx).app (sL iY)).app zop) rfl),.br 835015 (ok (((((sL ad).app zx).app (sL iY)).app zop).app (sL cG)) rfl),.callE hy,.br 835015 (ok ((((((sL ad).app zx).app (sL iY)).app zop).app (sL cG)).app zy) rfl),.br 835015 (ok (((((((sL ad).app zx).app (sL iY)).app zop).app (sL cG)).app zy).app (sL ac)) rfl)] (by kernel_rfl)
theorem HC {rx:Fv} {x:List Nat} {ty:List Nat} (hx:LT prog w e rx x) (zx:Sm 100000 x) (zty:Sm 100 ty):LT prog w (e+40) (tup gN [rx,.str ty]) ((((kJ++x)++dT)++ty)++ac):=by
 exact rOf e 39 ao [.callE hx,.br 842015 (ok ((sL kJ).app zx) rfl),.br 842015 (ok (((sL kJ).app zx).app (sL dT)) rfl),.br 842015 (ok ((((sL kJ).app zx).app (sL dT)).app zty) rfl),.br 842015 (ok (((((sL kJ).app zx).app (sL dT)).app zty).app (sL ac)) rfl)] (by kernel_rfl)
theorem HD {rx:Fv} {x:List Nat} {ty:List Nat} (hx:LT prog w e rx x) (zx:Sm 100000 x) (zty:Sm 100 ty):LT prog w (e+40) (tup pZ [rx,.str ty]) (((ad++x)++qb)++ty):=by
 exact rOf e 39 ao [.callE hx,.br 844015 (ok ((sL ad).app zx) rfl),.br 844015 (ok (((sL ad).app zx).app (sL qb)) rfl),.br 844015 (ok ((((sL ad).app zx).app (sL qb)).app zty) rfl)] (by kernel_rfl)
theorem HE {rx:Fv} {x:List Nat} {g:Bool} (hx:LT prog w e rx x) (zx:Sm 100000 x):LT prog w (e+40) (tup qa [rx,.bool g]) ((((ad++x)++me)++tld g)++cU):=by
 have zg:Sm 5 (tld g):=by cases g<;>exact Nat.le_of_ble_eq_true rfl
 cases g<;>exact rOf e 39 ao [.callE hx,.br 852015 (ok ((sL ad).app zx) rfl),.br 852015 (ok (((sL ad).app zx).app (sL me)) rfl),.br 852015 (ok ((((sL ad).app zx).app (sL me)).app zg) rfl),.br 852015 (ok (((((sL ad).app zx).app (sL me)).app zg).app (sL cU)) rfl)] (by kernel_rfl)
theorem HF {rx ry rv:Fv} {x y v:List Nat} {g:Bool} (hx:LT prog w e rx x) (zx:Sm 100000 x)(hy:LT prog w e ry y) (zy:Sm 100000 y)(hv:LT prog w e rv v) (zv:Sm 100000 v):LT prog w (e+40) (tup pY [rx,ry,rv,.bool g]) ((((((((ad++x)++ac)++tld g)++iZ)++y)++mf)++v)++ac):=by
 have zg:Sm 5 (tld g):=by cases g<;>exact Nat.le_of_ble_eq_true rfl
 cases g<;>exact rOf e 39 ao [.callE hx,.br 856011 (ok ((sL ad).app zx) rfl),.br 856011 (ok (((sL ad).app zx).app (sL ac)) rfl),.br 856011 (ok ((((sL ad).app zx).app (sL ac)).app zg) rfl),.br 858015 (ok (((((sL ad).app zx).app (sL ac)).app zg).app (sL iZ)) rfl),.callE hy,.br 858015 (ok ((((((sL ad).app zx).app (sL ac)).app zg).app (sL iZ)).app zy) rfl),.br 858015 (ok (((((((sL ad).app zx).app (sL ac)).app zg).app (sL iZ)).app zy).app (sL mf)) rfl),.callE hv,.br 858015 (ok ((((((((sL ad).app zx).app (sL ac)).app zg).app (sL iZ)).app zy).app (sL mf)).app zv) rfl),.br 858015 (ok (((((((((sL ad).app zx).app (sL ac)).app zg).app (sL iZ)).app zy).app (sL mf)).app zv).app (sL ac)) rfl)] (by kernel_rfl)
theorem sj1 {n:Nat} {s a:List Nat} (h:Sm n a) (k:Nat.ble (n+s.length) 16777216=true):Nat.ble (cJ s.length [a]) 16777216=true:=Nat.ble_eq.mpr (by have:=Nat.ble_eq.mp k; unfold Sm at h; simp only [cJ]; omega)
theorem sj2 {n m:Nat} {s a b:List Nat} (h:Sm n a) (h2:Sm m b) (k:Nat.ble (n+m+s.length+s.length) 16777216=true):Nat.ble (cJ s.length [a,b]) 16777216=true:=Nat.ble_eq.mpr (by have:=Nat.ble_eq.mp k; unfold Sm at h h2; simp only [cJ]; omega)
theorem HG {rx:Fv} {x:List Nat} {g:Bool} (hx:LT prog w e rx x) (zx:Sm 100000 x):LT prog w (e+40) (tup io [rx,.tup [],.bool g]) ((((((ad++x)++ac)++tld g)++cH)++[])++ac):=by
 have zg:Sm 5 (tld g):=by cases g<;>exact Nat.le_of_ble_eq_true rfl
 cases g<;>exact rOf e 39 ao [.callE hx,.br 856011 (ok ((sL ad).app zx) rfl),.br 856011 (ok (((sL ad).app zx).app (sL ac)) rfl),.br 856011 (ok ((((sL ad).app zx).app (sL ac)).app zg) rfl),.br 859011 (ok (((((sL ad).app zx).app (sL ac)).app zg).app (sL cH)) rfl),.br 859011 (ok ((((((sL ad).app zx).app (sL ac)).app zg).app (sL cH)).app (sL [])) rfl),.br 859011 (ok (((((((sL ad).app zx).app (sL ac)).app zg).app (sL cH)).app (sL [])).app (sL ac)) rfl)] (by kernel_rfl)
theorem HH {rx ry:Fv} {x y:List Nat} {g:Bool} (hx:LT prog w e rx x) (zx:Sm 100000 x)(hy:LT prog w e ry y) (zy:Sm 100000 y):LT prog w (e+40) (tup io [rx,.tup [ry],.bool g]) ((((((ad++x)++ac)++tld g)++cH)++((ad++y)++ac))++ac):=by
 have zg:Sm 5 (tld g):=by cases g<;>exact Nat.le_of_ble_eq_true rfl
 cases g<;>exact rOf e 39 ao [.callE hx,.br 856011 (ok ((sL ad).app zx) rfl),.br 856011 (ok (((sL ad).app zx).app (sL ac)) rfl),.br 856011 (ok ((((sL ad).app zx).app (sL ac)).app zg) rfl),.br 859011 (ok (((((sL ad).app zx).app (sL ac)).app zg).app (sL cH)) rfl),.callE hy,.br 859038 (ok ((sL ad).app zy) rfl),.br 859038 (ok (((sL ad).app zy).app (sL ac)) rfl),.br 859027 (sj1 (s:=bW) (((sL ad).app zy).app (sL ac)) rfl),.val 859027 (congrArg Fv.str (ue bW ((ad++y)++ac))),.br 859011 (ok ((((((sL ad).app zx).app (sL ac)).app zg).app (sL cH)).app (((sL ad).app zy).app (sL ac))) rfl),.br 859011 (ok (((((((sL ad).app zx).app (sL ac)).app zg).app (sL cH)).app (((sL ad).app zy).app (sL ac))).app (sL ac)) rfl)] (by kernel_rfl)
theorem HI {rx ry rv:Fv} {x y v:List Nat} {g:Bool} (hx:LT prog w e rx x) (zx:Sm 100000 x)(hy:LT prog w e ry y) (zy:Sm 100000 y)(hv:LT prog w e rv v) (zv:Sm 100000 v):LT prog w (e+40) (tup io [rx,.tup [ry,rv],.bool g]) ((((((ad++x)++ac)++tld g)++cH)++(((ad++y)++ac)++bW++((ad++v)++ac)))++ac):=by
 have zg:Sm 5 (tld g):=by cases g<;>exact Nat.le_of_ble_eq_true rfl
 cases g<;>exact rOf e 39 ao [.callE hx,.br 856011 (ok ((sL ad).app zx) rfl),.br 856011 (ok (((sL ad).app zx).app (sL ac)) rfl),.br 856011 (ok ((((sL ad).app zx).app (sL ac)).app zg) rfl),.br 859011 (ok (((((sL ad).app zx).app (sL ac)).app zg).app (sL cH)) rfl),.callE hy,.br 859038 (ok ((sL ad).app zy) rfl),.br 859038 (ok (((sL ad).app zy).app (sL ac)) rfl),.callE hv,.br 859038 (ok ((sL ad).app zv) rfl),.br 859038 (ok (((sL ad).app zv).app (sL ac)) rfl),.br 859027 (sj2 (s:=bW) (((sL ad).app zy).app (sL ac)) (((sL ad).app zv).app (sL ac)) rfl),.val 859027 (congrArg Fv.str (uf bW ((ad++y)++ac) ((ad++v)++ac))),.br 859011 (ok ((((((sL ad).app zx).app (sL ac)).app zg).app (sL cH)).app (((((sL ad).app zy).app (sL ac)).app (sL bW)).app (((sL ad).app zv).app (sL ac)))) rfl),.br 859011 (ok (((((((sL ad).app zx).app (sL ac)).app zg).app (sL cH)).app (((((sL ad).app zy).app (sL ac)).app (sL bW)).app (((sL ad).app zv).app (sL ac)))).app (sL ac)) rfl)] (by kernel_rfl)
theorem HJ {rx ry:Fv} {x y:List Nat} {g:Bool} {wo:List Nat} (hx:LT prog w e rx x) (zx:Sm 100000 x)(hy:LT prog w e ry y) (zy:Sm 100000 y) (zwo:Sm 10 wo):LT prog w (e+40) (tup iX [tup wo [rx,ry],.none,.bool g]) ((((((((ad++x)++ac)++tld g)++wo)++cG)++y)++ac)++[]):=by
 have zg:Sm 5 (tld g):=by cases g<;>exact Nat.le_of_ble_eq_true rfl
 cases g<;>exact rOf e 39 ao [.callE hx,.br 854015 (ok ((sL ad).app zx) rfl),.br 854015 (ok (((sL ad).app zx).app (sL ac)) rfl),.br 854015 (ok ((((sL ad).app zx).app (sL ac)).app zg) rfl),.br 854015 (ok (((((sL ad).app zx).app (sL ac)).app zg).app zwo) rfl),.br 854015 (ok ((((((sL ad).app zx).app (sL ac)).app zg).app zwo).app (sL cG)) rfl),.callE hy,.br 854015 (ok (((((((sL ad).app zx).app (sL ac)).app zg).app zwo).app (sL cG)).app zy) rfl),.br 854015 (ok ((((((((sL ad).app zx).app (sL ac)).app zg).app zwo).app (sL cG)).app zy).app (sL ac)) rfl),.br 855015 (ok (((((((((sL ad).app zx).app (sL ac)).app zg).app zwo).app (sL cG)).app zy).app (sL ac)).app (sL [])) rfl)] (by kernel_rfl)
theorem HK {rx ry:Fv} {x y v:List Nat} {g:Bool} {wo:List Nat} {lv:List Fv} (hx:LT prog w e rx x) (zx:Sm 100000 x)(hy:LT prog w e ry y) (zy:Sm 100000 y)(hv:LT prog w e (.tup lv) v) (zv:Sm 100000 v) (zwo:Sm 10 wo):LT prog w (e+40) (tup iX [tup wo [rx,ry],.tup lv,.bool g]) ((((((((ad++x)++ac)++tld g)++wo)++cG)++y)++ac)++((mh++v)++ac)):=by
 have zg:Sm 5 (tld g):=by cases g<;>exact Nat.le_of_ble_eq_true rfl
 cases g<;>exact rOf e 39 ao [.callE hx,.br 854015 (ok ((sL ad).app zx) rfl),.br 854015 (ok (((sL ad).app zx).app (sL ac)) rfl),.br 854015 (ok ((((sL ad).app zx).app (sL ac)).app zg) rfl),.br 854015 (ok (((((sL ad).app zx).app (sL ac)).app zg).app zwo) rfl),.br 854015 (ok ((((((sL ad).app zx).app (sL ac)).app zg).app zwo).app (sL cG)) rfl),.callE hy,.br 854015 (ok (((((((sL ad).app zx).app (sL ac)).app zg).app zwo).app (sL cG)).app zy) rfl),.br 854015 (ok ((((((((sL ad).app zx).app (sL ac)).app zg).app zwo).app (sL cG)).app zy).app (sL ac)) rfl),.callE hv,.br 855050 (ok ((sL mh).app zv) rfl),.br 855050 (ok (((sL mh).app zv).app (sL ac)) rfl),.br 855015 (ok (((((((((sL ad).app zx).app (sL ac)).app zg).app zwo).app (sL cG)).app zy).app (sL ac)).app (((sL mh).app zv).app (sL ac))) rfl)] (by kernel_rfl)
theorem zp {rx ry:Fv} {x y:List Nat} (hx:LT prog w e rx x) (zx:Sm 100000 x)(hy:LT prog w e ry y) (zy:Sm 100000 y):LT prog w (e+40) (tup f8 [.str d7,.tup [rx,ry],.bool false,.bool false]) ((((kK++ad)++[])++(((ad++x)++ac)++bW++((ad++y)++ac)))++ac):=by
 exact rOf e 39 ao [.callE hx,.br 846048 (ok ((sL ad).app zx) rfl),.br 846048 (ok (((sL ad).app zx).app (sL ac)) rfl),.callE hy,.br 846048 (ok ((sL ad).app zy) rfl),.br 846048 (ok (((sL ad).app zy).app (sL ac)) rfl),.br 846037 (sj2 (s:=bW) (((sL ad).app zx).app (sL ac)) (((sL ad).app zy).app (sL ac)) rfl),.val 846037 (congrArg Fv.str (uf bW ((ad++x)++ac) ((ad++y)++ac))),.br 847015 (ok ((sL kK).app (sL ad)) rfl),.br 847015 (ok (((sL kK).app (sL ad)).app (sL [])) rfl),.br 847015 (ok ((((sL kK).app (sL ad)).app (sL [])).app (((((sL ad).app zx).app (sL ac)).app (sL bW)).app (((sL ad).app zy).app (sL ac)))) rfl),.br 847015 (ok (((((sL kK).app (sL ad)).app (sL [])).app (((((sL ad).app zx).app (sL ac)).app (sL bW)).app (((sL ad).app zy).app (sL ac)))).app (sL ac)) rfl)] (by kernel_rfl)
theorem uU {rx:Fv} {x:List Nat} (hx:LT prog w e rx x) (zx:Sm 100000 x):LT prog w (e+40) (tup f8 [.str d8,.tup [rx],.bool true,.bool false]) ((((kL++ad)++f9)++((ad++x)++ac))++ac):=by
 exact rOf e 39 ao [.callE hx,.br 846048 (ok ((sL ad).app zx) rfl),.br 846048 (ok (((sL ad).app zx).app (sL ac)) rfl),.br 846037 (sj1 (s:=bW) (((sL ad).app zx).app (sL ac)) rfl),.val 846037 (congrArg Fv.str (ue bW ((ad++x)++ac))),.br 847015 (ok ((sL kL).app (sL ad)) rfl),.br 847015 (ok (((sL kL).app (sL ad)).app (sL f9)) rfl),.br 847015 (ok ((((sL kL).app (sL ad)).app (sL f9)).app (((sL ad).app zx).app (sL ac))) rfl),.br 847015 (ok (((((sL kL).app (sL ad)).app (sL f9)).app (((sL ad).app zx).app (sL ac))).app (sL ac)) rfl)] (by kernel_rfl)
theorem pW:LT prog w (e+40) (tup f8 [.str eA,.tup [],.bool false,.bool true]) ((((kM++ad)++[])++fD)++ac):=by
 exact rOf e 39 ao [.br 847015 (ok ((sL kM).app (sL ad)) rfl),.br 847015 (ok (((sL kM).app (sL ad)).app (sL [])) rfl),.br 847015 (ok ((((sL kM).app (sL ad)).app (sL [])).app (sL fD)) rfl),.br 847015 (ok (((((sL kM).app (sL ad)).app (sL [])).app (sL fD)).app (sL ac)) rfl)] (by kernel_rfl)
theorem nI:LT prog w (e+40) (tup f8 [.str kN,.tup [],.bool false,.bool false]) ((((eZ++ad)++[])++[])++ac):=by
 exact rOf e 39 ao [.br 847015 (ok ((sL eZ).app (sL ad)) rfl),.br 847015 (ok (((sL eZ).app (sL ad)).app (sL [])) rfl),.br 847015 (ok ((((sL eZ).app (sL ad)).app (sL [])).app (sL [])) rfl),.br 847015 (ok (((((sL eZ).app (sL ad)).app (sL [])).app (sL [])).app (sL ac)) rfl)] (by kernel_rfl)
theorem xZ {rp1 rq1:Fv} {p1 q1:List Nat} (hp1:LT prog w e rp1 p1) (zp1:Sm 100000 p1)(hq1:LT prog w e rq1 q1) (zq1:Sm 100000 q1):LT prog w (e+40) (tup bD [.none,.tup [.tup [rp1,rq1]],.none]) ((((((((aB++[])++am)++p1)++ay)++q1)++ac)++[])++ba):=by
 exact rOf e 39 ao [.br 837015 (ok ((sL aB).app (sL [])) rfl),.br 839019 (ok (((sL aB).app (sL [])).app (sL am)) rfl),.callE hp1,.br 839019 (ok ((((sL aB).app (sL [])).app (sL am)).app zp1) rfl),.br 839019 (ok (((((sL aB).app (sL [])).app (sL am)).app zp1).app (sL ay)) rfl),.callE hq1,.br 839019 (ok ((((((sL aB).app (sL [])).app (sL am)).app zp1).app (sL ay)).app zq1) rfl),.br 839019 (ok (((((((sL aB).app (sL [])).app (sL am)).app zp1).app (sL ay)).app zq1).app (sL ac)) rfl),.br 840015 (ok ((((((((sL aB).app (sL [])).app (sL am)).app zp1).app (sL ay)).app zq1).app (sL ac)).app (sL [])) rfl),.br 840015 (ok (((((((((sL aB).app (sL [])).app (sL am)).app zp1).app (sL ay)).app zq1).app (sL ac)).app (sL [])).app (sL ba)) rfl)] (by kernel_rfl)
theorem x0 {ly:List Fv} {rp1 rq1:Fv} {y p1 q1:List Nat} (hp1:LT prog w e rp1 p1) (zp1:Sm 100000 p1)(hq1:LT prog w e rq1 q1) (zq1:Sm 100000 q1)(hy:LT prog w e (.tup ly) y) (zy:Sm 100000 y):LT prog w (e+40) (tup bD [.none,.tup [.tup [rp1,rq1]],.tup ly]) ((((((((aB++[])++am)++p1)++ay)++q1)++ac)++((cg++y)++ac))++ba):=by
 exact rOf e 39 ao [.br 837015 (ok ((sL aB).app (sL [])) rfl),.br 839019 (ok (((sL aB).app (sL [])).app (sL am)) rfl),.callE hp1,.br 839019 (ok ((((sL aB).app (sL [])).app (sL am)).app zp1) rfl),.br 839019 (ok (((((sL aB).app (sL [])).app (sL am)).app zp1).app (sL ay)) rfl),.callE hq1,.br 839019 (ok ((((((sL aB).app (sL [])).app (sL am)).app zp1).app (sL ay)).app zq1) rfl),.br 839019 (ok (((((((sL aB).app (sL [])).app (sL am)).app zp1).app (sL ay)).app zq1).app (sL ac)) rfl),.callE hy,.br 840050 (ok ((sL cg).app zy) rfl),.br 840050 (ok (((sL cg).app zy).app (sL ac)) rfl),.br 840015 (ok ((((((((sL aB).app (sL [])).app (sL am)).app zp1).app (sL ay)).app zq1).app (sL ac)).app (((sL cg).app zy).app (sL ac))) rfl),.br 840015 (ok (((((((((sL aB).app (sL [])).app (sL am)).app zp1).app (sL ay)).app zq1).app (sL ac)).app (((sL cg).app zy).app (sL ac))).app (sL ba)) rfl)] (by kernel_rfl)
theorem x4 {rp1 rq1 rp2 rq2:Fv} {p1 q1 p2 q2:List Nat} (hp1:LT prog w e rp1 p1) (zp1:Sm 100000 p1)(hq1:LT prog w e rq1 q1) (zq1:Sm 100000 q1)(hp2:LT prog w e rp2 p2) (zp2:Sm 100000 p2)(hq2:LT prog w e rq2 q2) (zq2:Sm 100000 q2):LT prog w (e+40) (tup bD [.none,.tup [.tup [rp1,rq1],.tup [rp2,rq2]],.none]) (((((((((((((aB++[])++am)++p1)++ay)++q1)++ac)++am)++p2)++ay)++q2)++ac)++[])++ba):=by
 exact rOf e 39 ao [.br 837015 (ok ((sL aB).app (sL [])) rfl),.br 839019 (ok (((sL aB).app (sL [])).app (sL am)) rfl),.callE hp1,.br 839019 (ok ((((sL aB).app (sL [])).app (sL am)).app zp1) rfl),.br 839019 (ok (((((sL aB).app (sL [])).app (sL am)).app zp1).app (sL ay)) rfl),.callE hq1,.br 839019 (ok ((((((sL aB).app (sL [])).app (sL am)).app zp1).app (sL ay)).app zq1) rfl),.br 839019 (ok (((((((sL aB).app (sL [])).app (sL am)).app zp1).app (sL ay)).app zq1).app (sL ac)) rfl),.br 839019 (ok ((((((((sL aB).app (sL [])).app (sL am)).app zp1).app (sL ay)).app zq1).app (sL ac)).app (sL am)) rfl),.callE hp2,.br 839019 (ok (((((((((sL aB).app (sL [])).app (sL am)).app zp1).app (sL ay)).app zq1).app (sL ac)).app (sL am)).app zp2) rfl),.br 839019 (ok ((((((((((sL aB).app (sL [])).app (sL am)).app zp1).app (sL ay)).app zq1).app (sL ac)).app (sL am)).app zp2).app (sL ay)) rfl),.callE hq2,.br 839019 (ok (((((((((((sL aB).app (sL [])).app (sL am)).app zp1).app (sL ay)).app zq1).app (sL ac)).app (sL am)).app zp2).app (sL ay)).app zq2) rfl),.br 839019 (ok ((((((((((((sL aB).app (sL [])).app (sL am)).app zp1).app (sL ay)).app zq1).app (sL ac)).app (sL am)).app zp2).app (sL ay)).app zq2).app (sL ac)) rfl),.br 840015 (ok (((((((((((((sL aB).app (sL [])).app (sL am)).app zp1).app (sL ay)).app zq1).app (sL ac)).app (sL am)).app zp2).app (sL ay)).app zq2).app (sL ac)).app (sL [])) rfl),.br 840015 (ok ((((((((((((((sL aB).app (sL [])).app (sL am)).app zp1).app (sL ay)).app zq1).app (sL ac)).app (sL am)).app zp2).app (sL ay)).app zq2).app (sL ac)).app (sL [])).app (sL ba)) rfl)] (by kernel_rfl)
theorem x6 {ly:List Fv} {rp1 rq1 rp2 rq2:Fv} {y p1 q1 p2 q2:List Nat} (hp1:LT prog w e rp1 p1) (zp1:Sm 100000 p1)(hq1:LT prog w e rq1 q1) (zq1:Sm 100000 q1)(hp2:LT prog w e rp2 p2) (zp2:Sm 100000 p2)(hq2:LT prog w e rq2 q2) (zq2:Sm 100000 q2)(hy:LT prog w e (.tup ly) y) (zy:Sm 100000 y):LT prog w (e+40) (tup bD [.none,.tup [.tup [rp1,rq1],.tup [rp2,rq2]],.tup ly]) (((((((((((((aB++[])++am)++p1)++ay)++q1)++ac)++am)++p2)++ay)++q2)++ac)++((cg++y)++ac))++ba):=by
 exact rOf e 39 ao [.br 837015 (ok ((sL aB).app (sL [])) rfl),.br 839019 (ok (((sL aB).app (sL [])).app (sL am)) rfl),.callE hp1,.br 839019 (ok ((((sL aB).app (sL [])).app (sL am)).app zp1) rfl),.br 839019 (ok (((((sL aB).app (sL [])).app (sL am)).app zp1).app (sL ay)) rfl),.callE hq1,.br 839019 (ok ((((((sL aB).app (sL [])).app (sL am)).app zp1).app (sL ay)).app zq1) rfl),.br 839019 (ok (((((((sL aB).app (sL [])).app (sL am)).app zp1).app (sL ay)).app zq1).app (sL ac)) rfl),.br 839019 (ok ((((((((sL aB).app (sL [])).app (sL am)).app zp1).app (sL ay)).app zq1).app (sL ac)).app (sL am)) rfl),.callE hp2,.br 839019 (ok (((((((((sL aB).app (sL [])).app (sL am)).app zp1).app (sL ay)).app zq1).app (sL ac)).app (sL am)).app zp2) rfl),.br 839019 (ok ((((((((((sL aB).app (sL [])).app (sL am)).app zp1).app (sL ay)).app zq1).app (sL ac)).app (sL am)).app zp2).app (sL ay)) rfl),.callE hq2,.br 839019 (ok (((((((((((sL aB).app (sL [])).app (sL am)).app zp1).app (sL ay)).app zq1).app (sL ac)).app (sL am)).app zp2).app (sL ay)).app zq2) rfl),.br 839019 (ok ((((((((((((sL aB).app (sL [])).app (sL am)).app zp1).app (sL ay)).app zq1).app (sL ac)).app (sL am)).app zp2).app (sL ay)).app zq2).app (sL ac)) rfl),.callE hy,.br 840050 (ok ((sL cg).app zy) rfl),.br 840050 (ok (((sL cg).app zy).app (sL ac)) rfl),.br 840015 (ok (((((((((((((sL aB).app (sL [])).app (sL am)).app zp1).app (sL ay)).app zq1).app (sL ac)).app (sL am)).app zp2).app (sL ay)).app zq2).app (sL ac)).app (((sL cg).app zy).app (sL ac))) rfl),.br 840015 (ok ((((((((((((((sL aB).app (sL [])).app (sL am)).app zp1).app (sL ay)).app zq1).app (sL ac)).app (sL am)).app zp2).app (sL ay)).app zq2).app (sL ac)).app (((sL cg).app zy).app (sL ac))).app (sL ba)) rfl)] (by kernel_rfl)
theorem x7 {lx:List Fv} {rp1 rq1:Fv} {x p1 q1:List Nat} (hx:LT prog w e (.tup lx) x) (zx:Sm 100000 x)(hp1:LT prog w e rp1 p1) (zp1:Sm 100000 p1)(hq1:LT prog w e rq1 q1) (zq1:Sm 100000 q1):LT prog w (e+40) (tup bD [.tup lx,.tup [.tup [rp1,rq1]],.none]) ((((((((aB++((ad++x)++ac))++am)++p1)++ay)++q1)++ac)++[])++ba):=by
 exact rOf e 39 ao [.callE hx,.br 837053 (ok ((sL ad).app zx) rfl),.br 837053 (ok (((sL ad).app zx).app (sL ac)) rfl),.br 837015 (ok ((sL aB).app (((sL ad).app zx).app (sL ac))) rfl),.br 839019 (ok (((sL aB).app (((sL ad).app zx).app (sL ac))).app (sL am)) rfl),.callE hp1,.br 839019 (ok ((((sL aB).app (((sL ad).app zx).app (sL ac))).app (sL am)).app zp1) rfl),.br 839019 (ok (((((sL aB).app (((sL ad).app zx).app (sL ac))).app (sL am)).app zp1).app (sL ay)) rfl),.callE hq1,.br 839019 (ok ((((((sL aB).app (((sL ad).app zx).app (sL ac))).app (sL am)).app zp1).app (sL ay)).app zq1) rfl),.br 839019 (ok (((((((sL aB).app (((sL ad).app zx).app (sL ac))).app (sL am)).app zp1).app (sL ay)).app zq1).app (sL ac)) rfl),.br 840015 (ok ((((((((sL aB).app (((sL ad).app zx).app (sL ac))).app (sL am)).app zp1).app (sL ay)).app zq1).app (sL ac)).app (sL [])) rfl),.br 840015 (ok (((((((((sL aB).app (((sL ad).app zx).app (sL ac))).app (sL am)).app zp1).app (sL ay)).app zq1).app (sL ac)).app (sL [])).app (sL ba)) rfl)] (by kernel_rfl)
theorem x8 {lx ly:List Fv} {rp1 rq1:Fv} {x y p1 q1:List Nat} (hx:LT prog w e (.tup lx) x) (zx:Sm 100000 x)(hp1:LT prog w e rp1 p1) (zp1:Sm 100000 p1)(hq1:LT prog w e rq1 q1) (zq1:Sm 100000 q1)(hy:LT prog w e (.tup ly) y) (zy:Sm 100000 y):LT prog w (e+40) (tup bD [.tup lx,.tup [.tup [rp1,rq1]],.tup ly]) ((((((((aB++((ad++x)++ac))++am)++p1)++ay)++q1)++ac)++((cg++y)++ac))++ba):=by
 exact rOf e 39 ao [.callE hx,.br 837053 (ok ((sL ad).app zx) rfl),.br 837053 (ok (((sL ad).app zx).app (sL ac)) rfl),.br 837015 (ok ((sL aB).app (((sL ad).app zx).app (sL ac))) rfl),.br 839019 (ok (((sL aB).app (((sL ad).app zx).app (sL ac))).app (sL am)) rfl),.callE hp1,.br 839019 (ok ((((sL aB).app (((sL ad).app zx).app (sL ac))).app (sL am)).app zp1) rfl),.br 839019 (ok (((((sL aB).app (((sL ad).app zx).app (sL ac))).app (sL am)).app zp1).app (sL ay)) rfl),.callE hq1,.br 839019 (ok ((((((sL aB).app (((sL ad).app zx).app (sL ac))).app (sL am)).app zp1).app (sL ay)).app zq1) rfl),.br 839019 (ok (((((((sL aB).app (((sL ad).app zx).app (sL ac))).app (sL am)).app zp1).app (sL ay)).app zq1).app (sL ac)) rfl),.callE hy,.br 840050 (ok ((sL cg).app zy) rfl),.br 840050 (ok (((sL cg).app zy).app (sL ac)) rfl),.br 840015 (ok ((((((((sL aB).app (((sL ad).app zx).app (sL ac))).app (sL am)).app zp1).app (sL ay)).app zq1).app (sL ac)).app (((sL cg).app zy).app (sL ac))) rfl),.br 840015 (ok (((((((((sL aB).app (((sL ad).app zx).app (sL ac))).app (sL am)).app zp1).app (sL ay)).app zq1).app (sL ac)).app (((sL cg).app zy).app (sL ac))).app (sL ba)) rfl)] (by kernel_rfl)
theorem x9 {lx:List Fv} {rp1 rq1 rp2 rq2:Fv} {x p1 q1 p2 q2:List Nat} (hx:LT prog w e (.tup lx) x) (zx:Sm 100000 x)(hp1:LT prog w e rp1 p1) (zp1:Sm 100000 p1)(hq1:LT prog w e rq1 q1) (zq1:Sm 100000 q1)(hp2:LT prog w e rp2 p2) (zp2:Sm 100000 p2)(hq2:LT prog w e rq2 q2) (zq2:Sm 100000 q2):LT prog w (e+40) (tup bD [.tup lx,.tup [.tup [rp1,rq1],.tup [rp2,rq2]],.none]) (((((((((((((aB++((ad++x)++ac))++am)++p1)++ay)++q1)++ac)++am)++p2)++ay)++q2)++ac)++[])++ba):=by
 exact rOf e 39 ao [.callE hx,.br 837053 (ok ((sL ad).app zx) rfl),.br 837053 (ok (((sL ad).app zx).app (sL ac)) rfl),.br 837015 (ok ((sL aB).app (((sL ad).app zx).app (sL ac))) rfl),.br 839019 (ok (((sL aB).app (((sL ad).app zx).app (sL ac))).app (sL am)) rfl),.callE hp1,.br 839019 (ok ((((sL aB).app (((sL ad).app zx).app (sL ac))).app (sL am)).app zp1) rfl),.br 839019 (ok (((((sL aB).app (((sL ad).app zx).app (sL ac))).app (sL am)).app zp1).app (sL ay)) rfl),.callE hq1,.br 839019 (ok ((((((sL aB).app (((sL ad).app zx).app (sL ac))).app (sL am)).app zp1).app (sL ay)).app zq1) rfl),.br 839019 (ok (((((((sL aB).app (((sL ad).app zx).app (sL ac))).app (sL am)).app zp1).app (sL ay)).app zq1).app (sL ac)) rfl),.br 839019 (ok ((((((((sL aB).app (((sL ad).app zx).app (sL ac))).app (sL am)).app zp1).app (sL ay)).app zq1).app (sL ac)).app (sL am)) rfl),.callE hp2,.br 839019 (ok (((((((((sL aB).app (((sL ad).app zx).app (sL ac))).app (sL am)).app zp1).app (sL ay)).app zq1).app (sL ac)).app (sL am)).app zp2) rfl),.br 839019 (ok ((((((((((sL aB).app (((sL ad).app zx).app (sL ac))).app (sL am)).app zp1).app (sL ay)).app zq1).app (sL ac)).app (sL am)).app zp2).app (sL ay)) rfl),.callE hq2,.br 839019 (ok (((((((((((sL aB).app (((sL ad).app zx).app (sL ac))).app (sL am)).app zp1).app (sL ay)).app zq1).app (sL ac)).app (sL am)).app zp2).app (sL ay)).app zq2) rfl),.br 839019 (ok ((((((((((((sL aB).app (((sL ad).app zx).app (sL ac))).app (sL am)).app zp1).app (sL ay)).app zq1).app (sL ac)).app (sL am)).app zp2).app (sL ay)).app zq2).app (sL ac)) rfl),.br 840015 (ok (((((((((((((sL aB).app (((sL ad).app zx).app (sL ac))).app (sL am)).app zp1).app (sL ay)).app zq1).app (sL ac)).app (sL am)).app zp2).app (sL ay)).app zq2).app (sL ac)).app (sL [])) rfl),.br 840015 (ok ((((((((((((((sL aB).app (((sL ad).app zx).app (sL ac))).app (sL am)).app zp1).app (sL ay)).app zq1).app (sL ac)).app (sL am)).app zp2).app (sL ay)).app zq2).app (sL ac)).app (sL [])).app (sL ba)) rfl)] (by kernel_rfl)
theorem ya {lx ly:List Fv} {rp1 rq1 rp2 rq2:Fv} {x y p1 q1 p2 q2:List Nat} (hx:LT prog w e (.tup lx) x) (zx:Sm 100000 x)(hp1:LT prog w e rp1 p1) (zp1:Sm 100000 p1)(hq1:LT prog w e rq1 q1) (zq1:Sm 100000 q1)(hp2:LT prog w e rp2 p2) (zp2:Sm 100000 p2)(hq2:LT prog w e rq2 q2) (zq2:Sm 100000 q2)(hy:LT prog w e (.tup ly) y) (zy:Sm 100000 y):LT prog w (e+40) (tup bD [.tup lx,.tup [.tup [rp1,rq1],.tup [rp2,rq2]],.tup ly]) (((((((((((((aB++((ad++x)++ac))++am)++p1)++ay)++q1)++ac)++am)++p2)++ay)++q2)++ac)++((cg++y)++ac))++ba):=by
 exact rOf e 39 ao [.callE hx,.br 837053 (ok ((sL ad).app zx) rfl),.br 837053 (ok (((sL ad).app zx).app (sL ac)) rfl),.br 837015 (ok ((sL aB).app (((sL ad).app zx).app (sL ac))) rfl),.br 839019 (ok (((sL aB).app (((sL ad).app zx).app (sL ac))).app (sL am)) rfl),.callE hp1,.br 839019 (ok ((((sL aB).app (((sL ad).app zx).app (sL ac))).app (sL am)).app zp1) rfl),.br 839019 (ok (((((sL aB).app (((sL ad).app zx).app (sL ac))).app (sL am)).app zp1).app (sL ay)) rfl),.callE hq1,.br 839019 (ok ((((((sL aB).app (((sL ad).app zx).app (sL ac))).app (sL am)).app zp1).app (sL ay)).app zq1) rfl),.br 839019 (ok (((((((sL aB).app (((sL ad).app zx).app (sL ac))).app (sL am)).app zp1).app (sL ay)).app zq1).app (sL ac)) rfl),.br 839019 (ok ((((((((sL aB).app (((sL ad).app zx).app (sL ac))).app (sL am)).app zp1).app (sL ay)).app zq1).app (sL ac)).app (sL am)) rfl),.callE hp2,.br 839019 (ok (((((((((sL aB).app (((sL ad).app zx).app (sL ac))).app (sL am)).app zp1).app (sL ay)).app zq1).app (sL ac)).app (sL am)).app zp2) rfl),.br 839019 (ok ((((((((((sL aB).app (((sL ad).app zx).app (sL ac))).app (sL am)).app zp1).app (sL ay)).app zq1).app (sL ac)).app (sL am)).app zp2).app (sL ay)) rfl),.callE hq2,.br 839019 (ok (((((((((((sL aB).app (((sL ad).app zx).app (sL ac))).app (sL am)).app zp1).app (sL ay)).app zq1).app (sL ac)).app (sL am)).app zp2).app (sL ay)).app zq2) rfl),.br 839019 (ok ((((((((((((sL aB).app (((sL ad).app zx).app (sL ac))).app (sL am)).app zp1).app (sL ay)).app zq1).app (sL ac)).app (sL am)).app zp2).app (sL ay)).app zq2).app (sL ac)) rfl),.callE hy,.br 840050 (ok ((sL cg).app zy) rfl),.br 840050 (ok (((sL cg).app zy).app (sL ac)) rfl),.br 840015 (ok (((((((((((((sL aB).app (((sL ad).app zx).app (sL ac))).app (sL am)).app zp1).app (sL ay)).app zq1).app (sL ac)).app (sL am)).app zp2).app (sL ay)).app zq2).app (sL ac)).app (((sL cg).app zy).app (sL ac))) rfl),.br 840015 (ok ((((((((((((((sL aB).app (((sL ad).app zx).app (sL ac))).app (sL am)).app zp1).app (sL ay)).app zq1).app (sL ac)).app (sL am)).app zp2).app (sL ay)).app zq2).app (sL ac)).app (((sL cg).app zy).app (sL ac))).app (sL ba)) rfl)] (by kernel_rfl)
end
end
end MineS
namespace MineS
noncomputable section
open PySem PySem.W PySem.Calls PyProof.Rows
inductive LfP (u:Unit):Type where
 |null|i0|i7|im3|imax|imin|i1|its|emp|tx|bl1|bl0|v1|v2|v3|v4|v5|v6|v7|v8|v9|v10|v11|v12|na|nord|nt2|nqt|nbe
noncomputable abbrev Lf:=LfP ()
noncomputable def Lf.chk (p:Lf→Bool):Bool:=p .null && (p .i0 && (p .i7 && (p .im3 && (p .imax && (p .imin && (p .i1 && (p .its && (p .emp && (p .tx && (p .bl1 && (p .bl0 && (p .v1 && (p .v2 && (p .v3 && (p .v4 && (p .v5 && (p .v6 && (p .v7 && (p .v8 && (p .v9 && (p .v10 && (p .v11 && (p .v12 && (p .na && (p .nord && (p .nt2 && (p .nqt && (p .nbe))))))))))))))))))))))))))))
theorem Lf.all {p:Lf→Bool} (h:Lf.chk p=true) (x:Lf):p x=true:=by
 have h0:=(Bool.and_eq_true _ _).mp h
 have h1:=(Bool.and_eq_true _ _).mp h0.2
 have h2:=(Bool.and_eq_true _ _).mp h1.2
 have h3:=(Bool.and_eq_true _ _).mp h2.2
 have h4:=(Bool.and_eq_true _ _).mp h3.2
 have h5:=(Bool.and_eq_true _ _).mp h4.2
 have h6:=(Bool.and_eq_true _ _).mp h5.2
 have h7:=(Bool.and_eq_true _ _).mp h6.2
 have h8:=(Bool.and_eq_true _ _).mp h7.2
 have h9:=(Bool.and_eq_true _ _).mp h8.2
 have h10:=(Bool.and_eq_true _ _).mp h9.2
 have h11:=(Bool.and_eq_true _ _).mp h10.2
 have h12:=(Bool.and_eq_true _ _).mp h11.2
 have h13:=(Bool.and_eq_true _ _).mp h12.2
 have h14:=(Bool.and_eq_true _ _).mp h13.2
 have h15:=(Bool.and_eq_true _ _).mp h14.2
 have h16:=(Bool.and_eq_true _ _).mp h15.2
 have h17:=(Bool.and_eq_true _ _).mp h16.2
 have h18:=(Bool.and_eq_true _ _).mp h17.2
 have h19:=(Bool.and_eq_true _ _).mp h18.2
 have h20:=(Bool.and_eq_true _ _).mp h19.2
 have h21:=(Bool.and_eq_true _ _).mp h20.2
 have h22:=(Bool.and_eq_true _ _).mp h21.2
 have h23:=(Bool.and_eq_true _ _).mp h22.2
 have h24:=(Bool.and_eq_true _ _).mp h23.2
 have h25:=(Bool.and_eq_true _ _).mp h24.2
 have h26:=(Bool.and_eq_true _ _).mp h25.2
 have h27:=(Bool.and_eq_true _ _).mp h26.2
 cases x with
 |null=>exact h0.1
 |i0=>exact h1.1
 |i7=>exact h2.1
 |im3=>exact h3.1
 |imax=>exact h4.1
 |imin=>exact h5.1
 |i1=>exact h6.1
 |its=>exact h7.1
 |emp=>exact h8.1
 |tx=>exact h9.1
 |bl1=>exact h10.1
 |bl0=>exact h11.1
 |v1=>exact h12.1
 |v2=>exact h13.1
 |v3=>exact h14.1
 |v4=>exact h15.1
 |v5=>exact h16.1
 |v6=>exact h17.1
 |v7=>exact h18.1
 |v8=>exact h19.1
 |v9=>exact h20.1
 |v10=>exact h21.1
 |v11=>exact h22.1
 |v12=>exact h23.1
 |na=>exact h24.1
 |nord=>exact h25.1
 |nt2=>exact h26.1
 |nqt=>exact h27.1
 |nbe=>exact h27.2
noncomputable def yb (b:Bool) (o:Option Bool):Bool:=Option.rec false (fun c=>Bool.rec (!b) b c) o
theorem ug {b:Bool} {o:Option Bool} (h:yb b o=true):o=some b:=by
 cases o with
 |none=>exact Bool.noConfusion h
 |some c=>cases b<;>cases c<;>first|rfl|exact Bool.noConfusion h
noncomputable def Lf.row:Lf→Fv
 | .null=>(tup cE [.str iV,.none])
 | .i0=>(tup cE [.str iW,.int (0)])
 | .i7=>(tup cE [.str iW,.int (7)])
 | .im3=>(tup cE [.str iW,.int (-3)])
 | .imax=>(tup cE [.str iW,.int (9223372036854775807)])
 | .imin=>(tup cE [.str iW,.int (-9223372036854775808)])
 | .i1=>(tup cE [.str iW,.int (1)])
 | .its=>(tup cE [.str bN,.str qc])
 | .emp=>(tup cE [.str bN,.str []])
 | .tx=>(tup cE [.str bN,.str qd])
 | .bl1=>(tup cE [.str gZ,.bytes #[254,16]])
 | .bl0=>(tup cE [.str gZ,.bytes #[]])
 | .v1=>(tup dh [.int 1])
 | .v2=>(tup dh [.int 2])
 | .v3=>(tup dh [.int 3])
 | .v4=>(tup dh [.int 4])
 | .v5=>(tup dh [.int 5])
 | .v6=>(tup dh [.int 6])
 | .v7=>(tup dh [.int 7])
 | .v8=>(tup dh [.int 8])
 | .v9=>(tup dh [.int 9])
 | .v10=>(tup dh [.int 10])
 | .v11=>(tup dh [.int 11])
 | .v12=>(tup dh [.int 12])
 | .na=>(tup an [.none,.str mj])
 | .nord=>(tup an [.none,.str qe])
 | .nt2=>(tup an [(.str qf),.str qg])
 | .nqt=>(tup an [.none,.str qh])
 | .nbe=>(tup an [(.str qi),.str kq1])
noncomputable def Lf.node:Lf→Fv
 | .null=>(ce .none)
 | .i0=>(ce (.int (0)))
 | .i7=>(ce (.int (7)))
 | .im3=>(ce (.int (-3)))
 | .imax=>(ce (.int (9223372036854775807)))
 | .imin=>(ce (.int (-9223372036854775808)))
 | .i1=>(ce (.int (1)))
 | .its=>(ce (.str qc))
 | .emp=>(ce (.str []))
 | .tx=>(ce (.str qd))
 | .bl1=>(ce (.bytes #[254,16]))
 | .bl0=>(ce (.bytes #[]))
 | .v1=>(fj (.int 1))
 | .v2=>(fj (.int 2))
 | .v3=>(fj (.int 3))
 | .v4=>(fj (.int 4))
 | .v5=>(fj (.int 5))
 | .v6=>(fj (.int 6))
 | .v7=>(fj (.int 7))
 | .v8=>(fj (.int 8))
 | .v9=>(fj (.int 9))
 | .v10=>(fj (.int 10))
 | .v11=>(fj (.int 11))
 | .v12=>(fj (.int 12))
 | .na=>(gn .none (.str mj))
 | .nord=>(gn .none (.str qe))
 | .nt2=>(gn (.str qf) (.str qg))
 | .nqt=>(gn .none (.str qh))
 | .nbe=>(gn (.str qi) (.str kq1))
noncomputable def Lf.lt:Lf→List Nat
 | .null=>cU
 | .i0=>f7
 | .i7=>i4
 | .im3=>Cc
 | .imax=>ml
 | .imin=>Cd
 | .i1=>i5
 | .its=>Ce
 | .emp=>Cf
 | .tx=>Cg
 | .bl1=>IY
 | .bl0=>IZ
 | .v1=>Ch
 | .v2=>Ci
 | .v3=>Cj
 | .v4=>Ck
 | .v5=>Cl
 | .v6=>Cm
 | .v7=>Cn
 | .v8=>Co
 | .v9=>Cp
 | .v10=>Cq
 | .v11=>Cr
 | .v12=>Cs
 | .na=>I0
 | .nord=>Cu
 | .nt2=>I7
 | .nqt=>Cv
 | .nbe=>I8
noncomputable def Lf.wt:Lf→List Nat
 | .null=>cU
 | .i0=>f7
 | .i7=>i4
 | .im3=>Cc
 | .imax=>ml
 | .imin=>Cd
 | .i1=>i5
 | .its=>Ce
 | .emp=>Cf
 | .tx=>Cg
 | .bl1=>I9
 | .bl0=>Ja
 | .v1=>Ch
 | .v2=>Ci
 | .v3=>Cj
 | .v4=>Ck
 | .v5=>Cl
 | .v6=>Cm
 | .v7=>Cn
 | .v8=>Co
 | .v9=>Cp
 | .v10=>Cq
 | .v11=>Cr
 | .v12=>Cs
 | .na=>mj
 | .nord=>Cu
 | .nt2=>Jb
 | .nqt=>Cv
 | .nbe=>Jc
noncomputable def Lf.lev:Lf→Int
 | .null=>12
 | .i0=>12
 | .i7=>12
 | .im3=>11
 | .imax=>12
 | .imin=>11
 | .i1=>12
 | .its=>12
 | .emp=>12
 | .tx=>12
 | .bl1=>12
 | .bl0=>12
 | .v1=>12
 | .v2=>12
 | .v3=>12
 | .v4=>12
 | .v5=>12
 | .v6=>12
 | .v7=>12
 | .v8=>12
 | .v9=>12
 | .v10=>12
 | .v11=>12
 | .v12=>12
 | .na=>12
 | .nord=>12
 | .nt2=>12
 | .nqt=>12
 | .nbe=>12
section
variable {prog:Program} {w:World} {e:Nat}
noncomputable def wr:Fv:= .obj 961 [(nX,.none)]
noncomputable def FR (prog:Program) (w:World) (e:Nat) (x:Fv) (t:List Nat):Prop:=aU prog w (KW w) e (.ref ((aa w.params)).a) [.f wr,.f x] [] (.f (.str t)) []
noncomputable def LV (prog:Program) (w:World) (x:Fv) (l:Int):Prop:=aU prog w (KW w) 10 (.ref ((aF w.params)).a) [.f x] [] (.f (.int l)) []
theorem Lf.lt_ok (l:Lf):LT prog w 20 l.row l.lt:=by
 cases l
 ·exact rOf 0 19 ao [] (by kernel_rfl)
 ·exact rOf 0 19 ao [] (by kernel_rfl)
 ·exact rOf 0 19 ao [] (by kernel_rfl)
 ·exact rOf 0 19 ao [] (by kernel_rfl)
 ·exact rOf 0 19 ao [] (by kernel_rfl)
 ·exact rOf 0 19 ao [] (by kernel_rfl)
 ·exact rOf 0 19 ao [] (by kernel_rfl)
 ·exact rOf 0 19 ao [] (by kernel_rfl)
 ·exact rOf 0 19 ao [] (by kernel_rfl)
 ·exact rOf 0 19 ao [] (by kernel_rfl)
 ·exact rOf 0 19 ao [.hex oj] (by kernel_rfl)
 ·exact rOf 0 19 ao [.hex om] (by kernel_rfl)
 ·exact rOf 0 19 ao [] (by kernel_rfl)
 ·exact rOf 0 19 ao [] (by kernel_rfl)
 ·exact rOf 0 19 ao [] (by kernel_rfl)
 ·exact rOf 0 19 ao [] (by kernel_rfl)
 ·exact rOf 0 19 ao [] (by kernel_rfl)
 ·exact rOf 0 19 ao [] (by kernel_rfl)
 ·exact rOf 0 19 ao [] (by kernel_rfl)
 ·exact rOf 0 19 ao [] (by kernel_rfl)
 ·exact rOf 0 19 ao [] (by kernel_rfl)
 ·exact rOf 0 19 ao [] (by kernel_rfl)
 ·exact rOf 0 19 ao [] (by kernel_rfl)
 ·exact rOf 0 19 ao [] (by kernel_rfl)
 ·exact rOf 0 19 ao [] (by kernel_rfl)
 ·exact rOf 0 19 ao [] (by kernel_rfl)
 ·exact rOf 0 19 ao [] (by kernel_rfl)
 ·exact rOf 0 19 ao [] (by kernel_rfl)
 ·exact rOf 0 19 ao [] (by kernel_rfl)
theorem Lf.fr_ok (l:Lf):FR prog w 30 l.node l.wt:=by
 cases l
 ·exact rOf 0 29 aa [] (by kernel_rfl)
 ·exact rOf 0 29 aa [] (by kernel_rfl)
 ·exact rOf 0 29 aa [] (by kernel_rfl)
 ·exact rOf 0 29 aa [] (by kernel_rfl)
 ·exact rOf 0 29 aa [] (by kernel_rfl)
 ·exact rOf 0 29 aa [] (by kernel_rfl)
 ·exact rOf 0 29 aa [] (by kernel_rfl)
 ·exact rOf 0 29 aa [] (by kernel_rfl)
 ·exact rOf 0 29 aa [] (by kernel_rfl)
 ·exact rOf 0 29 aa [] (by kernel_rfl)
 ·exact rOf 0 29 aa [.hex oj] (by kernel_rfl)
 ·exact rOf 0 29 aa [.hex om] (by kernel_rfl)
 ·exact rOf 0 29 aa [] (by kernel_rfl)
 ·exact rOf 0 29 aa [] (by kernel_rfl)
 ·exact rOf 0 29 aa [] (by kernel_rfl)
 ·exact rOf 0 29 aa [] (by kernel_rfl)
 ·exact rOf 0 29 aa [] (by kernel_rfl)
 ·exact rOf 0 29 aa [] (by kernel_rfl)
 ·exact rOf 0 29 aa [] (by kernel_rfl)
 ·exact rOf 0 29 aa [] (by kernel_rfl)
 ·exact rOf 0 29 aa [] (by kernel_rfl)
 ·exact rOf 0 29 aa [] (by kernel_rfl)
 ·exact rOf 0 29 aa [] (by kernel_rfl)
 ·exact rOf 0 29 aa [] (by kernel_rfl)
 ·exact rOf 0 29 aa [] (by kernel_rfl)
 ·exact rOf 0 29 aa [] (by kernel_rfl)
 ·exact rOf 0 29 aa [] (by kernel_rfl)
 ·exact rOf 0 29 aa [] (by kernel_rfl)
 ·exact rOf 0 29 aa [] (by kernel_rfl)
theorem Lf.lv_ok (l:Lf):LV prog w l.node l.lev:=by
 cases l
 ·exact rOf 0 9 aF [] (by kernel_rfl)
 ·exact rOf 0 9 aF [] (by kernel_rfl)
 ·exact rOf 0 9 aF [] (by kernel_rfl)
 ·exact rOf 0 9 aF [] (by kernel_rfl)
 ·exact rOf 0 9 aF [] (by kernel_rfl)
 ·exact rOf 0 9 aF [] (by kernel_rfl)
 ·exact rOf 0 9 aF [] (by kernel_rfl)
 ·exact rOf 0 9 aF [] (by kernel_rfl)
 ·exact rOf 0 9 aF [] (by kernel_rfl)
 ·exact rOf 0 9 aF [] (by kernel_rfl)
 ·exact rOf 0 9 aF [] (by kernel_rfl)
 ·exact rOf 0 9 aF [] (by kernel_rfl)
 ·exact rOf 0 9 aF [] (by kernel_rfl)
 ·exact rOf 0 9 aF [] (by kernel_rfl)
 ·exact rOf 0 9 aF [] (by kernel_rfl)
 ·exact rOf 0 9 aF [] (by kernel_rfl)
 ·exact rOf 0 9 aF [] (by kernel_rfl)
 ·exact rOf 0 9 aF [] (by kernel_rfl)
 ·exact rOf 0 9 aF [] (by kernel_rfl)
 ·exact rOf 0 9 aF [] (by kernel_rfl)
 ·exact rOf 0 9 aF [] (by kernel_rfl)
 ·exact rOf 0 9 aF [] (by kernel_rfl)
 ·exact rOf 0 9 aF [] (by kernel_rfl)
 ·exact rOf 0 9 aF [] (by kernel_rfl)
 ·exact rOf 0 9 aF [] (by kernel_rfl)
 ·exact rOf 0 9 aF [] (by kernel_rfl)
 ·exact rOf 0 9 aF [] (by kernel_rfl)
 ·exact rOf 0 9 aF [] (by kernel_rfl)
 ·exact rOf 0 9 aF [] (by kernel_rfl)
theorem Lf.row_ok (l:Lf):aK prog w 10 l.node l.row:=by
 cases l
 ·exact BC
 ·exact gW
 ·exact gW
 ·exact gW
 ·exact gW
 ·exact gW
 ·exact gW
 ·exact oQ
 ·exact oQ
 ·exact oQ
 ·exact ud
 ·exact ud
 ·exact dA
 ·exact dA
 ·exact dA
 ·exact dA
 ·exact dA
 ·exact dA
 ·exact dA
 ·exact dA
 ·exact dA
 ·exact dA
 ·exact dA
 ·exact dA
 ·exact hX
 ·exact hX
 ·exact hX
 ·exact hX
 ·exact hX
end
end
end MineS
set_option backward.match.sparseCases false
namespace MineS
noncomputable section
open PySem PySem.W PySem.Calls PyProof.Rows
section
variable {prog:Program} {w:World} {e:Nat}
noncomputable def WR (prog:Program) (w:World) (e:Nat) (x:Fv) (least:Int) (t:List Nat):Prop:=aU prog w (KW w) e (.ref ((ct w.params)).a) [.f wr,.f x,.f (.int least)] [] (.f (.str t)) []
noncomputable def WR1 (prog:Program) (w:World) (e:Nat) (x:Fv) (t:List Nat):Prop:=aU prog w (KW w) e (.ref ((ct w.params)).a) [.f wr,.f x] [] (.f (.str t)) []
noncomputable def LS (prog:Program) (w:World) (e:Nat) (xs:List Fv) (t:List Nat):Prop:=aU prog w (KW w) e (.ref 930) [.f wr,.f (.list xs)] [] (.f (.str t)) []
theorem Em {x:Fv} {t:List Nat} {l least:Int} (h:FR prog w e x t) (hl:LV prog w x l) (hs:ile least l=true):WR prog w (e+20) x least t:=
 rOf e 19 cY [.callE h,.call hl,.br 625023 hs] (by kernel_rfl)
theorem HL {x:Fv} {t:List Nat} {l least:Int} (h:FR prog w e x t) (z:Sm 100000 t) (hl:LV prog w x l) (hs:ile least l=false):WR prog w (e+20) x least ((ad++t)++ac):=
 rOf e 19 cY [.callE h,.call hl,.br 625023 hs,.br 625052 (ok ((sL ad).app z) rfl),.br 625052 (ok (((sL ad).app z).app (sL ac)) rfl)] (by kernel_rfl)
theorem uh {x:Fv} {t:List Nat} {l:Int} (h:FR prog w e x t) (hl:LV prog w x l) (hs:ile 1 l=true):WR1 prog w (e+20) x t:=
 rOf e 19 ct [.callE h,.call hl,.br 625023 hs] (by kernel_rfl)
theorem HM {nx ny:Fv} {x y:List Nat} {op OP:List Nat} {l:Int} (hl:LV prog w (fW op nx ny) l) (hu:upL op=OP) (zu:Nat.ble (upL op).length 16777216=true) (zOP:Sm 10 OP) (hx:WR prog w e nx l x) (zx:Sm 100000 x) (hy:WR prog w e ny (l+1) y) (zy:Sm 100000 y):FR prog w (e+50) (fW op nx ny) ((((x++aH)++OP)++aH)++y):=by
 exact rOf e 49 aa [.call hl,.callE hx,.br 643019 (ok (zx.app (sL aH)) rfl),.br 643032 zu,.val 643032 (congrArg Fv.str hu),.br 643019 (ok ((zx.app (sL aH)).app zOP) rfl),.br 643019 (ok (((zx.app (sL aH)).app zOP).app (sL aH)) rfl),.callE hy,.br 643019 (ok ((((zx.app (sL aH)).app zOP).app (sL aH)).app zy) rfl)] (by kernel_rfl)
theorem HN {nx:Fv} {x:List Nat} (hx:WR prog w e nx 3 x) (zx:Sm 100000 x):FR prog w (e+50) (dJ ei nx) (vJ++x):=by
 exact rOf e 49 aa [.callE hx,.br 661019 (ok ((sL vJ).app zx) rfl)] (by kernel_rfl)
theorem BD {nx ny nv:Fv} {x y v:List Nat} {op:List Nat} {c:Nat} (ho:op=g0∨op=jV) (zop:Sm 10 op) (hx:WR prog w e nx 11 x) (zx:Sm 100000 x) (hn:nth x 0=some c) (hc:c=45):FR prog w (e+50) (dJ op nx) ((op++aH)++x):=by
 subst hc; rcases ho with rfl|rfl<;>exact rOf e 49 aa [.callE hx,.chr 665039 hn (Nat.succ_pos _),.br 665015 (ok (zop.app (sL aH)) rfl),.br 665015 (ok ((zop.app (sL aH)).app zx) rfl)] (by kernel_rfl)
theorem BE {x:List Nat} {D:Nat} {fs:List (Str×Fv)} {c:Nat} (hD:D∈[116,142,168,194,220,246,348,374,400,426,452,478]) (hx:WR prog w e (.obj D fs) 11 x) (zx:Sm 100000 x) (hn:nth x 0=some c) (hc:c=45):FR prog w (e+50) (dJ bF (.obj D fs)) ((bF++aH)++x):=by
 subst hc
 exact rOf e 49 aa [.callE hx,.val 663030 (isL hD),.chr 665039 hn (Nat.succ_pos _),.br 665015 (ok ((sL bF).app (sL aH)) rfl),.br 665015 (ok (((sL bF).app (sL aH)).app zx) rfl)] (by kernel_rfl)
theorem BG {nx ny nv:Fv} {x y v:List Nat} {op:List Nat} {c:Nat} (ho:op=g0∨op=jV) (zop:Sm 10 op) (hx:WR prog w e nx 11 x) (zx:Sm 100000 x) (hn:nth x 0=some c) (hc:az [c] bF=false):FR prog w (e+50) (dJ op nx) (op++x):=by
 rcases ho with rfl|rfl<;>exact rOf e 49 aa [.callE hx,.chr 665039 hn (Nat.succ_pos _),.br 665039 hc,.br 665059 (ok (zop.app zx) rfl)] (by kernel_rfl)
theorem BH {x:List Nat} {D:Nat} {fs:List (Str×Fv)} {c:Nat} (hD:D∈[116,142,168,194,220,246,348,374,400,426,452,478]) (hx:WR prog w e (.obj D fs) 11 x) (zx:Sm 100000 x) (hn:nth x 0=some c) (hc:az [c] bF=false):FR prog w (e+50) (dJ bF (.obj D fs)) (bF++x):=
 rOf e 49 aa [.callE hx,.val 663030 (isL hD),.chr 665039 hn (Nat.succ_pos _),.br 665039 hc,.br 665059 (ok ((sL bF).app zx) rfl)] (by kernel_rfl)
theorem HO {nx:Fv} {x:List Nat} (hx:WR prog w e nx 10 x) (zx:Sm 100000 x):FR prog w (e+50) (l5 nx (.str d9)) ((x++qj)++d9):=by
 exact rOf e 49 aa [.callE hx,.br 645019 (ok (zx.app (sL qj)) rfl),.br 645019 (ok ((zx.app (sL qj)).app (sL d9)) rfl)] (by kernel_rfl)
noncomputable def isn (g:Bool):List Nat:=match g with
 |true=>Jd
 |false=>Je
theorem HP {nx:Fv} {x:List Nat} {g:Bool} (hx:WR prog w e nx 4 x) (zx:Sm 100000 x):FR prog w (e+50) (ks nx g) (x++isn g):=by
 have zg:Sm 12 (isn g):=by cases g<;>exact Nat.le_of_ble_eq_true rfl
 cases g<;>exact rOf e 49 aa [.callE hx,.br 670019 (ok (zx.app zg) rfl)] (by kernel_rfl)
theorem HQ {nx ny nv:Fv} {x y v:List Nat} {g:Bool} (hx:WR prog w e nx 4 x) (zx:Sm 100000 x) (hy:WR prog w e ny 5 y) (zy:Sm 100000 y) (hv:WR prog w e nv 5 v) (zv:Sm 100000 v):FR prog w (e+50) (ko nx ny nv g) (((((x++tld g)++kO)++y)++qk)++v):=by
 have zg:Sm 5 (tld g):=by cases g<;>exact Nat.le_of_ble_eq_true rfl
 cases g<;>exact rOf e 49 aa [.callE hx,.br 671015 (ok (zx.app zg) rfl),.callE hy,.br 674019 (ok ((zx.app zg).app (sL kO)) rfl),.br 674019 (ok (((zx.app zg).app (sL kO)).app zy) rfl),.br 674019 (ok ((((zx.app zg).app (sL kO)).app zy).app (sL qk)) rfl),.callE hv,.br 674019 (ok (((((zx.app zg).app (sL kO)).app zy).app (sL qk)).app zv) rfl)] (by kernel_rfl)
theorem uj {nx:Fv} {x y:List Nat} {g:Bool} {xs:List Fv} (hx:WR prog w e nx 4 x) (zx:Sm 100000 x) (hy:LS prog w e xs y) (zy:Sm 300000 y):FR prog w (e+50) (fX nx xs g) ((((x++tld g)++cH)++y)++ac):=by
 have zg:Sm 5 (tld g):=by cases g<;>exact Nat.le_of_ble_eq_true rfl
 cases g<;>exact rOf e 49 aa [.callE hx,.br 671015 (ok (zx.app zg) rfl),.br 676019 (ok ((zx.app zg).app (sL cH)) rfl),.callE hy,.br 676019 (ok (((zx.app zg).app (sL cH)).app zy) rfl),.br 676019 (ok ((((zx.app zg).app (sL cH)).app zy).app (sL ac)) rfl)] (by kernel_rfl)
theorem HR {nx ny:Fv} {x y:List Nat} {g:Bool} {wo OP:List Nat} (hu:upL wo=OP) (zu:Nat.ble (upL wo).length 16777216=true) (zOP:Sm 10 OP) (hx:WR prog w e nx 4 x) (zx:Sm 100000 x) (hy:WR prog w e ny 5 y) (zy:Sm 100000 y):FR prog w (e+50) (fJ wo nx ny .none g) ((((x++tld g)++OP)++aH)++y):=by
 have zg:Sm 5 (tld g):=by cases g<;>exact Nat.le_of_ble_eq_true rfl
 cases g<;>exact rOf e 49 aa [.callE hx,.br 671015 (ok (zx.app zg) rfl),.br 679022 zu,.val 679022 (congrArg Fv.str hu),.br 679015 (ok ((zx.app zg).app zOP) rfl),.br 679015 (ok (((zx.app zg).app zOP).app (sL aH)) rfl),.callE hy,.br 679015 (ok ((((zx.app zg).app zOP).app (sL aH)).app zy) rfl)] (by kernel_rfl)
theorem HS {nx ny:Fv} {x y v:List Nat} {g:Bool} {wo OP:List Nat} {D:Nat} {fs:List (Str×Fv)} (hu:upL wo=OP) (zu:Nat.ble (upL wo).length 16777216=true) (zOP:Sm 10 OP) (hx:WR prog w e nx 4 x) (zx:Sm 100000 x) (hy:WR prog w e ny 5 y) (zy:Sm 100000 y) (hv:WR prog w e (.obj D fs) 5 v) (zv:Sm 100000 v):FR prog w (e+50) (fJ wo nx ny (.obj D fs) g) ((((((x++tld g)++OP)++aH)++y)++ql)++v):=by
 have zg:Sm 5 (tld g):=by cases g<;>exact Nat.le_of_ble_eq_true rfl
 cases g<;>exact rOf e 49 aa [.callE hx,.br 671015 (ok (zx.app zg) rfl),.br 679022 zu,.val 679022 (congrArg Fv.str hu),.br 679015 (ok ((zx.app zg).app zOP) rfl),.br 679015 (ok (((zx.app zg).app zOP).app (sL aH)) rfl),.callE hy,.br 679015 (ok ((((zx.app zg).app zOP).app (sL aH)).app zy) rfl),.br 681019 (ok (((((zx.app zg).app zOP).app (sL aH)).app zy).app (sL ql)) rfl),.callE hv,.br 681019 (ok ((((((zx.app zg).app zOP).app (sL aH)).app zy).app (sL ql)).app zv) rfl)] (by kernel_rfl)
theorem BI {nx:Fv} {x:List Nat} (hx:WR1 prog w e nx x) (zx:Sm 100000 x):FR prog w (e+50) (kr nx (.str lD)) ((((e8++x)++dT)++qm)++ac):=by
 exact rOf e 49 aa [.callE hx,.br 655019 (ok ((sL e8).app zx) rfl),.br 655019 (ok (((sL e8).app zx).app (sL dT)) rfl),.br 655019 (ok ((((sL e8).app zx).app (sL dT)).app (sL qm)) rfl),.br 655019 (ok (((((sL e8).app zx).app (sL dT)).app (sL qm)).app (sL ac)) rfl)] (by kernel_rfl)
theorem BJ {nx:Fv} {x:List Nat} (hx:WR1 prog w e nx x) (zx:Sm 100000 x):FR prog w (e+50) (kr nx (.str jZ)) ((((e8++x)++dT)++jZ)++ac):=by
 exact rOf e 49 aa [.callE hx,.br 655019 (ok ((sL e8).app zx) rfl),.br 655019 (ok (((sL e8).app zx).app (sL dT)) rfl),.br 655019 (ok ((((sL e8).app zx).app (sL dT)).app (sL jZ)) rfl),.br 655019 (ok (((((sL e8).app zx).app (sL dT)).app (sL jZ)).app (sL ac)) rfl)] (by kernel_rfl)
theorem zq {y:List Nat} {xs:List Fv} (hy:LS prog w e xs y) (zy:Sm 300000 y):FR prog w (e+50) (fq (.str d7) xs false false) ((((d7++ad)++[])++y)++ac):=by
 exact rOf e 49 aa [.callE hy,.br 657015 (ok ((sL d7).app (sL ad)) rfl),.br 657015 (ok (((sL d7).app (sL ad)).app (sL [])) rfl),.br 657015 (ok ((((sL d7).app (sL ad)).app (sL [])).app zy) rfl),.br 657015 (ok (((((sL d7).app (sL ad)).app (sL [])).app zy).app (sL ac)) rfl)] (by kernel_rfl)
theorem uV {y:List Nat} {xs:List Fv} (hy:LS prog w e xs y) (zy:Sm 300000 y):FR prog w (e+50) (fq (.str d8) xs true false) ((((d8++ad)++f9)++y)++ac):=by
 exact rOf e 49 aa [.callE hy,.br 657015 (ok ((sL d8).app (sL ad)) rfl),.br 657015 (ok (((sL d8).app (sL ad)).app (sL f9)) rfl),.br 657015 (ok ((((sL d8).app (sL ad)).app (sL f9)).app zy) rfl),.br 657015 (ok (((((sL d8).app (sL ad)).app (sL f9)).app zy).app (sL ac)) rfl)] (by kernel_rfl)
theorem pX:FR prog w (e+50) (fq (.str eA) [] false true) ((((eA++ad)++[])++fD)++ac):=by
 exact rOf e 49 aa [.br 657015 (ok ((sL eA).app (sL ad)) rfl),.br 657015 (ok (((sL eA).app (sL ad)).app (sL [])) rfl),.br 657015 (ok ((((sL eA).app (sL ad)).app (sL [])).app (sL fD)) rfl),.br 657015 (ok (((((sL eA).app (sL ad)).app (sL [])).app (sL fD)).app (sL ac)) rfl)] (by kernel_rfl)
theorem nJ {y:List Nat} {xs:List Fv} (hy:LS prog w e xs y) (zy:Sm 300000 y):FR prog w (e+50) (fq (.str kN) xs false false) ((((eZ++ad)++[])++y)++ac):=by
 exact rOf e 49 aa [.callE hy,.br 657015 (ok ((sL eZ).app (sL ad)) rfl),.br 657015 (ok (((sL eZ).app (sL ad)).app (sL [])) rfl),.br 657015 (ok ((((sL eZ).app (sL ad)).app (sL [])).app zy) rfl),.br 657015 (ok (((((sL eZ).app (sL ad)).app (sL [])).app zy).app (sL ac)) rfl)] (by kernel_rfl)
theorem yc {np1 nq1:Fv} {p1 q1:List Nat} (hp1:WR1 prog w e np1 p1) (zp1:Sm 100000 p1) (hq1:WR1 prog w e nq1 q1) (zq1:Sm 100000 q1):FR prog w (e+50) (bA .none [.tup [np1,nq1]] .none) (((((aj++ar)++p1)++aD)++q1)++ba):=by
 exact rOf e 49 aa [.br 689019 (ok ((sL aj).app (sL ar)) rfl),.callE hp1,.br 689019 (ok (((sL aj).app (sL ar)).app zp1) rfl),.br 689019 (ok ((((sL aj).app (sL ar)).app zp1).app (sL aD)) rfl),.callE hq1,.br 689019 (ok (((((sL aj).app (sL ar)).app zp1).app (sL aD)).app zq1) rfl),.br 692015 (ok ((((((sL aj).app (sL ar)).app zp1).app (sL aD)).app zq1).app (sL ba)) rfl)] (by kernel_rfl)
theorem yd {C:Nat} {cs:List (Str×Fv)} {np1 nq1:Fv} {y p1 q1:List Nat} (hp1:WR1 prog w e np1 p1) (zp1:Sm 100000 p1) (hq1:WR1 prog w e nq1 q1) (zq1:Sm 100000 q1) (hy:WR1 prog w e (.obj C cs) y) (zy:Sm 100000 y):FR prog w (e+50) (bA .none [.tup [np1,nq1]] (.obj C cs)) (((((((aj++ar)++p1)++aD)++q1)++cR)++y)++ba):=by
 exact rOf e 49 aa [.br 689019 (ok ((sL aj).app (sL ar)) rfl),.callE hp1,.br 689019 (ok (((sL aj).app (sL ar)).app zp1) rfl),.br 689019 (ok ((((sL aj).app (sL ar)).app zp1).app (sL aD)) rfl),.callE hq1,.br 689019 (ok (((((sL aj).app (sL ar)).app zp1).app (sL aD)).app zq1) rfl),.br 691019 (ok ((((((sL aj).app (sL ar)).app zp1).app (sL aD)).app zq1).app (sL cR)) rfl),.callE hy,.br 691019 (ok (((((((sL aj).app (sL ar)).app zp1).app (sL aD)).app zq1).app (sL cR)).app zy) rfl),.br 692015 (ok ((((((((sL aj).app (sL ar)).app zp1).app (sL aD)).app zq1).app (sL cR)).app zy).app (sL ba)) rfl)] (by kernel_rfl)
theorem ye {np1 nq1 np2 nq2:Fv} {p1 q1 p2 q2:List Nat} (hp1:WR1 prog w e np1 p1) (zp1:Sm 100000 p1) (hq1:WR1 prog w e nq1 q1) (zq1:Sm 100000 q1) (hp2:WR1 prog w e np2 p2) (zp2:Sm 100000 p2) (hq2:WR1 prog w e nq2 q2) (zq2:Sm 100000 q2):FR prog w (e+50) (bA .none [.tup [np1,nq1],.tup [np2,nq2]] .none) (((((((((aj++ar)++p1)++aD)++q1)++ar)++p2)++aD)++q2)++ba):=by
 exact rOf e 49 aa [.br 689019 (ok ((sL aj).app (sL ar)) rfl),.callE hp1,.br 689019 (ok (((sL aj).app (sL ar)).app zp1) rfl),.br 689019 (ok ((((sL aj).app (sL ar)).app zp1).app (sL aD)) rfl),.callE hq1,.br 689019 (ok (((((sL aj).app (sL ar)).app zp1).app (sL aD)).app zq1) rfl),.br 689019 (ok ((((((sL aj).app (sL ar)).app zp1).app (sL aD)).app zq1).app (sL ar)) rfl),.callE hp2,.br 689019 (ok (((((((sL aj).app (sL ar)).app zp1).app (sL aD)).app zq1).app (sL ar)).app zp2) rfl),.br 689019 (ok ((((((((sL aj).app (sL ar)).app zp1).app (sL aD)).app zq1).app (sL ar)).app zp2).app (sL aD)) rfl),.callE hq2,.br 689019 (ok (((((((((sL aj).app (sL ar)).app zp1).app (sL aD)).app zq1).app (sL ar)).app zp2).app (sL aD)).app zq2) rfl),.br 692015 (ok ((((((((((sL aj).app (sL ar)).app zp1).app (sL aD)).app zq1).app (sL ar)).app zp2).app (sL aD)).app zq2).app (sL ba)) rfl)] (by kernel_rfl)
theorem yf {C:Nat} {cs:List (Str×Fv)} {np1 nq1 np2 nq2:Fv} {y p1 q1 p2 q2:List Nat} (hp1:WR1 prog w e np1 p1) (zp1:Sm 100000 p1) (hq1:WR1 prog w e nq1 q1) (zq1:Sm 100000 q1) (hp2:WR1 prog w e np2 p2) (zp2:Sm 100000 p2) (hq2:WR1 prog w e nq2 q2) (zq2:Sm 100000 q2) (hy:WR1 prog w e (.obj C cs) y) (zy:Sm 100000 y):FR prog w (e+50) (bA .none [.tup [np1,nq1],.tup [np2,nq2]] (.obj C cs)) (((((((((((aj++ar)++p1)++aD)++q1)++ar)++p2)++aD)++q2)++cR)++y)++ba):=by
 exact rOf e 49 aa [.br 689019 (ok ((sL aj).app (sL ar)) rfl),.callE hp1,.br 689019 (ok (((sL aj).app (sL ar)).app zp1) rfl),.br 689019 (ok ((((sL aj).app (sL ar)).app zp1).app (sL aD)) rfl),.callE hq1,.br 689019 (ok (((((sL aj).app (sL ar)).app zp1).app (sL aD)).app zq1) rfl),.br 689019 (ok ((((((sL aj).app (sL ar)).app zp1).app (sL aD)).app zq1).app (sL ar)) rfl),.callE hp2,.br 689019 (ok (((((((sL aj).app (sL ar)).app zp1).app (sL aD)).app zq1).app (sL ar)).app zp2) rfl),.br 689019 (ok ((((((((sL aj).app (sL ar)).app zp1).app (sL aD)).app zq1).app (sL ar)).app zp2).app (sL aD)) rfl),.callE hq2,.br 689019 (ok (((((((((sL aj).app (sL ar)).app zp1).app (sL aD)).app zq1).app (sL ar)).app zp2).app (sL aD)).app zq2) rfl),.br 691019 (ok ((((((((((sL aj).app (sL ar)).app zp1).app (sL aD)).app zq1).app (sL ar)).app zp2).app (sL aD)).app zq2).app (sL cR)) rfl),.callE hy,.br 691019 (ok (((((((((((sL aj).app (sL ar)).app zp1).app (sL aD)).app zq1).app (sL ar)).app zp2).app (sL aD)).app zq2).app (sL cR)).app zy) rfl),.br 692015 (ok ((((((((((((sL aj).app (sL ar)).app zp1).app (sL aD)).app zq1).app (sL ar)).app zp2).app (sL aD)).app zq2).app (sL cR)).app zy).app (sL ba)) rfl)] (by kernel_rfl)
theorem yg {B:Nat} {bs:List (Str×Fv)} {np1 nq1:Fv} {x p1 q1:List Nat} (hx:WR1 prog w e (.obj B bs) x) (zx:Sm 100000 x) (hp1:WR1 prog w e np1 p1) (zp1:Sm 100000 p1) (hq1:WR1 prog w e nq1 q1) (zq1:Sm 100000 q1):FR prog w (e+50) (bA (.obj B bs) [.tup [np1,nq1]] .none) (((((((aj++aH)++x)++ar)++p1)++aD)++q1)++ba):=by
 exact rOf e 49 aa [.br 687019 (ok ((sL aj).app (sL aH)) rfl),.callE hx,.br 687019 (ok (((sL aj).app (sL aH)).app zx) rfl),.br 689019 (ok ((((sL aj).app (sL aH)).app zx).app (sL ar)) rfl),.callE hp1,.br 689019 (ok (((((sL aj).app (sL aH)).app zx).app (sL ar)).app zp1) rfl),.br 689019 (ok ((((((sL aj).app (sL aH)).app zx).app (sL ar)).app zp1).app (sL aD)) rfl),.callE hq1,.br 689019 (ok (((((((sL aj).app (sL aH)).app zx).app (sL ar)).app zp1).app (sL aD)).app zq1) rfl),.br 692015 (ok ((((((((sL aj).app (sL aH)).app zx).app (sL ar)).app zp1).app (sL aD)).app zq1).app (sL ba)) rfl)] (by kernel_rfl)
theorem yh {B C:Nat} {bs cs:List (Str×Fv)} {np1 nq1:Fv} {x y p1 q1:List Nat} (hx:WR1 prog w e (.obj B bs) x) (zx:Sm 100000 x) (hp1:WR1 prog w e np1 p1) (zp1:Sm 100000 p1) (hq1:WR1 prog w e nq1 q1) (zq1:Sm 100000 q1) (hy:WR1 prog w e (.obj C cs) y) (zy:Sm 100000 y):FR prog w (e+50) (bA (.obj B bs) [.tup [np1,nq1]] (.obj C cs)) (((((((((aj++aH)++x)++ar)++p1)++aD)++q1)++cR)++y)++ba):=by
 exact rOf e 49 aa [.br 687019 (ok ((sL aj).app (sL aH)) rfl),.callE hx,.br 687019 (ok (((sL aj).app (sL aH)).app zx) rfl),.br 689019 (ok ((((sL aj).app (sL aH)).app zx).app (sL ar)) rfl),.callE hp1,.br 689019 (ok (((((sL aj).app (sL aH)).app zx).app (sL ar)).app zp1) rfl),.br 689019 (ok ((((((sL aj).app (sL aH)).app zx).app (sL ar)).app zp1).app (sL aD)) rfl),.callE hq1,.br 689019 (ok (((((((sL aj).app (sL aH)).app zx).app (sL ar)).app zp1).app (sL aD)).app zq1) rfl),.br 691019 (ok ((((((((sL aj).app (sL aH)).app zx).app (sL ar)).app zp1).app (sL aD)).app zq1).app (sL cR)) rfl),.callE hy,.br 691019 (ok (((((((((sL aj).app (sL aH)).app zx).app (sL ar)).app zp1).app (sL aD)).app zq1).app (sL cR)).app zy) rfl),.br 692015 (ok ((((((((((sL aj).app (sL aH)).app zx).app (sL ar)).app zp1).app (sL aD)).app zq1).app (sL cR)).app zy).app (sL ba)) rfl)] (by kernel_rfl)
theorem yi {B:Nat} {bs:List (Str×Fv)} {np1 nq1 np2 nq2:Fv} {x p1 q1 p2 q2:List Nat} (hx:WR1 prog w e (.obj B bs) x) (zx:Sm 100000 x) (hp1:WR1 prog w e np1 p1) (zp1:Sm 100000 p1) (hq1:WR1 prog w e nq1 q1) (zq1:Sm 100000 q1) (hp2:WR1 prog w e np2 p2) (zp2:Sm 100000 p2) (hq2:WR1 prog w e nq2 q2) (zq2:Sm 100000 q2):FR prog w (e+50) (bA (.obj B bs) [.tup [np1,nq1],.tup [np2,nq2]] .none) (((((((((((aj++aH)++x)++ar)++p1)++aD)++q1)++ar)++p2)++aD)++q2)++ba):=by
 exact rOf e 49 aa [.br 687019 (ok ((sL aj).app (sL aH)) rfl),.callE hx,.br 687019 (ok (((sL aj).app (sL aH)).app zx) rfl),.br 689019 (ok ((((sL aj).app (sL aH)).app zx).app (sL ar)) rfl),.callE hp1,.br 689019 (ok (((((sL aj).app (sL aH)).app zx).app (sL ar)).app zp1) rfl),.br 689019 (ok ((((((sL aj).app (sL aH)).app zx).app (sL ar)).app zp1).app (sL aD)) rfl),.callE hq1,.br 689019 (ok (((((((sL aj).app (sL aH)).app zx).app (sL ar)).app zp1).app (sL aD)).app zq1) rfl),.br 689019 (ok ((((((((sL aj).app (sL aH)).app zx).app (sL ar)).app zp1).app (sL aD)).app zq1).app (sL ar)) rfl),.callE hp2,.br 689019 (ok (((((((((sL aj).app (sL aH)).app zx).app (sL ar)).app zp1).app (sL aD)).app zq1).app (sL ar)).app zp2) rfl),.br 689019 (ok ((((((((((sL aj).app (sL aH)).app zx).app (sL ar)).app zp1).app (sL aD)).app zq1).app (sL ar)).app zp2).app (sL aD)) rfl),.callE hq2,.br 689019 (ok (((((((((((sL aj).app (sL aH)).app zx).app (sL ar)).app zp1).app (sL aD)).app zq1).app (sL ar)).app zp2).app (sL aD)).app zq2) rfl),.br 692015 (ok ((((((((((((sL aj).app (sL aH)).app zx).app (sL ar)).app zp1).app (sL aD)).app zq1).app (sL ar)).app zp2).app (sL aD)).app zq2).app (sL ba)) rfl)] (by kernel_rfl)
theorem yj {B C:Nat} {bs cs:List (Str×Fv)} {np1 nq1 np2 nq2:Fv} {x y p1 q1 p2 q2:List Nat} (hx:WR1 prog w e (.obj B bs) x) (zx:Sm 100000 x) (hp1:WR1 prog w e np1 p1) (zp1:Sm 100000 p1) (hq1:WR1 prog w e nq1 q1) (zq1:Sm 100000 q1) (hp2:WR1 prog w e np2 p2) (zp2:Sm 100000 p2) (hq2:WR1 prog w e nq2 q2) (zq2:Sm 100000 q2) (hy:WR1 prog w e (.obj C cs) y) (zy:Sm 100000 y):FR prog w (e+50) (bA (.obj B bs) [.tup [np1,nq1],.tup [np2,nq2]] (.obj C cs)) (((((((((((((aj++aH)++x)++ar)++p1)++aD)++q1)++ar)++p2)++aD)++q2)++cR)++y)++ba):=by
 exact rOf e 49 aa [.br 687019 (ok ((sL aj).app (sL aH)) rfl),.callE hx,.br 687019 (ok (((sL aj).app (sL aH)).app zx) rfl),.br 689019 (ok ((((sL aj).app (sL aH)).app zx).app (sL ar)) rfl),.callE hp1,.br 689019 (ok (((((sL aj).app (sL aH)).app zx).app (sL ar)).app zp1) rfl),.br 689019 (ok ((((((sL aj).app (sL aH)).app zx).app (sL ar)).app zp1).app (sL aD)) rfl),.callE hq1,.br 689019 (ok (((((((sL aj).app (sL aH)).app zx).app (sL ar)).app zp1).app (sL aD)).app zq1) rfl),.br 689019 (ok ((((((((sL aj).app (sL aH)).app zx).app (sL ar)).app zp1).app (sL aD)).app zq1).app (sL ar)) rfl),.callE hp2,.br 689019 (ok (((((((((sL aj).app (sL aH)).app zx).app (sL ar)).app zp1).app (sL aD)).app zq1).app (sL ar)).app zp2) rfl),.br 689019 (ok ((((((((((sL aj).app (sL aH)).app zx).app (sL ar)).app zp1).app (sL aD)).app zq1).app (sL ar)).app zp2).app (sL aD)) rfl),.callE hq2,.br 689019 (ok (((((((((((sL aj).app (sL aH)).app zx).app (sL ar)).app zp1).app (sL aD)).app zq1).app (sL ar)).app zp2).app (sL aD)).app zq2) rfl),.br 691019 (ok ((((((((((((sL aj).app (sL aH)).app zx).app (sL ar)).app zp1).app (sL aD)).app zq1).app (sL ar)).app zp2).app (sL aD)).app zq2).app (sL cR)) rfl),.callE hy,.br 691019 (ok (((((((((((((sL aj).app (sL aH)).app zx).app (sL ar)).app zp1).app (sL aD)).app zq1).app (sL ar)).app zp2).app (sL aD)).app zq2).app (sL cR)).app zy) rfl),.br 692015 (ok ((((((((((((((sL aj).app (sL aH)).app zx).app (sL ar)).app zp1).app (sL aD)).app zq1).app (sL ar)).app zp2).app (sL aD)).app zq2).app (sL cR)).app zy).app (sL ba)) rfl)] (by kernel_rfl)
theorem HT {x:Fv}:LV prog w (dJ ei x) 3:=by
 exact rOf 0 9 aF [] (by kernel_rfl)
theorem uk {x:Fv} {op:List Nat} (ho:op=bF∨op=g0∨op=jV):LV prog w (dJ op x) 11:=by
 rcases ho with rfl|rfl|rfl<;>exact rOf 0 9 aF [] (by kernel_rfl)
theorem HU {x y v:Fv} {g:Bool}:LV prog w (ko x y v g) 4:=by
 exact rOf 0 9 aF [] (by kernel_rfl)
theorem ul {x:Fv} {xs:List Fv} {g:Bool}:LV prog w (fX x xs g) 4:=by
 exact rOf 0 9 aF [] (by kernel_rfl)
theorem HV {x:Fv} {g:Bool}:LV prog w (ks x g) 4:=by
 exact rOf 0 9 aF [] (by kernel_rfl)
theorem zr {x y v:Fv} {g:Bool} {wo:List Nat}:LV prog w (fJ wo x y v g) 4:=by
 exact rOf 0 9 aF [] (by kernel_rfl)
theorem HW {x y:Fv}:LV prog w (l5 x y) 10:=by
 exact rOf 0 9 aF [] (by kernel_rfl)
theorem gt {x y:Fv} {xs:List Fv}:LV prog w (bA x xs y) 12:=by
 exact rOf 0 9 aF [] (by kernel_rfl)
theorem nK {x:Fv} {xs:List Fv} {g b:Bool}:LV prog w (fq x xs g b) 12:=by
 exact rOf 0 9 aF [] (by kernel_rfl)
theorem zt {x y:Fv}:LV prog w (kr x y) 12:=by
 exact rOf 0 9 aF [] (by kernel_rfl)
inductive BoP (u:Unit):Type where
 |o0|o1|o2|o3|o4|o5|o6|o7|o8|o9|o10|o11|o12|o13|o14|o15|o16|o17|o18|o19
noncomputable abbrev Bo:=BoP ()
noncomputable def Bo.chk (p:Bo→Bool):Bool:=p .o0 && (p .o1 && (p .o2 && (p .o3 && (p .o4 && (p .o5 && (p .o6 && (p .o7 && (p .o8 && (p .o9 && (p .o10 && (p .o11 && (p .o12 && (p .o13 && (p .o14 && (p .o15 && (p .o16 && (p .o17 && (p .o18 && (p .o19)))))))))))))))))))
theorem Bo.all {p:Bo→Bool} (h:Bo.chk p=true) (x:Bo):p x=true:=by
 have h0:=(Bool.and_eq_true _ _).mp h
 have h1:=(Bool.and_eq_true _ _).mp h0.2
 have h2:=(Bool.and_eq_true _ _).mp h1.2
 have h3:=(Bool.and_eq_true _ _).mp h2.2
 have h4:=(Bool.and_eq_true _ _).mp h3.2
 have h5:=(Bool.and_eq_true _ _).mp h4.2
 have h6:=(Bool.and_eq_true _ _).mp h5.2
 have h7:=(Bool.and_eq_true _ _).mp h6.2
 have h8:=(Bool.and_eq_true _ _).mp h7.2
 have h9:=(Bool.and_eq_true _ _).mp h8.2
 have h10:=(Bool.and_eq_true _ _).mp h9.2
 have h11:=(Bool.and_eq_true _ _).mp h10.2
 have h12:=(Bool.and_eq_true _ _).mp h11.2
 have h13:=(Bool.and_eq_true _ _).mp h12.2
 have h14:=(Bool.and_eq_true _ _).mp h13.2
 have h15:=(Bool.and_eq_true _ _).mp h14.2
 have h16:=(Bool.and_eq_true _ _).mp h15.2
 have h17:=(Bool.and_eq_true _ _).mp h16.2
 have h18:=(Bool.and_eq_true _ _).mp h17.2
 cases x with
 |o0=>exact h0.1
 |o1=>exact h1.1
 |o2=>exact h2.1
 |o3=>exact h3.1
 |o4=>exact h4.1
 |o5=>exact h5.1
 |o6=>exact h6.1
 |o7=>exact h7.1
 |o8=>exact h8.1
 |o9=>exact h9.1
 |o10=>exact h10.1
 |o11=>exact h11.1
 |o12=>exact h12.1
 |o13=>exact h13.1
 |o14=>exact h14.1
 |o15=>exact h15.1
 |o16=>exact h16.1
 |o17=>exact h17.1
 |o18=>exact h18.1
 |o19=>exact h18.2
noncomputable def Bo.op:Bo→List Nat
 | .o0=>tA
 | .o1=>tC
 | .o2=>vK
 | .o3=>iU
 | .o4=>iD
 | .o5=>jW
 | .o6=>vL
 | .o7=>kE
 | .o8=>vN
 | .o9=>kF
 | .o10=>vP
 | .o11=>vQ
 | .o12=>kH
 | .o13=>kI
 | .o14=>g0
 | .o15=>bF
 | .o16=>fD
 | .o17=>vS
 | .o18=>vT
 | .o19=>kG
noncomputable def Bo.up:Bo→List Nat
 | .o0=>kq2
 | .o1=>kq3
 | .o2=>vK
 | .o3=>iU
 | .o4=>kq4
 | .o5=>Jf
 | .o6=>vL
 | .o7=>kE
 | .o8=>vN
 | .o9=>kF
 | .o10=>vP
 | .o11=>vQ
 | .o12=>kH
 | .o13=>kI
 | .o14=>g0
 | .o15=>bF
 | .o16=>fD
 | .o17=>vS
 | .o18=>vT
 | .o19=>kG
noncomputable def Bo.lev:Bo→Int
 | .o0=>1
 | .o1=>2
 | .o2=>4
 | .o3=>4
 | .o4=>4
 | .o5=>4
 | .o6=>5
 | .o7=>5
 | .o8=>5
 | .o9=>5
 | .o10=>6
 | .o11=>6
 | .o12=>6
 | .o13=>6
 | .o14=>7
 | .o15=>7
 | .o16=>8
 | .o17=>8
 | .o18=>8
 | .o19=>9
theorem zw {x y:Fv} (o:Bo):LV prog w (fW o.op x y) o.lev:=by
 cases o<;>exact rOf 0 9 aF [] (by kernel_rfl)
theorem C2 (o:Bo):upL o.op=o.up∧Nat.ble (upL o.op).length 16777216=true:=by
 cases o<;>exact ⟨by kernel_rfl,by kernel_rfl⟩
noncomputable def Lf.mt:Lf→List Nat
 | .null=>Jg
 | .i0=>Jh
 | .i7=>Ji
 | .im3=>Jj
 | .imax=>Jk
 | .imin=>Jl
 | .i1=>Jm
 | .its=>Jn
 | .emp=>Jo
 | .tx=>Jp
 | .bl1=>Jq
 | .bl0=>Jr
 |_=>[]
noncomputable def Lf.isLit:Lf→Bool
 | .null=>true
 | .i0=>true
 | .i7=>true
 | .im3=>true
 | .imax=>true
 | .imin=>true
 | .i1=>true
 | .its=>true
 | .emp=>true
 | .tx=>true
 | .bl1=>true
 | .bl0=>true
 |_=>false
theorem En (l:Lf) (h:l.isLit=true):FR prog w 60 (dJ bF l.node) l.mt:=by
 cases l<;>first|(cases h; done)|skip
 ·exact rOf 0 59 aa [] (by kernel_rfl)
 ·exact rOf 0 59 aa [] (by kernel_rfl)
 ·exact rOf 0 59 aa [] (by kernel_rfl)
 ·exact rOf 0 59 aa [] (by kernel_rfl)
 ·exact rOf 0 59 aa [] (by kernel_rfl)
 ·exact rOf 0 59 aa [] (by kernel_rfl)
 ·exact rOf 0 59 aa [] (by kernel_rfl)
 ·exact rOf 0 59 aa [] (by kernel_rfl)
 ·exact rOf 0 59 aa [] (by kernel_rfl)
 ·exact rOf 0 59 aa [] (by kernel_rfl)
 ·exact rOf 0 59 aa [.hex oj] (by kernel_rfl)
 ·exact rOf 0 59 aa [.hex om] (by kernel_rfl)
end
end
end MineS
namespace MineS
noncomputable section
open PySem PySem.W PySem.Calls PyProof.Rows
inductive UoP (u:Unit):Type where
 |mi|pl|ti|no
noncomputable abbrev Uo:=UoP ()
noncomputable def Uo.op:Uo→List Nat
 | .mi=>bF| .pl=>g0| .ti=>jV| .no=>ei
inductive FoP (u:Unit):Type where
 |f|max|count|replace
noncomputable abbrev Fo:=FoP ()
noncomputable def Fo.nm:Fo→List Nat
 | .f=>d7| .max=>d8| .count=>eA| .replace=>kN
noncomputable def Fo.di:Fo→Bool
 | .max=>true|_=>false
noncomputable def Fo.st:Fo→Bool
 | .count=>true|_=>false
noncomputable def tyN (b:Bool):List Nat:=match b with
 |true=>lD
 |false=>jZ
noncomputable def maN (b:Bool):List Nat:=match b with
 |true=>jX
 |false=>jY
inductive T where
 |lf (l:Lf)
 |una (o:Uo) (x:T)
 |bin (o:Bo) (x y:T)
 |btw (g:Bool) (x y z:T)
 |inl (g:Bool) (x xs:T)
 |isn (g:Bool) (x:T)
 |mat (k g:Bool) (x y e:T)
 |cas (b ws o:T)
 |cst (k:Bool) (x:T)
 |col (x:T)
 |cal (f:Fo) (xs:T)
 |par (x:T)
 |nil
 |cons (x xs:T)
 |con2 (x y xs:T)
 |none
noncomputable def unT:Fv→List Fv
 | .tup l=>l
 |_=>[]
noncomputable def ft:Fv→List Fv
 | .list l=>l
 |_=>[]
noncomputable def row:T→Fv
 | .lf l=>l.row
 | .una o x=>tup im [.str o.op,row x]
 | .bin o x y=>tup gM [.str o.op,row x,row y]
 | .btw g x y z=>tup pY [row x,row y,row z,.bool g]
 | .inl g x xs=>tup io [row x,row xs,.bool g]
 | .isn g x=>tup qa [row x,.bool g]
 | .mat k g x y e=>tup iX [tup (maN k) [row x,row y],row e,.bool g]
 | .cas b ws o=>tup bD [row b,row ws,row o]
 | .cst k x=>tup gN [row x,.str (tyN k)]
 | .col x=>tup pZ [row x,.str d9]
 | .cal f xs=>tup f8 [.str f.nm,row xs,.bool f.di,.bool f.st]
 | .par x=>row x
 | .nil=> .tup []
 | .cons x xs=> .tup (row x::unT (row xs))
 | .con2 x y xs=> .tup (.tup [row x,row y]::unT (row xs))
 | .none=> .none
noncomputable def node:T→Fv
 | .lf l=>l.node
 | .una o x=>dJ o.op (node x)
 | .bin o x y=>fW o.op (node x) (node y)
 | .btw g x y z=>ko (node x) (node y) (node z) g
 | .inl g x xs=>fX (node x) (ft (node xs)) g
 | .isn g x=>ks (node x) g
 | .mat k g x y e=>fJ (maN k) (node x) (node y) (node e) g
 | .cas b ws o=>bA (node b) (ft (node ws)) (node o)
 | .cst k x=>kr (node x) (.str (tyN k))
 | .col x=>l5 (node x) (.str d9)
 | .cal f xs=>fq (.str f.nm) (ft (node xs)) f.di f.st
 | .par x=>node x
 | .nil=> .list []
 | .cons x xs=> .list (node x::ft (node xs))
 | .con2 x y xs=> .list (.tup [node x,node y]::ft (node xs))
 | .none=> .none
noncomputable def zA:Lf→Bool
 | .null=>true
 |_=>false
noncomputable def oS:T→Bool
 | .lf l=>zA l
 |_=>false
noncomputable def l7:Bo→Bool
 | .o4=>true
 | .o5=>true
 |_=>false
inductive Dr:Nat→Nat→T→Prop
 |lf {n:Nat} {l:Lf}:Dr 0 n (.lf l)
 |una {n:Nat} {o:Uo} {x:T}:Dr 0 n x→Dr 0 (n+1) (.una o x)
 |bin {n:Nat} {o:Bo} {x y:T}:Dr 0 n x→Dr 0 n y→(l7 o=true→oS y=false)→Dr 0 (n+1) (.bin o x y)
 |btw {n:Nat} {g:Bool} {x y z:T}:Dr 0 n x→Dr 0 n y→Dr 0 n z→Dr 0 (n+1) (.btw g x y z)
 |in0 {n:Nat} {g:Bool} {x:T}:Dr 0 n x→Dr 0 (n+1) (.inl g x .nil)
 |in1 {n:Nat} {g:Bool} {x y:T}:Dr 0 n x→Dr 0 n y→Dr 0 (n+1) (.inl g x (.cons y .nil))
 |in2 {n:Nat} {g:Bool} {x y z:T}:Dr 0 n x→Dr 0 n y→Dr 0 n z→Dr 0 (n+1) (.inl g x (.cons y (.cons z .nil)))
 |isn {n:Nat} {g:Bool} {x:T}:Dr 0 n x→Dr 0 (n+1) (.isn g x)
 |mat {n:Nat} {k g:Bool} {x y:T}:Dr 0 n x→Dr 0 n y→Dr 0 (n+1) (.mat k g x y .none)
 |mae {n:Nat} {k g:Bool} {x y z:T}:Dr 0 n x→Dr 0 n y→Dr 0 n z→Dr 0 (n+1) (.mat k g x y z)
 |cas {n:Nat} {b ws o:T}:Dr 1 n b→Dr 2 n ws→Dr 1 n o→Dr 0 (n+1) (.cas b ws o)
 |cst {n:Nat} {k:Bool} {x:T}:Dr 0 n x→Dr 0 (n+1) (.cst k x)
 |col {n:Nat} {x:T}:Dr 0 n x→Dr 0 (n+1) (.col x)
 |cf {n:Nat} {x y:T}:Dr 0 n x→Dr 0 n y→Dr 0 (n+1) (.cal .f (.cons x (.cons y .nil)))
 |cm {n:Nat} {x:T}:Dr 0 n x→Dr 0 (n+1) (.cal .max (.cons x .nil))
 |cc {n:Nat}:Dr 0 (n+1) (.cal .count .nil)
 |cr {n:Nat}:Dr 0 (n+1) (.cal .replace .nil)
 |no {n:Nat}:Dr 1 n .none
 |op {n:Nat} {x:T}:Dr 0 n x→Dr 1 n x
 |w1 {n:Nat} {x y:T}:Dr 0 n x→Dr 0 n y→Dr 2 n (.con2 x y .nil)
 |w2 {n:Nat} {x y u v:T}:Dr 0 n x→Dr 0 n y→Dr 0 n u→Dr 0 n v→Dr 2 n (.con2 x y (.con2 u v .nil))
noncomputable def T.ex:T→Bool
 | .par _=>false
 | .nil=>false
 | .cons _ _=>false
 | .con2 _ _ _=>false
 | .none=>false
 |_=>true
theorem Dr.ex0 {k n:Nat} {t:T} (h:Dr k n t):(!Nat.beq k 0||t.ex)=true:=by
 induction h<;>rfl
theorem Dr.ex {n:Nat} {t:T} (h:Dr 0 n t):t.ex=true:=h.ex0
theorem Dr.succ {k n:Nat} {t:T} (h:Dr k n t):Dr k (n+1) t:=by
 induction h with
 |lf=>exact .lf
 |una _ i=>exact .una i
 |bin _ _ h i j=>exact .bin i j h
 |btw _ _ _ i j k=>exact .btw i j k
 |in0 _ i=>exact .in0 i
 |in1 _ _ i j=>exact .in1 i j
 |in2 _ _ _ i j k=>exact .in2 i j k
 |isn _ i=>exact .isn i
 |mat _ _ i j=>exact .mat i j
 |mae _ _ _ i j k=>exact .mae i j k
 |cas _ _ _ i j k=>exact .cas i j k
 |cst _ i=>exact .cst i
 |col _ i=>exact .col i
 |cf _ _ i j=>exact .cf i j
 |cm _ i=>exact .cm i
 |cc=>exact .cc
 |cr=>exact .cr
 |no=>exact .no
 |op _ i=>exact .op i
 |w1 _ _ i j=>exact .w1 i j
 |w2 _ _ _ _ i j k l=>exact .w2 i j k l
theorem Dr.le {k n m:Nat} {t:T} (h:Dr k n t) (l:n≤m):Dr k m t:=by
 induction l with
 |refl=>exact h
 |step _ i=>exact i.succ
section
variable {prog:Program} {w:World} {e:Nat}
structure Src (a b:Int):Prop where
 p1:0≤a
 p2:0≤b
 p3:b<2147483647
noncomputable def sr (a b:Int):List MO:=[.list [.int a,.int b]]
theorem nM {x:Int} {t:Nat} (hx:0≤x) (ht:0<t): ∃m:Nat,m<t∧x.fmod (Int.ofNat t)=Int.ofNat m:=by
 refine ⟨(x.fmod (Int.ofNat t)).toNat,?_,?_⟩
 ·have h1:0≤x.fmod (Int.ofNat t):=Int.fmod_nonneg hx (by simp)
  have h2:x.fmod (Int.ofNat t)<Int.ofNat t:=Int.fmod_lt_of_pos x (by simpa using ht)
  have:((x.fmod (Int.ofNat t)).toNat:Int)=x.fmod (Int.ofNat t):=Int.toNat_of_nonneg h1
  have h3:((x.fmod (Int.ofNat t)).toNat:Int)<(t:Int):=by rw [this]; exact h2
  exact Int.ofNat_lt.mp h3
 ·exact (Int.toNat_of_nonneg (Int.fmod_nonneg hx (by simp))).symm
theorem HX {b:Int} (h:0≤b) (k:b<2147483647):Builtin.Int.intBits b≤64:=PySem.intBits_le_iff.mpr (Nat.lt_trans (by omega:b.natAbs<2147483647) (by decide))
noncomputable def TK (prog:Program) (w:World) (top m:Nat) (a b a' b':Int):Prop:=aU prog w (KW w) 10 (.ref ((gk w.params)).a) [.r 0,.f (.int (Int.ofNat top))] (sr a b) (.f (.int (Int.ofNat m))) (sr a' b')
theorem lg {a b:Int} (top:Nat) (ht:0<top) (ht2:top≤1000) (s:Src a b): ∃m a' b',m<top∧Src a' b'∧TK prog w top m a b a' b':=by
 have n0:(Int.ofNat top:Int)≠0:=by simp; omega
 have n1:(Int.ofNat top:Int).natAbs<2 ^ 100:=by simp; omega
 by_cases h:0<a
 ·have z:ilt 0 a=true:=by simp [ilt,h]
  obtain ⟨m,hm,e1⟩:=nM s.p1 ht
  refine ⟨m,a.fdiv (Int.ofNat top),b,hm,⟨Int.fdiv_nonneg s.p1 (by simp),s.p2,s.p3⟩,?_⟩
  exact rOf 0 9 gk [.br 774007 z,.prop n0,.val 775016 (congrArg Fv.int e1),.prop (And.intro n0 n1)] (by kernel_rfl)
 ·have z:ilt 0 a=false:=by simp [ilt,h]
  obtain ⟨b',hb',e1⟩: ∃b':Nat,b'<2147483647∧(b*39373+7).fmod 2147483647=Int.ofNat b':=nM (t:=2147483647) (by have:=s.p2; omega) (by decide)
  have q0:0≤Int.ofNat b':=by simp
  have q1:0≤Int.ofNat b'*Int.ofNat b':=Int.mul_nonneg q0 q0
  have q2:0≤(Int.ofNat b'*Int.ofNat b').fmod 2147483629:=Int.fmod_nonneg q1 (by decide)
  have p0:0≤((Int.ofNat b'*Int.ofNat b').fmod 2147483629).fdiv 32:=Int.fdiv_nonneg q2 (by decide)
  obtain ⟨m,hm,e2⟩:=nM p0 ht
  refine ⟨m,a,Int.ofNat b',hm,⟨s.p1,by simp,by simpa using (by omega:(b':Int)<2147483647)⟩,?_⟩
  exact rOf 0 9 gk [.br 774007 z,.prop (Or.inr (by decide):Builtin.Int.intBits b≤64∨Builtin.Int.intBits 39373≤64),.prop (by decide:(2147483647:Int)≠0),.val 778016 (congrArg Fv.int e1),.prop (Or.inl (HX (by simp) (by simpa using (by omega:(b':Int)<2147483647))):Builtin.Int.intBits (Int.ofNat b')≤64∨Builtin.Int.intBits (Int.ofNat b')≤64),.prop (by decide:(2147483629:Int)≠0),.prop (by decide:(32:Int)≠0∧(32:Int).natAbs<2 ^ 100),.prop n0,.val 779011 (congrArg Fv.int e2)] (by kernel_rfl)
end
end
end MineS
set_option backward.match.sparseCases true
namespace MineS
noncomputable section
open PySem PySem.W PySem.Calls PyProof.Rows
section
variable {prog:Program} {w:World} {e:Nat}
noncomputable def zB (m:Nat):List Fv:=[Lf.row .null,Lf.row .i0,Lf.row .i7,Lf.row .im3,Lf.row .imax,Lf.row .imin,Lf.row .its,Lf.row .emp,Lf.row .bl1,Lf.row .bl0,tup dh [.int (1+Int.ofNat m)],Lf.row .na,Lf.row .nord,Lf.row .nt2,Lf.row .nqt,Lf.row .nbe]
theorem yk {α β:Type} (f:α→β): ∀(l:List α) {m:Nat},m<l.length→ ∃o,nth (l.map f) m=some (f o)
 |[],_,h=>absurd h (Nat.not_lt_zero _)
 |a::_,0,_=>⟨a,rfl⟩
 |_::l,_+1,h=>yk f l (Nat.lt_of_succ_lt_succ h)
theorem BK {m:Nat} (hm:m<12): ∃l:Lf,tup dh [.int (1+Int.ofNat m)]=l.row:=by
 match m,hm with
 |0,_=>exact ⟨.v1,rfl⟩
 |1,_=>exact ⟨.v2,rfl⟩
 |2,_=>exact ⟨.v3,rfl⟩
 |3,_=>exact ⟨.v4,rfl⟩
 |4,_=>exact ⟨.v5,rfl⟩
 |5,_=>exact ⟨.v6,rfl⟩
 |6,_=>exact ⟨.v7,rfl⟩
 |7,_=>exact ⟨.v8,rfl⟩
 |8,_=>exact ⟨.v9,rfl⟩
 |9,_=>exact ⟨.v10,rfl⟩
 |10,_=>exact ⟨.v11,rfl⟩
 |11,_=>exact ⟨.v12,rfl⟩
 |k+12,h=>exact absurd h (by omega)
theorem Eo {m j:Nat} (hm:m<12) (hj:j<16): ∃l:Lf,nth (zB m) j=some l.row:=by
 obtain ⟨v,hv⟩:=BK hm
 unfold zB
 rw [hv]
 exact yk Lf.row [.null,.i0,.i7,.im3,.imax,.imin,.its,.emp,.bl1,.bl0,v,.na,.nord,.nt2,.nqt,.nbe] hj
theorem HY:(0:Int)≤63∧(Builtin.Int.intBits 2:Int)*63≤2 ^ 27:=by decide
theorem vw {a b:Int} (s:Src a b): ∃(l:Lf) (a' b':Int),Src a' b'∧aU prog w (KW w) 20 (.ref ((eW w.params)).a) [.r 0] (sr a b) (.f l.row) (sr a' b'):=by
 obtain ⟨m,a1,b1,hm,s1,h1⟩:=lg (prog:=prog) (w:=w) 12 (by decide) (by decide) s
 obtain ⟨j,a2,b2,hj,s2,h2⟩:=lg (prog:=prog) (w:=w) 16 (by decide) (by decide) s1
 obtain ⟨l,hl⟩:=Eo hm hj
 exact ⟨l,a2,b2,s2,rOf 0 19 eW [.prop HY,.prop HY,.call h1,.call h2,.at 781011 hl (by omega)] (by kernel_rfl)⟩
noncomputable def opL:List Fv:=[.str tA,.str tC,.str vK,.str iU,.str iD,.str jW,.str vL,.str kE,.str vN,.str kF,.str vP,.str vQ,.str kH,.str kI,.str g0,.str bF,.str fD,.str vS,.str vT,.str kG]
theorem Ep {m:Nat} (hm:m<20): ∃o:Bo,nth opL m=some (.str o.op):=
 yk (fun o:Bo=>Fv.str o.op) [.o0,.o1,.o2,.o3,.o4,.o5,.o6,.o7,.o8,.o9,.o10,.o11,.o12,.o13,.o14,.o15,.o16,.o17,.o18,.o19] hm
theorem Er {m:Nat} (hm:m<5): ∃o:Uo,nth [Fv.str bF,.str g0,.str jV,.str ei,.str ei] m=some (.str o.op):=
 yk (fun o:Uo=>Fv.str o.op) [.mi,.pl,.ti,.no,.no] hm
noncomputable def EX (prog:Program) (w:World) (e n:Nat) (r:Fv) (a b a' b':Int):Prop:=aU prog w (KW w) e (.ref ((aE w.params)).a) [.r 0,.f (.int (Int.ofNat n))] (sr a b) (.f r) (sr a' b')
theorem Pr {a b a' b':Int} {l:Lf} (h:aU prog w (KW w) 20 (.ref ((eW w.params)).a) [.r 0] (sr a b) (.f l.row) (sr a' b')):EX prog w 40 0 l.row a b a' b':=
 rOf 0 39 aE [.call h] (by kernel_rfl)
theorem nz (n:Nat):ieq (Int.ofNat (n+1)) 0=false:=by unfold ieq; rw [decide_eq_false]; intro h; injection h; omega
variable {n r m:Nat} {r1 r2:Fv} {a b a1 b1 a2 b2 a3 b3 a4 b4 a5 b5 a6 b6 a7 b7 a8 b8:Int}
structure Pre (prog:Program) (w:World) (e n m r:Nat) (r1 r2:Fv) (a b a1 b1 a2 b2 a3 b3 a4 b4:Int):Prop where
 h0:TK prog w 12 m a b a1 b1
 h1:EX prog w e n r1 a1 b1 a2 b2
 h2:TK prog w (n+1) r a2 b2 a3 b3
 h3:EX prog w e r r2 a3 b3 a4 b4
noncomputable abbrev PR (prog:Program) (w:World) (e n m r:Nat) (r1 r2:Fv) (a b a1 b1 a2 b2 a3 b3 a4 b4:Int):=Pre prog w e n m r r1 r2 a b a1 b1 a2 b2 a3 b3 a4 b4
noncomputable def pE (p:Pre prog w e n m r r1 r2 a b a1 b1 a2 b2 a3 b3 a4 b4):List (Evt prog w (KW w)):=[.br 789007 (nz n),.call p.h0,.val 792036 (hig n),.callE p.h1,.call p.h2,.callE p.h3]
theorem lt4 {P:Nat→Prop} (h0:P 0) (h1:P 1) (h2:P 2) (h3:P 3): ∀{m:Nat},m<4→P m
 |0,_=>h0
 |1,_=>h1
 |2,_=>h2
 |3,_=>h3
theorem BM {o:Bo} {j m:Nat} (hm:m<4) (p:Pre prog w e n m r r1 r2 a b a1 b1 a2 b2 a3 b3 a4 b4) (h4:TK prog w 20 j a4 b4 a5 b5) (ho:nth opL j=some (.str o.op)) (hj:j<2 ^ 63) (hn:ck o.op [iD,jW]=false):EX prog w (e+40) (n+1) (tup gM [.str o.op,r1,r2]) a b a5 b5:=by
 exact lt4 (P:=fun m=>Pre prog w e n m r r1 r2 a b a1 b1 a2 b2 a3 b3 a4 b4→EX prog w (e+40) (n+1) (tup gM [.str o.op,r1,r2]) a b a5 b5) (fun p=>rOf e 39 aE (pE p++[.call h4,.at 781011 ho hj,.br 796018 hn]) (by kernel_rfl)) (fun p=>rOf e 39 aE (pE p++[.call h4,.at 781011 ho hj,.br 796018 hn]) (by kernel_rfl)) (fun p=>rOf e 39 aE (pE p++[.call h4,.at 781011 ho hj,.br 796018 hn]) (by kernel_rfl)) (fun p=>rOf e 39 aE (pE p++[.call h4,.at 781011 ho hj,.br 796018 hn]) (by kernel_rfl)) hm p
theorem BN {o:Bo} {j m:Nat} {rl:List Fv} (hm:m<4) (p:Pre prog w e n m r r1 r2 a b a1 b1 a2 b2 a3 b3 a4 b4) (h4:TK prog w 20 j a4 b4 a5 b5) (ho:nth opL j=some (.str o.op)) (hj:j<2 ^ 63) (hn:ck o.op [iD,jW]=true) (hr:r2= .tup rl) (hq:dk (feq 100) rl [.str cE,.str iV,.none]=some false):EX prog w (e+40) (n+1) (tup gM [.str o.op,r1,r2]) a b a5 b5:=by
 subst hr; exact lt4 (P:=fun m=>Pre prog w e n m r r1 (.tup rl) a b a1 b1 a2 b2 a3 b3 a4 b4→EX prog w (e+40) (n+1) (tup gM [.str o.op,r1,(.tup rl)]) a b a5 b5) (fun p=>rOf e 39 aE (pE p++[.call h4,.at 781011 ho hj,.br 796018 hn,.teq hq]) (by kernel_rfl)) (fun p=>rOf e 39 aE (pE p++[.call h4,.at 781011 ho hj,.br 796018 hn,.teq hq]) (by kernel_rfl)) (fun p=>rOf e 39 aE (pE p++[.call h4,.at 781011 ho hj,.br 796018 hn,.teq hq]) (by kernel_rfl)) (fun p=>rOf e 39 aE (pE p++[.call h4,.at 781011 ho hj,.br 796018 hn,.teq hq]) (by kernel_rfl)) hm p
theorem BP {o:Bo} {j m:Nat} {rl:List Fv} (hm:m<4) (p:Pre prog w e n m r r1 r2 a b a1 b1 a2 b2 a3 b3 a4 b4) (h4:TK prog w 20 j a4 b4 a5 b5) (ho:nth opL j=some (.str o.op)) (hj:j<2 ^ 63) (hn:ck o.op [iD,jW]=true) (hr:r2= .tup rl) (hq:dk (feq 100) rl [.str cE,.str iV,.none]=some true):EX prog w (e+40) (n+1) (tup gM [.str o.op,r1,Lf.row .i1]) a b a5 b5:=by
 subst hr; exact lt4 (P:=fun m=>Pre prog w e n m r r1 (.tup rl) a b a1 b1 a2 b2 a3 b3 a4 b4→EX prog w (e+40) (n+1) (tup gM [.str o.op,r1,Lf.row .i1]) a b a5 b5) (fun p=>rOf e 39 aE (pE p++[.call h4,.at 781011 ho hj,.br 796018 hn,.teq hq]) (by kernel_rfl)) (fun p=>rOf e 39 aE (pE p++[.call h4,.at 781011 ho hj,.br 796018 hn,.teq hq]) (by kernel_rfl)) (fun p=>rOf e 39 aE (pE p++[.call h4,.at 781011 ho hj,.br 796018 hn,.teq hq]) (by kernel_rfl)) (fun p=>rOf e 39 aE (pE p++[.call h4,.at 781011 ho hj,.br 796018 hn,.teq hq]) (by kernel_rfl)) hm p
theorem HZ {o:Uo} {u j m:Nat} {g:Bool} (hm:m=4∨m=5) (p:Pre prog w e n m r r1 r2 a b a1 b1 a2 b2 a3 b3 a4 b4) (h4:TK prog w 2 u a4 b4 a5 b5) (hg:Fv.bool (ieq (Int.ofNat u) 0)= .bool g) (h5:TK prog w 5 j a5 b5 a6 b6) (ho:nth [Fv.str bF,.str g0,.str jV,.str ei,.str ei] j=some (.str o.op)) (hj:j<2 ^ 63):EX prog w (e+40) (n+1) (tup im [.str o.op,r1]) a b a6 b6:=
 hm.elim (fun h=>by subst h; exact rOf e 39 aE (pE p++[.call h4,.val 798014 hg,.call h5,.at 781011 ho hj]) (by kernel_rfl)) (fun h=>by subst h; exact rOf e 39 aE (pE p++[.call h4,.val 798014 hg,.call h5,.at 781011 ho hj]) (by kernel_rfl))
theorem H0 {l:Lf} {u:Nat} {g:Bool} (p:Pre prog w e n 6 r r1 r2 a b a1 b1 a2 b2 a3 b3 a4 b4) (h4:TK prog w 2 u a4 b4 a5 b5) (hg:Fv.bool (ieq (Int.ofNat u) 0)= .bool g) (h5:aU prog w (KW w) 20 (.ref ((eW w.params)).a) [.r 0] (sr a5 b5) (.f l.row) (sr a6 b6)):EX prog w (e+40) (n+1) (tup pY [r1,r2,l.row,.bool g]) a b a6 b6:=by
 exact rOf e 39 aE (pE p++[.call h4,.val 798014 hg,.call h5]) (by kernel_rfl)
theorem H3 {u:Nat} {g:Bool} (p:Pre prog w e n 7 r r1 r2 a b a1 b1 a2 b2 a3 b3 a4 b4) (h4:TK prog w 2 u a4 b4 a5 b5) (hg:Fv.bool (ieq (Int.ofNat u) 0)= .bool g) (h5:TK prog w 3 0 a5 b5 a6 b6):EX prog w (e+40) (n+1) (tup io [r1,.tup [],.bool g]) a b a6 b6:=by
 exact rOf e 39 aE (pE p++[.call h4,.val 798014 hg,.call h5]) (by kernel_rfl)
theorem H4 {u:Nat} {g:Bool} (p:Pre prog w e n 7 r r1 r2 a b a1 b1 a2 b2 a3 b3 a4 b4) (h4:TK prog w 2 u a4 b4 a5 b5) (hg:Fv.bool (ieq (Int.ofNat u) 0)= .bool g) (h5:TK prog w 3 1 a5 b5 a6 b6):EX prog w (e+40) (n+1) (tup io [r1,.tup [r2],.bool g]) a b a6 b6:=by
 exact rOf e 39 aE (pE p++[.call h4,.val 798014 hg,.call h5]) (by kernel_rfl)
theorem H5 {u:Nat} {g:Bool} (p:Pre prog w e n 7 r r1 r2 a b a1 b1 a2 b2 a3 b3 a4 b4) (h4:TK prog w 2 u a4 b4 a5 b5) (hg:Fv.bool (ieq (Int.ofNat u) 0)= .bool g) (h5:TK prog w 3 2 a5 b5 a6 b6):EX prog w (e+40) (n+1) (tup io [r1,.tup [r2,r1],.bool g]) a b a6 b6:=by
 exact rOf e 39 aE (pE p++[.call h4,.val 798014 hg,.call h5]) (by kernel_rfl)
theorem H6 {u:Nat} {g:Bool} (p:Pre prog w e n 8 r r1 r2 a b a1 b1 a2 b2 a3 b3 a4 b4) (h4:TK prog w 2 u a4 b4 a5 b5) (hg:Fv.bool (ieq (Int.ofNat u) 0)= .bool g) (h5:TK prog w 2 0 a5 b5 a6 b6):EX prog w (e+40) (n+1) (tup qa [r1,.bool g]) a b a6 b6:=by
 exact rOf e 39 aE (pE p++[.call h4,.val 798014 hg,.call h5]) (by kernel_rfl)
theorem H7 {u:Nat} {g:Bool} (p:Pre prog w e n 8 r r1 r2 a b a1 b1 a2 b2 a3 b3 a4 b4) (h4:TK prog w 2 u a4 b4 a5 b5) (hg:Fv.bool (ieq (Int.ofNat u) 0)= .bool g) (h5:TK prog w 2 1 a5 b5 a6 b6):EX prog w (e+40) (n+1) (tup iX [tup jX [r1,r2],.none,.bool g]) a b a6 b6:=by
 exact rOf e 39 aE (pE p++[.call h4,.val 798014 hg,.call h5]) (by kernel_rfl)
theorem H8 {u:Nat} {g:Bool} (p:Pre prog w e n 9 r r1 r2 a b a1 b1 a2 b2 a3 b3 a4 b4) (h4:TK prog w 2 u a4 b4 a5 b5) (hg:Fv.bool (ieq (Int.ofNat u) 0)= .bool g):EX prog w (e+40) (n+1) (tup iX [tup jY [r1,r2],Lf.row .tx,.bool g]) a b a5 b5:=by
 exact rOf e 39 aE (pE p++[.call h4,.val 798014 hg]) (by kernel_rfl)
theorem zC {u:Nat} {g:Bool} (p:Pre prog w e n 10 r r1 r2 a b a1 b1 a2 b2 a3 b3 a4 b4) (h4:TK prog w 2 u a4 b4 a5 b5) (hg:Fv.bool (ieq (Int.ofNat u) 0)= .bool g) (h5:TK prog w 2 0 a5 b5 a6 b6) (h6:TK prog w 2 0 a6 b6 a7 b7) (h7:TK prog w 2 0 a7 b7 a8 b8):EX prog w (e+40) (n+1) (tup bD [.none,.tup [.tup [r1,r2]],.none]) a b a8 b8:=by
 exact rOf e 39 aE (pE p++[.call h4,.val 798014 hg,.call h5,.call h6,.call h7]) (by kernel_rfl)
theorem zD {u:Nat} {g:Bool} (p:Pre prog w e n 10 r r1 r2 a b a1 b1 a2 b2 a3 b3 a4 b4) (h4:TK prog w 2 u a4 b4 a5 b5) (hg:Fv.bool (ieq (Int.ofNat u) 0)= .bool g) (h5:TK prog w 2 0 a5 b5 a6 b6) (h6:TK prog w 2 0 a6 b6 a7 b7) (h7:TK prog w 2 1 a7 b7 a8 b8):EX prog w (e+40) (n+1) (tup bD [.none,.tup [.tup [r1,r2]],r1]) a b a8 b8:=by
 exact rOf e 39 aE (pE p++[.call h4,.val 798014 hg,.call h5,.call h6,.call h7]) (by kernel_rfl)
theorem zE {u:Nat} {g:Bool} (p:Pre prog w e n 10 r r1 r2 a b a1 b1 a2 b2 a3 b3 a4 b4) (h4:TK prog w 2 u a4 b4 a5 b5) (hg:Fv.bool (ieq (Int.ofNat u) 0)= .bool g) (h5:TK prog w 2 0 a5 b5 a6 b6) (h6:TK prog w 2 1 a6 b6 a7 b7) (h7:TK prog w 2 0 a7 b7 a8 b8):EX prog w (e+40) (n+1) (tup bD [r2,.tup [.tup [r1,r2]],.none]) a b a8 b8:=by
 exact rOf e 39 aE (pE p++[.call h4,.val 798014 hg,.call h5,.call h6,.call h7]) (by kernel_rfl)
theorem zF {u:Nat} {g:Bool} (p:Pre prog w e n 10 r r1 r2 a b a1 b1 a2 b2 a3 b3 a4 b4) (h4:TK prog w 2 u a4 b4 a5 b5) (hg:Fv.bool (ieq (Int.ofNat u) 0)= .bool g) (h5:TK prog w 2 0 a5 b5 a6 b6) (h6:TK prog w 2 1 a6 b6 a7 b7) (h7:TK prog w 2 1 a7 b7 a8 b8):EX prog w (e+40) (n+1) (tup bD [r2,.tup [.tup [r1,r2]],r1]) a b a8 b8:=by
 exact rOf e 39 aE (pE p++[.call h4,.val 798014 hg,.call h5,.call h6,.call h7]) (by kernel_rfl)
theorem zG {u:Nat} {g:Bool} (p:Pre prog w e n 10 r r1 r2 a b a1 b1 a2 b2 a3 b3 a4 b4) (h4:TK prog w 2 u a4 b4 a5 b5) (hg:Fv.bool (ieq (Int.ofNat u) 0)= .bool g) (h5:TK prog w 2 1 a5 b5 a6 b6) (h6:TK prog w 2 0 a6 b6 a7 b7) (h7:TK prog w 2 0 a7 b7 a8 b8):EX prog w (e+40) (n+1) (tup bD [.none,.tup [.tup [r1,r2],.tup [r2,r1]],.none]) a b a8 b8:=by
 exact rOf e 39 aE (pE p++[.call h4,.val 798014 hg,.call h5,.call h6,.call h7]) (by kernel_rfl)
theorem zH {u:Nat} {g:Bool} (p:Pre prog w e n 10 r r1 r2 a b a1 b1 a2 b2 a3 b3 a4 b4) (h4:TK prog w 2 u a4 b4 a5 b5) (hg:Fv.bool (ieq (Int.ofNat u) 0)= .bool g) (h5:TK prog w 2 1 a5 b5 a6 b6) (h6:TK prog w 2 0 a6 b6 a7 b7) (h7:TK prog w 2 1 a7 b7 a8 b8):EX prog w (e+40) (n+1) (tup bD [.none,.tup [.tup [r1,r2],.tup [r2,r1]],r1]) a b a8 b8:=by
 exact rOf e 39 aE (pE p++[.call h4,.val 798014 hg,.call h5,.call h6,.call h7]) (by kernel_rfl)
theorem zI {u:Nat} {g:Bool} (p:Pre prog w e n 10 r r1 r2 a b a1 b1 a2 b2 a3 b3 a4 b4) (h4:TK prog w 2 u a4 b4 a5 b5) (hg:Fv.bool (ieq (Int.ofNat u) 0)= .bool g) (h5:TK prog w 2 1 a5 b5 a6 b6) (h6:TK prog w 2 1 a6 b6 a7 b7) (h7:TK prog w 2 0 a7 b7 a8 b8):EX prog w (e+40) (n+1) (tup bD [r2,.tup [.tup [r1,r2],.tup [r2,r1]],.none]) a b a8 b8:=by
 exact rOf e 39 aE (pE p++[.call h4,.val 798014 hg,.call h5,.call h6,.call h7]) (by kernel_rfl)
theorem zJ {u:Nat} {g:Bool} (p:Pre prog w e n 10 r r1 r2 a b a1 b1 a2 b2 a3 b3 a4 b4) (h4:TK prog w 2 u a4 b4 a5 b5) (hg:Fv.bool (ieq (Int.ofNat u) 0)= .bool g) (h5:TK prog w 2 1 a5 b5 a6 b6) (h6:TK prog w 2 1 a6 b6 a7 b7) (h7:TK prog w 2 1 a7 b7 a8 b8):EX prog w (e+40) (n+1) (tup bD [r2,.tup [.tup [r1,r2],.tup [r2,r1]],r1]) a b a8 b8:=by
 exact rOf e 39 aE (pE p++[.call h4,.val 798014 hg,.call h5,.call h6,.call h7]) (by kernel_rfl)
theorem Es {u:Nat} {g:Bool} (p:Pre prog w e n 11 r r1 r2 a b a1 b1 a2 b2 a3 b3 a4 b4) (h4:TK prog w 2 u a4 b4 a5 b5) (hg:Fv.bool (ieq (Int.ofNat u) 0)= .bool g) (h5:TK prog w 7 0 a5 b5 a6 b6):EX prog w (e+40) (n+1) (tup gN [r1,.str lD]) a b a6 b6:=by
 exact rOf e 39 aE (pE p++[.call h4,.val 798014 hg,.call h5]) (by kernel_rfl)
theorem Et {u:Nat} {g:Bool} (p:Pre prog w e n 11 r r1 r2 a b a1 b1 a2 b2 a3 b3 a4 b4) (h4:TK prog w 2 u a4 b4 a5 b5) (hg:Fv.bool (ieq (Int.ofNat u) 0)= .bool g) (h5:TK prog w 7 1 a5 b5 a6 b6):EX prog w (e+40) (n+1) (tup gN [r1,.str jZ]) a b a6 b6:=by
 exact rOf e 39 aE (pE p++[.call h4,.val 798014 hg,.call h5]) (by kernel_rfl)
theorem Eu {u:Nat} {g:Bool} (p:Pre prog w e n 11 r r1 r2 a b a1 b1 a2 b2 a3 b3 a4 b4) (h4:TK prog w 2 u a4 b4 a5 b5) (hg:Fv.bool (ieq (Int.ofNat u) 0)= .bool g) (h5:TK prog w 7 2 a5 b5 a6 b6):EX prog w (e+40) (n+1) (tup pZ [r1,.str d9]) a b a6 b6:=by
 exact rOf e 39 aE (pE p++[.call h4,.val 798014 hg,.call h5]) (by kernel_rfl)
theorem Ev {u:Nat} {g:Bool} (p:Pre prog w e n 11 r r1 r2 a b a1 b1 a2 b2 a3 b3 a4 b4) (h4:TK prog w 2 u a4 b4 a5 b5) (hg:Fv.bool (ieq (Int.ofNat u) 0)= .bool g) (h5:TK prog w 7 3 a5 b5 a6 b6):EX prog w (e+40) (n+1) (tup f8 [.str d7,.tup [r1,r2],.bool false,.bool false]) a b a6 b6:=by
 exact rOf e 39 aE (pE p++[.call h4,.val 798014 hg,.call h5]) (by kernel_rfl)
theorem Ew {u:Nat} {g:Bool} (p:Pre prog w e n 11 r r1 r2 a b a1 b1 a2 b2 a3 b3 a4 b4) (h4:TK prog w 2 u a4 b4 a5 b5) (hg:Fv.bool (ieq (Int.ofNat u) 0)= .bool g) (h5:TK prog w 7 4 a5 b5 a6 b6):EX prog w (e+40) (n+1) (tup f8 [.str d8,.tup [r1],.bool true,.bool false]) a b a6 b6:=by
 exact rOf e 39 aE (pE p++[.call h4,.val 798014 hg,.call h5]) (by kernel_rfl)
theorem Ex {u:Nat} {g:Bool} (p:Pre prog w e n 11 r r1 r2 a b a1 b1 a2 b2 a3 b3 a4 b4) (h4:TK prog w 2 u a4 b4 a5 b5) (hg:Fv.bool (ieq (Int.ofNat u) 0)= .bool g) (h5:TK prog w 7 5 a5 b5 a6 b6):EX prog w (e+40) (n+1) (tup f8 [.str eA,.tup [],.bool false,.bool true]) a b a6 b6:=by
 exact rOf e 39 aE (pE p++[.call h4,.val 798014 hg,.call h5]) (by kernel_rfl)
theorem Ey {u:Nat} {g:Bool} (p:Pre prog w e n 11 r r1 r2 a b a1 b1 a2 b2 a3 b3 a4 b4) (h4:TK prog w 2 u a4 b4 a5 b5) (hg:Fv.bool (ieq (Int.ofNat u) 0)= .bool g) (h5:TK prog w 7 6 a5 b5 a6 b6):EX prog w (e+40) (n+1) (tup f8 [.str kN,.tup [],.bool false,.bool false]) a b a6 b6:=by
 exact rOf e 39 aE (pE p++[.call h4,.val 798014 hg,.call h5]) (by kernel_rfl)
end
end
end MineS
namespace MineS
noncomputable section
open PySem PySem.W PySem.Calls PyProof.Rows
section
variable {prog:Program} {w:World} {e:Nat}
noncomputable def MP (x y:Int):Prop:=Builtin.Int.intBits x≤64∨Builtin.Int.intBits y≤64
noncomputable def PL (prog:Program) (w:World) (xs:List Fv) (k:Nat) (pre:List MO) (a b:Int):Prop:=aU prog w (KW w) 15 (.ref ((gj w.params)).a) [.f (.list xs),.f (.int (Int.ofNat k))] pre (.r pre.length) (pre++sr a b)
theorem lh {xs:List Fv} (hx:xs.length≤1000000) {k:Nat} (hk:k=0∨k=1) (pre:List MO) (hp:pre=[]∨ ∃l,pre=[.list l]) (hc:ilt (Int.ofNat k) (Int.ofNat xs.length)=false∨ilt (Int.ofNat k) (Int.ofNat xs.length)=true∧ ∃c,nth xs k=some (.int c)): ∃a b,Src a b∧PL prog w xs k pre a b:=by
 have z0:Nat.blt xs.length (2 ^ 63)=true:=Nat.blt_eq.mpr (by omega)
 have key: ∀c:Int,∃B a:Int,∃b:Nat,0≤B∧(if-1-c>c then-1-c else c)=B∧0≤a∧b<2147483647∧((B.fmod 2147483629+7919*Int.ofNat k*Int.ofNat k+31*Int.ofNat k+17)*48271).fmod 2147483647=Int.ofNat b∧ ∃g:Bool,ile (10 ^ 18) B=g∧a=B*(if g=true then 1 else 0):=by
  intro c
  refine ⟨if-1-c>c then-1-c else c,?_⟩
  generalize hB:(if-1-c>c then-1-c else c)=B
  have h0:0≤B:=by rw [←hB]; split<;>omega
  have h1:0≤B.fmod 2147483629:=Int.fmod_nonneg h0 (by decide)
  have h2:0≤(B.fmod 2147483629+7919*Int.ofNat k*Int.ofNat k+31*Int.ofNat k+17)*48271:=by
   have k0:0≤Int.ofNat k:=by simp
   have k1:=Int.mul_nonneg k0 k0
   have k2:0≤7919*Int.ofNat k*Int.ofNat k:=by rw [Int.mul_assoc]; exact Int.mul_nonneg (by decide) k1
   refine Int.mul_nonneg ?_ (by decide)
   omega
  obtain ⟨b,hb,e1⟩:=nM (t:=2147483647) h2 (by decide)
  refine ⟨B*(if ile (10 ^ 18) B=true then 1 else 0),b,h0,rfl,?_,hb,e1,_,rfl,rfl⟩
  split<;>simp<;>omega
 have q0:(2147483629:Int)≠0:=by decide
 have q1:(2147483647:Int)≠0:=by decide
 have q2:(0:Int)≤18∧(Builtin.Int.intBits 10:Int)*18≤2 ^ 27:=by decide
 have hk64:Builtin.Int.intBits (Int.ofNat k)≤64:=by rcases hk with rfl|rfl<;>decide
 have bit: ∀g:Bool,Builtin.Int.intBits (if g=true then 1 else 0)≤64:=fun g=>by cases g<;>decide
 rcases hc with hc|⟨hc,c,hcc⟩
 ·obtain ⟨B,a,b,hB0,hB,ha,hb,e1,g,hg,e2⟩:=key 0
  refine ⟨a,Int.ofNat b,⟨ha,by simp,by simpa using (by omega:(b:Int)<2147483647)⟩,?_⟩
  subst e2
  rcases hp with rfl|⟨l,rfl⟩<;>exact rOf 0 14 gj [.br 768011 z0,.br 768007 hc,.val 770010 (congrArg Fv.int hB),.prop q0,.prop (p:=MP 7919 (Int.ofNat k)) (.inl (by decide)),.prop (p:=MP (7919*Int.ofNat k) (Int.ofNat k)) (.inr hk64),.prop (p:=MP 31 (Int.ofNat k)) (.inl (by decide)),.prop (p:=MP (B.fmod 2147483629+7919*Int.ofNat k*Int.ofNat k+31*Int.ofNat k+17) 48271) (.inr (by decide)),.prop q1,.val 771012 (congrArg Fv.int e1),.prop q2,.val 772022 (congrArg Fv.bool hg),.prop (p:=MP B (if g=true then 1 else 0)) (.inr (bit g))] (by kernel_rfl)
 ·obtain ⟨B,a,b,hB0,hB,ha,hb,e1,g,hg,e2⟩:=key c
  refine ⟨a,Int.ofNat b,⟨ha,by simp,by simpa using (by omega:(b:Int)<2147483647)⟩,?_⟩
  subst e2
  rcases hp with rfl|⟨l,rfl⟩<;>exact rOf 0 14 gj [.br 768011 z0,.br 768007 hc,.at 769015 hcc (by rcases hk with rfl|rfl<;>decide),.val 770010 (congrArg Fv.int hB),.prop q0,.prop (p:=MP 7919 (Int.ofNat k)) (.inl (by decide)),.prop (p:=MP (7919*Int.ofNat k) (Int.ofNat k)) (.inr hk64),.prop (p:=MP 31 (Int.ofNat k)) (.inl (by decide)),.prop (p:=MP (B.fmod 2147483629+7919*Int.ofNat k*Int.ofNat k+31*Int.ofNat k+17) 48271) (.inr (by decide)),.prop q1,.val 771012 (congrArg Fv.int e1),.prop q2,.val 772022 (congrArg Fv.bool hg),.prop (p:=MP B (if g=true then 1 else 0)) (.inr (bit g))] (by kernel_rfl)
end
end
end MineS
set_option backward.match.sparseCases false
namespace MineS
noncomputable section
open PySem PySem.W PySem.Calls PyProof.Rows
noncomputable def nO:Fv→Bool
 | .tup _=>true
 |_=>false
theorem po {x:Fv} (h:nO x=true):x= .tup (unT x):=by
 cases x with
 |tup l=>rfl
 |_=>exact Bool.noConfusion h
theorem um (l:Lf):l.row= .tup (unT l.row):=po (Lf.all (p:=fun l=>nO l.row) (by kernel_rfl) l)
theorem PW (l:Lf): ∃rl,row (.lf l)= .tup rl:=⟨_,um l⟩
noncomputable def k2:Fv→Bool
 | .tup _=>true
 | .str _=>true
 | .none=>true
 |_=>false
noncomputable def k3:Fv→Bool
 | .bool _=>true
 |x=>k2 x
theorem MB (l:Lf):k2 l.row=true:=by rw [um l]; rfl
theorem eG {k n:Nat} {t:T} (h:Dr k n t):k2 (row t)=true:=by
 induction h with
 | @lf n l=>exact MB l
 |op _ i=>exact i
 |_=>rfl
theorem k23 {x:Fv} (h:k2 x=true):k3 x=true:=by
 cases x<;>first|rfl|exact Bool.noConfusion h
theorem MC {k n:Nat} {t:T} (h:Dr k n t):(Nat.beq k 1||nO (row t))=true:=by
 induction h with
 | @lf n l=>exact Lf.all (p:=fun l=>nO l.row) (by kernel_rfl) l
 |_=>rfl
theorem Dr.row {n:Nat} {t:T} (h:Dr 0 n t): ∃rl,MineS.row t= .tup rl:=⟨_,po (MC h)⟩
noncomputable def BQ:List Fv:=[.str cE,.str iV,.none]
theorem Ps {x:Fv} (h:k2 x=true): ∃p,feq 100 x (.str iV)=some p:=by
 cases x<;>first|exact ⟨_,rfl⟩|exact Bool.noConfusion h
theorem Pt {x:Fv} (h:k3 x=true): ∃p,feq 100 x .none=some p:=by
 cases x<;>first|exact ⟨_,rfl⟩|exact Bool.noConfusion h
theorem Pu (r:List Fv): ∃p,dk (feq 100) r []=some p:=by
 cases r<;>exact ⟨_,rfl⟩
theorem Pv {tag:List Nat} {x y:Fv} {r:List Fv} (h:az tag cE=false) (hx:k2 x=true) (hy:k3 y=true):dk (feq 100) (.str tag::x::y::r) BQ=some false:=by
 obtain ⟨p,e1⟩:=Ps hx
 obtain ⟨q,e2⟩:=Pt hy
 obtain ⟨u,e3⟩:=Pu r
 show ((some (az tag cE)).bind fun p=>((feq 100 x (.str iV)).bind fun p=>((feq 100 y .none).bind fun p=>(dk (feq 100) r []).bind fun q=>some (p && q)).bind fun q=>some (p && q)).bind fun q=>some (p && q))=some false
 rw [e1,e2,e3,h]; rfl
noncomputable def yl (t:T):Prop:= ∃rl,MineS.row t= .tup rl∧dk (feq 100) rl BQ=some (oS t)
theorem eM {t:T} {tag:List Nat} {x y:Fv} {r:List Fv} (e:MineS.row t= .tup (.str tag::x::y::r)) (h:az tag cE=false) (hx:k2 x=true) (hy:k3 y=true) (hn:oS t=false):yl t:=⟨_,e,by rw [hn]; exact Pv h hx hy⟩
theorem MD (l:Lf):yl (.lf l):=⟨_,um l,ug (Lf.all (p:=fun l=>yb (zA l) (dk (feq 100) (unT l.row) BQ)) (by kernel_rfl) l)⟩
theorem Ez {k n:Nat} {t:T} (h:Dr k n t):k=0→yl t:=by
 induction h with
 |lf=>exact fun _=>MD _
 |una h=>exact fun _=>eM rfl rfl rfl (k23 (eG h)) rfl
 |bin h h2=>exact fun _=>eM rfl rfl rfl (k23 (eG h)) rfl
 |btw h h2=>exact fun _=>eM rfl rfl (eG h) (k23 (eG h2)) rfl
 |in0 h=>exact fun _=>eM rfl rfl (eG h) rfl rfl
 |in1 h=>exact fun _=>eM rfl rfl (eG h) rfl rfl
 |in2 h=>exact fun _=>eM rfl rfl (eG h) rfl rfl
 |isn h=>exact fun _=>eM rfl rfl (eG h) rfl rfl
 |mat=>exact fun _=>eM rfl rfl rfl rfl rfl
 |mae _ _ h=>exact fun _=>eM rfl rfl rfl (k23 (eG h)) rfl
 |cas h h2=>exact fun _=>eM rfl rfl (eG h) (k23 (eG h2)) rfl
 |cst h=>exact fun _=>eM rfl rfl (eG h) rfl rfl
 |col h=>exact fun _=>eM rfl rfl (eG h) rfl rfl
 |cf=>exact fun _=>eM rfl rfl rfl rfl rfl
 |cm=>exact fun _=>eM rfl rfl rfl rfl rfl
 |cc=>exact fun _=>eM rfl rfl rfl rfl rfl
 |cr=>exact fun _=>eM rfl rfl rfl rfl rfl
 |_=>exact nofun
theorem H9 {n:Nat} {t:T} (h:Dr 0 n t):yl t:=Ez h rfl
theorem ME (o:Bo):ck o.op [iD,jW]=l7 o:=beq_iff_eq.mp (Bo.all (p:=fun o=>ck o.op [iD,jW]==l7 o) (by kernel_rfl) o)
section
variable {prog:Program} {w:World} {e:Nat}
theorem two {j:Nat} {G:Prop} (h:j<2) (h0:j=0→G) (h1:j=1→G):G:=by
 rcases j with _|_|j
 ·exact h0 rfl
 ·exact h1 rfl
 ·exact absurd h (by omega)
theorem ng (u:Nat):Fv.bool (ieq (Int.ofNat u) 0)= .bool (ieq (Int.ofNat u) 0):=rfl
noncomputable def DX (prog:Program) (w:World) (n:Nat) (a b:Int):Prop:= ∃t a' b',Dr 0 n t∧Src a' b'∧EX prog w (40*n+40) n (row t) a b a' b'
theorem dx {n:Nat} {a b a' b':Int} (t:T) (d:Dr 0 (n+1) t) (s:Src a' b') (h:EX prog w (40*n+40+40) (n+1) (row t) a b a' b'):DX prog w (n+1) a b:=⟨t,a',b',d,s,h⟩
theorem tke (prog:Program) (w:World) {a b:Int} (top:Nat) {G:Prop} (ht:Nat.ble 1 top=true) (ht2:Nat.ble top 1000=true) (s:Src a b) (k: ∀j a' b',j<top→Src a' b'→TK prog w top j a b a' b'→G):G:=by
 obtain ⟨j,a',b',h,s,t⟩:=lg (prog:=prog) (w:=w) top (Nat.le_of_ble_eq_true ht) (Nat.le_of_ble_eq_true ht2) s
 exact k j a' b' h s t
section
variable {n m r:Nat} {t1 t2:T} {a b a1 b1 a2 b2 a3 b3 a4 b4:Int} (p:Pre prog w (40*n+40) n m r (row t1) (row t2) a b a1 b1 a2 b2 a3 b3 a4 b4) (d1:Dr 0 n t1) (d2:Dr 0 n t2) (s4:Src a4 b4)
include p d1 d2 s4
theorem BR (hm:m<4):DX prog w (n+1) a b:=by
 refine tke prog w 20 rfl rfl s4 fun j4 _ _ hj4 s5 h4=> ?_
 obtain ⟨o,ho⟩:=Ep hj4
 obtain ⟨rl,er,hq⟩:=H9 d2
 have i:=ME o
 cases h5:l7 o with
 |false=>exact dx (.bin o t1 t2) (.bin d1 d2 fun h=>by rw [h5] at h; cases h) s5 (BM hm p h4 ho (by omega) (i.trans h5))
 |true=>
  cases hn:oS t2 with
  |false=>exact dx (.bin o t1 t2) (.bin d1 d2 fun _=>hn) s5 (BN hm p h4 ho (by omega) (i.trans h5) er (hn▸hq))
  |true=>exact dx (.bin o t1 (.lf .i1)) (.bin d1 .lf fun _=>rfl) s5 (BP hm p h4 ho (by omega) (i.trans h5) er (hn▸hq))
theorem uo (hm:m=4∨m=5):DX prog w (n+1) a b:=by
 refine tke prog w 2 rfl rfl s4 fun j4 _ _ hj4 s5 h4=>tke prog w 5 rfl rfl s5 fun j5 _ _ hj5 s6 h5=> ?_
 obtain ⟨o,ho⟩:=Er hj5
 exact dx (.una o t1) (.una d1) s6 (HZ hm p h4 (ng _) h5 ho (by omega))
theorem BS (hm:10=m):DX prog w (n+1) a b:=by
 subst hm
 refine tke prog w 2 rfl rfl s4 fun j4 _ _ hj4 s5 h4=>tke prog w 2 rfl rfl s5 fun j5 _ _ hj5 s6 h5=>tke prog w 2 rfl rfl s6 fun j6 _ _ hj6 s7 h6=>tke prog w 2 rfl rfl s7 fun j7 _ _ hj7 s8 h7=> ?_
 refine two hj5 (fun e=> ?_) (fun e=> ?_)<;>subst e<;>refine two hj6 (fun e=> ?_) (fun e=> ?_)<;>subst e<;>refine two hj7 (fun e=> ?_) (fun e=> ?_)<;>subst e
 ·exact dx (.cas .none (.con2 t1 t2 .nil) .none) (.cas .no (.w1 d1 d2) .no) s8 (zC p h4 (ng _) h5 h6 h7)
 ·exact dx (.cas .none (.con2 t1 t2 .nil) t1) (.cas .no (.w1 d1 d2) (.op d1)) s8 (zD p h4 (ng _) h5 h6 h7)
 ·exact dx (.cas t2 (.con2 t1 t2 .nil) .none) (.cas (.op d2) (.w1 d1 d2) .no) s8 (zE p h4 (ng _) h5 h6 h7)
 ·exact dx (.cas t2 (.con2 t1 t2 .nil) t1) (.cas (.op d2) (.w1 d1 d2) (.op d1)) s8 (zF p h4 (ng _) h5 h6 h7)
 ·exact dx (.cas .none (.con2 t1 t2 (.con2 t2 t1 .nil)) .none) (.cas .no (.w2 d1 d2 d2 d1) .no) s8 (zG p h4 (ng _) h5 h6 h7)
 ·exact dx (.cas .none (.con2 t1 t2 (.con2 t2 t1 .nil)) t1) (.cas .no (.w2 d1 d2 d2 d1) (.op d1)) s8 (zH p h4 (ng _) h5 h6 h7)
 ·exact dx (.cas t2 (.con2 t1 t2 (.con2 t2 t1 .nil)) .none) (.cas (.op d2) (.w2 d1 d2 d2 d1) .no) s8 (zI p h4 (ng _) h5 h6 h7)
 ·exact dx (.cas t2 (.con2 t1 t2 (.con2 t2 t1 .nil)) t1) (.cas (.op d2) (.w2 d1 d2 d2 d1) (.op d1)) s8 (zJ p h4 (ng _) h5 h6 h7)
theorem Ia (hm:6=m):DX prog w (n+1) a b:=by
 subst hm
 refine tke prog w 2 rfl rfl s4 fun j4 _ _ hj4 s5 h4=> ?_
 obtain ⟨l,a6,b6,s6,h5⟩:=vw (prog:=prog) (w:=w) s5
 exact dx (.btw (ieq (Int.ofNat j4) 0) t1 t2 (.lf l)) (.btw d1 d2 .lf) s6 (H0 p h4 (ng _) h5)
theorem Ib (hm:7=m):DX prog w (n+1) a b:=by
 subst hm
 refine tke prog w 2 rfl rfl s4 fun j4 _ _ hj4 s5 h4=> ?_
 refine tke prog w 3 rfl rfl s5 fun j5 _ _ hj5 s6 h5=> ?_
 have q0:=Nat.zero_le j5
 refine (Nat.eq_or_lt_of_le q0).elim (fun e=> ?_) fun q1=> ?_
 ·subst e; exact dx (.inl (ieq (Int.ofNat j4) 0) t1 .nil) (.in0 d1) s6 (H3 p h4 (ng _) h5)
 refine (Nat.eq_or_lt_of_le q1).elim (fun e=> ?_) fun q2=> ?_
 ·subst e; exact dx (.inl (ieq (Int.ofNat j4) 0) t1 (.cons t2 .nil)) (.in1 d1 d2) s6 (H4 p h4 (ng _) h5)
 refine (Nat.eq_or_lt_of_le q2).elim (fun e=> ?_) fun q3=> ?_
 ·subst e; exact dx (.inl (ieq (Int.ofNat j4) 0) t1 (.cons t2 (.cons t1 .nil))) (.in2 d1 d2 d1) s6 (H5 p h4 (ng _) h5)
 exact absurd hj5 (Nat.not_lt.mpr q3)
theorem Ic (hm:8=m):DX prog w (n+1) a b:=by
 subst hm
 refine tke prog w 2 rfl rfl s4 fun j4 _ _ hj4 s5 h4=> ?_
 refine tke prog w 2 rfl rfl s5 fun j5 _ _ hj5 s6 h5=> ?_
 refine two hj5 (fun e=> ?_) (fun e=> ?_)<;>subst e
 ·exact dx (.isn (ieq (Int.ofNat j4) 0) t1) (.isn d1) s6 (H6 p h4 (ng _) h5)
 ·exact dx (.mat true (ieq (Int.ofNat j4) 0) t1 t2 .none) (.mat d1 d2) s6 (H7 p h4 (ng _) h5)
theorem Id (hm:9=m):DX prog w (n+1) a b:=by
 subst hm
 refine tke prog w 2 rfl rfl s4 fun j4 _ _ hj4 s5 h4=> ?_
 exact dx (.mat false (ieq (Int.ofNat j4) 0) t1 t2 (.lf .tx)) (.mae d1 d2 .lf) s5 (H8 p h4 (ng _))
theorem EB (hm:11=m):DX prog w (n+1) a b:=by
 subst hm
 refine tke prog w 2 rfl rfl s4 fun j4 _ _ hj4 s5 h4=> ?_
 refine tke prog w 7 rfl rfl s5 fun j5 _ _ hj5 s6 h5=> ?_
 have q0:=Nat.zero_le j5
 refine (Nat.eq_or_lt_of_le q0).elim (fun e=> ?_) fun q1=> ?_
 ·subst e; exact dx (.cst true t1) (.cst d1) s6 (Es p h4 (ng _) h5)
 refine (Nat.eq_or_lt_of_le q1).elim (fun e=> ?_) fun q2=> ?_
 ·subst e; exact dx (.cst false t1) (.cst d1) s6 (Et p h4 (ng _) h5)
 refine (Nat.eq_or_lt_of_le q2).elim (fun e=> ?_) fun q3=> ?_
 ·subst e; exact dx (.col t1) (.col d1) s6 (Eu p h4 (ng _) h5)
 refine (Nat.eq_or_lt_of_le q3).elim (fun e=> ?_) fun q4=> ?_
 ·subst e; exact dx (.cal .f (.cons t1 (.cons t2 .nil))) (.cf d1 d2) s6 (Ev p h4 (ng _) h5)
 refine (Nat.eq_or_lt_of_le q4).elim (fun e=> ?_) fun q5=> ?_
 ·subst e; exact dx (.cal .max (.cons t1 .nil)) (.cm d1) s6 (Ew p h4 (ng _) h5)
 refine (Nat.eq_or_lt_of_le q5).elim (fun e=> ?_) fun q6=> ?_
 ·subst e; exact dx (.cal .count .nil) (.cc) s6 (Ex p h4 (ng _) h5)
 refine (Nat.eq_or_lt_of_le q6).elim (fun e=> ?_) fun q7=> ?_
 ·subst e; exact dx (.cal .replace .nil) (.cr) s6 (Ey p h4 (ng _) h5)
 exact absurd hj5 (Nat.not_lt.mpr q7)
theorem Ie (hm:m<12):DX prog w (n+1) a b:=by
 refine (Nat.lt_or_ge m 4).elim (BR p d1 d2 s4) fun h4=> ?_
 refine (Nat.eq_or_lt_of_le h4).elim (fun e=>uo p d1 d2 s4 (.inl e.symm)) fun h5=> ?_
 refine (Nat.eq_or_lt_of_le h5).elim (fun e=>uo p d1 d2 s4 (.inr e.symm)) fun h6=> ?_
 refine (Nat.eq_or_lt_of_le h6).elim (Ia p d1 d2 s4) fun h7=> ?_
 refine (Nat.eq_or_lt_of_le h7).elim (Ib p d1 d2 s4) fun h8=> ?_
 refine (Nat.eq_or_lt_of_le h8).elim (Ic p d1 d2 s4) fun h9=> ?_
 refine (Nat.eq_or_lt_of_le h9).elim (Id p d1 d2 s4) fun ha=> ?_
 refine (Nat.eq_or_lt_of_le ha).elim (BS p d1 d2 s4) fun hb=> ?_
 refine (Nat.eq_or_lt_of_le hb).elim (EB p d1 d2 s4) fun hc=>absurd hm (Nat.not_lt.mpr hc)
end
theorem Pw: ∀n,n<3→ ∀{a b:Int},Src a b→DX prog w n a b:=by
 intro n
 induction n using Nat.strongRecOn with
 |ind n ih=>
 intro hn a b s
 cases n with
 |zero=>
  obtain ⟨l,a1,b1,s1,h⟩:=vw (prog:=prog) (w:=w) s
  exact ⟨.lf l,a1,b1,.lf,s1,Pr h⟩
 |succ n=>
  refine tke prog w 12 rfl rfl s fun m _ _ hm s1 h0=> ?_
  obtain ⟨t1,a2,b2,d1,s2,h1⟩:=ih n (Nat.lt_succ_self n) (Nat.lt_of_succ_lt hn) s1
  obtain ⟨r,a3,b3,hr,s3,h2⟩:=lg (prog:=prog) (w:=w) (n+1) (by omega) (by omega) s2
  obtain ⟨t2,a4,b4,d2,s4,h3⟩:=ih r (by omega) (by omega) s3
  exact Ie ⟨h0,h1,h2,h3.le (by omega)⟩ d1 (d2.le (by omega)) s4 hm
end
end
end MineS
namespace MineS
noncomputable section
open PySem PySem.W PySem.Calls PyProof.Rows
structure Wt where
 k:List Nat
 t:List Nat
 v:Fv
inductive Pc where
 |sp
 |nm (W U:List Nat)
 |q (c:Nat) (s:List Nat)
 |bl (u k:Bool)
 |nu (D:List Nat) (i:Nat)
 |va (D:List Nat) (i:Nat)
 |s1 (c:Nat)
 |s2 (c d:Nat)
noncomputable def esc (c:Nat):List Nat→List Nat
 |[]=>[]
 |x::r=>match Nat.beq x c with
  |true=>c::c::esc c r
  |false=>x::esc c r
noncomputable def blF (u k:Bool):List Nat:=match k,u with
 |true,true=>vI
 |true,false=>vH
 |false,_=>[]
noncomputable def blX (u:Bool):Nat:=match u with
 |true=>88
 |false=>120
noncomputable def blB (k:Bool):Array UInt8:=match k with
 |true=> #[254,16]
 |false=> #[]
noncomputable def Pc.text:Pc→List Nat
 | .sp=>[32]
 | .nm W _=>W
 | .q c s=>c::(esc c s++[c])
 | .bl u k=>blX u::39::(blF u k++[39])
 | .nu D _=>D
 | .va D _=>63::D
 | .s1 c=>[c]
 | .s2 c d=>[c,d]
noncomputable def Pc.word:Pc→Option Wt
 | .sp=>none
 | .nm W U=>some ⟨an,U,.str W⟩
 | .q c s=>some ⟨kq c,[],.str s⟩
 | .bl _ k=>some ⟨gZ,[],.bytes (blB k)⟩
 | .nu _ i=>some ⟨eJ,[],.int (Int.ofNat i)⟩
 | .va _ i=>some ⟨dh,[],.int (Int.ofNat i)⟩
 | .s1 c=>some ⟨kq0,[c],.none⟩
 | .s2 c d=>some ⟨kq0,[c,d],.none⟩
noncomputable def txt:List Pc→List Nat
 |[]=>[]
 |p::r=>p.text++txt r
noncomputable def wl:List Pc→List Wt
 |[]=>[]
 |p::r=>match p.word with
  |some x=>x::wl r
  |none=>wl r
theorem gX: ∀a b:List Pc,txt (a++b)=txt a++txt b
 |[],_=>rfl
 |p::r,b=>by simp [txt,gX r b]
theorem zK: ∀a b:List Pc,wl (a++b)=wl a++wl b
 |[],_=>rfl
 |p::r,b=>by
  simp only [List.cons_append,wl,zK r b]
  cases p.word<;>rfl
noncomputable def Lf.pc (l:Lf):Bool→List Pc
 |true=>(match l with
  | .null=>[.nm cU cU]
  | .i0=>[.nu f7 0]
  | .i7=>[.nu i4 7]
  | .im3=>[.s1 45,.nu mn 3]
  | .imax=>[.nu ml 9223372036854775807]
  | .imin=>[.s1 45,.nu vV 9223372036854775808]
  | .i1=>[.nu i5 1]
  | .its=>[.q 39 qc]
  | .emp=>[.q 39 []]
  | .tx=>[.q 39 qd]
  | .bl1=>[.bl true true]
  | .bl0=>[.bl true false]
  | .v1=>[.va i5 1]
  | .v2=>[.va vW 2]
  | .v3=>[.va mn 3]
  | .v4=>[.va vZ 4]
  | .v5=>[.va wa 5]
  | .v6=>[.va wb 6]
  | .v7=>[.va i4 7]
  | .v8=>[.va wc 8]
  | .v9=>[.va we 9]
  | .v10=>[.va qn 10]
  | .v11=>[.va wf 11]
  | .v12=>[.va wg 12]
  | .na=>[.nm mj Js]
  | .nord=>[.q 34 qe]
  | .nt2=>[.q 34 qf,.s1 46,.nm qg Jt]
  | .nqt=>[.q 34 qh]
  | .nbe=>[.nm qi Ju,.s1 46,.q 34 kq1]
  )
 |false=>(match l with
  | .null=>[.nm cU cU]
  | .i0=>[.nu f7 0]
  | .i7=>[.nu i4 7]
  | .im3=>[.s1 45,.nu mn 3]
  | .imax=>[.nu ml 9223372036854775807]
  | .imin=>[.s1 45,.nu vV 9223372036854775808]
  | .i1=>[.nu i5 1]
  | .its=>[.q 39 qc]
  | .emp=>[.q 39 []]
  | .tx=>[.q 39 qd]
  | .bl1=>[.bl false true]
  | .bl0=>[.bl false false]
  | .v1=>[.va i5 1]
  | .v2=>[.va vW 2]
  | .v3=>[.va mn 3]
  | .v4=>[.va vZ 4]
  | .v5=>[.va wa 5]
  | .v6=>[.va wb 6]
  | .v7=>[.va i4 7]
  | .v8=>[.va wc 8]
  | .v9=>[.va we 9]
  | .v10=>[.va qn 10]
  | .v11=>[.va wf 11]
  | .v12=>[.va wg 12]
  | .na=>[.q 34 mj]
  | .nord=>[.q 34 qe]
  | .nt2=>[.q 34 qf,.s1 46,.q 34 qg]
  | .nqt=>[.q 34 qh]
  | .nbe=>[.q 34 qi,.s1 46,.q 34 kq1]
  )
noncomputable def Bo.pc (o:Bo):Bool→List Pc
 |true=>(match o with
  | .o0=>[.nm kq2 kq2]
  | .o1=>[.nm kq3 kq3]
  | .o2=>[.s1 61]
  | .o3=>[.s2 60 62]
  | .o4=>[.nm kq4 kq4]
  | .o5=>[.nm kq4 kq4,.sp,.nm bT bT]
  | .o6=>[.s1 60]
  | .o7=>[.s2 60 61]
  | .o8=>[.s1 62]
  | .o9=>[.s2 62 61]
  | .o10=>[.s1 38]
  | .o11=>[.s1 124]
  | .o12=>[.s2 60 60]
  | .o13=>[.s2 62 62]
  | .o14=>[.s1 43]
  | .o15=>[.s1 45]
  | .o16=>[.s1 42]
  | .o17=>[.s1 47]
  | .o18=>[.s1 37]
  | .o19=>[.s2 124 124]
  )
 |false=>(match o with
  | .o0=>[.nm tA kq2]
  | .o1=>[.nm tC kq3]
  | .o2=>[.s1 61]
  | .o3=>[.s2 60 62]
  | .o4=>[.nm iD kq4]
  | .o5=>[.nm iD kq4,.sp,.nm ei bT]
  | .o6=>[.s1 60]
  | .o7=>[.s2 60 61]
  | .o8=>[.s1 62]
  | .o9=>[.s2 62 61]
  | .o10=>[.s1 38]
  | .o11=>[.s1 124]
  | .o12=>[.s2 60 60]
  | .o13=>[.s2 62 62]
  | .o14=>[.s1 43]
  | .o15=>[.s1 45]
  | .o16=>[.s1 42]
  | .o17=>[.s1 47]
  | .o18=>[.s1 37]
  | .o19=>[.s2 124 124]
  )
noncomputable def kw (s:List Nat):Pc:= .nm s s
noncomputable def ky (m:Bool) (u l:List Nat):Pc:=match m with
 |true=> .nm u u
 |false=> .nm l u
noncomputable def f5 (m k:Bool):Pc:=match k with
 |true=>ky m kq6 jX
 |false=>ky m kq7 jY
noncomputable def Uo.c:Uo→Nat
 | .mi=>45| .pl=>43| .ti=>126| .no=>0
noncomputable def hm:T→Bool
 | .una .mi _=>true
 | .lf .im3=>true
 | .lf .imin=>true
 |_=>false
noncomputable def tyP (m k:Bool):List Pc:=match k with
 |true=>(match m with
  |true=>[.q 34 lD]
  |false=>[.nm FO Jv,.s1 40,.nu qn 10,.s1 41])
 |false=>[.nm FP Jw,.sp,.nm FQ Jx]
noncomputable def Fo.pc (m:Bool):Fo→Pc
 | .f=>(match m with|true=> .nm d7 Cw|false=> .q 34 d7)
 | .max=>(match m with|true=> .nm d8 Cy|false=> .q 34 d8)
 | .count=>(match m with|true=> .nm eA Jy|false=> .q 34 eA)
 | .replace=> .q 34 kN
noncomputable def ngP (g:Bool):List Pc:=match g with
 |true=>[.sp,kw bT,.sp]
 |false=>[.sp]
noncomputable def MF:T→Bool
 | .nil=>true
 |_=>false
noncomputable def a9:T→Bool
 | .none=>true
 |_=>false
noncomputable def du:Uo→Bool
 | .no=>true
 |_=>false
noncomputable def pcs (m:Bool):T→List Pc
 | .lf l=>l.pc m
 | .una o x=>match du o with
  |true=>[ky m bT ei,.sp]++pcs m x
  |false=>(.s1 o.c::(match m with|true=>(match hm x with|true=>[.sp]|false=>[])|false=>[.sp]))++pcs m x
 | .bin o x y=>pcs m x++([.sp]++o.pc m++[.sp])++pcs m y
 | .btw g x y z=>pcs m x++(ngP g++[kw kq8,.sp])++pcs m y++[.sp,kw kq3,.sp]++pcs m z
 | .inl g x xs=>pcs m x++(ngP g++[kw kq5,.sp,.s1 40])++pcs m xs++[.s1 41]
 | .isn g x=>pcs m x++([.sp,kw kq4]++ngP g++[kw cU])
 | .mat k g x y e=>pcs m x++(ngP g++[f5 m k,.sp])++pcs m y++(match a9 e with|true=>[]|false=>[.sp,kw bE,.sp]++pcs m e)
 | .cas b ws o=>(match m with|true=>(match a9 b with|true=>[kw aj]|false=>[kw aj,.sp]++pcs m b)|false=>[kw aj,.sp]++pcs m b)++pcs m ws++(match a9 o with|true=>[]|false=>[.sp,kw bK,.sp]++pcs m o)++[.sp,kw bm]
 | .cst k x=>(match m with|true=>[kw fM,.s1 40]|false=>[kw fM,.sp,.s1 40])++pcs m x++[.sp,kw gz,.sp]++tyP m k++[.s1 41]
 | .col x=>pcs m x++[.sp,kw kq9,.sp,.nm d9 kP]
 | .cal f xs=>[f.pc m,.s1 40]++(match f.di with|true=>[kw gC,.sp]|false=>[])++(match f.st with|true=>[.s1 42]|false=>pcs m xs)++[.s1 41]
 | .par x=>[.s1 40]++pcs m x++[.s1 41]
 | .nil=>[]
 | .cons x xs=>pcs m x++(match MF xs with|true=>[]|false=>[.s1 44,.sp]++pcs m xs)
 | .con2 x y xs=>[.sp,kw aQ,.sp]++pcs m x++[.sp,kw aZ,.sp]++pcs m y++pcs m xs
 | .none=>[]
noncomputable def pz (x:T):T:=match a9 x with
 |true=> .none
 |false=> .par x
noncomputable def cl:T→T
 | .lf l=> .lf l
 | .una o x=> .una o (.par (cl x))
 | .bin o x y=> .bin o (.par (cl x)) (.par (cl y))
 | .btw g x y z=> .btw g (.par (cl x)) (.par (cl y)) (.par (cl z))
 | .inl g x xs=> .inl g (.par (cl x)) (cl xs)
 | .isn g x=> .isn g (.par (cl x))
 | .mat k g x y e=> .mat k g (.par (cl x)) (.par (cl y)) (pz (cl e))
 | .cas b ws o=> .cas (pz (cl b)) (cl ws) (pz (cl o))
 | .cst k x=> .cst k (cl x)
 | .col x=> .col (.par (cl x))
 | .cal f xs=> .cal f (cl xs)
 | .par x=>cl x
 | .nil=> .nil
 | .cons x xs=> .cons (.par (cl x)) (cl xs)
 | .con2 x y xs=> .con2 (.par (cl x)) (.par (cl y)) (cl xs)
 | .none=> .none
noncomputable def lv:T→Int
 | .lf l=>l.lev
 | .una o _=>match du o with
  |true=>3
  |false=>11
 | .bin o _ _=>o.lev
 | .btw _ _ _ _=>4
 | .inl _ _ _=>4
 | .isn _ _=>4
 | .mat _ _ _ _ _=>4
 | .col _=>10
 |_=>12
noncomputable def bJ:T→Bool
 | .lf .i0=>true
 | .lf .i7=>true
 | .lf .imax=>true
 | .lf .i1=>true
 |_=>false
noncomputable def dq:Uo→Bool
 | .mi=>true
 |_=>false
noncomputable def wp (least:Int) (x cx:T):T:=match ile least (lv x) with
 |true=>cx
 |false=> .par cx
noncomputable def cw:T→T
 | .lf l=> .lf l
 | .una o x=>match du o with
  |true=> .una o (wp 3 x (cw x))
  |false=>match dq o && bJ x with
   |true=> .una o (.par (cw x))
   |false=> .una o (wp 11 x (cw x))
 | .bin o x y=> .bin o (wp o.lev x (cw x)) (wp (o.lev+1) y (cw y))
 | .btw g x y z=> .btw g (wp 4 x (cw x)) (wp 5 y (cw y)) (wp 5 z (cw z))
 | .inl g x xs=> .inl g (wp 4 x (cw x)) (cw xs)
 | .isn g x=> .isn g (wp 4 x (cw x))
 | .mat k g x y e=> .mat k g (wp 4 x (cw x)) (wp 5 y (cw y)) (match a9 e with|true=> .none|false=>wp 5 e (cw e))
 | .cas b ws o=> .cas (cw b) (cw ws) (cw o)
 | .cst k x=> .cst k (cw x)
 | .col x=> .col (wp 10 x (cw x))
 | .cal f xs=> .cal f (cw xs)
 | .par x=>cw x
 | .nil=> .nil
 | .cons x xs=> .cons (cw x) (cw xs)
 | .con2 x y xs=> .con2 (cw x) (cw y) (cw xs)
 | .none=> .none
noncomputable def lt (t:T):List Nat:=txt (pcs false (cl t))
noncomputable def wt (t:T):List Nat:=txt (pcs true (cw t))
theorem MG (l:Lf):l.lt=lt (.lf l):=(bj _ _).mp (Lf.all (p:=fun l=>az l.lt (lt (.lf l))) (by kernel_rfl) l)
theorem ym (l:Lf):l.wt=wt (.lf l):=(bj _ _).mp (Lf.all (p:=fun l=>az l.wt (wt (.lf l))) (by kernel_rfl) l)
end
end MineS
set_option backward.match.sparseCases true
namespace MineS
noncomputable section
open PySem PySem.W PySem.Calls PyProof.Rows
theorem Dr.ind {F:Nat→T→Prop} (lf: ∀n l,F n (.lf l)) (una: ∀n o x,Dr 0 n x→F n x→F (n+1) (.una o x))
  (bin: ∀n o x y,Dr 0 n x→F n x→Dr 0 n y→F n y→(l7 o=true→oS y=false)→F (n+1) (.bin o x y))
  (btw: ∀n g x y z,Dr 0 n x→F n x→Dr 0 n y→F n y→Dr 0 n z→F n z→F (n+1) (.btw g x y z))
  (in0: ∀n g x,Dr 0 n x→F n x→F (n+1) (.inl g x .nil))
  (in1: ∀n g x y,Dr 0 n x→F n x→Dr 0 n y→F n y→F (n+1) (.inl g x (.cons y .nil)))
  (in2: ∀n g x y z,Dr 0 n x→F n x→Dr 0 n y→F n y→Dr 0 n z→F n z→F (n+1) (.inl g x (.cons y (.cons z .nil))))
  (isn: ∀n g x,Dr 0 n x→F n x→F (n+1) (.isn g x))
  (mat: ∀n k g x y,Dr 0 n x→F n x→Dr 0 n y→F n y→F (n+1) (.mat k g x y .none))
  (mae: ∀n k g x y z,Dr 0 n x→F n x→Dr 0 n y→F n y→Dr 0 n z→F n z→F (n+1) (.mat k g x y z))
  (cas: ∀n b o,(b= .none∨Dr 0 n b∧F n b)→(o= .none∨Dr 0 n o∧F n o)→ ∀x y,Dr 0 n x→F n x→Dr 0 n y→F n y→ ∀ws,(ws= .nil∨ ∃u v,Dr 0 n u∧F n u∧Dr 0 n v∧F n v∧ws= .con2 u v .nil)→F (n+1) (.cas b (.con2 x y ws) o))
  (cst: ∀n k x,Dr 0 n x→F n x→F (n+1) (.cst k x))
  (col: ∀n x,Dr 0 n x→F n x→F (n+1) (.col x))
  (cf: ∀n x y,Dr 0 n x→F n x→Dr 0 n y→F n y→F (n+1) (.cal .f (.cons x (.cons y .nil))))
  (cm: ∀n x,Dr 0 n x→F n x→F (n+1) (.cal .max (.cons x .nil)))
  (cc: ∀n,F (n+1) (.cal .count .nil)) (cr: ∀n,F (n+1) (.cal .replace .nil)) {n:Nat} {t:T} (h:Dr 0 n t):F n t:=by
 have key: ∀{k n:Nat} {t:T},Dr k n t→(k=0→F n t)∧(k=1→t= .none∨Dr 0 n t∧F n t)∧(k=2→ ∃x y ws,t= .con2 x y ws∧Dr 0 n x∧F n x∧Dr 0 n y∧F n y∧(ws= .nil∨ ∃u v,Dr 0 n u∧F n u∧Dr 0 n v∧F n v∧ws= .con2 u v .nil)):=by
  intro k n t h
  induction h with
  |lf=>exact ⟨fun _=>lf _ _,nofun,nofun⟩
  |una d i=>exact ⟨fun _=>una _ _ _ d (i.1 rfl),nofun,nofun⟩
  |bin d d2 h i j=>exact ⟨fun _=>bin _ _ _ _ d (i.1 rfl) d2 (j.1 rfl) h,nofun,nofun⟩
  |btw d d2 d3 i j k=>exact ⟨fun _=>btw _ _ _ _ _ d (i.1 rfl) d2 (j.1 rfl) d3 (k.1 rfl),nofun,nofun⟩
  |in0 d i=>exact ⟨fun _=>in0 _ _ _ d (i.1 rfl),nofun,nofun⟩
  |in1 d d2 i j=>exact ⟨fun _=>in1 _ _ _ _ d (i.1 rfl) d2 (j.1 rfl),nofun,nofun⟩
  |in2 d d2 d3 i j k=>exact ⟨fun _=>in2 _ _ _ _ _ d (i.1 rfl) d2 (j.1 rfl) d3 (k.1 rfl),nofun,nofun⟩
  |isn d i=>exact ⟨fun _=>isn _ _ _ d (i.1 rfl),nofun,nofun⟩
  |mat d d2 i j=>exact ⟨fun _=>mat _ _ _ _ _ d (i.1 rfl) d2 (j.1 rfl),nofun,nofun⟩
  |mae d d2 d3 i j k=>exact ⟨fun _=>mae _ _ _ _ _ _ d (i.1 rfl) d2 (j.1 rfl) d3 (k.1 rfl),nofun,nofun⟩
  |cas d d2 d3 i j k=>
   refine ⟨fun _=> ?_,nofun,nofun⟩
   obtain ⟨x,y,ws,rfl,a1,a2,a3,a4,a5⟩:=j.2.2 rfl
   exact cas _ _ _ (i.2.1 rfl) (k.2.1 rfl) x y a1 a2 a3 a4 ws a5
  |cst d i=>exact ⟨fun _=>cst _ _ _ d (i.1 rfl),nofun,nofun⟩
  |col d i=>exact ⟨fun _=>col _ _ d (i.1 rfl),nofun,nofun⟩
  |cf d d2 i j=>exact ⟨fun _=>cf _ _ _ d (i.1 rfl) d2 (j.1 rfl),nofun,nofun⟩
  |cm d i=>exact ⟨fun _=>cm _ _ d (i.1 rfl),nofun,nofun⟩
  |cc=>exact ⟨fun _=>cc _,nofun,nofun⟩
  |cr=>exact ⟨fun _=>cr _,nofun,nofun⟩
  |no=>exact ⟨nofun,fun _=> .inl rfl,nofun⟩
  |op d i=>exact ⟨nofun,fun _=> .inr ⟨d,i.1 rfl⟩,nofun⟩
  |w1 d d2 i j=>exact ⟨nofun,nofun,fun _=>⟨_,_,_,rfl,d,i.1 rfl,d2,j.1 rfl,.inl rfl⟩⟩
  |w2 d d2 d3 d4 i j k l=>exact ⟨nofun,nofun,fun _=>⟨_,_,_,rfl,d,i.1 rfl,d2,j.1 rfl,.inr ⟨_,_,d3,k.1 rfl,d4,l.1 rfl,rfl⟩⟩⟩
 exact (key h).1 rfl
noncomputable def BL:Nat→Nat
 |0=>40
 |n+1=>6*BL n+200
theorem nP {n:Nat} (h:n+1≤2):BL n≤1000:=by
 rcases n with _|_|n
 ·decide
 ·decide
 ·omega
theorem Uo.len (o:Uo):Sm 10 o.op:=by cases o<;>exact Nat.le_of_ble_eq_true rfl
theorem Bo.len (o:Bo):Sm 10 o.op:=Nat.le_of_ble_eq_true (Bo.all (p:=fun o=>Nat.ble o.op.length 10) (by kernel_rfl) o)
theorem li (k:Bool):Sm 10 (maN k):=by cases k<;>exact Nat.le_of_ble_eq_true rfl
theorem vx (k:Bool):Sm 100 (tyN k):=by cases k<;>exact Nat.le_of_ble_eq_true rfl
theorem df (k:Bool):(tld k).length≤5:=by cases k<;>decide
theorem cv {x:T} (h:a9 x=false):pz x= .par x:=by unfold pz; rw [h]
theorem PY:pz .none= .none:=rfl
theorem cI {n:Nat} {t:T} (h:Dr 0 n t):a9 (cl t)=false∧a9 t=false:=by
 have e:=h.ex
 clear h
 cases t<;>first|exact ⟨rfl,rfl⟩|exact Bool.noConfusion e
structure PV where
 p:List Pc
 s:List Nat
 k:Nat
 c:Nat
inductive TE where
 |l (s:List Nat)
 |v (i:Nat)
 |a (x y:TE)
inductive PE where
 |l (s:List Pc)
 |v (i:Nat)
 |a (x y:PE)
inductive Ato where
 |c (n:Nat)
 |v (i:Nat)
noncomputable def vat:List PV→Nat→PV
 |[],_=>⟨[],[],0,0⟩
 |v::_,0=>v
 |_::r,i+1=>vat r i
noncomputable def TE.ev (ρ:List PV):TE→List Nat
 | .l s=>s
 | .v i=>(vat ρ i).s
 | .a x y=>x.ev ρ++y.ev ρ
noncomputable def PE.ev (ρ:List PV):PE→List Pc
 | .l s=>s
 | .v i=>(vat ρ i).p
 | .a x y=>x.ev ρ++y.ev ρ
noncomputable def evA (ρ:List PV):List Ato→List Nat
 |[]=>[]
 | .c n::r=>n::evA ρ r
 | .v i::r=>(vat ρ i).s++evA ρ r
noncomputable def TE.nf:TE→List Ato
 | .l s=>s.map .c
 | .v i=>[.v i]
 | .a x y=>x.nf++y.nf
noncomputable def PE.nf:PE→List Ato
 | .l s=>(txt s).map .c
 | .v i=>[.v i]
 | .a x y=>x.nf++y.nf
noncomputable def TE.kk (ρ:List PV):TE→Nat
 | .l _=>0
 | .v i=>(vat ρ i).k
 | .a x y=>x.kk ρ+y.kk ρ
noncomputable def TE.cc (ρ:List PV):TE→Nat
 | .l s=>s.length
 | .v i=>(vat ρ i).c
 | .a x y=>x.cc ρ+y.cc ρ
theorem vy (ρ:List PV) (a b:List Ato):evA ρ (a++b)=evA ρ a++evA ρ b:=by
 induction a with
 |nil=>rfl
 |cons x a ih=>
  cases x with
  |c n=>exact congrArg (n:: ·) ih
  |v i=>exact (congrArg ((vat ρ i).s++ ·) ih).trans (List.append_assoc _ _ _).symm
theorem vz (ρ:List PV) (s:List Nat):evA ρ (s.map .c)=s:=by
 induction s with
 |nil=>rfl
 |cons x s ih=>exact congrArg (x:: ·) ih
theorem TE.nf_ok (ρ:List PV) (x:TE):evA ρ x.nf=x.ev ρ:=by
 induction x with
 |l s=>exact vz ρ s
 |v i=>exact List.append_nil _
 |a x y ih ih2=>exact (vy ρ _ _).trans (by rw [ih,ih2]; rfl)
noncomputable def oks (B:Nat):List PV→Prop
 |[]=>True
 |v::r=>(txt v.p=v.s∧v.s.length≤v.k*B+v.c)∧oks B r
theorem zL {B:Nat}: ∀(ρ:List PV),oks B ρ→ ∀i,txt (vat ρ i).p=(vat ρ i).s∧(vat ρ i).s.length≤(vat ρ i).k*B+(vat ρ i).c:=by
 intro ρ
 induction ρ with
 |nil=>exact fun _ _=>⟨rfl,Nat.zero_le _⟩
 |cons v r ih=>
  intro h i
  cases i with
  |zero=>exact h.1
  |succ i=>exact ih h.2 i
theorem PE.nf_ok {B:Nat} {ρ:List PV} (h:oks B ρ) (x:PE):evA ρ x.nf=txt (x.ev ρ):=by
 induction x with
 |l s=>exact vz ρ _
 |v i=>exact (List.append_nil _).trans (zL ρ h i).1.symm
 |a x y ih ih2=>exact (vy ρ _ _).trans (by rw [ih,ih2]; exact (gX _ _).symm)
theorem TE.len {B:Nat} {ρ:List PV} (h:oks B ρ) (x:TE):(x.ev ρ).length≤x.kk ρ*B+x.cc ρ:=by
 induction x with
 |l s=>exact Nat.le_add_left _ _
 |v i=>exact (zL ρ h i).2
 |a x y ih ih2=>
  show (x.ev ρ++y.ev ρ).length≤(x.kk ρ+y.kk ρ)*B+(x.cc ρ+y.cc ρ)
  rw [List.length_append,Nat.add_mul,Nat.add_add_add_comm]
  exact Nat.add_le_add ih ih2
theorem TE.le {n:Nat} {ρ:List PV} (h:oks (BL n) ρ) (x:TE) (hk:Nat.ble (x.kk ρ) 6=true) (hc:Nat.ble (x.cc ρ) 200=true):(x.ev ρ).length≤BL (n+1):=
 Nat.le_trans (x.len h) (Nat.add_le_add (Nat.mul_le_mul_right _ (Nat.le_of_ble_eq_true hk)) (Nat.le_of_ble_eq_true hc))
theorem TE.eq {B:Nat} {ρ:List PV} (h:oks B ρ) (x:TE) (y:PE) (e:x.nf=y.nf):x.ev ρ=txt (y.ev ρ):=by
 rw [←x.nf_ok,e,y.nf_ok h]
noncomputable def vX (x:T):PV:=⟨pcs false (cl x),lt x,1,0⟩
theorem ok1 {B:Nat} {p:List Pc} {s:List Nat} (h:s.length≤B) (e:txt p=s):txt p=s∧s.length≤1*B+0:=⟨e,by rw [Nat.one_mul]; exact h⟩
theorem ok0 {B c:Nat} {p:List Pc} {s:List Nat} (e:txt p=s) (h:s.length≤c):txt p=s∧s.length≤0*B+c:=⟨e,Nat.le_trans h (Nat.le_add_left _ _)⟩
noncomputable def uP (o:Uo):List Pc:=match du o with
 |true=>[.nm ei bT,.sp]
 |false=>[.s1 o.c,.sp]
theorem Ig (o:Uo):txt (uP o)=o.op++aH:=by cases o<;>rfl
theorem ED (o:Uo) (x:T):pcs false (.una o x)=uP o++pcs false x:=by cases o<;>rfl
noncomputable def vU (o:Uo):PV:=⟨uP o,o.op++aH,0,11⟩
noncomputable def vO (o:Bo):PV:=⟨o.pc false,o.op,0,10⟩
theorem Bo.pcf (o:Bo):txt (o.pc false)=o.op:=(bj _ _).mp (Bo.all (p:=fun o=>az (txt (o.pc false)) o.op) (by kernel_rfl) o)
noncomputable def vG (g:Bool):PV:=⟨ngP g,tld g,0,5⟩
theorem dg (g:Bool):txt (ngP g)=tld g:=by cases g<;>rfl
noncomputable def vM (k:Bool):PV:=⟨[f5 false k],maN k,0,10⟩
theorem zM (k:Bool):txt [f5 false k]=maN k:=by cases k<;>rfl
noncomputable def vY (k:Bool):PV:=⟨tyP false k,tyN k,0,100⟩
theorem MH (k:Bool):txt (tyP false k)=tyN k:=by cases k<;>rfl
theorem gT {n:Nat} {x:T} (h:Dr 0 n x):pz (cl x)= .par (cl x)∧a9 (pz (cl x))=false:=by
 have:=cv (cI h).1
 exact ⟨this,by rw [this]; rfl⟩
section
variable {prog:Program} {w:World} {e:Nat}
noncomputable def LF (prog:Program) (w:World) (n:Nat) (t:T):Prop:=n≤2→(lt t).length≤BL n∧LT prog w (40*n+20) (row t) (lt t)
theorem LF.z {n:Nat} {t:T} (h:LF prog w n t) (hn:n+1≤2):Sm 100000 (lt t):=Nat.le_trans (h (by omega)).1 (Nat.le_trans (nP hn) (by decide))
theorem LF.h {n:Nat} {t:T} (h:LF prog w n t) (hn:n+1≤2):LT prog w (40*n+20) (row t) (lt t):=(h (by omega)).2
theorem LF.b {n:Nat} {t:T} (h:LF prog w n t) (hn:n+1≤2):(lt t).length≤BL n:=(h (by omega)).1
theorem LF.of {n:Nat} {t:T} {s:List Nat} (e:s=lt t) (h:n+1≤2→s.length≤BL (n+1)∧LT prog w (40*n+20+40) (row t) s):LF prog w (n+1) t:=fun hn=>e▸h hn
theorem LF.by {n:Nat} {t:T} (ρ:List PV) (x:TE) (y:PE) (hy:pcs false (cl t)=y.ev ρ) (hxy:x.nf=y.nf) (hk:Nat.ble (x.kk ρ) 6=true) (hc:Nat.ble (x.cc ρ) 200=true) (h:n+1≤2→oks (BL n) ρ∧LT prog w (40*n+20+40) (row t) (x.ev ρ)):LF prog w (n+1) t:=fun hn=>by
 obtain ⟨h1,h2⟩:=h hn
 have e:x.ev ρ=lt t:=(x.eq h1 y hxy).trans (congrArg txt hy).symm
 rw [←e]
 exact ⟨x.le h1 hk hc,h2⟩
theorem lt_ok {n:Nat} {t:T} (h:Dr 0 n t):LF prog w n t:=by
 refine Dr.ind (F:=LF prog w) ?lf ?una ?bin ?btw ?in0 ?in1 ?in2 ?isn ?mat ?mae ?cas ?cst ?col ?cf ?cm ?cc ?cr h
 case lf=>
  intro n l _
  rw [←MG]
  refine ⟨?_,(l.lt_ok).le (by omega)⟩
  have:BL 0≤BL n:=by
   induction n with
   |zero=>exact Nat.le_refl _
   |succ n ih=>unfold BL; omega
  exact Nat.le_trans (Nat.le_of_ble_eq_true (Lf.all (p:=fun l=>Nat.ble l.lt.length 40) (by kernel_rfl) l)) this
 case una=>
  intro n o x d i
  exact LF.by [vU o,vX x] (.a (.a (.a (.v 0) (.l ad)) (.v 1)) (.l ac)) (.a (.v 0) (.a (.a (.l [.s1 40]) (.v 1)) (.l [.s1 41]))) (ED _ _) rfl rfl rfl fun hn=>⟨⟨ok0 (Ig o) (by cases o<;>exact Nat.le_of_ble_eq_true rfl),ok1 (i.b hn) rfl,trivial⟩,by rw [show TE.ev [vU o,vX x] (.a (.a (.a (.v 0) (.l ad)) (.v 1)) (.l ac))=((o.op++cG)++lt x)++ac from by show ((o.op++aH)++ad++lt x)++ac=_; rw [List.append_assoc o.op]; rfl]; exact HA (i.h hn) (i.z hn) o.len⟩
 case bin=>
  intro n o x y d i d2 j _
  exact LF.by [vO o,vX x,vX y] (.a (.a (.a (.a (.a (.a (.l ad) (.v 1)) (.l iY)) (.v 0)) (.l cG)) (.v 2)) (.l ac)) (.a (.a (.a (.a (.l [.s1 40]) (.v 1)) (.l [.s1 41])) (.a (.a (.l [.sp]) (.v 0)) (.l [.sp]))) (.a (.a (.l [.s1 40]) (.v 2)) (.l [.s1 41]))) (rfl) rfl rfl rfl fun hn=>⟨⟨ok0 o.pcf o.len,ok1 (i.b hn) rfl,ok1 (j.b hn) rfl,trivial⟩,HB (i.h hn) (i.z hn) (j.h hn) (j.z hn) o.len⟩
 case btw=>
  intro n g x y z d i d2 j d3 k
  exact LF.by [vG g,vX x,vX y,vX z] (.a (.a (.a (.a (.a (.a (.a (.a (.l ad) (.v 1)) (.l ac)) (.v 0)) (.l iZ)) (.v 2)) (.l mf)) (.v 3)) (.l ac)) (.a (.a (.a (.a (.a (.a (.l [.s1 40]) (.v 1)) (.l [.s1 41])) (.a (.v 0) (.l [kw kq8,.sp]))) (.a (.a (.l [.s1 40]) (.v 2)) (.l [.s1 41]))) (.l [.sp,kw kq3,.sp])) (.a (.a (.l [.s1 40]) (.v 3)) (.l [.s1 41]))) (rfl) rfl rfl rfl fun hn=>⟨⟨ok0 (dg g) (df g),ok1 (i.b hn) rfl,ok1 (j.b hn) rfl,ok1 (k.b hn) rfl,trivial⟩,HF (i.h hn) (i.z hn) (j.h hn) (j.z hn) (k.h hn) (k.z hn)⟩
 case in0=>
  intro n g x d i
  exact LF.by [vG g,vX x] (.a (.a (.a (.a (.a (.a (.l ad) (.v 1)) (.l ac)) (.v 0)) (.l cH)) (.l [])) (.l ac)) (.a (.a (.a (.a (.a (.l [.s1 40]) (.v 1)) (.l [.s1 41])) (.a (.v 0) (.l [kw kq5,.sp,.s1 40]))) (.l [])) (.l [.s1 41])) (rfl) rfl rfl rfl fun hn=>⟨⟨ok0 (dg g) (df g),ok1 (i.b hn) rfl,trivial⟩,HG (i.h hn) (i.z hn)⟩
 case in1=>
  intro n g x y d i d2 j
  exact LF.by [vG g,vX x,vX y] (.a (.a (.a (.a (.a (.a (.l ad) (.v 1)) (.l ac)) (.v 0)) (.l cH)) (.a (.a (.l ad) (.v 2)) (.l ac))) (.l ac)) (.a (.a (.a (.a (.a (.l [.s1 40]) (.v 1)) (.l [.s1 41])) (.a (.v 0) (.l [kw kq5,.sp,.s1 40]))) (.a (.a (.a (.l [.s1 40]) (.v 2)) (.l [.s1 41])) (.l []))) (.l [.s1 41])) (rfl) rfl rfl rfl fun hn=>⟨⟨ok0 (dg g) (df g),ok1 (i.b hn) rfl,ok1 (j.b hn) rfl,trivial⟩,HH (i.h hn) (i.z hn) (j.h hn) (j.z hn)⟩
 case in2=>
  intro n g x y z d i d2 j d3 k
  exact LF.by [vG g,vX x,vX y,vX z] (.a (.a (.a (.a (.a (.a (.l ad) (.v 1)) (.l ac)) (.v 0)) (.l cH)) (.a (.a (.a (.a (.l ad) (.v 2)) (.l ac)) (.l bW)) (.a (.a (.l ad) (.v 3)) (.l ac)))) (.l ac)) (.a (.a (.a (.a (.a (.l [.s1 40]) (.v 1)) (.l [.s1 41])) (.a (.v 0) (.l [kw kq5,.sp,.s1 40]))) (.a (.a (.a (.l [.s1 40]) (.v 2)) (.l [.s1 41])) (.a (.l [.s1 44,.sp]) (.a (.a (.a (.l [.s1 40]) (.v 3)) (.l [.s1 41])) (.l []))))) (.l [.s1 41])) (rfl) rfl rfl rfl fun hn=>⟨⟨ok0 (dg g) (df g),ok1 (i.b hn) rfl,ok1 (j.b hn) rfl,ok1 (k.b hn) rfl,trivial⟩,HI (i.h hn) (i.z hn) (j.h hn) (j.z hn) (k.h hn) (k.z hn)⟩
 case isn=>
  intro n g x d i
  exact LF.by [vG g,vX x] (.a (.a (.a (.a (.l ad) (.v 1)) (.l me)) (.v 0)) (.l cU)) (.a (.a (.a (.l [.s1 40]) (.v 1)) (.l [.s1 41])) (.a (.a (.l [.sp,kw kq4]) (.v 0)) (.l [kw cU]))) (rfl) rfl rfl rfl fun hn=>⟨⟨ok0 (dg g) (df g),ok1 (i.b hn) rfl,trivial⟩,HE (i.h hn) (i.z hn)⟩
 case mat=>
  intro n k g x y d i d2 j
  exact LF.by [vG g,vM k,vX x,vX y] (.a (.a (.a (.a (.a (.a (.a (.a (.l ad) (.v 2)) (.l ac)) (.v 0)) (.v 1)) (.l cG)) (.v 3)) (.l ac)) (.l [])) (.a (.a (.a (.a (.a (.l [.s1 40]) (.v 2)) (.l [.s1 41])) (.a (.v 0) (.a (.v 1) (.l [.sp])))) (.a (.a (.l [.s1 40]) (.v 3)) (.l [.s1 41]))) (.l [])) (rfl) rfl rfl rfl fun hn=>⟨⟨ok0 (dg g) (df g),ok0 (zM k) (li k),ok1 (i.b hn) rfl,ok1 (j.b hn) rfl,trivial⟩,HJ (i.h hn) (i.z hn) (j.h hn) (j.z hn) (li k)⟩
 case mae=>
  intro n k g x y z d i d2 j d3 l
  obtain ⟨lv,ev⟩:=d3.row
  exact LF.by [vG g,vM k,vX x,vX y,vX z] (.a (.a (.a (.a (.a (.a (.a (.a (.l ad) (.v 2)) (.l ac)) (.v 0)) (.v 1)) (.l cG)) (.v 3)) (.l ac)) (.a (.a (.l mh) (.v 4)) (.l ac))) (.a (.a (.a (.a (.a (.l [.s1 40]) (.v 2)) (.l [.s1 41])) (.a (.v 0) (.a (.v 1) (.l [.sp])))) (.a (.a (.l [.s1 40]) (.v 3)) (.l [.s1 41]))) (.a (.l [.sp,kw bE,.sp]) (.a (.a (.l [.s1 40]) (.v 4)) (.l [.s1 41])))) (show pcs false (.mat k g (.par (cl x)) (.par (cl y)) (pz (cl z)))=_ from by rw [(gT d3).1]; rfl) rfl rfl rfl fun hn=>⟨⟨ok0 (dg g) (df g),ok0 (zM k) (li k),ok1 (i.b hn) rfl,ok1 (j.b hn) rfl,ok1 (l.b hn) rfl,trivial⟩,by show LT prog w _ (tup _ [_,MineS.row z,_]) _; have hz:=l.h hn; rw [ev] at hz ⊢; exact HK (i.h hn) (i.z hn) (j.h hn) (j.z hn) hz (l.z hn) (li k)⟩
 case cas=>
  intro n b o hb ho x y d i d2 j ws hw
  rcases hb with rfl|⟨db,hb2⟩<;>rcases ho with rfl|⟨do_,ho2⟩<;>rcases hw with rfl|⟨u,v,d3,i2,d4,j2,rfl⟩
  ·exact LF.by [vX x,vX y] (.a (.a (.a (.a (.a (.a (.a (.a (.l aB) (.l [])) (.l am)) (.v 0)) (.l ay)) (.v 1)) (.l ac)) (.l [])) (.l ba)) (.a (.a (.a (.a (.l [kw aj,.sp]) (.l [])) (.a (.a (.a (.a (.l [.sp,kw aQ,.sp]) (.a (.a (.l [.s1 40]) (.v 0)) (.l [.s1 41]))) (.l [.sp,kw aZ,.sp])) (.a (.a (.l [.s1 40]) (.v 1)) (.l [.s1 41]))) (.l []))) (.l [])) (.l [.sp,kw bm])) (rfl) rfl rfl rfl fun hn=>⟨⟨ok1 (i.b hn) rfl,ok1 (j.b hn) rfl,trivial⟩,xZ (i.h hn) (i.z hn) (j.h hn) (j.z hn)⟩
  ·exact LF.by [vX x,vX y,vX u,vX v] (.a (.a (.a (.a (.a (.a (.a (.a (.a (.a (.a (.a (.a (.l aB) (.l [])) (.l am)) (.v 0)) (.l ay)) (.v 1)) (.l ac)) (.l am)) (.v 2)) (.l ay)) (.v 3)) (.l ac)) (.l [])) (.l ba)) (.a (.a (.a (.a (.l [kw aj,.sp]) (.l [])) (.a (.a (.a (.a (.l [.sp,kw aQ,.sp]) (.a (.a (.l [.s1 40]) (.v 0)) (.l [.s1 41]))) (.l [.sp,kw aZ,.sp])) (.a (.a (.l [.s1 40]) (.v 1)) (.l [.s1 41]))) (.a (.a (.a (.a (.l [.sp,kw aQ,.sp]) (.a (.a (.l [.s1 40]) (.v 2)) (.l [.s1 41]))) (.l [.sp,kw aZ,.sp])) (.a (.a (.l [.s1 40]) (.v 3)) (.l [.s1 41]))) (.l [])))) (.l [])) (.l [.sp,kw bm])) (rfl) rfl rfl rfl fun hn=>⟨⟨ok1 (i.b hn) rfl,ok1 (j.b hn) rfl,ok1 (i2.b hn) rfl,ok1 (j2.b hn) rfl,trivial⟩,x4 (i.h hn) (i.z hn) (j.h hn) (j.z hn) (i2.h hn) (i2.z hn) (j2.h hn) (j2.z hn)⟩
  ·obtain ⟨lo,eo⟩:=do_.row; exact LF.by [vX x,vX y,vX o] (.a (.a (.a (.a (.a (.a (.a (.a (.l aB) (.l [])) (.l am)) (.v 0)) (.l ay)) (.v 1)) (.l ac)) (.a (.a (.l cg) (.v 2)) (.l ac))) (.l ba)) (.a (.a (.a (.a (.l [kw aj,.sp]) (.l [])) (.a (.a (.a (.a (.l [.sp,kw aQ,.sp]) (.a (.a (.l [.s1 40]) (.v 0)) (.l [.s1 41]))) (.l [.sp,kw aZ,.sp])) (.a (.a (.l [.s1 40]) (.v 1)) (.l [.s1 41]))) (.l []))) (.a (.l [.sp,kw bK,.sp]) (.a (.a (.l [.s1 40]) (.v 2)) (.l [.s1 41])))) (.l [.sp,kw bm])) (show pcs false (.cas .none (.con2 (.par (cl x)) (.par (cl y)) .nil) (pz (cl o)))=_ from by rw [(gT do_).1]; rfl) rfl rfl rfl fun hn=>⟨⟨ok1 (i.b hn) rfl,ok1 (j.b hn) rfl,ok1 (ho2.b hn) rfl,trivial⟩,by have hz2:=ho2.h hn; rw [eo] at hz2; show LT prog w _ (tup _ [.none,.tup [.tup [MineS.row x,MineS.row y]],MineS.row o]) _; rw [eo]; exact x0 (i.h hn) (i.z hn) (j.h hn) (j.z hn) hz2 (ho2.z hn)⟩
  ·obtain ⟨lo,eo⟩:=do_.row; exact LF.by [vX x,vX y,vX u,vX v,vX o] (.a (.a (.a (.a (.a (.a (.a (.a (.a (.a (.a (.a (.a (.l aB) (.l [])) (.l am)) (.v 0)) (.l ay)) (.v 1)) (.l ac)) (.l am)) (.v 2)) (.l ay)) (.v 3)) (.l ac)) (.a (.a (.l cg) (.v 4)) (.l ac))) (.l ba)) (.a (.a (.a (.a (.l [kw aj,.sp]) (.l [])) (.a (.a (.a (.a (.l [.sp,kw aQ,.sp]) (.a (.a (.l [.s1 40]) (.v 0)) (.l [.s1 41]))) (.l [.sp,kw aZ,.sp])) (.a (.a (.l [.s1 40]) (.v 1)) (.l [.s1 41]))) (.a (.a (.a (.a (.l [.sp,kw aQ,.sp]) (.a (.a (.l [.s1 40]) (.v 2)) (.l [.s1 41]))) (.l [.sp,kw aZ,.sp])) (.a (.a (.l [.s1 40]) (.v 3)) (.l [.s1 41]))) (.l [])))) (.a (.l [.sp,kw bK,.sp]) (.a (.a (.l [.s1 40]) (.v 4)) (.l [.s1 41])))) (.l [.sp,kw bm])) (show pcs false (.cas .none (.con2 (.par (cl x)) (.par (cl y)) (.con2 (.par (cl u)) (.par (cl v)) .nil)) (pz (cl o)))=_ from by rw [(gT do_).1]; rfl) rfl rfl rfl fun hn=>⟨⟨ok1 (i.b hn) rfl,ok1 (j.b hn) rfl,ok1 (i2.b hn) rfl,ok1 (j2.b hn) rfl,ok1 (ho2.b hn) rfl,trivial⟩,by have hz2:=ho2.h hn; rw [eo] at hz2; show LT prog w _ (tup _ [.none,.tup [.tup [MineS.row x,MineS.row y],.tup [MineS.row u,MineS.row v]],MineS.row o]) _; rw [eo]; exact x6 (i.h hn) (i.z hn) (j.h hn) (j.z hn) (i2.h hn) (i2.z hn) (j2.h hn) (j2.z hn) hz2 (ho2.z hn)⟩
  ·obtain ⟨lb,eb⟩:=db.row; exact LF.by [vX x,vX y,vX b] (.a (.a (.a (.a (.a (.a (.a (.a (.l aB) (.a (.a (.l ad) (.v 2)) (.l ac))) (.l am)) (.v 0)) (.l ay)) (.v 1)) (.l ac)) (.l [])) (.l ba)) (.a (.a (.a (.a (.l [kw aj,.sp]) (.a (.a (.l [.s1 40]) (.v 2)) (.l [.s1 41]))) (.a (.a (.a (.a (.l [.sp,kw aQ,.sp]) (.a (.a (.l [.s1 40]) (.v 0)) (.l [.s1 41]))) (.l [.sp,kw aZ,.sp])) (.a (.a (.l [.s1 40]) (.v 1)) (.l [.s1 41]))) (.l []))) (.l [])) (.l [.sp,kw bm])) (show pcs false (.cas (pz (cl b)) (.con2 (.par (cl x)) (.par (cl y)) .nil) .none)=_ from by rw [(gT db).1]; rfl) rfl rfl rfl fun hn=>⟨⟨ok1 (i.b hn) rfl,ok1 (j.b hn) rfl,ok1 (hb2.b hn) rfl,trivial⟩,by have hz:=hb2.h hn; rw [eb] at hz; show LT prog w _ (tup _ [MineS.row b,.tup [.tup [MineS.row x,MineS.row y]],.none]) _; rw [eb]; exact x7 hz (hb2.z hn) (i.h hn) (i.z hn) (j.h hn) (j.z hn)⟩
  ·obtain ⟨lb,eb⟩:=db.row; exact LF.by [vX x,vX y,vX u,vX v,vX b] (.a (.a (.a (.a (.a (.a (.a (.a (.a (.a (.a (.a (.a (.l aB) (.a (.a (.l ad) (.v 4)) (.l ac))) (.l am)) (.v 0)) (.l ay)) (.v 1)) (.l ac)) (.l am)) (.v 2)) (.l ay)) (.v 3)) (.l ac)) (.l [])) (.l ba)) (.a (.a (.a (.a (.l [kw aj,.sp]) (.a (.a (.l [.s1 40]) (.v 4)) (.l [.s1 41]))) (.a (.a (.a (.a (.l [.sp,kw aQ,.sp]) (.a (.a (.l [.s1 40]) (.v 0)) (.l [.s1 41]))) (.l [.sp,kw aZ,.sp])) (.a (.a (.l [.s1 40]) (.v 1)) (.l [.s1 41]))) (.a (.a (.a (.a (.l [.sp,kw aQ,.sp]) (.a (.a (.l [.s1 40]) (.v 2)) (.l [.s1 41]))) (.l [.sp,kw aZ,.sp])) (.a (.a (.l [.s1 40]) (.v 3)) (.l [.s1 41]))) (.l [])))) (.l [])) (.l [.sp,kw bm])) (show pcs false (.cas (pz (cl b)) (.con2 (.par (cl x)) (.par (cl y)) (.con2 (.par (cl u)) (.par (cl v)) .nil)) .none)=_ from by rw [(gT db).1]; rfl) rfl rfl rfl fun hn=>⟨⟨ok1 (i.b hn) rfl,ok1 (j.b hn) rfl,ok1 (i2.b hn) rfl,ok1 (j2.b hn) rfl,ok1 (hb2.b hn) rfl,trivial⟩,by have hz:=hb2.h hn; rw [eb] at hz; show LT prog w _ (tup _ [MineS.row b,.tup [.tup [MineS.row x,MineS.row y],.tup [MineS.row u,MineS.row v]],.none]) _; rw [eb]; exact x9 hz (hb2.z hn) (i.h hn) (i.z hn) (j.h hn) (j.z hn) (i2.h hn) (i2.z hn) (j2.h hn) (j2.z hn)⟩
  ·obtain ⟨lb,eb⟩:=db.row; obtain ⟨lo,eo⟩:=do_.row; exact LF.by [vX x,vX y,vX b,vX o] (.a (.a (.a (.a (.a (.a (.a (.a (.l aB) (.a (.a (.l ad) (.v 2)) (.l ac))) (.l am)) (.v 0)) (.l ay)) (.v 1)) (.l ac)) (.a (.a (.l cg) (.v 3)) (.l ac))) (.l ba)) (.a (.a (.a (.a (.l [kw aj,.sp]) (.a (.a (.l [.s1 40]) (.v 2)) (.l [.s1 41]))) (.a (.a (.a (.a (.l [.sp,kw aQ,.sp]) (.a (.a (.l [.s1 40]) (.v 0)) (.l [.s1 41]))) (.l [.sp,kw aZ,.sp])) (.a (.a (.l [.s1 40]) (.v 1)) (.l [.s1 41]))) (.l []))) (.a (.l [.sp,kw bK,.sp]) (.a (.a (.l [.s1 40]) (.v 3)) (.l [.s1 41])))) (.l [.sp,kw bm])) (show pcs false (.cas (pz (cl b)) (.con2 (.par (cl x)) (.par (cl y)) .nil) (pz (cl o)))=_ from by rw [(gT db).1,(gT do_).1]; rfl) rfl rfl rfl fun hn=>⟨⟨ok1 (i.b hn) rfl,ok1 (j.b hn) rfl,ok1 (hb2.b hn) rfl,ok1 (ho2.b hn) rfl,trivial⟩,by have hz:=hb2.h hn; rw [eb] at hz; have hz2:=ho2.h hn; rw [eo] at hz2; show LT prog w _ (tup _ [MineS.row b,.tup [.tup [MineS.row x,MineS.row y]],MineS.row o]) _; rw [eb,eo]; exact x8 hz (hb2.z hn) (i.h hn) (i.z hn) (j.h hn) (j.z hn) hz2 (ho2.z hn)⟩
  ·obtain ⟨lb,eb⟩:=db.row; obtain ⟨lo,eo⟩:=do_.row; exact LF.by [vX x,vX y,vX u,vX v,vX b,vX o] (.a (.a (.a (.a (.a (.a (.a (.a (.a (.a (.a (.a (.a (.l aB) (.a (.a (.l ad) (.v 4)) (.l ac))) (.l am)) (.v 0)) (.l ay)) (.v 1)) (.l ac)) (.l am)) (.v 2)) (.l ay)) (.v 3)) (.l ac)) (.a (.a (.l cg) (.v 5)) (.l ac))) (.l ba)) (.a (.a (.a (.a (.l [kw aj,.sp]) (.a (.a (.l [.s1 40]) (.v 4)) (.l [.s1 41]))) (.a (.a (.a (.a (.l [.sp,kw aQ,.sp]) (.a (.a (.l [.s1 40]) (.v 0)) (.l [.s1 41]))) (.l [.sp,kw aZ,.sp])) (.a (.a (.l [.s1 40]) (.v 1)) (.l [.s1 41]))) (.a (.a (.a (.a (.l [.sp,kw aQ,.sp]) (.a (.a (.l [.s1 40]) (.v 2)) (.l [.s1 41]))) (.l [.sp,kw aZ,.sp])) (.a (.a (.l [.s1 40]) (.v 3)) (.l [.s1 41]))) (.l [])))) (.a (.l [.sp,kw bK,.sp]) (.a (.a (.l [.s1 40]) (.v 5)) (.l [.s1 41])))) (.l [.sp,kw bm])) (show pcs false (.cas (pz (cl b)) (.con2 (.par (cl x)) (.par (cl y)) (.con2 (.par (cl u)) (.par (cl v)) .nil)) (pz (cl o)))=_ from by rw [(gT db).1,(gT do_).1]; rfl) rfl rfl rfl fun hn=>⟨⟨ok1 (i.b hn) rfl,ok1 (j.b hn) rfl,ok1 (i2.b hn) rfl,ok1 (j2.b hn) rfl,ok1 (hb2.b hn) rfl,ok1 (ho2.b hn) rfl,trivial⟩,by have hz:=hb2.h hn; rw [eb] at hz; have hz2:=ho2.h hn; rw [eo] at hz2; show LT prog w _ (tup _ [MineS.row b,.tup [.tup [MineS.row x,MineS.row y],.tup [MineS.row u,MineS.row v]],MineS.row o]) _; rw [eb,eo]; exact ya hz (hb2.z hn) (i.h hn) (i.z hn) (j.h hn) (j.z hn) (i2.h hn) (i2.z hn) (j2.h hn) (j2.z hn) hz2 (ho2.z hn)⟩
 case cst=>
  intro n k x d i
  exact LF.by [vY k,vX x] (.a (.a (.a (.a (.l kJ) (.v 1)) (.l dT)) (.v 0)) (.l ac)) (.a (.a (.a (.a (.l [kw fM,.sp,.s1 40]) (.v 1)) (.l [.sp,kw gz,.sp])) (.v 0)) (.l [.s1 41])) (rfl) rfl rfl rfl fun hn=>⟨⟨ok0 (MH k) (vx k),ok1 (i.b hn) rfl,trivial⟩,HC (i.h hn) (i.z hn) (vx k)⟩
 case col=>
  intro n x d i
  exact LF.by [vX x] (.a (.a (.a (.l ad) (.v 0)) (.l qb)) (.l d9)) (.a (.a (.a (.l [.s1 40]) (.v 0)) (.l [.s1 41])) (.l [.sp,kw kq9,.sp,.nm d9 kP])) (rfl) rfl rfl rfl fun hn=>⟨⟨ok1 (i.b hn) rfl,trivial⟩,HD (i.h hn) (i.z hn) (Nat.le_of_ble_eq_true rfl)⟩
 case cf=>
  intro n x y d i d2 j
  exact LF.by [vX x,vX y] (.a (.a (.a (.a (.l kK) (.l ad)) (.l [])) (.a (.a (.a (.a (.l ad) (.v 0)) (.l ac)) (.l bW)) (.a (.a (.l ad) (.v 1)) (.l ac)))) (.l ac)) (.a (.a (.a (.l [Fo.pc false .f,.s1 40]) (.l [])) (.a (.a (.a (.l [.s1 40]) (.v 0)) (.l [.s1 41])) (.a (.l [.s1 44,.sp]) (.a (.a (.a (.l [.s1 40]) (.v 1)) (.l [.s1 41])) (.l []))))) (.l [.s1 41])) (rfl) rfl rfl rfl fun hn=>⟨⟨ok1 (i.b hn) rfl,ok1 (j.b hn) rfl,trivial⟩,zp (i.h hn) (i.z hn) (j.h hn) (j.z hn)⟩
 case cm=>
  intro n x d i
  exact LF.by [vX x] (.a (.a (.a (.a (.l kL) (.l ad)) (.l f9)) (.a (.a (.l ad) (.v 0)) (.l ac))) (.l ac)) (.a (.a (.a (.l [Fo.pc false .max,.s1 40]) (.l [kw gC,.sp])) (.a (.a (.a (.l [.s1 40]) (.v 0)) (.l [.s1 41])) (.l []))) (.l [.s1 41])) (rfl) rfl rfl rfl fun hn=>⟨⟨ok1 (i.b hn) rfl,trivial⟩,uU (i.h hn) (i.z hn)⟩
 case cc=>
  intro n
  exact LF.by [] (.a (.a (.a (.a (.l kM) (.l ad)) (.l [])) (.l fD)) (.l ac)) (.a (.a (.a (.l [Fo.pc false .count,.s1 40]) (.l [])) (.l [.s1 42])) (.l [.s1 41])) (rfl) rfl rfl rfl fun hn=>⟨trivial,pW⟩
 case cr=>
  intro n
  exact LF.by [] (.a (.a (.a (.a (.l eZ) (.l ad)) (.l [])) (.l [])) (.l ac)) (.a (.a (.a (.l [Fo.pc false .replace,.s1 40]) (.l [])) (.l [])) (.l [.s1 41])) (rfl) rfl rfl rfl fun hn=>⟨trivial,nI⟩
end
end
end MineS
namespace MineS
noncomputable section
open PySem PySem.W PySem.Calls PyProof.Rows
theorem BU {D:Nat} (l:List Nat) (h:cC D l=true):D∈l:=hG h
noncomputable def BV (l:List Nat):Fv→Bool
 | .obj D _=>cC D l
 |_=>false
theorem vA {l:List Nat} {x:Fv} (h:BV l x=true): ∃D fs,x= .obj D fs∧D∈l:=by
 cases x with
 |obj D fs=>exact ⟨D,fs,rfl,BU _ h⟩
 |_=>exact Bool.noConfusion h
theorem be {n:Nat} {t:T} (h:Dr 0 n t): ∃D fs,node t= .obj D fs∧D∈oO:=by
 refine vA ?_
 have e:=h.ex
 clear h
 cases t with
 |lf l=>exact Lf.all (p:=fun l=>BV oO l.node) (by kernel_rfl) l
 |_=>first|rfl|exact Bool.noConfusion e
section
variable {prog:Program} {w:World} {e:Nat}
noncomputable def NF (prog:Program) (w:World) (n:Nat) (t:T):Prop:=aK prog w (40*n+10) (node t) (row t)
theorem NF.r {n:Nat} {t:T} (h:NF prog w n t):aK prog w (40*n+10) (node t) (row t):=h
theorem row_ok {n:Nat} {t:T} (h:Dr 0 n t):NF prog w n t:=by
 refine Dr.ind (F:=NF prog w) ?lf ?una ?bin ?btw ?in0 ?in1 ?in2 ?isn ?mat ?mae ?cas ?cst ?col ?cf ?cm ?cc ?cr h
 case lf=>intro n l; exact (l.row_ok).le (by omega)
 case una=>intro n o x d i; exact (Ee i).le (by omega)
 case bin=>intro n o x y d i d2 j _; exact (Ef i j).le (by omega)
 case btw=>intro n g x y z d i d2 j d3 k; exact (Eg i j k).le (by omega)
 case in0=>intro n g x d i; exact (oR i (xQ.le (by omega))).le (by omega)
 case in1=>
  intro n g x y d i d2 j
  obtain ⟨D,fs,e1,_⟩:=be d2
  replace j:=j.r
  show aK prog w _ (fX (node x) [node y] g) (tup _ [MineS.row x,.tup [MineS.row y],.bool g])
  rw [e1] at j ⊢
  exact (oR (i.r.le (by omega)) (C0 j)).le (by omega)
 case in2=>
  intro n g x y z d i d2 j d3 k
  obtain ⟨D,fs,e1,_⟩:=be d2
  obtain ⟨D2,fs2,e2,_⟩:=be d3
  replace j:=j.r
  replace k:=k.r
  show aK prog w _ (fX (node x) [node y,node z] g) (tup _ [MineS.row x,.tup [MineS.row y,MineS.row z],.bool g])
  rw [e1] at j ⊢
  rw [e2] at k ⊢
  exact (oR (e:=40*n+30) (i.r.le (by omega)) (C1 j k)).le (by omega)
 case isn=>intro n g x d i; exact (Ej i).le (by omega)
 case mat=>intro n k g x y d i d2 j; exact (Ek i j).le (by omega)
 case mae=>
  intro n k g x y z d i d2 j d3 l
  obtain ⟨D,fs,e1,_⟩:=be d3
  replace l:=l.r
  show aK prog w _ (fJ _ (node x) (node y) (node z) g) (tup _ [tup _ [MineS.row x,MineS.row y],MineS.row z,.bool g])
  rw [e1] at l ⊢
  exact (El i j l).le (by omega)
 case cas=>
  intro n b o hb ho x y d i d2 j ws hw
  rcases hb with rfl|⟨db,hb2⟩<;>rcases ho with rfl|⟨do_,ho2⟩<;>rcases hw with rfl|⟨u,v,d3,i2,d4,j2,rfl⟩
  ·exact (xR i j).le (by omega)
  ·exact (xT i j i2 j2).le (by omega)
  ·obtain ⟨C,cs,e2,_⟩:=be do_
   replace ho2:=ho2.r
   show aK prog w _ (bA .none [.tup [node x,node y]] (node o)) (tup _ [.none,.tup [.tup [MineS.row x,MineS.row y]],MineS.row o])
   rw [e2] at ho2 ⊢
   exact (xS i j ho2).le (by omega)
  ·obtain ⟨C,cs,e2,_⟩:=be do_
   replace ho2:=ho2.r
   show aK prog w _ (bA .none [.tup [node x,node y],.tup [node u,node v]] (node o)) (tup _ [.none,.tup [.tup [MineS.row x,MineS.row y],.tup [MineS.row u,MineS.row v]],MineS.row o])
   rw [e2] at ho2 ⊢
   exact (xU i j i2 j2 ho2).le (by omega)
  ·obtain ⟨B,bs,e1,_⟩:=be db
   replace hb2:=hb2.r
   show aK prog w _ (bA (node b) [.tup [node x,node y]] .none) (tup _ [MineS.row b,.tup [.tup [MineS.row x,MineS.row y]],.none])
   rw [e1] at hb2 ⊢
   exact (xV i j hb2).le (by omega)
  ·obtain ⟨B,bs,e1,_⟩:=be db
   replace hb2:=hb2.r
   show aK prog w _ (bA (node b) [.tup [node x,node y],.tup [node u,node v]] .none) (tup _ [MineS.row b,.tup [.tup [MineS.row x,MineS.row y],.tup [MineS.row u,MineS.row v]],.none])
   rw [e1] at hb2 ⊢
   exact (xX i j i2 j2 hb2).le (by omega)
  ·obtain ⟨B,bs,e1,_⟩:=be db
   obtain ⟨C,cs,e2,_⟩:=be do_
   replace hb2:=hb2.r
   replace ho2:=ho2.r
   show aK prog w _ (bA (node b) [.tup [node x,node y]] (node o)) (tup _ [MineS.row b,.tup [.tup [MineS.row x,MineS.row y]],MineS.row o])
   rw [e1] at hb2 ⊢
   rw [e2] at ho2 ⊢
   exact (xW i j hb2 ho2).le (by omega)
  ·obtain ⟨B,bs,e1,_⟩:=be db
   obtain ⟨C,cs,e2,_⟩:=be do_
   replace hb2:=hb2.r
   replace ho2:=ho2.r
   show aK prog w _ (bA (node b) [.tup [node x,node y],.tup [node u,node v]] (node o)) (tup _ [MineS.row b,.tup [.tup [MineS.row x,MineS.row y],.tup [MineS.row u,MineS.row v]],MineS.row o])
   rw [e1] at hb2 ⊢
   rw [e2] at ho2 ⊢
   exact (xY i j i2 j2 hb2 ho2).le (by omega)
 case cst=>intro n k x d i; exact (Eh i).le (by omega)
 case col=>intro n x d i; exact (Ei i).le (by omega)
 case cf=>
  intro n x y d i d2 j
  obtain ⟨D,fs,e1,_⟩:=be d
  obtain ⟨D2,fs2,e2,_⟩:=be d2
  replace i:=i.r
  replace j:=j.r
  show aK prog w _ (fq _ [node x,node y] false false) (tup _ [_,.tup [MineS.row x,MineS.row y],.bool false,.bool false])
  rw [e1] at i ⊢
  rw [e2] at j ⊢
  exact (lc (C1 i j)).le (by omega)
 case cm=>
  intro n x d i
  obtain ⟨D,fs,e1,_⟩:=be d
  replace i:=i.r
  show aK prog w _ (fq _ [node x] true false) (tup _ [_,.tup [MineS.row x],.bool true,.bool false])
  rw [e1] at i ⊢
  exact (lc (C0 i)).le (by omega)
 case cc=>intro n; exact (lc xQ).le (by omega)
 case cr=>intro n; exact (lc xQ).le (by omega)
end
end
end MineS
set_option backward.match.sparseCases false
namespace MineS
noncomputable section
open PySem PySem.W PySem.Calls PyProof.Rows
noncomputable def kA:T→Bool
 | .lf l=>l.isLit
 |_=>false
noncomputable def nlL:List Nat:=[116,142,168,194,220,246,348,374,400,426,452,478]
theorem EE {n:Nat} {t:T} (h:Dr 0 n t) (hl:kA t=false): ∃D fs,node t= .obj D fs∧D∈nlL:=by
 refine vA ?_
 have e:=h.ex
 clear h
 cases t with
 |lf l=>exact ((Bool.or_eq_true _ _).mp (Lf.all (p:=fun l=>l.isLit||BV nlL l.node) (by kernel_rfl) l)).resolve_left (by rw [show l.isLit=false from hl]; exact Bool.false_ne_true)
 |_=>first|rfl|exact Bool.noConfusion e
noncomputable def wpt (least:Int) (x:T):List Nat:=txt (pcs true (wp least x (cw x)))
theorem yn {least:Int} {x c:T} (h:ile least (lv x)=true):wp least x c=c:=by unfold wp; rw [h]
theorem yo {least:Int} {x c:T} (h:ile least (lv x)=false):wp least x c= .par c:=by unfold wp; rw [h]
theorem yp {least:Int} {x:T} (h:ile least (lv x)=true):wpt least x=wt x:=by unfold wpt; rw [yn h]; rfl
theorem EF (c:T):txt (pcs true (.par c))=(ad++txt (pcs true c))++ac:=by
 show txt ([.s1 40]++pcs true c++[.s1 41])=_
 rw [gX,gX]; rfl
theorem yq {least:Int} {x:T} (h:ile least (lv x)=false):wpt least x=(ad++wt x)++ac:=by unfold wpt; rw [yo h]; exact EF _
theorem MI {n:Nat} {x:T} (d:Dr 0 n x):hm (cw x)=hm x:=by
 have e:=d.ex
 clear d
 cases x with
 |una o y=>cases o with
  |mi=>show hm (match dq .mi && bJ y with|true=>_|false=>_)=true; cases bJ y<;>rfl
  |_=>rfl
 |_=>first|rfl|exact Bool.noConfusion e
theorem bL {n:Nat} {z:T} (d:Dr 0 n z):a9 (cw z)=false:=by
 have e:=d.ex
 clear d
 cases z with
 |una o x=>
  cases o with
  |mi=>show a9 (match dq .mi && bJ x with|true=>_|false=>_)=false; cases bJ x<;>rfl
  |_=>rfl
 |_=>first|rfl|exact Bool.noConfusion e
theorem Bo.pc_txt (o:Bo):txt (o.pc true)=o.up:=(bj _ _).mp (Bo.all (p:=fun o=>az (txt (o.pc true)) o.up) (by kernel_rfl) o)
theorem Bo.lup (o:Bo):Sm 10 o.up:=Nat.le_of_ble_eq_true (Bo.all (p:=fun o=>Nat.ble o.up.length 10) (by kernel_rfl) o)
noncomputable def maU (k:Bool):List Nat:=match k with
 |true=>kq6
 |false=>kq7
theorem PU:txt []=[]:=rfl
theorem Px (k:Bool):txt [f5 true k,.sp]=maU k++[32]:=by cases k<;>rfl
theorem tu (k:Bool):upL (maN k)=maU k∧Nat.ble (upL (maN k)).length 16777216=true:=by
 cases k<;>exact ⟨by kernel_rfl,by kernel_rfl⟩
theorem lj (k:Bool):Sm 10 (maU k):=by cases k<;>exact Nat.le_of_ble_eq_true rfl
noncomputable def wX (least:Int) (x:T):PV:=⟨pcs true (wp least x (cw x)),wpt least x,1,2⟩
noncomputable def wW (x:T):PV:=⟨pcs true (cw x),wt x,1,0⟩
noncomputable def wO (o:Bo):PV:=⟨o.pc true,o.up,0,10⟩
noncomputable def wM (k:Bool):PV:=⟨[f5 true k],maU k,0,10⟩
theorem zN (k:Bool):txt [f5 true k]=maU k:=by cases k<;>rfl
noncomputable def wI (g:Bool):PV:=⟨[.sp,kw kq4]++ngP g++[kw cU],isn g,0,12⟩
theorem EG (g:Bool):txt ([.sp,kw kq4]++ngP g++[kw cU])=isn g:=by cases g<;>rfl
theorem EH (g:Bool):(isn g).length≤12:=by cases g<;>exact Nat.le_of_ble_eq_true rfl
theorem ok2 {B:Nat} {least:Int} {x:T} (h:(wpt least x).length≤B+2):txt (pcs true (wp least x (cw x)))=wpt least x∧(wpt least x).length≤1*B+2:=⟨rfl,by rw [Nat.one_mul]; exact h⟩
section
variable {prog:Program} {w:World}
structure LSO (prog:Program) (w:World):Prop where
 l0: ∀{e:Nat},LS prog w (e+20) [] []
 l1: ∀{e:Nat} {x:Fv} {t:List Nat},WR1 prog w e x t→Sm 100000 t→LS prog w (e+20) [x] t
 l2: ∀{e:Nat} {x y:Fv} {t u:List Nat},WR1 prog w e x t→WR1 prog w e y u→Sm 100000 t→Sm 100000 u→LS prog w (e+20) [x,y] (t++(bW++u))
noncomputable def WF (prog:Program) (w:World) (n:Nat) (t:T):Prop:=n≤2→(wt t).length≤BL n∧FR prog w (100*n+30) (node t) (wt t)∧LV prog w (node t) (lv t)∧ile 1 (lv t)=true∧(ile 11 (lv t)=true→ ∃c,nth (wt t) 0=some c∧(hm t=true∧c=45∨hm t=false∧az [c] bF=false))
theorem WF.b {n:Nat} {t:T} (h:WF prog w n t) (hn:n+1≤2):(wt t).length≤BL n:=(h (by omega)).1
theorem WF.z {n:Nat} {t:T} (h:WF prog w n t) (hn:n+1≤2):Sm 100000 (wt t):=Nat.le_trans (h.b hn) (Nat.le_trans (nP hn) (by decide))
theorem WF.pb {n:Nat} {t:T} (h:WF prog w n t) (hn:n+1≤2) (least:Int):(wpt least t).length≤BL n+2:=by
 cases hb:ile least (lv t) with
 |true=>rw [yp hb]; exact Nat.le_trans (h.b hn) (by omega)
 |false=>rw [yq hb]; have:=h.b hn; simp only [List.length_append]; simp<;>omega
theorem WF.pz {n:Nat} {t:T} (h:WF prog w n t) (hn:n+1≤2) (least:Int):Sm 100000 (wpt least t):=by
 have:=h.pb hn least; have:=nP hn; unfold Sm; omega
theorem WF.o {n:Nat} {t:T} (h:WF prog w n t) (hn:n+1≤2) (least:Int):WR prog w (100*n+50) (node t) least (wpt least t):=by
 obtain ⟨_,f,l,_,_⟩:=h (by omega)
 cases hb:ile least (lv t) with
 |true=>rw [yp hb]; exact Em f l hb
 |false=>rw [yq hb]; exact HL f (h.z hn) l hb
theorem WF.w1 {n:Nat} {t:T} (h:WF prog w n t) (hn:n+1≤2):WR1 prog w (100*n+50) (node t) (wt t):=by
 obtain ⟨_,f,l,h1,_⟩:=h (by omega)
 exact uh f l h1
theorem WF.n0 {n:Nat} {t:T} (d:Dr 0 n t) (h:WF prog w n t) (hn:n+1≤2): ∃c,nth (wpt 11 t) 0=some c∧(hm (wp 11 t (cw t))=true∧c=45∨hm (wp 11 t (cw t))=false∧az [c] bF=false):=by
 obtain ⟨_,_,_,_,h2⟩:=h (by omega)
 cases hb:ile 11 (lv t) with
 |true=>rw [yp hb,yn hb,MI d]; exact h2 hb
 |false=>rw [yq hb,yo hb]; exact ⟨40,rfl,.inr ⟨rfl,rfl⟩⟩
theorem WF.of {n:Nat} {t:T} {s:List Nat} (e:s=wt t) (hl: ∀prog w,LV prog w (node t) (lv t)) (h1:ile 1 (lv t)=true) (h11:ile 11 (lv t)=false∨ ∃c,nth s 0=some c∧(hm t=true∧c=45∨hm t=false∧az [c] bF=false)) (h:n+1≤2→s.length≤BL (n+1)∧FR prog w (100*n+130) (node t) s):WF prog w (n+1) t:=by
 subst e
 refine fun hn=>⟨(h hn).1,(h hn).2,hl _ _,h1,fun hb=> ?_⟩
 rcases h11 with h|h
 ·rw [h] at hb; cases hb
 ·exact h
noncomputable def hd1 (s:List Nat) (c:Nat):Bool:=match s with
 |x::_=>Nat.beq x c
 |[]=>false
theorem zO {s:List Nat} {c:Nat} (h:hd1 s c=true):nth s 0=some c:=by
 cases s with
 |nil=>exact Bool.noConfusion h
 |cons x s=>exact congrArg some (Nat.eq_of_beq_eq_true h)
theorem Ii (l:Lf) (h:l.isLit=true):l.mt=wt (.una .mi (.lf l))∧nth l.mt 0=some 45∧l.mt.length≤200:=by
 have h2:=Lf.all (p:=fun l=> !l.isLit||(az l.mt (wt (.una .mi (.lf l))) && (hd1 l.mt 45 && Nat.ble l.mt.length 200))) (by kernel_rfl) l
 rw [h] at h2
 have h3:=(Bool.and_eq_true _ _).mp h2
 have h4:=(Bool.and_eq_true _ _).mp h3.2
 exact ⟨(bj _ _).mp h3.1,zO h4.1,Nat.le_of_ble_eq_true h4.2⟩
noncomputable def Py (l:Lf):Bool:=bJ (.lf l)
theorem EI (x:T) (h:kA x=false):bJ x=false:=by
 cases x with
 |lf l=>
  have h2:=Lf.all (p:=fun l=>l.isLit|| !Py l) (by kernel_rfl) l
  rw [show l.isLit=false from h] at h2
  exact (Bool.not_eq_true' _).mp h2
 |_=>rfl
theorem MJ (l:Lf): ∃c,nth l.wt 0=some c∧(hm (.lf l)=true∧c=45∨hm (.lf l)=false∧az [c] bF=false):=by
 have h:=Lf.all (p:=fun l=>Bool.rec (!hd1 l.wt 45 && Nat.blt 0 l.wt.length) (hd1 l.wt 45) (hm (.lf l))) (by kernel_rfl) l
 cases hm_:hm (.lf l) with
 |true=>rw [hm_] at h; exact ⟨45,zO h,.inl ⟨rfl,rfl⟩⟩
 |false=>
  rw [hm_] at h
  cases hw:l.wt with
  |nil=>rw [hw] at h; exact Bool.noConfusion h
  |cons c r=>
   rw [hw] at h
   have h1:=((Bool.and_eq_true _ _).mp h).1
   refine ⟨c,rfl,.inr ⟨rfl,?_⟩⟩
   have h2:Nat.beq c 45=false:=(Bool.not_eq_true' _).mp h1
   show (match Nat.beq c 45 with|true=>az [] []|false=>false)=false
   rw [h2]
noncomputable def sp1 (b:Bool):List Nat:=match b with
 |true=>[32]
 |false=>[]
theorem Ij (o:Uo) (x:T) (ho:du o=false) (h:(dq o && bJ x)=false):wt (.una o x)=(o.c::sp1 (hm (wp 11 x (cw x))))++wpt 11 x:=by
 have e:cw (.una o x)= .una o (wp 11 x (cw x)):=by
  show (match du o with|true=>_|false=>match dq o && bJ x with|true=>_|false=>_)=_
  rw [ho,h]
 unfold wt; rw [e]
 show txt (match du o with|true=>_|false=>(.s1 o.c::(match hm (wp 11 x (cw x)) with|true=>[.sp]|false=>[]))++pcs true (wp 11 x (cw x)))=_
 rw [ho]
 show txt ((.s1 o.c::(match hm (wp 11 x (cw x)) with|true=>[.sp]|false=>[]))++pcs true (wp 11 x (cw x)))=_
 rw [gX]
 cases hm (wp 11 x (cw x))<;>rfl
theorem WF.by {n:Nat} {t:T} (ρ:List PV) (x:TE) (y:PE) (hy:pcs true (cw t)=y.ev ρ) (hxy:x.nf=y.nf) (hk:Nat.ble (x.kk ρ) 6=true) (hc:Nat.ble (x.cc ρ) 200=true) (hl: ∀prog w,LV prog w (node t) (lv t)) (h1:ile 1 (lv t)=true) (h11:ile 11 (lv t)=false∨ ∃c,nth (x.ev ρ) 0=some c∧(hm t=true∧c=45∨hm t=false∧az [c] bF=false)) (h:n+1≤2→oks (BL n) ρ∧FR prog w (100*n+130) (node t) (x.ev ρ)):WF prog w (n+1) t:=fun hn=>by
 obtain ⟨h2,h3⟩:=h hn
 have e:x.ev ρ=wt t:=(x.eq h2 y hxy).trans (congrArg txt hy).symm
 exact WF.of e hl h1 h11 (fun _=>⟨x.le h2 hk hc,h3⟩) hn
theorem Ik {e:Nat} {nx:Fv} {x:List Nat} {op:List Nat} {c:Nat} {b:Bool} (ho:op=g0∨op=jV) (zop:Sm 10 op) (hx:WR prog w e nx 11 x) (zx:Sm 100000 x) (hn:nth x 0=some c) (hc:b=true∧c=45∨b=false∧az [c] bF=false):FR prog w (e+50) (dJ op nx) ((op++sp1 b)++x):=by
 rcases hc with ⟨rfl,c1⟩|⟨rfl,c1⟩
 ·exact BD (ny:= .none) (nv:= .none) (y:=[]) (v:=[]) ho zop hx zx hn c1
 ·rw [show sp1 false=[] from rfl,List.append_nil]
  exact BG (ny:= .none) (nv:= .none) (y:=[]) (v:=[]) ho zop hx zx hn c1
theorem Pz {e:Nat} {x:List Nat} {D:Nat} {fs:List (Str×Fv)} {c:Nat} {b:Bool} (hD:D∈nlL) (hx:WR prog w e (.obj D fs) 11 x) (zx:Sm 100000 x) (hn:nth x 0=some c) (hc:b=true∧c=45∨b=false∧az [c] bF=false):FR prog w (e+50) (dJ bF (.obj D fs)) ((bF++sp1 b)++x):=by
 rcases hc with ⟨rfl,c1⟩|⟨rfl,c1⟩
 ·exact BE hD hx zx hn c1
 ·exact BH hD hx zx hn c1
theorem Il {n:Nat} {o:Uo} {x:T} (d:Dr 0 n x) (i:WF prog w n x) (hn:n+1≤2) (hno:du o=false) (hq:dq o=true→kA x=false):FR prog w (100*n+100) (node (.una o x)) ((o.c::sp1 (hm (wp 11 x (cw x))))++wpt 11 x):=by
 obtain ⟨c,n0,hc⟩:=WF.n0 d i hn
 have wx:=i.o hn 11
 have zx:=i.pz hn 11
 generalize hm (wp 11 x (cw x))=b at hc ⊢
 cases o with
 |no=>cases hno
 |mi=>
  obtain ⟨D,fs,e1,hD⟩:=EE d (hq rfl)
  show FR prog w _ (dJ bF (node x)) _
  rw [e1] at wx ⊢
  exact Pz hD wx zx n0 hc
 |pl=>exact Ik (.inl rfl) (Nat.le_of_ble_eq_true rfl) wx zx n0 hc
 |ti=>exact Ik (.inr rfl) (Nat.le_of_ble_eq_true rfl) wx zx n0 hc
theorem MK {o:Uo} {x:T} (hno:du o=false):(∀prog w,LV prog w (node (.una o x)) (lv (.una o x)))∧ile 1 (lv (.una o x))=true∧(hm (.una o x)=true∧o.c=45∨hm (.una o x)=false∧az [o.c] bF=false):=by
 cases o with
 |no=>cases hno
 |mi=>exact ⟨fun _ _=>uk (.inl rfl),rfl,.inl ⟨rfl,rfl⟩⟩
 |pl=>exact ⟨fun _ _=>uk (.inr (.inl rfl)),rfl,.inr ⟨rfl,rfl⟩⟩
 |ti=>exact ⟨fun _ _=>uk (.inr (.inr rfl)),rfl,.inr ⟨rfl,rfl⟩⟩
theorem Im {n:Nat} {o:Uo} {x:T} (d:Dr 0 n x) (i:WF prog w n x):WF prog w (n+1) (.una o x):=by
 cases hno:du o with
 |true=>
  cases o with
  |no=>
   refine WF.of (s:=vJ++wpt 3 x) ?_ (fun _ _=>HT) rfl (.inl rfl) fun hn=>⟨?_,(HN (i.o hn 3) (i.pz hn 3)).le (by omega)⟩
   ·show _=txt ([ky true bT ei,.sp]++pcs true (wp 3 x (cw x))); rw [gX]; rfl
   ·have:=i.pb hn 3; rw [List.length_append]; unfold BL; show 4+_≤_; omega
  |_=>cases hno
 |false=>
  have U:=MK (x:=x) hno
  cases hq:dq o && kA x with
  |true=>
   have hq:=(Bool.and_eq_true _ _).mp hq
   cases o with
   |mi=>
    cases x with
    |lf l=>
     have M:=Ii l hq.2
     exact WF.of M.1 U.1 rfl (.inr ⟨_,M.2.1,.inl ⟨rfl,rfl⟩⟩) fun hn=>⟨Nat.le_trans M.2.2 (by unfold BL; omega),(En l hq.2).le (by omega)⟩
    |_=>exact Bool.noConfusion hq.2
   |_=>cases hq.1
  |false=>
   have hl:dq o=true→kA x=false:=fun h=>by rw [h] at hq; exact hq
   have hmn:(dq o && bJ x)=false:=by
    cases h1:dq o with
    |false=>rfl
    |true=>exact EI x (hl h1)
   have ew:=Ij o x hno hmn
   refine WF.of ew.symm U.1 U.2.1 (.inr ⟨_,rfl,U.2.2⟩) fun hn=>⟨?_,(Il d i hn hno hl).le (by omega)⟩
   have:=i.pb hn 11
   have hb:(o.c::sp1 (hm (wp 11 x (cw x)))).length≤2:=by cases hm (wp 11 x (cw x))<;>exact Nat.le_of_ble_eq_true rfl
   rw [List.length_append]; unfold BL; omega
theorem C3 (L:LSO prog w) {n:Nat} {t:T} (h:Dr 0 n t):WF prog w n t:=by
 refine Dr.ind (F:=WF prog w) ?lf ?una ?bin ?btw ?in0 ?in1 ?in2 ?isn ?mat ?mae ?cas ?cst ?col ?cf ?cm ?cc ?cr h
 case lf=>
  intro n l _
  have hb:BL 0≤BL n:=by
   induction n with
   |zero=>exact Nat.le_refl _
   |succ n ih=>unfold BL; omega
  refine ⟨?_,?_,l.lv_ok,?_,fun _=> ?_⟩
  ·rw [←ym]; exact Nat.le_trans (Nat.le_of_ble_eq_true (Lf.all (p:=fun l=>Nat.ble l.wt.length 40) (by kernel_rfl) l)) hb
  ·rw [←ym]; exact (l.fr_ok).le (by omega)
  ·exact Lf.all (p:=fun l=>ile 1 l.lev) (by kernel_rfl) l
  ·rw [←ym]; exact MJ l
 case una=>exact fun n o x d i=>Im d i
 case bin=>
  intro n o x y d i d2 j _
  exact WF.by [wX o.lev x,wO o,wX (o.lev+1) y] (.a (.a (.a (.a (.v 0) (.l aH)) (.v 1)) (.l aH)) (.v 2)) (.a (.a (.v 0) (.a (.a (.l [.sp]) (.v 1)) (.l [.sp]))) (.v 2)) (rfl) rfl rfl rfl (fun _ _=>zw o) (Bo.all (p:=fun o=>ile 1 o.lev) (by kernel_rfl) o) (.inl ((Bool.not_eq_true' _).mp (Bo.all (p:=fun o=> !ile 11 o.lev) (by kernel_rfl) o))) fun hn=>⟨⟨ok2 (i.pb hn o.lev),ok0 o.pc_txt o.lup,ok2 (j.pb hn (o.lev+1)),trivial⟩,(HM (zw o) (C2 o).1 (C2 o).2 o.lup (i.o hn _) (i.pz hn _) (j.o hn _) (j.pz hn _)).le (by omega)⟩
 case btw=>
  intro n g x y z d i d2 j d3 k
  exact WF.by [wX 4 x,vG g,wX 5 y,wX 5 z] (.a (.a (.a (.a (.a (.v 0) (.v 1)) (.l kO)) (.v 2)) (.l qk)) (.v 3)) (.a (.a (.a (.a (.v 0) (.a (.v 1) (.l [kw kq8,.sp]))) (.v 2)) (.l [.sp,kw kq3,.sp])) (.v 3)) (rfl) rfl rfl rfl (fun _ _=>HU) rfl (.inl rfl) fun hn=>⟨⟨ok2 (i.pb hn 4),ok0 (dg g) (df g),ok2 (j.pb hn 5),ok2 (k.pb hn 5),trivial⟩,(HQ (i.o hn _) (i.pz hn _) (j.o hn _) (j.pz hn _) (k.o hn _) (k.pz hn _)).le (by omega)⟩
 case in0=>
  intro n g x d i
  exact WF.by [wX 4 x,vG g] (.a (.a (.a (.a (.v 0) (.v 1)) (.l cH)) (.l [])) (.l ac)) (.a (.a (.a (.v 0) (.a (.v 1) (.l [kw kq5,.sp,.s1 40]))) (.l [])) (.l [.s1 41])) (rfl) rfl rfl rfl (fun _ _=>ul) rfl (.inl rfl) fun hn=>⟨⟨ok2 (i.pb hn 4),ok0 (dg g) (df g),trivial⟩,(uj (e:=100*n+80) (xs:=[]) ((i.o hn _).le (by omega)) (i.pz hn _) (L.l0 (e:=100*n+60)) (Nat.zero_le _)).le (by omega)⟩
 case in1=>
  intro n g x y d i d2 j
  exact WF.by [wX 4 x,vG g,wW y] (.a (.a (.a (.a (.v 0) (.v 1)) (.l cH)) (.v 2)) (.l ac)) (.a (.a (.a (.v 0) (.a (.v 1) (.l [kw kq5,.sp,.s1 40]))) (.a (.v 2) (.l []))) (.l [.s1 41])) (rfl) rfl rfl rfl (fun _ _=>ul) rfl (.inl rfl) fun hn=>⟨⟨ok2 (i.pb hn 4),ok0 (dg g) (df g),ok1 (j.b hn) rfl,trivial⟩,(uj (xs:=[node y]) ((i.o hn _).le (by omega)) (i.pz hn _) (L.l1 (j.w1 hn) (j.z hn)) (Nat.le_trans (j.z hn) (by decide))).le (by omega)⟩
 case in2=>
  intro n g x y z d i d2 j d3 k
  have zz: ∀hn:n+1≤2,(wt y++(bW++wt z)).length≤2*BL n+2:=fun hn=>by
   have:=j.b hn; have:=k.b hn; simp only [List.length_append]; simp<;>omega
  exact WF.by [wX 4 x,vG g,wW y,wW z] (.a (.a (.a (.a (.v 0) (.v 1)) (.l cH)) (.a (.v 2) (.a (.l bW) (.v 3)))) (.l ac)) (.a (.a (.a (.v 0) (.a (.v 1) (.l [kw kq5,.sp,.s1 40]))) (.a (.v 2) (.a (.l [.s1 44,.sp]) (.a (.v 3) (.l []))))) (.l [.s1 41])) (rfl) rfl rfl rfl (fun _ _=>ul) rfl (.inl rfl) fun hn=>⟨⟨ok2 (i.pb hn 4),ok0 (dg g) (df g),ok1 (j.b hn) rfl,ok1 (k.b hn) rfl,trivial⟩,(uj (xs:=[node y,node z]) ((i.o hn _).le (by omega)) (i.pz hn _) (L.l2 (j.w1 hn) (k.w1 hn) (j.z hn) (k.z hn)) (by have:=zz hn; have:=nP hn; unfold Sm; omega)).le (by omega)⟩
 case isn=>
  intro n g x d i
  exact WF.by [wX 4 x,wI g] (.a (.v 0) (.v 1)) (.a (.v 0) (.v 1)) (rfl) rfl rfl rfl (fun _ _=>HV) rfl (.inl rfl) fun hn=>⟨⟨ok2 (i.pb hn 4),ok0 (EG g) (EH g),trivial⟩,(HP (i.o hn _) (i.pz hn _)).le (by omega)⟩
 case mat=>
  intro n k g x y d i d2 j
  exact WF.by [wX 4 x,vG g,wM k,wX 5 y] (.a (.a (.a (.a (.v 0) (.v 1)) (.v 2)) (.l aH)) (.v 3)) (.a (.a (.a (.v 0) (.a (.v 1) (.a (.v 2) (.l [.sp])))) (.v 3)) (.l [])) (rfl) rfl rfl rfl (fun _ _=>zr) rfl (.inl rfl) fun hn=>⟨⟨ok2 (i.pb hn 4),ok0 (dg g) (df g),ok0 (zN k) (lj k),ok2 (j.pb hn 5),trivial⟩,(HR (tu k).1 (tu k).2 (lj k) (i.o hn _) (i.pz hn _) (j.o hn _) (j.pz hn _)).le (by omega)⟩
 case mae=>
  intro n k g x y z d i d2 j d3 l
  obtain ⟨D,fs,e1,_⟩:=be d3
  have nz:=(cI d3).2
  have nw:a9 (wp 5 z (cw z))=false:=by
   cases hb:ile 5 (lv z) with
   |true=>
    rw [yn hb]; exact bL d3
   |false=>rw [yo hb]; rfl
  exact WF.by [wX 4 x,vG g,wM k,wX 5 y,wX 5 z] (.a (.a (.a (.a (.a (.a (.v 0) (.v 1)) (.v 2)) (.l aH)) (.v 3)) (.l ql)) (.v 4)) (.a (.a (.a (.v 0) (.a (.v 1) (.a (.v 2) (.l [.sp])))) (.v 3)) (.a (.l [.sp,kw bE,.sp]) (.v 4))) (by
   rw [show cw (.mat k g x y z)= .mat k g (wp 4 x (cw x)) (wp 5 y (cw y)) (wp 5 z (cw z)) from by
    show T.mat k g _ _ (match a9 z with|true=> .none|false=>wp 5 z (cw z))=_
    rw [nz]]
   show pcs true (wp 4 x (cw x))++(ngP g++[f5 true k,.sp])++pcs true (wp 5 y (cw y))++(match a9 (wp 5 z (cw z)) with|true=>[]|false=>[.sp,kw bE,.sp]++pcs true (wp 5 z (cw z)))=_
   rw [nw]; rfl) rfl rfl rfl (fun _ _=>zr) rfl (.inl rfl) fun hn=>⟨⟨ok2 (i.pb hn 4),ok0 (dg g) (df g),ok0 (zN k) (lj k),ok2 (j.pb hn 5),ok2 (l.pb hn 5),trivial⟩,by
   have lw:=l.o hn 5
   show FR prog w _ (fJ _ (node x) (node y) (node z) g) _
   rw [e1] at lw ⊢
   exact (HS (tu k).1 (tu k).2 (lj k) (i.o hn _) (i.pz hn _) (j.o hn _) (j.pz hn _) lw (l.pz hn _)).le (by omega)⟩
 case cst=>
  intro n k x d i
  cases k with
  |true=>
   exact WF.by [wW x] (.a (.a (.a (.a (.l e8) (.v 0)) (.l dT)) (.l qm)) (.l ac)) (.a (.a (.a (.a (.l [kw fM,.s1 40]) (.v 0)) (.l [.sp,kw gz,.sp])) (.l (tyP true true))) (.l [.s1 41])) (rfl) rfl rfl rfl (fun _ _=>zt) rfl (.inr ⟨67,rfl,.inr ⟨rfl,rfl⟩⟩) fun hn=>⟨⟨ok1 (i.b hn) rfl,trivial⟩,(BI (i.w1 hn) (i.z hn)).le (by omega)⟩
  |false=>
   exact WF.by [wW x] (.a (.a (.a (.a (.l e8) (.v 0)) (.l dT)) (.l jZ)) (.l ac)) (.a (.a (.a (.a (.l [kw fM,.s1 40]) (.v 0)) (.l [.sp,kw gz,.sp])) (.l (tyP true false))) (.l [.s1 41])) (rfl) rfl rfl rfl (fun _ _=>zt) rfl (.inr ⟨67,rfl,.inr ⟨rfl,rfl⟩⟩) fun hn=>⟨⟨ok1 (i.b hn) rfl,trivial⟩,(BJ (i.w1 hn) (i.z hn)).le (by omega)⟩
 case col=>
  intro n x d i
  exact WF.by [wX 10 x] (.a (.a (.v 0) (.l qj)) (.l d9)) (.a (.v 0) (.l [.sp,kw kq9,.sp,.nm d9 kP])) (rfl) rfl rfl rfl (fun _ _=>HW) rfl (.inl rfl) fun hn=>⟨⟨ok2 (i.pb hn 10),trivial⟩,(HO (i.o hn _) (i.pz hn _)).le (by omega)⟩
 case cf=>
  intro n x y d i d2 j
  have zz: ∀hn:n+1≤2,(wt x++(bW++wt y)).length≤2*BL n+2:=fun hn=>by
   have:=i.b hn; have:=j.b hn; simp only [List.length_append]; simp<;>omega
  exact WF.by [wW x,wW y] (.a (.a (.a (.a (.l d7) (.l ad)) (.l [])) (.a (.v 0) (.a (.l bW) (.v 1)))) (.l ac)) (.a (.a (.a (.l [.nm d7 Cw,.s1 40]) (.l [])) (.a (.v 0) (.a (.l [.s1 44,.sp]) (.a (.v 1) (.l []))))) (.l [.s1 41])) (rfl) rfl rfl rfl (fun _ _=>nK) rfl (.inr ⟨102,rfl,.inr ⟨rfl,rfl⟩⟩) fun hn=>⟨⟨ok1 (i.b hn) rfl,ok1 (j.b hn) rfl,trivial⟩,(zq (xs:=[node x,node y]) (L.l2 (i.w1 hn) (j.w1 hn) (i.z hn) (j.z hn)) (by have:=zz hn; have:=nP hn; unfold Sm; omega)).le (by omega)⟩
 case cm=>
  intro n x d i
  exact WF.by [wW x] (.a (.a (.a (.a (.l d8) (.l ad)) (.l f9)) (.v 0)) (.l ac)) (.a (.a (.a (.l [.nm d8 Cy,.s1 40]) (.l [kw gC,.sp])) (.a (.v 0) (.l []))) (.l [.s1 41])) (rfl) rfl rfl rfl (fun _ _=>nK) rfl (.inr ⟨109,rfl,.inr ⟨rfl,rfl⟩⟩) fun hn=>⟨⟨ok1 (i.b hn) rfl,trivial⟩,(uV (xs:=[node x]) (L.l1 (i.w1 hn) (i.z hn)) (Nat.le_trans (i.z hn) (by decide))).le (by omega)⟩
 case cc=>
  intro n
  exact WF.of (s:=(((eA++ad)++[])++fD)++ac) rfl (fun _ _=>nK) rfl (.inr ⟨99,rfl,.inr ⟨rfl,rfl⟩⟩) fun hn=>⟨by unfold BL; simp<;>omega,(pX (e:=0)).le (by omega)⟩
 case cr=>
  intro n
  exact WF.of (s:=(((eZ++ad)++[])++[])++ac) rfl (fun _ _=>nK) rfl (.inr ⟨34,rfl,.inr ⟨rfl,rfl⟩⟩) fun hn=>⟨by unfold BL; simp<;>omega,(nJ (xs:=[]) (L.l0 (e:=0)) (Nat.zero_le _)).le (by omega)⟩
 case cas=>
  intro n b o hb ho x y d i d2 j ws hw
  rcases hb with rfl|⟨db,hb2⟩<;>rcases ho with rfl|⟨do_,ho2⟩<;>rcases hw with rfl|⟨u,v,d3,i2,d4,j2,rfl⟩
  ·exact WF.by [wW x,wW y] (.a (.a (.a (.a (.a (.l aj) (.l ar)) (.v 0)) (.l aD)) (.v 1)) (.l ba)) (.a (.a (.a (.l [kw aj]) (.a (.a (.a (.a (.l [.sp,kw aQ,.sp]) (.v 0)) (.l [.sp,kw aZ,.sp])) (.v 1)) (.l []))) (.l [])) (.l [.sp,kw bm])) (rfl) rfl rfl rfl (fun _ _=>gt) rfl (.inr ⟨67,rfl,.inr ⟨rfl,rfl⟩⟩) fun hn=>⟨⟨ok1 (i.b hn) rfl,ok1 (j.b hn) rfl,trivial⟩,by show FR prog w _ (bA .none [.tup [node x,node y]] .none) _; exact (yc (i.w1 hn) (i.z hn) (j.w1 hn) (j.z hn)).le (by omega)⟩
  ·exact WF.by [wW x,wW y,wW u,wW v] (.a (.a (.a (.a (.a (.a (.a (.a (.a (.l aj) (.l ar)) (.v 0)) (.l aD)) (.v 1)) (.l ar)) (.v 2)) (.l aD)) (.v 3)) (.l ba)) (.a (.a (.a (.l [kw aj]) (.a (.a (.a (.a (.l [.sp,kw aQ,.sp]) (.v 0)) (.l [.sp,kw aZ,.sp])) (.v 1)) (.a (.a (.a (.a (.l [.sp,kw aQ,.sp]) (.v 2)) (.l [.sp,kw aZ,.sp])) (.v 3)) (.l [])))) (.l [])) (.l [.sp,kw bm])) (rfl) rfl rfl rfl (fun _ _=>gt) rfl (.inr ⟨67,rfl,.inr ⟨rfl,rfl⟩⟩) fun hn=>⟨⟨ok1 (i.b hn) rfl,ok1 (j.b hn) rfl,ok1 (i2.b hn) rfl,ok1 (j2.b hn) rfl,trivial⟩,by show FR prog w _ (bA .none [.tup [node x,node y],.tup [node u,node v]] .none) _; exact (ye (i.w1 hn) (i.z hn) (j.w1 hn) (j.z hn) (i2.w1 hn) (i2.z hn) (j2.w1 hn) (j2.z hn)).le (by omega)⟩
  ·obtain ⟨C,cs,eo,_⟩:=be do_; have no:=bL do_; exact WF.by [wW x,wW y,wW o] (.a (.a (.a (.a (.a (.a (.a (.l aj) (.l ar)) (.v 0)) (.l aD)) (.v 1)) (.l cR)) (.v 2)) (.l ba)) (.a (.a (.a (.l [kw aj]) (.a (.a (.a (.a (.l [.sp,kw aQ,.sp]) (.v 0)) (.l [.sp,kw aZ,.sp])) (.v 1)) (.l []))) (.a (.l [.sp,kw bK,.sp]) (.v 2))) (.l [.sp,kw bm])) (by show [kw aj]++([.sp,kw aQ,.sp]++pcs true (cw x)++[.sp,kw aZ,.sp]++pcs true (cw y)++[])++(match a9 (cw o) with|true=>[]|false=>[.sp,kw bK,.sp]++pcs true (cw o))++[.sp,kw bm]=_; rw [no]; rfl) rfl rfl rfl (fun _ _=>gt) rfl (.inr ⟨67,rfl,.inr ⟨rfl,rfl⟩⟩) fun hn=>⟨⟨ok1 (i.b hn) rfl,ok1 (j.b hn) rfl,ok1 (ho2.b hn) rfl,trivial⟩,by have how:=ho2.w1 hn; show FR prog w _ (bA .none [.tup [node x,node y]] (node o)) _; rw [eo] at how ⊢; exact (yd (i.w1 hn) (i.z hn) (j.w1 hn) (j.z hn) how (ho2.z hn)).le (by omega)⟩
  ·obtain ⟨C,cs,eo,_⟩:=be do_; have no:=bL do_; exact WF.by [wW x,wW y,wW u,wW v,wW o] (.a (.a (.a (.a (.a (.a (.a (.a (.a (.a (.a (.l aj) (.l ar)) (.v 0)) (.l aD)) (.v 1)) (.l ar)) (.v 2)) (.l aD)) (.v 3)) (.l cR)) (.v 4)) (.l ba)) (.a (.a (.a (.l [kw aj]) (.a (.a (.a (.a (.l [.sp,kw aQ,.sp]) (.v 0)) (.l [.sp,kw aZ,.sp])) (.v 1)) (.a (.a (.a (.a (.l [.sp,kw aQ,.sp]) (.v 2)) (.l [.sp,kw aZ,.sp])) (.v 3)) (.l [])))) (.a (.l [.sp,kw bK,.sp]) (.v 4))) (.l [.sp,kw bm])) (by show [kw aj]++([.sp,kw aQ,.sp]++pcs true (cw x)++[.sp,kw aZ,.sp]++pcs true (cw y)++([.sp,kw aQ,.sp]++pcs true (cw u)++[.sp,kw aZ,.sp]++pcs true (cw v)++[]))++(match a9 (cw o) with|true=>[]|false=>[.sp,kw bK,.sp]++pcs true (cw o))++[.sp,kw bm]=_; rw [no]; rfl) rfl rfl rfl (fun _ _=>gt) rfl (.inr ⟨67,rfl,.inr ⟨rfl,rfl⟩⟩) fun hn=>⟨⟨ok1 (i.b hn) rfl,ok1 (j.b hn) rfl,ok1 (i2.b hn) rfl,ok1 (j2.b hn) rfl,ok1 (ho2.b hn) rfl,trivial⟩,by have how:=ho2.w1 hn; show FR prog w _ (bA .none [.tup [node x,node y],.tup [node u,node v]] (node o)) _; rw [eo] at how ⊢; exact (yf (i.w1 hn) (i.z hn) (j.w1 hn) (j.z hn) (i2.w1 hn) (i2.z hn) (j2.w1 hn) (j2.z hn) how (ho2.z hn)).le (by omega)⟩
  ·obtain ⟨B,bs,eb,_⟩:=be db; have nb:=bL db; exact WF.by [wW b,wW x,wW y] (.a (.a (.a (.a (.a (.a (.a (.l aj) (.l aH)) (.v 0)) (.l ar)) (.v 1)) (.l aD)) (.v 2)) (.l ba)) (.a (.a (.a (.a (.l [kw aj,.sp]) (.v 0)) (.a (.a (.a (.a (.l [.sp,kw aQ,.sp]) (.v 1)) (.l [.sp,kw aZ,.sp])) (.v 2)) (.l []))) (.l [])) (.l [.sp,kw bm])) (by show (match a9 (cw b) with|true=>[kw aj]|false=>[kw aj,.sp]++pcs true (cw b))++([.sp,kw aQ,.sp]++pcs true (cw x)++[.sp,kw aZ,.sp]++pcs true (cw y)++[])++[]++[.sp,kw bm]=_; rw [nb]; rfl) rfl rfl rfl (fun _ _=>gt) rfl (.inr ⟨67,rfl,.inr ⟨rfl,rfl⟩⟩) fun hn=>⟨⟨ok1 (hb2.b hn) rfl,ok1 (i.b hn) rfl,ok1 (j.b hn) rfl,trivial⟩,by have hbw:=hb2.w1 hn; show FR prog w _ (bA (node b) [.tup [node x,node y]] .none) _; rw [eb] at hbw ⊢; exact (yg hbw (hb2.z hn) (i.w1 hn) (i.z hn) (j.w1 hn) (j.z hn)).le (by omega)⟩
  ·obtain ⟨B,bs,eb,_⟩:=be db; have nb:=bL db; exact WF.by [wW b,wW x,wW y,wW u,wW v] (.a (.a (.a (.a (.a (.a (.a (.a (.a (.a (.a (.l aj) (.l aH)) (.v 0)) (.l ar)) (.v 1)) (.l aD)) (.v 2)) (.l ar)) (.v 3)) (.l aD)) (.v 4)) (.l ba)) (.a (.a (.a (.a (.l [kw aj,.sp]) (.v 0)) (.a (.a (.a (.a (.l [.sp,kw aQ,.sp]) (.v 1)) (.l [.sp,kw aZ,.sp])) (.v 2)) (.a (.a (.a (.a (.l [.sp,kw aQ,.sp]) (.v 3)) (.l [.sp,kw aZ,.sp])) (.v 4)) (.l [])))) (.l [])) (.l [.sp,kw bm])) (by show (match a9 (cw b) with|true=>[kw aj]|false=>[kw aj,.sp]++pcs true (cw b))++([.sp,kw aQ,.sp]++pcs true (cw x)++[.sp,kw aZ,.sp]++pcs true (cw y)++([.sp,kw aQ,.sp]++pcs true (cw u)++[.sp,kw aZ,.sp]++pcs true (cw v)++[]))++[]++[.sp,kw bm]=_; rw [nb]; rfl) rfl rfl rfl (fun _ _=>gt) rfl (.inr ⟨67,rfl,.inr ⟨rfl,rfl⟩⟩) fun hn=>⟨⟨ok1 (hb2.b hn) rfl,ok1 (i.b hn) rfl,ok1 (j.b hn) rfl,ok1 (i2.b hn) rfl,ok1 (j2.b hn) rfl,trivial⟩,by have hbw:=hb2.w1 hn; show FR prog w _ (bA (node b) [.tup [node x,node y],.tup [node u,node v]] .none) _; rw [eb] at hbw ⊢; exact (yi hbw (hb2.z hn) (i.w1 hn) (i.z hn) (j.w1 hn) (j.z hn) (i2.w1 hn) (i2.z hn) (j2.w1 hn) (j2.z hn)).le (by omega)⟩
  ·obtain ⟨B,bs,eb,_⟩:=be db; have nb:=bL db; obtain ⟨C,cs,eo,_⟩:=be do_; have no:=bL do_; exact WF.by [wW b,wW x,wW y,wW o] (.a (.a (.a (.a (.a (.a (.a (.a (.a (.l aj) (.l aH)) (.v 0)) (.l ar)) (.v 1)) (.l aD)) (.v 2)) (.l cR)) (.v 3)) (.l ba)) (.a (.a (.a (.a (.l [kw aj,.sp]) (.v 0)) (.a (.a (.a (.a (.l [.sp,kw aQ,.sp]) (.v 1)) (.l [.sp,kw aZ,.sp])) (.v 2)) (.l []))) (.a (.l [.sp,kw bK,.sp]) (.v 3))) (.l [.sp,kw bm])) (by show (match a9 (cw b) with|true=>[kw aj]|false=>[kw aj,.sp]++pcs true (cw b))++([.sp,kw aQ,.sp]++pcs true (cw x)++[.sp,kw aZ,.sp]++pcs true (cw y)++[])++(match a9 (cw o) with|true=>[]|false=>[.sp,kw bK,.sp]++pcs true (cw o))++[.sp,kw bm]=_; rw [nb,no]; rfl) rfl rfl rfl (fun _ _=>gt) rfl (.inr ⟨67,rfl,.inr ⟨rfl,rfl⟩⟩) fun hn=>⟨⟨ok1 (hb2.b hn) rfl,ok1 (i.b hn) rfl,ok1 (j.b hn) rfl,ok1 (ho2.b hn) rfl,trivial⟩,by have hbw:=hb2.w1 hn; have how:=ho2.w1 hn; show FR prog w _ (bA (node b) [.tup [node x,node y]] (node o)) _; rw [eb] at hbw ⊢; rw [eo] at how ⊢; exact (yh hbw (hb2.z hn) (i.w1 hn) (i.z hn) (j.w1 hn) (j.z hn) how (ho2.z hn)).le (by omega)⟩
  ·obtain ⟨B,bs,eb,_⟩:=be db; have nb:=bL db; obtain ⟨C,cs,eo,_⟩:=be do_; have no:=bL do_; exact WF.by [wW b,wW x,wW y,wW u,wW v,wW o] (.a (.a (.a (.a (.a (.a (.a (.a (.a (.a (.a (.a (.a (.l aj) (.l aH)) (.v 0)) (.l ar)) (.v 1)) (.l aD)) (.v 2)) (.l ar)) (.v 3)) (.l aD)) (.v 4)) (.l cR)) (.v 5)) (.l ba)) (.a (.a (.a (.a (.l [kw aj,.sp]) (.v 0)) (.a (.a (.a (.a (.l [.sp,kw aQ,.sp]) (.v 1)) (.l [.sp,kw aZ,.sp])) (.v 2)) (.a (.a (.a (.a (.l [.sp,kw aQ,.sp]) (.v 3)) (.l [.sp,kw aZ,.sp])) (.v 4)) (.l [])))) (.a (.l [.sp,kw bK,.sp]) (.v 5))) (.l [.sp,kw bm])) (by show (match a9 (cw b) with|true=>[kw aj]|false=>[kw aj,.sp]++pcs true (cw b))++([.sp,kw aQ,.sp]++pcs true (cw x)++[.sp,kw aZ,.sp]++pcs true (cw y)++([.sp,kw aQ,.sp]++pcs true (cw u)++[.sp,kw aZ,.sp]++pcs true (cw v)++[]))++(match a9 (cw o) with|true=>[]|false=>[.sp,kw bK,.sp]++pcs true (cw o))++[.sp,kw bm]=_; rw [nb,no]; rfl) rfl rfl rfl (fun _ _=>gt) rfl (.inr ⟨67,rfl,.inr ⟨rfl,rfl⟩⟩) fun hn=>⟨⟨ok1 (hb2.b hn) rfl,ok1 (i.b hn) rfl,ok1 (j.b hn) rfl,ok1 (i2.b hn) rfl,ok1 (j2.b hn) rfl,ok1 (ho2.b hn) rfl,trivial⟩,by have hbw:=hb2.w1 hn; have how:=ho2.w1 hn; show FR prog w _ (bA (node b) [.tup [node x,node y],.tup [node u,node v]] (node o)) _; rw [eb] at hbw ⊢; rw [eo] at how ⊢; exact (yj hbw (hb2.z hn) (i.w1 hn) (i.z hn) (j.w1 hn) (j.z hn) (i2.w1 hn) (i2.z hn) (j2.w1 hn) (j2.z hn) how (ho2.z hn)).le (by omega)⟩
end
end
end MineS
namespace MineS
noncomputable section
open PySem PySem.W PySem.Calls PyProof.Rows
noncomputable def Wt.w (x:Wt) (p:Int):Fv:=wd x.k x.t x.v p
noncomputable def At (ws:List Fv):Nat→List Wt→Prop
 |_,[]=>True
 |n,x::r=>(∃p,nth ws n=some (x.w p))∧At ws (n+1) r
theorem bn {ws:List Fv}: ∀{a b:List Wt} {n:Nat},At ws n (a++b)→At ws n a∧At ws (n+a.length) b
 |[],_,_,h=>⟨trivial,h⟩
 |x::r,b,n,h=>by
  obtain ⟨h1,h2⟩:=bn (a:=r) h.2
  refine ⟨⟨h.1,h1⟩,?_⟩
  rw [List.length_cons,show n+(r.length+1)=n+1+r.length by omega]
  exact h2
theorem jN {a b:Int} (h:a≤b):ile a b=true:=decide_eq_true h
theorem tv {a b:Int} (h:b<a):ile a b=false:=decide_eq_false (by omega)
theorem gp {a b:Int} (h:ile a b=true):a≤b:=of_decide_eq_true h
theorem fK {a b c:Int} (h:ile a b=true) (h2:ile b c=true):ile a c=true:=jN (Int.le_trans (gp h) (gp h2))
theorem yr {dp:Nat} (h:dp+1≤50):ilt 50 (Int.ofNat dp+1)=false:=decide_eq_false (by simp; omega)
noncomputable def sf:T→Bool
 | .bin _ _ _=>true
 | .btw _ _ _ _=>true
 | .inl _ _ _=>true
 | .isn _ _=>true
 | .mat _ _ _ _ _=>true
 | .col _=>true
 |_=>false
structure Fst (c:T) (x:Wt):Prop where
 se:isK (x.w 0) jT=false
 va:isK (x.w 0) jU=false
 wh:isK (x.w 0) aQ=false
 di:isK (x.w 0) gC=false
 cl:isS (x.w 0) ac=false
 st:isS (x.w 0) fD=false
 nt:ile 4 (lv c)=true→isK (x.w 0) bT=false
 nu:bJ c=false→ile 11 (lv c)=true→az x.k eJ=false
section
variable {prog:Program} {w:World}
structure Fol (prog:Program) (w:World) (ws:List Fv) (m:Nat) (l:Int) (f:Fv):Prop where
 nt:nth ws m=some f
 wd:dn f
 dot:isS f fO=false
 par:isS f ad=false
 lev: ∀tx dp,RR prog w 10 (aL w.params) [] tx ws dp m (.int l) m
variable {ws:List Fv} {m:Nat}
theorem uq (L:ws.length≤1000000) {s:List Nat} {v:Fv} {p l:Int} (h:nth ws m=some (wd kq0 s v p)) (hl:xO s= .int l) (h1:az s fO=false) (h2:az s ad=false):Fol prog w ws m l (wd kq0 s v p):=
 ⟨h,⟨_,_,_,_,rfl⟩,h1,h2,fun tx dp=>by have:=Bk (prog:=prog) (w:=w) (tx:=tx) (dp:=dp) L h; rw [hl] at this; exact this⟩
theorem EJ (L:ws.length≤1000000) {s:List Nat} {v:Fv} {p:Int} (h:nth ws m=some (wd kq1 s v p)):Fol prog w ws m 0 (wd kq1 s v p):=
 ⟨h,⟨_,_,_,_,rfl⟩,rfl,rfl,fun tx dp=>DQ (prog:=prog) (w:=w) (tx:=tx) (dp:=dp) L h⟩
theorem gY (L:ws.length≤1000000) {s:List Nat} {v:Fv} {p l:Int} (hs:s∈gJ) (h:nth ws m=some (wd an s v p)) (hl:oN s= .int l):Fol prog w ws m l (wd an s v p):=
 ⟨h,⟨_,_,_,_,rfl⟩,rfl,rfl,fun tx dp=>by have:=DR (prog:=prog) (w:=w) (tx:=tx) (dp:=dp) L hs h; rw [hl] at this; exact this⟩
theorem EK (L:ws.length≤1000000) {s:List Nat} {v v2:Fv} {p p2:Int} (hs:s∈[kq5,kq6,kq7,kq8]) (h:nth ws m=some (wd an bT v p)) (h2:nth ws (m+1)=some (wd an s v2 p2)):Fol prog w ws m 4 (wd an bT v p):=
 ⟨h,⟨_,_,_,_,rfl⟩,rfl,rfl,fun tx dp=>DS (prog:=prog) (w:=w) (tx:=tx) (dp:=dp) L hs h h2⟩
noncomputable abbrev LN (prog:Program) (w:World) (tx:List Nat) (ws:List Fv) (dp n:Nat) (l:Int):Prop:=RR prog w 10 (aL w.params) [] tx ws dp n (.int l) n
noncomputable abbrev wn (m:Bool) (c:T):Nat:=(wl (pcs m c)).length
structure PX (prog:Program) (w:World) (m:Bool) (d:Nat) (c:T):Prop where
 fst: ∃x r,wl (pcs m c)=x::r∧Fst c x
 pp:sf c=false→ ∀{tx:List Nat} {ws:List Fv} {n dp e:Nat} {l:Int} {f:Fv},ws.length≤1000000→At ws n (wl (pcs m c))→dp+d≤50→100*d+30≤e→Fol prog w ws (n+wn m c) l f→(ile (lv c) 4=true→isK f bE=false)→ile l (lv c)=true→PP prog w e tx ws dp n (node c) (n+wn m c)
 pl:sf c=true→ ∀{tx:List Nat} {ws:List Fv} {n dp e:Nat} {l least lf:Int} {f v:Fv} {mm cnt:Nat},ws.length≤1000000→At ws n (wl (pcs m c))→dp+d≤50→100*d+30≤e→Fol prog w ws (n+wn m c) l f→(ile (lv c) 4=true→isK f bE=false)→ile l (lv c)=true→ile least (lv c)=true→fI prog w e tx ws dp least v mm lf (node c) (n+wn m c) l cnt→ ∃g a l0 c2,PP prog w e tx ws dp n g a∧LN prog w tx ws dp a l0∧fI prog w e tx ws dp least v mm lf g a l0 c2
theorem PX.go {b:Bool} {d:Nat} {c:T} (h:PX prog w b d c) {tx:List Nat} {n dp e:Nat} {l least lf:Int} {f v:Fv} {mm cnt:Nat} (L:ws.length≤1000000) (ha:At ws n (wl (pcs b c))) (hd:dp+d≤50) (he:100*d+30≤e) (F:Fol prog w ws (n+wn b c) l f) (hE:ile (lv c) 4=true→isK f bE=false) (hl:ile l (lv c)=true) (hs:sf c=true→ile least (lv c)=true) (K:fI prog w e tx ws dp least v mm lf (node c) (n+wn b c) l cnt): ∃g a l0 c2,PP prog w e tx ws dp n g a∧LN prog w tx ws dp a l0∧fI prog w e tx ws dp least v mm lf g a l0 c2:=by
 cases hc:sf c with
 |true=>exact h.pl hc L ha hd he F hE hl (hs hc) K
 |false=>exact ⟨_,_,_,_,h.pp hc L ha hd he F hE hl,F.lev tx dp,K⟩
theorem PX.xe {b:Bool} {d:Nat} {c:T} (h:PX prog w b d c) {tx:List Nat} {n dp e:Nat} {l least:Int} {f:Fv} (L:ws.length≤1000000) (ha:At ws n (wl (pcs b c))) (hd:dp+1+d≤50) (he:100*d+30≤e) (F:Fol prog w ws (n+wn b c) l f) (hE:ile (lv c) 4=true→isK f bE=false) (hl:ile l (lv c)=true) (hs:sf c=true→ile least (lv c)=true) (h0:ile least l=false):XX prog w (e+40) least tx ws dp n (node c) (n+wn b c):=by
 obtain ⟨g,a,l0,c2,h1,h2,h3⟩:=h.go (tx:=tx) (dp:=dp+1) L ha hd he F hE hl hs (.stop h0)
 exact DT (yr (by omega)) h1 h2 h3
theorem PX.x1 {b:Bool} {d:Nat} {c:T} (h:PX prog w b d c) {tx:List Nat} {n dp e:Nat} {f:Fv} (L:ws.length≤1000000) (ha:At ws n (wl (pcs b c))) (hd:dp+1+d≤50) (he:100*d+30≤e) (F:Fol prog w ws (n+wn b c) 0 f) (hE:isK f bE=false) (hl:ile 1 (lv c)=true):RR prog w (e+40) (ab w.params) [] tx ws dp n (node c) (n+wn b c):=by
 obtain ⟨g,a,l0,c2,h1,h2,h3⟩:=h.go (tx:=tx) (dp:=dp+1) (least:=1) L ha hd he F (fun _=>hE) (fK (jN (by omega)) hl) (fun _=>hl) (.stop rfl)
 exact Bl (yr (by omega)) h1 h2 h3
theorem Io {b:Bool} {d d2:Nat} {x c:T} {W:List Wt} (hx:PX prog w b d x) (hd2:d≤d2) (hsf:sf c=true) (hw:wl (pcs b c)=wl (pcs b x)++W) (h11:ile 11 (lv c)=false) (h1:ile (lv c) (lv x)=true)
  (hF: ∀{ws:List Fv} {n:Nat},ws.length≤1000000→At ws n W→ ∃f,Fol prog w ws n (lv c) f∧isK f bE=false)
  (hO: ∀{tx:List Nat} {ws:List Fv} {n dp e:Nat} {l:Int} {f:Fv},ws.length≤1000000→At ws n W→dp+d2≤50→100*d2+30≤e→Fol prog w ws (n+W.length) l f→(ile (lv c) 4=true→isK f bE=false)→ile l (lv c)=true→OO prog w e (node x) (lv c) tx ws dp n (node c) (n+W.length)):PX prog w b d2 c:=by
 refine ⟨?_,fun h=>absurd h (by rw [hsf]; exact Bool.noConfusion),fun _=> ?_⟩
 ·obtain ⟨y,r,e1,e2⟩:=hx.fst
  exact ⟨y,r++W,by rw [hw,e1]; rfl,e2.se,e2.va,e2.wh,e2.di,e2.cl,e2.st,fun h=>e2.nt (fK h h1),fun _ h=>by rw [h11] at h; cases h⟩
 ·intro tx ws n dp e l least lf f v mm cnt L ha hd he F hE hl hs K
  have en:n+wn b c=n+wn b x+W.length:=by show n+(wl (pcs b c)).length=_; rw [hw,List.length_append]; exact (Nat.add_assoc _ _ _).symm
  rw [hw] at ha
  rw [en] at F K
  obtain ⟨a1,a2⟩:=bn ha
  obtain ⟨f1,F1,k1⟩:=hF L a2
  exact hx.go L a1 (by omega) (by omega) F1 (fun _=>k1) h1 (fun _=>fK hs h1) (.step hs (hO L a2 hd he F hE hl) (F.lev tx dp) K)
theorem Ip {b:Bool} {d:Nat} {c:T} (hsf:sf c=false) (hf: ∃x r,wl (pcs b c)=x::r∧Fst c x)
  (h: ∀{tx:List Nat} {ws:List Fv} {n dp:Nat} {l:Int} {f:Fv},ws.length≤1000000→At ws n (wl (pcs b c))→dp+d≤50→Fol prog w ws (n+wn b c) l f→(ile (lv c) 4=true→isK f bE=false)→ile l (lv c)=true→PP prog w (100*d+30) tx ws dp n (node c) (n+wn b c)):PX prog w b d c:=
 ⟨hf,fun _=>fun L ha hd he F hE hl=>(h L ha hd F hE hl).le he,fun h=>absurd h (by rw [hsf]; exact Bool.noConfusion)⟩
theorem PX.up {b:Bool} {d d2:Nat} {c:T} (h:PX prog w b d c) (le:d≤d2):PX prog w b d2 c:=
 ⟨h.fst,fun q=>fun L ha hd he F hE hl=>h.pp q L ha (by omega) (by omega) F hE hl,fun q=>fun L ha hd he F hE hl hs K=>h.pl q L ha (by omega) (by omega) F hE hl hs K⟩
end
end
end MineS
set_option backward.match.sparseCases true
namespace MineS
noncomputable section
open PySem PySem.W PySem.Calls PyProof.Rows
inductive PQ where
 |l (ps:List Pc)
 |a (x y:PQ)
noncomputable def PQ.d:PQ→List Pc
 | .l ps=>ps
 | .a x y=>x.d++y.d
noncomputable def PQ.f:PQ→List Wt→List Wt
 | .l ps,k=>wl ps++k
 | .a x y,k=>x.f (y.f k)
theorem PQ.ok: ∀(e:PQ) (k:List Wt),wl e.d++k=e.f k
 | .l _,_=>rfl
 | .a x y,k=>(congrArg (·++k) (zK x.d y.d)).trans ((List.append_assoc _ _ _).trans ((congrArg (wl x.d++ ·) (y.ok k)).trans (x.ok _)))
theorem PQ.e {l:List Pc} {r:List Wt} (e:PQ) (h1:e.d=l) (h2:e.f []=r):wl l=r:=by
 rw [←h1,←h2,←e.ok,List.append_nil]
noncomputable abbrev It:=List (Sum Wt (List Wt))
noncomputable def iw:It→List Wt
 |[]=>[]
 | .inl x::r=>x::iw r
 | .inr b::r=>b++iw r
noncomputable def il:Nat→It→Nat
 |n,[]=>n
 |n,.inl _::r=>il (n+1) r
 |n,.inr b::r=>il (n+b.length) r
theorem tw: ∀(r:It) (n:Nat),n+(iw r).length=il n r
 |[],_=>rfl
 | .inl _::r,n=>((Nat.add_assoc n 1 _).trans (congrArg (n+ ·) (Nat.add_comm _ _))).symm.trans (tw r (n+1))
 | .inr b::r,n=>((Nat.add_assoc n b.length _).trans (congrArg (n+ ·) List.length_append.symm)).symm.trans (tw r (n+b.length))
section
variable {prog:Program} {w:World} {m:Bool} {d:Nat}
theorem iL {c:T} {y:Wt} {r:It} (k:Nat) (e:PQ) (hsf:sf c=false) (h1:e.d=pcs m c) (h2:e.f []=y::iw r) (hf:Fst c y)
  (h: ∀{tx:List Nat} {ws:List Fv} {n dp:Nat} {l:Int} {f:Fv},ws.length≤1000000→(∃p,nth ws n=some (y.w p))→At ws (n+1) (iw r)→dp+d≤50→Fol prog w ws (il (n+1) r) l f→(ile (lv c) 4=true→isK f bE=false)→ile l (lv c)=true→PP prog w k tx ws dp n (node c) (il (n+1) r)) (hk:k≤100*d+30):PX prog w m d c:=by
 have e0:=e.e h1 h2
 refine Ip hsf ⟨_,_,e0,hf⟩ ?_
 intro tx ws n dp l f L ha hd F hE hl
 have en:n+wn m c=il (n+1) r:=by
  show n+(wl (pcs m c)).length=_
  rw [e0]; exact tw (.inl y::r) n
 rw [en] at F ⊢
 rw [e0] at ha
 exact (h L ha.1 ha.2 hd F hE hl).le hk
theorem jO {x c:T} {r:It} (k:Nat) (e:PQ) (hx:PX prog w m d x) (hsf:sf c=true) (h0:e.d=pcs m c) (h2:e.f []=wl (pcs m x)++iw r) (h11:ile 11 (lv c)=false) (h1:ile (lv c) (lv x)=true)
  (hF: ∀{ws:List Fv} {n:Nat},ws.length≤1000000→At ws n (iw r)→ ∃f,Fol prog w ws n (lv c) f∧isK f bE=false)
  (hO: ∀{tx:List Nat} {ws:List Fv} {n dp:Nat} {l:Int} {f:Fv},ws.length≤1000000→At ws n (iw r)→dp+1+d≤50→Fol prog w ws (il n r) l f→(ile (lv c) 4=true→isK f bE=false)→ile l (lv c)=true→OO prog w k (node x) (lv c) tx ws dp n (node c) (il n r)) (hk:k≤100*d+130):PX prog w m (d+1) c:=by
 refine Io (W:=iw r) hx (Nat.le_succ _) hsf (e.e h0 h2) h11 h1 hF ?_
 intro tx ws n dp e l f L ha hd he F hE hl
 rw [tw] at F ⊢
 exact (hO L ha (by omega) F hE hl).le (by omega)
structure oT (s:List Nat):Prop where
 m:s∈gJ
 l:oN s= .int 0
 e:az s bE=false
theorem PX.xk {x:T} (hx:PX prog w m d x) (h1:ile 1 (lv x)=true) {s:List Nat} (K:oT s) {v:Fv} {tx:List Nat} {ws:List Fv} {n dp:Nat} {r:It} (L:ws.length≤1000000) (ha:At ws n (iw (.inr (wl (pcs m x)):: .inl ⟨an,s,v⟩::r))) (hd:dp+1+d≤50):RR prog w (100*d+70) (ab w.params) [] tx ws dp n (node x) (n+wn m x)∧(∃p,nth ws (n+wn m x)=some (wd an s v p))∧At ws (n+wn m x+1) (iw r):=
 have H:=bn ha
 ⟨hx.x1 (e:=100*d+30) (tx:=tx) (dp:=dp) L H.1 hd (Nat.le_refl _) (gY L K.m H.2.1.choose_spec K.l) K.e h1,H.2⟩
structure BW (s:List Nat):Prop where
 l:xO s= .int 0
 d:az s fO=false
 p:az s ad=false
theorem PX.xs {x:T} (hx:PX prog w m d x) (h1:ile 1 (lv x)=true) {s:List Nat} (K:BW s) {v:Fv} {tx:List Nat} {ws:List Fv} {n dp:Nat} {r:It} (L:ws.length≤1000000) (ha:At ws n (iw (.inr (wl (pcs m x)):: .inl ⟨kq0,s,v⟩::r))) (hd:dp+1+d≤50):RR prog w (100*d+70) (ab w.params) [] tx ws dp n (node x) (n+wn m x)∧(∃p,nth ws (n+wn m x)=some (wd kq0 s v p))∧At ws (n+wn m x+1) (iw r):=
 have H:=bn ha
 ⟨hx.x1 (e:=100*d+30) (tx:=tx) (dp:=dp) L H.1 hd (Nat.le_refl _) (uq L H.2.1.choose_spec K.l K.d K.p) rfl h1,H.2⟩
theorem PX.x5 {x:T} (hx:PX prog w m d x) (h1:ile 5 (lv x)=true) {tx:List Nat} {ws:List Fv} {n dp:Nat} {l:Int} {f:Fv} (L:ws.length≤1000000) (ha:At ws n (wl (pcs m x))) (hd:dp+1+d≤50) (F:Fol prog w ws (n+wn m x) l f) (hE:isK f bE=false) (hl:ile l 4=true):XX prog w (100*d+70) 5 tx ws dp n (node x) (n+wn m x):=
 hx.xe (e:=100*d+30) (least:=5) (tx:=tx) (dp:=dp) L ha hd (Nat.le_refl _) F (fun _=>hE) (fK hl (fK (b:=5) rfl h1)) (fun _=>h1) (tv (by have:=gp hl; omega))
theorem PX.x5k {x:T} (hx:PX prog w m d x) (h1:ile 5 (lv x)=true) {tx:List Nat} {ws:List Fv} {n dp:Nat} {s:List Nat} {v:Fv} {r:It} {lf least:Int} (L:ws.length≤1000000) (ha:At ws n (iw (.inr (wl (pcs m x)):: .inl ⟨an,s,v⟩::r))) (hd:dp+1+d≤50) (hm:s∈gJ) (hlv:oN s= .int lf) (hE:ile (lv x) 4=true→az s bE=false) (hlf:ile lf 5=true) (hle:ile least 5=true) (hlt:ile least lf=false):XX prog w (100*d+70) least tx ws dp n (node x) (n+wn m x)∧(∃p,nth ws (n+wn m x)=some (wd an s v p))∧At ws (n+wn m x+1) (iw r):=
 have H:=bn ha
 ⟨hx.xe (e:=100*d+30) (tx:=tx) (dp:=dp) L H.1 hd (Nat.le_refl _) (gY L hm H.2.1.choose_spec hlv) hE (fK hlf h1) (fun _=>fK hle h1) hlt,H.2⟩
theorem PX.head {b:Bool} {c:T} (h:PX prog w b d c) {ws:List Fv} {n:Nat} (ha:At ws n (wl (pcs b c))): ∃x p,nth ws n=some (x.w p)∧Fst c x:=by
 obtain ⟨x,r,e1,e2⟩:=h.fst
 rw [e1] at ha
 obtain ⟨⟨p,h⟩,_⟩:=ha
 exact ⟨x,p,h,e2⟩
theorem Wt.is (x:Wt) (p:Int):dn (x.w p):=⟨_,_,_,_,rfl⟩
theorem zP {c:T} (h:sf c=true):ile 11 (lv c)=false∧(ile 3 (lv c)=true→ile 4 (lv c)=true):=by
 cases c with
 |bin o x y=>cases o<;>exact ⟨rfl,fun h=>by first|rfl|exact Bool.noConfusion h⟩
 |btw=>exact ⟨rfl,fun _=>rfl⟩
 |inl=>exact ⟨rfl,fun _=>rfl⟩
 |isn=>exact ⟨rfl,fun _=>rfl⟩
 |mat=>exact ⟨rfl,fun _=>rfl⟩
 |col=>exact ⟨rfl,fun _=>rfl⟩
 |_=>exact Bool.noConfusion h
theorem ML {c:T} (h:ile 11 (lv c)=true):sf c=false:=by
 cases hc:sf c with
 |false=>rfl
 |true=>rw [(zP hc).1] at h; cases h
section
variable {l:Lf}
theorem iA {x:Wt} {r:It} {v:Fv} (e:wl (l.pc m)=x::iw r) (en:l.node=v) (hf:Fst (.lf l) x) (h: ∀{tx:List Nat} {ws:List Fv} {n dp:Nat} {f:Fv},ws.length≤1000000→(∃p,nth ws n=some (x.w p))→At ws (n+1) (iw r)→nth ws (il (n+1) r)=some f→dn f→isS f fO=false→isS f ad=false→PP prog w 30 tx ws dp n v (il (n+1) r)):PX prog w m 0 (.lf l):=
 iL (c:= .lf l) 30 (.l (l.pc m)) rfl rfl ((List.append_nil _).trans e) hf (fun L h1 h2 _ F _ _=>show PP prog w 30 _ _ _ _ l.node _ from en.symm▸h L h1 h2 F.nt F.wd F.dot F.par) (Nat.le_refl _)
theorem Iq {t:List Nat} {i:Int} (e:wl (l.pc m)=[⟨eJ,t,.int i⟩]) (en:l.node=ce (.int i)) (hi:ieq i 9223372036854775808=false) (hn:bJ (.lf l)=true):PX prog w m 0 (.lf l):=
 iA (r:=[]) e en ⟨rfl,rfl,rfl,rfl,rfl,rfl,fun _=>rfl,fun h=>Bool.noConfusion (h.symm.trans hn)⟩ fun L ⟨_,h⟩ _ _ _ _ _=>DU L h hi
theorem Ir {t s:List Nat} (e:wl (l.pc m)=[⟨bN,t,.str s⟩]) (en:l.node=ce (.str s)):PX prog w m 0 (.lf l):=
 iA (r:=[]) e en ⟨rfl,rfl,rfl,rfl,rfl,rfl,fun _=>rfl,fun _ _=>rfl⟩ fun L ⟨_,h⟩ _ _ _ _ _=>DV L h
theorem Iu {t:List Nat} {s:Array UInt8} (e:wl (l.pc m)=[⟨gZ,t,.bytes s⟩]) (en:l.node=ce (.bytes s)):PX prog w m 0 (.lf l):=
 iA (r:=[]) e en ⟨rfl,rfl,rfl,rfl,rfl,rfl,fun _=>rfl,fun _ _=>rfl⟩ fun L ⟨_,h⟩ _ _ _ _ _=>DW L h
theorem Iv {t:List Nat} {i:Int} (e:wl (l.pc m)=[⟨dh,t,.int i⟩]) (en:l.node=fj (.int i)):PX prog w m 0 (.lf l):=
 iA (r:=[]) e en ⟨rfl,rfl,rfl,rfl,rfl,rfl,fun _=>rfl,fun _ _=>rfl⟩ fun L ⟨_,h⟩ _ _ _ _ _=>DY L h
theorem EL {v:Fv} (e:wl (l.pc m)=[⟨an,cU,v⟩]) (en:l.node=ce .none):PX prog w m 0 (.lf l):=
 iA (r:=[]) e en ⟨rfl,rfl,rfl,rfl,rfl,rfl,fun _=>rfl,fun _ _=>rfl⟩ fun L ⟨_,h⟩ _ _ _ _ _=>Bm L h
theorem Iw {t:List Nat} {v:Fv} {i j:Int} (e:wl (l.pc m)=[⟨kq0,bF,v⟩,⟨eJ,t,.int i⟩]) (en:l.node=ce (.int j)) (hj:0-i=j):PX prog w m 0 (.lf l):=
 iA (r:=[.inl _]) e en ⟨rfl,rfl,rfl,rfl,rfl,rfl,fun _=>rfl,fun _ _=>rfl⟩ fun L ⟨_,h⟩ h2 _ _ _ _=>hj▸D0 L h h2.1.choose_spec
theorem MM {t:List Nat} {v:Fv} (e:wl (l.pc m)=[⟨an,t,v⟩]) (en:l.node=gn .none v) (o:dK t):PX prog w m 0 (.lf l):=
 iA (r:=[]) e en ⟨o.se,o.va,o.wh,o.di,rfl,rfl,fun _=>o.nt,fun _ _=>rfl⟩ fun L ⟨_,h⟩ _ f1 f2 f3 f4=>Hv L h o f2 f1 f3 f4
theorem Ix {t t2:List Nat} {v v2 v3:Fv} (e:wl (l.pc m)=[⟨an,t,v⟩,⟨kq0,fO,v2⟩,⟨an,t2,v3⟩]) (en:l.node=gn v v3) (o:dK t) (o2:dK t2):PX prog w m 0 (.lf l):=
 iA (r:=[.inl _,.inl _]) e en ⟨o.se,o.va,o.wh,o.di,rfl,rfl,fun _=>o.nt,fun _ _=>rfl⟩ fun L ⟨_,h⟩ h2 _ _ _ _=>D7 L h o h2.1.choose_spec h2.2.1.choose_spec o2
end
theorem yt (l:Lf):PX prog w m 0 (.lf l):=by
 cases l<;>cases m<;>first
  |exact Iq rfl rfl rfl rfl
  |exact Ir rfl rfl
  |exact Iu rfl rfl
  |exact Iv rfl rfl
  |exact EL rfl rfl
  |exact Iw rfl rfl rfl
  |exact MM rfl rfl ⟨rfl,rfl,rfl,rfl,rfl,rfl,rfl,rfl,rfl,rfl,rfl⟩
  |exact Ix rfl rfl ⟨rfl,rfl,rfl,rfl,rfl,rfl,rfl,rfl,rfl,rfl,rfl⟩ ⟨rfl,rfl,rfl,rfl,rfl,rfl,rfl,rfl,rfl,rfl,rfl⟩
theorem yu:BW ac:=⟨rfl,rfl,rfl⟩
theorem MN:BW nW:=⟨rfl,rfl,rfl⟩
theorem ur {x:T} (hx:PX prog w m d x) (h1:ile 1 (lv x)=true):PX prog w m (d+1) (.par x):=by
 refine iL (y:=⟨kq0,ad,.none⟩) (r:=[.inr (wl (pcs m x)),.inl ⟨kq0,ac,.none⟩]) (100*d+100) (.a (.a (.l [.s1 40]) (.l (pcs m x))) (.l [.s1 41])) rfl rfl rfl ⟨rfl,rfl,rfl,rfl,rfl,rfl,fun _=>rfl,fun _ _=>rfl⟩ (fun {tx ws n dp _ _} L ⟨_,a1⟩ ha hd _ _ _=> ?_) (by omega)
 have X:=hx.xs (tx:=tx) (dp:=dp) h1 yu L ha (by omega)
 obtain ⟨y,q,k1,k2⟩:=hx.head (bn ha).1
 exact DZ L a1 (y.is q) k1 k2.se k2.va X.1 X.2.1.choose_spec
theorem Iy:wl [ky m bT ei,.sp]=[⟨an,bT,.str (match m with|true=>bT|false=>ei)⟩]:=by cases m<;>rfl
theorem zQ {x:T} (hx:PX prog w m d x) (h1:ile 3 (lv x)=true) (hN: ∃D fs,node x= .obj D fs∧D∈oO):PX prog w m (d+1) (.una .no x):=by
 refine iL (r:=[.inr (wl (pcs m x))]) (100*d+100) (.a (.l [ky m bT ei,.sp]) (.l (pcs m x))) rfl rfl (congrArg (·++(wl (pcs m x)++[])) Iy) ⟨rfl,rfl,rfl,rfl,rfl,rfl,fun h=>Bool.noConfusion h,fun _ h=>Bool.noConfusion h⟩ (fun {tx ws n dp l f} L ⟨_,a1⟩ a2 hd F hE hl=> ?_) (by omega)
 obtain ⟨D,fs,eN,hD⟩:=hN
 have hx2:=hx.xe (e:=100*d+30) (least:=4) (tx:=tx) (dp:=dp) L (bn a2).1 (by omega) (Nat.le_refl _) F (fun h=>hE rfl) (fK hl h1) (fun h=>(zP h).2 h1) (tv (Int.lt_of_le_of_lt (gp hl) (show (3:Int)<4 by decide)))
 rw [eN] at hx2
 show PP prog w _ tx ws dp n (dJ ei (node x)) _
 rw [eN]
 exact D3 L hD a1 hx2
theorem MQ {o:Uo} (x:T) (ho:du o=false): ∃p,PQ.d (.a (.l p) (.l (pcs m x)))=pcs m (.una o x)∧wl p=[⟨kq0,[o.c],.none⟩]:=by
 cases o<;>first|exact Bool.noConfusion ho|skip
 all_goals
  cases m
  ·exact ⟨_,rfl,rfl⟩
  ·exact ⟨_,rfl,by cases hm x<;>rfl⟩
theorem yv {o:Uo} {x:T} (ho:du o=false):sf (.una o x)=false∧lv (.una o x)=11∧Fst (.una o x) ⟨kq0,[o.c],.none⟩:=by
 cases o<;>first|exact Bool.noConfusion ho|exact ⟨rfl,rfl,rfl,rfl,rfl,rfl,rfl,rfl,fun _=>rfl,fun _ _=>rfl⟩
theorem nQ {x:T} {o:Uo} (hx:PX prog w m d x) (ho:du o=false) (h1:ile 11 (lv x)=true) (hmn:dq o=true→bJ x=false):PX prog w m (d+1) (.una o x):=by
 obtain ⟨P,e1,e2⟩:=MQ (m:=m) x ho
 refine iL (r:=[.inr (wl (pcs m x))]) (100*d+60) _ (yv (x:=x) ho).1 e1 (congrArg (·++(wl (pcs m x)++[])) e2) (yv ho).2.2 (fun {tx ws n dp l f} L ⟨_,a1⟩ a2 hd F hE hl=> ?_) (by omega)
 rw [(yv ho).2.1] at hl
 have hp:=hx.pp (tx:=tx) (dp:=dp+1) (ML h1) L (bn a2).1 (by omega) (Nat.le_refl _) F (fun h=>Bool.noConfusion (h.symm.trans (tv (Int.lt_of_lt_of_le (by decide) (gp h1))))) (fK hl h1)
 obtain ⟨y,q,k1,k2⟩:=hx.head (bn a2).1
 have hdp:ilt 50 (Int.ofNat dp+1)=false:=yr (by omega)
 cases o with
 |no=>exact Bool.noConfusion ho
 |mi=>exact D1 L a1 k1 (k2.nu (hmn rfl) h1) hdp hp
 |pl=>exact vt L (.inl rfl) a1 hdp hp
 |ti=>exact vt L (.inr rfl) a1 hdp hp
section
variable {o:Bo}
noncomputable def BF (prog:Program) (w:World) (m:Bool) (o:Bo):Prop:= ∀{ws:List Fv} {n:Nat} {R:List Wt},ws.length≤1000000→At ws n (wl (o.pc m)++R)→ ∃f,Fol prog w ws n o.lev f∧isK f bE=false
theorem PA {s:List Nat} {v:Fv} {r:List Wt} (e:wl (o.pc m)=⟨kq0,s,v⟩::r) (h:xO s= .int o.lev) (h1:az s fO=false) (h2:az s ad=false):BF prog w m o:=fun L ha=>by
 rw [e] at ha; exact ⟨_,uq L ha.1.choose_spec h h1 h2,rfl⟩
theorem BX {s:List Nat} {v:Fv} {r:List Wt} (e:wl (o.pc m)=⟨an,s,v⟩::r) (hs:s∈gJ) (h:oN s= .int o.lev) (h1:az s bE=false):BF prog w m o:=fun L ha=>by
 rw [e] at ha; exact ⟨_,gY L hs ha.1.choose_spec h,h1⟩
theorem MR:kq2∈gJ:=by decide
theorem zR:kq3∈gJ:=by decide
theorem C4:kq4∈gJ:=by decide
theorem Iz:BF prog w m o:=by
 cases o<;>cases m<;>first
  |exact PA rfl rfl rfl rfl
  |exact BX rfl MR rfl rfl
  |exact BX rfl zR rfl rfl
  |exact BX rfl C4 rfl rfl
noncomputable def BO (prog:Program) (w:World) (m:Bool) (o:Bo):Prop:= ∀{tx:List Nat} {ws:List Fv} {n dp e k:Nat} {x:Fv} {R:List Wt} {left:Fv},ws.length≤1000000→At ws n (wl (o.pc m)++R)→XX prog w e (o.lev+1) tx ws dp (n+(wl (o.pc m)).length) x k→(l7 o=true→d5 x)→(∃y q,nth ws (n+(wl (o.pc m)).length)=some (Wt.w y q)∧(o= .o4→isK (y.w 0) bT=false))→OO prog w (e+30) left o.lev tx ws dp n (fW o.op left x) k
theorem PB {s:List Nat} {v:Fv} (e:wl (o.pc m)=[⟨kq0,s,v⟩]) (h:o.op=s):BO prog w m o:=fun L ha hx _ _=>by
 subst h; rw [e] at ha hx; exact D4 L ha.1.choose_spec hx
theorem PC {v:Fv} (e:wl (o.pc m)=[⟨an,kq2,v⟩]) (h:o.op=tA):BO prog w m o:=fun L ha hx _ _=>by
 rw [e] at ha hx; rw [h]; exact Mx L ha.1.choose_spec hx
theorem PD {v:Fv} (e:wl (o.pc m)=[⟨an,kq3,v⟩]) (h:o.op=tC):BO prog w m o:=fun L ha hx _ _=>by
 rw [e] at ha hx; rw [h]; exact Ht L ha.1.choose_spec hx
theorem PF {v:Fv} (e:wl (Bo.pc .o4 m)=[⟨an,kq4,v⟩]):BO prog w m .o4:=fun L ha hx nn ⟨y,q,k1,k2⟩=>by
 rw [e] at ha hx k1; exact My L ha.1.choose_spec (y.is q) k1 (k2 rfl) (nn rfl) hx
theorem PG {v v2:Fv} (e:wl (Bo.pc .o5 m)=[⟨an,kq4,v⟩,⟨an,bT,v2⟩]):BO prog w m .o5:=fun L ha hx nn _=>by
 rw [e] at ha hx; exact Bn L ha.1.choose_spec ha.2.1.choose_spec (nn rfl) hx
theorem MS:BO prog w m o:=by
 cases o<;>cases m<;>first
  |exact PB rfl rfl
  |exact PC rfl rfl
  |exact PD rfl rfl
  |exact PF rfl
  |exact PG rfl
end
theorem C5 (o:Bo):ile 11 o.lev=false:=by cases o<;>rfl
theorem zS {o:Bo} {x y:T} (hx:PX prog w m d x) (hy:PX prog w m d y) (h1:ile o.lev (lv x)=true) (h2:ile (o.lev+1) (lv y)=true) (nn:l7 o=true→d5 (node y)):PX prog w m (d+1) (.bin o x y):=by
 refine jO (r:=[.inr (wl (o.pc m)),.inr (wl (pcs m y))]) (100*d+100) (.a (.a (.l (pcs m x)) (.a (.a (.l [.sp]) (.l (o.pc m))) (.l [.sp]))) (.l (pcs m y))) hx rfl rfl rfl (C5 o) h1 (fun L ha=>Iz L ha) (fun {tx ws n dp l f} L ha hd F hE hl=> ?_) (by omega)
 replace hl:ile l o.lev=true:=hl
 have a2:=(bn (bn ha).2).1
 obtain ⟨z,q,k1,k2⟩:=hy.head a2
 have ll:=gp hl
 have l2:=gp h2
 refine MS (e:=100*d+30+40) L ha (hy.xe L a2 hd (Nat.le_refl _) F (fun h=>hE (jN ?_)) (jN (by omega)) (fun _=>h2) (tv (by omega))) nn ⟨z,q,k1,fun e=>k2.nt (jN ?_)⟩
 ·show o.lev≤4; have:=gp h; omega
 ·subst e; exact Int.le_trans (by decide) l2
noncomputable def NgK (s:List Nat):Prop:=s∈[kq5,kq6,kq7,kq8]∧s∈gJ∧oN s= .int 4∧az s bE=false
theorem yw:NgK kq5:=⟨by decide,by decide,rfl,rfl⟩
theorem MT:NgK kq6:=⟨by decide,by decide,rfl,rfl⟩
theorem MU:NgK kq7:=⟨by decide,by decide,rfl,rfl⟩
theorem MV:NgK kq8:=⟨by decide,by decide,rfl,rfl⟩
theorem iT {g:Bool} {ws:List Fv} {n:Nat} {s:List Nat} {v:Fv} {r:It} (L:ws.length≤1000000) (hs:NgK s) (ha:At ws n (iw (.inr (wl (ngP g)):: .inl ⟨an,s,v⟩::r))): ∃f,Fol prog w ws n 4 f∧isK f bE=false:=by
 cases g
 ·exact ⟨_,gY L hs.2.1 ha.1.choose_spec hs.2.2.1,hs.2.2.2⟩
 ·exact ⟨_,EK L hs.1 ha.1.choose_spec ha.2.1.choose_spec,rfl⟩
theorem zT {g:Bool} {x:T} (hx:PX prog w m d x) (h1:ile 4 (lv x)=true):PX prog w m (d+1) (.isn g x):=by
 refine jO (r:=[.inl ⟨an,kq4,.str kq4⟩,.inr (wl (ngP g)),.inr [⟨an,cU,.str cU⟩]]) (100*d+100) (.a (.l (pcs m x)) (.a (.a (.l [.sp,kw kq4]) (.l (ngP g))) (.l [kw cU]))) hx rfl rfl rfl rfl h1 (fun L ha=>⟨_,gY L C4 ha.1.choose_spec rfl,rfl⟩) (fun {tx ws n dp l f} L ha hd F hE hl=> ?_) (by omega)
 have lf:ile l 4=true:=hl
 have e0:[⟨an,cU,.str cU⟩]=wl (pcs m (.lf .null)):=by cases m<;>rfl
 rw [e0] at ha F ⊢
 have a3:=(bn (bn ha.2).2).1
 have hn:=((yt (prog:=prog) (w:=w) (m:=m) .null).up (Nat.zero_le d)).x5 (tx:=tx) (dp:=dp) rfl L a3 hd F (hE rfl) lf
 cases g
 ·exact zj L ha.1.choose_spec ⟨_,_,_,_,rfl⟩ (e0▸a3).1.choose_spec rfl hn
 ·exact uc L ha.1.choose_spec ha.2.1.choose_spec hn
theorem IA:kq9∈gJ:=by decide
theorem zU {x:T} (hx:PX prog w m d x) (h1:ile 10 (lv x)=true):PX prog w m (d+1) (.col x):=
 jO (r:=[.inl ⟨an,kq9,.str kq9⟩,.inl ⟨an,kP,.str d9⟩]) 30 (.a (.l (pcs m x)) (.l [.sp,kw kq9,.sp,.nm d9 kP])) hx rfl rfl rfl rfl h1 (fun L ha=>⟨_,gY L IA ha.1.choose_spec rfl,rfl⟩) (fun L ha _ _ _ _=>Hu L ha.1.choose_spec ⟨rfl,rfl,rfl,rfl,rfl,rfl,rfl,rfl,rfl,rfl,rfl⟩ ha.2.1.choose_spec) (by omega)
theorem zV {g:Bool} {x y z:T} (hx:PX prog w m d x) (hy:PX prog w m d y) (hz:PX prog w m d z) (h1:ile 4 (lv x)=true) (h2:ile 5 (lv y)=true) (h3:ile 5 (lv z)=true):PX prog w m (d+1) (.btw g x y z):=by
 refine jO (r:=[.inr (wl (ngP g)),.inl ⟨an,kq8,.str kq8⟩,.inr (wl (pcs m y)),.inl ⟨an,kq3,.str kq3⟩,.inr (wl (pcs m z))]) (100*d+100) (.a (.a (.a (.a (.l (pcs m x)) (.a (.l (ngP g)) (.l [kw kq8,.sp]))) (.l (pcs m y))) (.l [.sp,kw kq3,.sp])) (.l (pcs m z))) hx rfl rfl rfl rfl h1 (fun L ha=>iT L MV ha) (fun {tx ws n dp l f} L ha hd F hE hl=> ?_) (by omega)
 have H:=hy.x5k (least:=4) (tx:=tx) (dp:=dp) h2 L (bn ha).2.2 hd zR rfl (fun _=>rfl) rfl rfl rfl
 have rz:=hz.x5 (tx:=tx) (dp:=dp) h3 L (bn H.2.2).1 hd F (hE rfl) hl
 cases g
 ·exact Bp L ha.1.choose_spec H.1 H.2.1.choose_spec rz
 ·exact Bu L ha.1.choose_spec ha.2.1.choose_spec H.1 H.2.1.choose_spec rz
theorem zW {g:Bool} {x:T} (hx:PX prog w m d x) (h1:ile 4 (lv x)=true):PX prog w m (d+1) (.inl g x .nil):=by
 refine jO (r:=[.inr (wl (ngP g)),.inl ⟨an,kq5,.str kq5⟩,.inl ⟨kq0,ad,.none⟩,.inl ⟨kq0,ac,.none⟩]) 30 (.a (.a (.a (.l (pcs m x)) (.a (.l (ngP g)) (.l [kw kq5,.sp,.s1 40]))) (.l [])) (.l [.s1 41])) hx rfl rfl rfl rfl h1 (fun L ha=>iT L yw ha) (fun {tx ws n dp l f} L ha hd F hE hl=> ?_) (by omega)
 cases g
 ·exact Bq L ha.1.choose_spec ha.2.1.choose_spec ha.2.2.1.choose_spec
 ·exact Bv L ha.1.choose_spec ha.2.1.choose_spec ha.2.2.1.choose_spec ha.2.2.2.1.choose_spec
theorem IB {y:T} (hy:PX prog w m d y) (h2:ile 1 (lv y)=true) {tx:List Nat} {ws:List Fv} {n dp:Nat} {r:It} (L:ws.length≤1000000) (ha:At ws n (iw (.inr (wl (pcs m y)):: .inl ⟨kq0,ac,.none⟩::r))) (hd:dp+1+d≤50):RR prog w (100*d+90) (aI w.params) [] tx ws dp n (.list [node y]) (n+wn m y)∧ ∃p,nth ws (n+wn m y)=some (wd kq0 ac .none p):=
 have H:=hy.xs (tx:=tx) (dp:=dp) h2 yu L ha hd
 ⟨Pm L H.1 ⟨_,_,_,_,rfl⟩ H.2.1.choose_spec rfl,H.2.1⟩
theorem IC {y z:T} (hy:PX prog w m d y) (hz:PX prog w m d z) (h2:ile 1 (lv y)=true) (h3:ile 1 (lv z)=true) {tx:List Nat} {ws:List Fv} {n dp:Nat} {r:It} (L:ws.length≤1000000) (ha:At ws n (iw (.inr (wl (pcs m y)):: .inl ⟨kq0,nW,.none⟩:: .inr (wl (pcs m z)):: .inl ⟨kq0,ac,.none⟩::r))) (hd:dp+1+d≤50):RR prog w (100*d+90) (aI w.params) [] tx ws dp n (.list [node y,node z]) (n+wn m y+1+wn m z)∧ ∃p,nth ws (n+wn m y+1+wn m z)=some (wd kq0 ac .none p):=
 have H:=hy.xs (tx:=tx) (dp:=dp) h2 MN L ha hd
 have H2:=hz.xs (tx:=tx) (dp:=dp) h3 yu L H.2.2 hd
 ⟨Pn L H.1 H.2.1.choose_spec H2.1 ⟨_,_,_,_,rfl⟩ H2.2.1.choose_spec rfl,H2.2.1⟩
theorem vB {g:Bool} {tx:List Nat} {ws:List Fv} {n dp e:Nat} {left:Fv} {l:Int} {v v2 v3:Fv} {xs:List Fv} {mm:Nat} {r:It} (L:ws.length≤1000000) (ha:At ws n (iw (.inr (wl (ngP g)):: .inl ⟨an,kq5,v⟩:: .inl ⟨kq0,ad,v2⟩::r))) {c:T} {x:Wt} {q:Int} (k2:Fst c x) (h4:nth ws (n+(wl (ngP g)).length+1+1)=some (x.w q)) (hx:RR prog w e (aI w.params) [] tx ws dp (n+(wl (ngP g)).length+1+1) (.list xs) mm) (h3: ∃p,nth ws mm=some (wd kq0 ac v3 p)):OO prog w (e+30) left l tx ws dp n (fX left xs g) (mm+1):=by
 cases g
 ·exact D5 L ha.1.choose_spec ha.2.1.choose_spec (x.is q) h4 k2.se k2.va k2.cl hx h3.choose_spec
 ·exact D6 L ha.1.choose_spec ha.2.1.choose_spec ha.2.2.1.choose_spec (x.is q) h4 k2.se k2.va k2.cl hx h3.choose_spec
theorem zX {g:Bool} {x y:T} (hx:PX prog w m d x) (hy:PX prog w m d y) (h1:ile 4 (lv x)=true) (h2:ile 1 (lv y)=true):PX prog w m (d+1) (.inl g x (.cons y .nil)):=by
 refine jO (r:=[.inr (wl (ngP g)),.inl ⟨an,kq5,.str kq5⟩,.inl ⟨kq0,ad,.none⟩,.inr (wl (pcs m y)),.inl ⟨kq0,ac,.none⟩]) (100*d+120) (.a (.a (.a (.l (pcs m x)) (.a (.l (ngP g)) (.l [kw kq5,.sp,.s1 40]))) (.a (.l (pcs m y)) (.l []))) (.l [.s1 41])) hx rfl rfl rfl rfl h1 (fun L ha=>iT L yw ha) (fun {tx ws n dp l f} L ha hd F hE hl=> ?_) (by omega)
 have a:=(bn ha).2.2.2
 have H:=IB (tx:=tx) (dp:=dp) hy h2 L a hd
 obtain ⟨u,q,k1,k2⟩:=hy.head (bn a).1
 exact vB L ha k2 k1 H.1 H.2
theorem zY {g:Bool} {x y z:T} (hx:PX prog w m d x) (hy:PX prog w m d y) (hz:PX prog w m d z) (h1:ile 4 (lv x)=true) (h2:ile 1 (lv y)=true) (h3:ile 1 (lv z)=true):PX prog w m (d+1) (.inl g x (.cons y (.cons z .nil))):=by
 refine jO (r:=[.inr (wl (ngP g)),.inl ⟨an,kq5,.str kq5⟩,.inl ⟨kq0,ad,.none⟩,.inr (wl (pcs m y)),.inl ⟨kq0,nW,.none⟩,.inr (wl (pcs m z)),.inl ⟨kq0,ac,.none⟩]) (100*d+120) (.a (.a (.a (.l (pcs m x)) (.a (.l (ngP g)) (.l [kw kq5,.sp,.s1 40]))) (.a (.l (pcs m y)) (.a (.l [.s1 44,.sp]) (.a (.l (pcs m z)) (.l []))))) (.l [.s1 41])) hx rfl rfl rfl rfl h1 (fun L ha=>iT L yw ha) (fun {tx ws n dp l f} L ha hd F hE hl=> ?_) (by omega)
 have a:=(bn ha).2.2.2
 have H:=IC (tx:=tx) (dp:=dp) hy hz h2 h3 L a hd
 obtain ⟨u,q,k1,k2⟩:=hy.head (bn a).1
 exact vB L ha k2 k1 H.1 H.2
noncomputable def maW (m k:Bool):Wt:=⟨an,maU k,.str (match m with|true=>maU k|false=>maN k)⟩
theorem C6 (k:Bool):NgK (maU k):=by
 cases k
 ·exact MU
 ·exact MT
theorem tz (k:Bool):maU k=kq6∧maN k=jX∨maU k=kq7∧maN k=jY:=by
 cases k
 ·exact .inr ⟨rfl,rfl⟩
 ·exact .inl ⟨rfl,rfl⟩
theorem C7 (k:Bool):wl [f5 m k,.sp]=[maW m k]:=by cases k<;>cases m<;>rfl
theorem zZ {k g:Bool} {x y:T} (hx:PX prog w m d x) (hy:PX prog w m d y) (h1:ile 4 (lv x)=true) (h2:ile 5 (lv y)=true):PX prog w m (d+1) (.mat k g x y .none):=by
 refine jO (r:=[.inr (wl (ngP g)),.inl (maW m k),.inr (wl (pcs m y))]) (100*d+100) (.a (.a (.a (.l (pcs m x)) (.a (.l (ngP g)) (.l [f5 m k,.sp]))) (.l (pcs m y))) (.l [])) hx rfl rfl (congrArg (fun z=>wl (pcs m x)++(wl (ngP g)++(z++(wl (pcs m y)++[])))) (C7 k)) rfl h1 (fun L ha=>iT L (C6 k) ha) (fun {tx ws n dp l f} L ha hd F hE hl=> ?_) (by omega)
 have ry:=hy.x5 (tx:=tx) (dp:=dp) h2 L (bn (bn ha).2.2).1 hd F (hE rfl) hl
 cases g
 ·exact Br L (tz k) ha.1.choose_spec ry F.wd F.nt (hE rfl)
 ·exact Bw L (tz k) ha.1.choose_spec ha.2.1.choose_spec ry F.wd F.nt (hE rfl)
theorem ID:bE∈gJ:=by decide
theorem IE {a:Int} {p:Prop} (h:ile 5 a=true) (h2:ile a 4=true):p:=by
 have:=gp h; have:=gp h2; omega
theorem z7 {k g:Bool} {x y z:T} (hx:PX prog w m d x) (hy:PX prog w m d y) (hz:PX prog w m d z) (h1:ile 4 (lv x)=true) (h2:ile 5 (lv y)=true) (h3:ile 5 (lv z)=true) (nz:a9 z=false):PX prog w m (d+1) (.mat k g x y z):=by
 refine jO (r:=[.inr (wl (ngP g)),.inl (maW m k),.inr (wl (pcs m y)),.inl ⟨an,bE,.str bE⟩,.inr (wl (pcs m z))]) (100*d+100) (.a (.a (.a (.l (pcs m x)) (.a (.l (ngP g)) (.l [f5 m k,.sp]))) (.l (pcs m y))) (.a (.l [.sp,kw bE,.sp]) (.l (pcs m z)))) hx rfl ?_ (congrArg (fun q=>wl (pcs m x)++(wl (ngP g)++(q++(wl (pcs m y)++(⟨an,bE,.str bE⟩::(wl (pcs m z)++[])))))) (C7 k)) rfl h1 (fun L ha=>iT L (C6 k) ha) (fun {tx ws n dp l f} L ha hd F hE hl=> ?_) (by omega)
 ·show _=pcs m x++(ngP g++[f5 m k,.sp])++pcs m y++(match a9 z with|true=>[]|false=>[.sp,kw bE,.sp]++pcs m z)
  rw [nz]; rfl
 have H:=hy.x5k (least:=5) (tx:=tx) (dp:=dp) h2 L (bn ha).2.2 hd ID rfl (IE h2) rfl rfl rfl
 have rz:=hz.x5 (tx:=tx) (dp:=dp) h3 L (bn H.2.2).1 hd F (hE rfl) hl
 cases g
 ·exact Bs L (tz k) ha.1.choose_spec H.1 H.2.1.choose_spec rz
 ·exact Bx L (tz k) ha.1.choose_spec ha.2.1.choose_spec H.1 H.2.1.choose_spec rz
end
end
end MineS
namespace MineS
noncomputable section
open PySem PySem.W PySem.Calls PyProof.Rows
noncomputable def kwd (s:List Nat):Wt:=⟨an,s,.str s⟩
noncomputable def sgn (c:Nat):Wt:=⟨kq0,[c],.none⟩
section
variable {prog:Program} {w:World} {m:Bool} {d:Nat}
theorem jP {c:T} {v:Fv} {t:List Nat} (o:dK t):Fst c ⟨an,t,v⟩:=
 ⟨o.se,o.va,o.wh,o.di,rfl,rfl,fun _=>o.nt,fun _ _=>rfl⟩
theorem MW:oT gz:=⟨by decide,rfl,rfl⟩
theorem fz:oT aQ:=⟨by decide,rfl,rfl⟩
theorem dB:oT aZ:=⟨by decide,rfl,rfl⟩
theorem lk:oT bK:=⟨by decide,rfl,rfl⟩
theorem gw:oT bm:=⟨by decide,rfl,rfl⟩
theorem MX {k:Bool} {tx:List Nat} {ws:List Fv} {n dp:Nat} {v:Fv} {r:It} (L:ws.length≤1000000) (ha:At ws n (iw (.inr (wl (tyP m k)):: .inl ⟨kq0,ac,v⟩::r))):TY prog w tx ws dp n (tyN k) (n+(wl (tyP m k)).length):=by
 have c2:=(bn ha).2.1.choose_spec
 cases k<;>cases m
 ·exact pk L ha.1.choose_spec ⟨rfl,rfl,rfl,rfl,rfl,rfl,rfl,rfl,rfl,rfl,rfl⟩ ha.2.1.choose_spec ⟨rfl,rfl,rfl,rfl,rfl,rfl,rfl,rfl,rfl,rfl,rfl⟩ c2
 ·exact pk L ha.1.choose_spec ⟨rfl,rfl,rfl,rfl,rfl,rfl,rfl,rfl,rfl,rfl,rfl⟩ ha.2.1.choose_spec ⟨rfl,rfl,rfl,rfl,rfl,rfl,rfl,rfl,rfl,rfl,rfl⟩ c2
 ·exact xP (v5:= .none) (p5:=0) L ha.1.choose_spec ⟨rfl,rfl,rfl,rfl,rfl,rfl,rfl,rfl,rfl,rfl,rfl⟩ ha.2.1.choose_spec ha.2.2.1.choose_spec ha.2.2.2.1.choose_spec
 ·exact zo L ha.1.choose_spec ⟨rfl,rfl,rfl,rfl,rfl,rfl,rfl,rfl,rfl,rfl,rfl⟩ c2
theorem z9 {k:Bool} {x:T} (hx:PX prog w m d x) (h1:ile 1 (lv x)=true):PX prog w m (d+1) (.cst k x):=by
 refine iL (y:=kwd fM) (r:=[.inl (sgn 40),.inr (wl (pcs m x)),.inl (kwd gz),.inr (wl (tyP m k)),.inl (sgn 41)]) (100*d+110) (.a (.a (.a (.a (.l (match m with|true=>[kw fM,.s1 40]|false=>[kw fM,.sp,.s1 40])) (.l (pcs m x))) (.l [.sp,kw gz,.sp])) (.l (tyP m k))) (.l [.s1 41])) rfl (by cases m<;>rfl) ?_ ⟨rfl,rfl,rfl,rfl,rfl,rfl,fun _=>rfl,fun _ _=>rfl⟩ (fun {tx ws n dp l f} L ⟨_,a1⟩ ha hd _ _ _=> ?_) (by omega)
 ·cases m<;>rfl
 have X:=hx.xk (tx:=tx) (dp:=dp) h1 MW L ha.2 (by omega)
 exact Bz L a1 ha.1.choose_spec X.1 X.2.1.choose_spec (MX L X.2.2) (bn X.2.2).2.1.choose_spec
theorem PH: ∃t,wl [Fo.pc m .f]=[⟨an,t,.str d7⟩]∧dK t:=by
 cases m<;>exact ⟨_,rfl,⟨rfl,rfl,rfl,rfl,rfl,rfl,rfl,rfl,rfl,rfl,rfl⟩⟩
theorem IF: ∃t,wl [Fo.pc m .max]=[⟨an,t,.str d8⟩]∧dK t:=by
 cases m<;>exact ⟨_,rfl,⟨rfl,rfl,rfl,rfl,rfl,rfl,rfl,rfl,rfl,rfl,rfl⟩⟩
theorem BY: ∃t,wl [Fo.pc m .count]=[⟨an,t,.str eA⟩]∧dK t:=by
 cases m<;>exact ⟨_,rfl,⟨rfl,rfl,rfl,rfl,rfl,rfl,rfl,rfl,rfl,rfl,rfl⟩⟩
theorem yx: ∃t,wl [Fo.pc m .replace]=[⟨an,t,.str kN⟩]∧dK t:=by
 cases m<;>exact ⟨_,rfl,⟨rfl,rfl,rfl,rfl,rfl,rfl,rfl,rfl,rfl,rfl,rfl⟩⟩
theorem C8 {x y:T} (hx:PX prog w m d x) (hy:PX prog w m d y) (h1:ile 1 (lv x)=true) (h2:ile 1 (lv y)=true):PX prog w m (d+1) (.cal .f (.cons x (.cons y .nil))):=by
 obtain ⟨t,t1,t2⟩:=PH (m:=m)
 refine iL (r:=[.inl (sgn 40),.inr (wl (pcs m x)),.inl (sgn 44),.inr (wl (pcs m y)),.inl (sgn 41)]) (100*d+120) (.a (.a (.a (.a (.l [Fo.pc m .f]) (.l [.s1 40])) (.l [])) (.a (.l (pcs m x)) (.a (.l [.s1 44,.sp]) (.a (.l (pcs m y)) (.l []))))) (.l [.s1 41])) rfl rfl (congrArg (·++_) t1) (jP t2) (fun {tx ws n dp l f} L ⟨_,a1⟩ ha hd _ _ _=> ?_) (by omega)
 have H:=IC (tx:=tx) (dp:=dp) hx hy h1 h2 L ha.2 (by omega)
 obtain ⟨u,q,k1,k2⟩:=hx.head (bn ha.2).1
 exact By L a1 t2 ha.1.choose_spec (u.is q) k1 k2.st k2.di k2.cl H.1 H.2.choose_spec
theorem C9 {x:T} (hx:PX prog w m d x) (h1:ile 1 (lv x)=true):PX prog w m (d+1) (.cal .max (.cons x .nil)):=by
 obtain ⟨t,t1,t2⟩:=IF (m:=m)
 refine iL (r:=[.inl (sgn 40),.inl (kwd gC),.inr (wl (pcs m x)),.inl (sgn 41)]) (100*d+120) (.a (.a (.a (.a (.l [Fo.pc m .max]) (.l [.s1 40])) (.l [kw gC,.sp])) (.a (.l (pcs m x)) (.l []))) (.l [.s1 41])) rfl rfl (congrArg (·++_) t1) (jP t2) (fun {tx ws n dp l f} L ⟨_,a1⟩ ha hd _ _ _=> ?_) (by omega)
 have H:=IB (tx:=tx) (dp:=dp) hx h1 L ha.2.2 (by omega)
 exact zn L a1 t2 ha.1.choose_spec ha.2.1.choose_spec H.1 H.2.choose_spec
theorem Da:PX prog w m 0 (.cal .count .nil):=by
 obtain ⟨t,t1,t2⟩:=BY (m:=m)
 exact iL (r:=[.inl (sgn 40),.inl (sgn 42),.inl (sgn 41)]) 30 (.a (.l [Fo.pc m .count]) (.l [.s1 40,.s1 42,.s1 41])) rfl rfl (congrArg (·++_) t1) (jP t2) (fun L h ha hd _ _ _=>zl L h.choose_spec t2 ha.1.choose_spec ha.2.1.choose_spec ha.2.2.1.choose_spec) (Nat.le_refl _)
theorem Db:PX prog w m 0 (.cal .replace .nil):=by
 obtain ⟨t,t1,t2⟩:=yx (m:=m)
 exact iL (r:=[.inl (sgn 40),.inl (sgn 41)]) 30 (.a (.l [Fo.pc m .replace]) (.l [.s1 40,.s1 41])) rfl rfl (congrArg (·++_) t1) (jP t2) (fun L h ha hd _ _ _=>zk L h.choose_spec t2 ha.1.choose_spec ha.2.1.choose_spec) (Nat.le_refl _)
noncomputable abbrev Seg:=List (List Nat×T)
noncomputable def sgI (m:Bool):Seg→It
 |[]=>[.inl (kwd bm)]
 |(k,x)::r=> .inl (kwd k):: .inr (wl (pcs m x))::sgI m r
noncomputable def sgP (m:Bool):Seg→PQ
 |[]=> .l [.sp,kw bm]
 |(k,x)::r=> .a (.l [.sp,kw k,.sp]) (.a (.l (pcs m x)) (sgP m r))
theorem BZ: ∀r:Seg,(sgP m r).f []=iw (sgI m r)
 |[]=>rfl
 |(k,x)::r=>congrArg (fun z=>kwd k::(wl (pcs m x)++z)) (BZ r)
theorem dY {x y z:T} {r r2:Seg} (h:pcs m z++(sgP m r).d=(sgP m r2).d):pcs m (.con2 x y z)++(sgP m r).d=(sgP m ((aQ,x)::(aZ,y)::r2)).d:=by
 show ([.sp,kw aQ,.sp]++pcs m x++[.sp,kw aZ,.sp]++pcs m y++pcs m z)++_=_
 simp only [List.append_assoc]
 rw [h]; rfl
theorem nR {o:T} (no:a9 o=false):(match a9 o with|true=>[]|false=>[.sp,kw bK,.sp]++pcs m o)++(sgP m []).d=(sgP m [(bK,o)]).d:=by
 rw [no]; exact List.append_assoc _ _ _
theorem iB {c:T} {l:It} (hs:sf c=false) (hf:Fst c (kwd aj)) (e0: ∃P:PQ,P.d=pcs m c∧P.f []=kwd aj::iw l) (h: ∀{tx:List Nat} {ws:List Fv} {n dp:Nat},ws.length≤1000000→(∃p,nth ws n=some ((kwd aj).w p))→At ws (n+1) (iw l)→dp+1+d≤50→PP prog w (100*d+100) tx ws dp n (node c) (il (n+1) l)):PX prog w m (d+1) c:=by
 obtain ⟨P,e1,e2⟩:=e0
 exact iL (100*d+100) P hs e1 e2 hf (fun L h1 ha hd _ _ _=>h L h1 ha (by omega)) (by omega)
noncomputable def csP (m:Bool):List Pc:=match m with
 |true=>[kw aj]
 |false=>[kw aj,.sp]
theorem IG:wl (csP m)=[kwd aj]:=by cases m<;>rfl
theorem nS {ws o:T} {r r2:Seg} (h1:(match a9 o with|true=>[]|false=>[.sp,kw bK,.sp]++pcs m o)++(sgP m []).d=(sgP m r).d) (h2:pcs m ws++(sgP m r).d=(sgP m r2).d): ∃P:PQ,P.d=pcs m (.cas .none ws o)∧P.f []=kwd aj::iw (sgI m r2):=by
 refine ⟨.a (.l (csP m)) (sgP m r2),?_,(congrArg (·++PQ.f (sgP m r2) []) IG).trans (congrArg (kwd aj:: ·) (BZ r2))⟩
 show csP m++(sgP m r2).d=_
 rw [←h2,←h1]
 cases m<;>exact (congrArg _ (List.append_assoc _ _ _).symm).trans ((List.append_assoc _ _ _).symm.trans (congrArg (·++_) (List.append_assoc _ _ _).symm))
theorem nT {b ws o:T} {r r2:Seg} (nb:a9 b=false) (h1:(match a9 o with|true=>[]|false=>[.sp,kw bK,.sp]++pcs m o)++(sgP m []).d=(sgP m r).d) (h2:pcs m ws++(sgP m r).d=(sgP m r2).d): ∃P:PQ,P.d=pcs m (.cas b ws o)∧P.f []=kwd aj::iw (.inr (wl (pcs m b))::sgI m r2):=by
 refine ⟨.a (.a (.l [kw aj,.sp]) (.l (pcs m b))) (sgP m r2),?_,congrArg (fun z=>kwd aj::(wl (pcs m b)++z)) (BZ r2)⟩
 cases m
 ·show [kw aj,.sp]++pcs false b++(sgP false r2).d=_
  rw [←h2,←h1]
  exact (congrArg _ (List.append_assoc _ _ _).symm).trans ((List.append_assoc _ _ _).symm.trans (congrArg (·++_) (List.append_assoc _ _ _).symm))
 ·show [kw aj,.sp]++pcs true b++(sgP true r2).d=(match a9 b with|true=>[kw aj]|false=>[kw aj,.sp]++pcs true b)++pcs true ws++(match a9 o with|true=>[]|false=>[.sp,kw bK,.sp]++pcs true o)++[.sp,kw bm]
  rw [←h2,←h1,nb]
  exact (congrArg _ (List.append_assoc _ _ _).symm).trans ((List.append_assoc _ _ _).symm.trans (congrArg (·++_) (List.append_assoc _ _ _).symm))
theorem fC {b ws o:T}:Fst (.cas b ws o) (kwd aj):=⟨rfl,rfl,rfl,rfl,rfl,rfl,fun _=>rfl,fun _ _=>rfl⟩
theorem pt {x y:T} (hx:PX prog w m d x) (gx:ile 1 (lv x)=true) (hy:PX prog w m d y) (gy:ile 1 (lv y)=true):PX prog w m (d+1) (.cas .none (.con2 x y .nil) .none):=by
 refine iB rfl fC (nS (r:=[]) (rfl) (dY rfl)) (fun {tx ws n dp} L ⟨_,k0⟩ ha hd=> ?_)
 have X':=hx.xk (tx:=tx) (dp:=dp) gx dB L ha.2 hd
 have Y':=hy.xk (tx:=tx) (dp:=dp) gy gw L X'.2.2 hd
 exact uL L k0 ha.1.choose_spec X'.1 X'.2.1.choose_spec Y'.1 Y'.2.1.choose_spec
theorem pu {x y o:T} (hx:PX prog w m d x) (gx:ile 1 (lv x)=true) (hy:PX prog w m d y) (gy:ile 1 (lv y)=true) (ho:PX prog w m d o) (go:ile 1 (lv o)=true) (no:a9 o=false):PX prog w m (d+1) (.cas .none (.con2 x y .nil) o):=by
 refine iB rfl fC (nS (r:=[(bK,o)]) (nR no) (dY rfl)) (fun {tx ws n dp} L ⟨_,k0⟩ ha hd=> ?_)
 have X':=hx.xk (tx:=tx) (dp:=dp) gx dB L ha.2 hd
 have Y':=hy.xk (tx:=tx) (dp:=dp) gy lk L X'.2.2 hd
 have O':=ho.xk (tx:=tx) (dp:=dp) go gw L Y'.2.2 hd
 exact uM L k0 ha.1.choose_spec X'.1 X'.2.1.choose_spec Y'.1 Y'.2.1.choose_spec O'.1 O'.2.1.choose_spec
theorem pv {x y u v:T} (hx:PX prog w m d x) (gx:ile 1 (lv x)=true) (hy:PX prog w m d y) (gy:ile 1 (lv y)=true) (hu:PX prog w m d u) (gu:ile 1 (lv u)=true) (hv:PX prog w m d v) (gv:ile 1 (lv v)=true):PX prog w m (d+1) (.cas .none (.con2 x y (.con2 u v .nil)) .none):=by
 refine iB rfl fC (nS (r:=[]) (rfl) (dY (dY rfl))) (fun {tx ws n dp} L ⟨_,k0⟩ ha hd=> ?_)
 have X':=hx.xk (tx:=tx) (dp:=dp) gx dB L ha.2 hd
 have Y':=hy.xk (tx:=tx) (dp:=dp) gy fz L X'.2.2 hd
 have U':=hu.xk (tx:=tx) (dp:=dp) gu dB L Y'.2.2 hd
 have V':=hv.xk (tx:=tx) (dp:=dp) gv gw L U'.2.2 hd
 exact uN L k0 ha.1.choose_spec X'.1 X'.2.1.choose_spec Y'.1 Y'.2.1.choose_spec U'.1 U'.2.1.choose_spec V'.1 V'.2.1.choose_spec
theorem pw {x y u v o:T} (hx:PX prog w m d x) (gx:ile 1 (lv x)=true) (hy:PX prog w m d y) (gy:ile 1 (lv y)=true) (hu:PX prog w m d u) (gu:ile 1 (lv u)=true) (hv:PX prog w m d v) (gv:ile 1 (lv v)=true) (ho:PX prog w m d o) (go:ile 1 (lv o)=true) (no:a9 o=false):PX prog w m (d+1) (.cas .none (.con2 x y (.con2 u v .nil)) o):=by
 refine iB rfl fC (nS (r:=[(bK,o)]) (nR no) (dY (dY rfl))) (fun {tx ws n dp} L ⟨_,k0⟩ ha hd=> ?_)
 have X':=hx.xk (tx:=tx) (dp:=dp) gx dB L ha.2 hd
 have Y':=hy.xk (tx:=tx) (dp:=dp) gy fz L X'.2.2 hd
 have U':=hu.xk (tx:=tx) (dp:=dp) gu dB L Y'.2.2 hd
 have V':=hv.xk (tx:=tx) (dp:=dp) gv lk L U'.2.2 hd
 have O':=ho.xk (tx:=tx) (dp:=dp) go gw L V'.2.2 hd
 exact uO L k0 ha.1.choose_spec X'.1 X'.2.1.choose_spec Y'.1 Y'.2.1.choose_spec U'.1 U'.2.1.choose_spec V'.1 V'.2.1.choose_spec O'.1 O'.2.1.choose_spec
theorem px {b x y:T} (hb:PX prog w m d b) (gb:ile 1 (lv b)=true) (hx:PX prog w m d x) (gx:ile 1 (lv x)=true) (hy:PX prog w m d y) (gy:ile 1 (lv y)=true) (nb:a9 b=false):PX prog w m (d+1) (.cas b (.con2 x y .nil) .none):=by
 refine iB rfl fC (nT nb (r:=[]) (rfl) (dY rfl)) (fun {tx ws n dp} L ⟨_,k0⟩ ha hd=> ?_)
 obtain ⟨z,q,z1,z2⟩:=hb.head (bn ha).1
 have B:=hb.xk (tx:=tx) (dp:=dp) gb fz L ha hd
 have X':=hx.xk (tx:=tx) (dp:=dp) gx dB L B.2.2 hd
 have Y':=hy.xk (tx:=tx) (dp:=dp) gy gw L X'.2.2 hd
 exact uQ L k0 (z.is q) z1 z2.wh B.1 B.2.1.choose_spec X'.1 X'.2.1.choose_spec Y'.1 Y'.2.1.choose_spec
theorem pA {b x y o:T} (hb:PX prog w m d b) (gb:ile 1 (lv b)=true) (hx:PX prog w m d x) (gx:ile 1 (lv x)=true) (hy:PX prog w m d y) (gy:ile 1 (lv y)=true) (ho:PX prog w m d o) (go:ile 1 (lv o)=true) (nb:a9 b=false) (no:a9 o=false):PX prog w m (d+1) (.cas b (.con2 x y .nil) o):=by
 refine iB rfl fC (nT nb (r:=[(bK,o)]) (nR no) (dY rfl)) (fun {tx ws n dp} L ⟨_,k0⟩ ha hd=> ?_)
 obtain ⟨z,q,z1,z2⟩:=hb.head (bn ha).1
 have B:=hb.xk (tx:=tx) (dp:=dp) gb fz L ha hd
 have X':=hx.xk (tx:=tx) (dp:=dp) gx dB L B.2.2 hd
 have Y':=hy.xk (tx:=tx) (dp:=dp) gy lk L X'.2.2 hd
 have O':=ho.xk (tx:=tx) (dp:=dp) go gw L Y'.2.2 hd
 exact uR L k0 (z.is q) z1 z2.wh B.1 B.2.1.choose_spec X'.1 X'.2.1.choose_spec Y'.1 Y'.2.1.choose_spec O'.1 O'.2.1.choose_spec
theorem pB {b x y u v:T} (hb:PX prog w m d b) (gb:ile 1 (lv b)=true) (hx:PX prog w m d x) (gx:ile 1 (lv x)=true) (hy:PX prog w m d y) (gy:ile 1 (lv y)=true) (hu:PX prog w m d u) (gu:ile 1 (lv u)=true) (hv:PX prog w m d v) (gv:ile 1 (lv v)=true) (nb:a9 b=false):PX prog w m (d+1) (.cas b (.con2 x y (.con2 u v .nil)) .none):=by
 refine iB rfl fC (nT nb (r:=[]) (rfl) (dY (dY rfl))) (fun {tx ws n dp} L ⟨_,k0⟩ ha hd=> ?_)
 obtain ⟨z,q,z1,z2⟩:=hb.head (bn ha).1
 have B:=hb.xk (tx:=tx) (dp:=dp) gb fz L ha hd
 have X':=hx.xk (tx:=tx) (dp:=dp) gx dB L B.2.2 hd
 have Y':=hy.xk (tx:=tx) (dp:=dp) gy fz L X'.2.2 hd
 have U':=hu.xk (tx:=tx) (dp:=dp) gu dB L Y'.2.2 hd
 have V':=hv.xk (tx:=tx) (dp:=dp) gv gw L U'.2.2 hd
 exact uS L k0 (z.is q) z1 z2.wh B.1 B.2.1.choose_spec X'.1 X'.2.1.choose_spec Y'.1 Y'.2.1.choose_spec U'.1 U'.2.1.choose_spec V'.1 V'.2.1.choose_spec
theorem pC {b x y u v o:T} (hb:PX prog w m d b) (gb:ile 1 (lv b)=true) (hx:PX prog w m d x) (gx:ile 1 (lv x)=true) (hy:PX prog w m d y) (gy:ile 1 (lv y)=true) (hu:PX prog w m d u) (gu:ile 1 (lv u)=true) (hv:PX prog w m d v) (gv:ile 1 (lv v)=true) (ho:PX prog w m d o) (go:ile 1 (lv o)=true) (nb:a9 b=false) (no:a9 o=false):PX prog w m (d+1) (.cas b (.con2 x y (.con2 u v .nil)) o):=by
 refine iB rfl fC (nT nb (r:=[(bK,o)]) (nR no) (dY (dY rfl))) (fun {tx ws n dp} L ⟨_,k0⟩ ha hd=> ?_)
 obtain ⟨z,q,z1,z2⟩:=hb.head (bn ha).1
 have B:=hb.xk (tx:=tx) (dp:=dp) gb fz L ha hd
 have X':=hx.xk (tx:=tx) (dp:=dp) gx dB L B.2.2 hd
 have Y':=hy.xk (tx:=tx) (dp:=dp) gy fz L X'.2.2 hd
 have U':=hu.xk (tx:=tx) (dp:=dp) gu dB L Y'.2.2 hd
 have V':=hv.xk (tx:=tx) (dp:=dp) gv lk L U'.2.2 hd
 have O':=ho.xk (tx:=tx) (dp:=dp) go gw L V'.2.2 hd
 exact uT L k0 (z.is q) z1 z2.wh B.1 B.2.1.choose_spec X'.1 X'.2.1.choose_spec Y'.1 Y'.2.1.choose_spec U'.1 U'.2.1.choose_spec V'.1 V'.2.1.choose_spec O'.1 O'.2.1.choose_spec
end
end
end MineS
namespace MineS
noncomputable section
open PySem PySem.W PySem.Calls PyProof.Rows
theorem oV (x:T):node (pz x)=node x:=by cases x<;>rfl
theorem cL (l:Int) (x c:T):node (wp l x c)=node c:=by unfold wp; cases ile l (lv x)<;>rfl
theorem oW (t:T):node (cl t)=node t:=by
 induction t with
 |una o x i=>show dJ _ (node (cl x))=_; rw [i]; rfl
 |bin o x y i j=>show fW _ (node (cl x)) (node (cl y))=_; rw [i,j]; rfl
 |btw g x y z i j k=>show ko (node (cl x)) (node (cl y)) (node (cl z)) _=_; rw [i,j,k]; rfl
 |inl g x xs i j=>show fX (node (cl x)) (ft (node (cl xs))) _=_; rw [i,j]; rfl
 |isn g x i=>show ks (node (cl x)) _=_; rw [i]; rfl
 |mat k g x y z i j l=>show fJ _ (node (cl x)) (node (cl y)) (node (pz (cl z))) _=_; rw [oV,i,j,l]; rfl
 |cas b ws o i j k=>show bA (node (pz (cl b))) (ft (node (cl ws))) (node (pz (cl o)))=_; rw [oV,oV,i,j,k]; rfl
 |cst k x i=>show kr (node (cl x)) _=_; rw [i]; rfl
 |col x i=>show l5 (node (cl x)) _=_; rw [i]; rfl
 |cal f xs i=>show fq _ (ft (node (cl xs))) _ _=_; rw [i]; rfl
 |par x i=>exact i
 |cons x xs i j=>show Fv.list (node (cl x)::ft (node (cl xs)))=_; rw [i,j]; rfl
 |con2 x y xs i j k=>show Fv.list (.tup [node (cl x),node (cl y)]::ft (node (cl xs)))=_; rw [i,j,k]; rfl
 |_=>rfl
theorem oX (t:T):node (cw t)=node t:=by
 induction t with
 |una o x i=>
  show node (match du o with|true=> .una o (wp 3 x (cw x))|false=>match dq o && bJ x with|true=> .una o (.par (cw x))|false=> .una o (wp 11 x (cw x)))=_
  cases du o
  ·cases dq o && bJ x
   ·show dJ _ (node (wp 11 x (cw x)))=_; rw [cL,i]; rfl
   ·show dJ _ (node (cw x))=_; rw [i]; rfl
  ·show dJ _ (node (wp 3 x (cw x)))=_; rw [cL,i]; rfl
 |bin o x y i j=>show fW _ (node (wp _ x (cw x))) (node (wp _ y (cw y)))=_; rw [cL,cL,i,j]; rfl
 |btw g x y z i j k=>show ko (node (wp 4 x (cw x))) (node (wp 5 y (cw y))) (node (wp 5 z (cw z))) _=_; rw [cL,cL,cL,i,j,k]; rfl
 |inl g x xs i j=>show fX (node (wp 4 x (cw x))) (ft (node (cw xs))) _=_; rw [cL,i,j]; rfl
 |isn g x i=>show ks (node (wp 4 x (cw x))) _=_; rw [cL,i]; rfl
 |mat k g x y z i j l=>
  have e:node (match a9 z with|true=> .none|false=>wp 5 z (cw z))=node z:=by
   cases hz:a9 z
   ·show node (wp 5 z (cw z))=_; rw [cL,l]
   ·cases z<;>first|exact Bool.noConfusion hz|rfl
  show fJ _ (node (wp 4 x (cw x))) (node (wp 5 y (cw y))) (node (match a9 z with|true=> .none|false=>wp 5 z (cw z))) _=_; rw [cL,cL,i,j,e]; rfl
 |cas b ws o i j k=>show bA (node (cw b)) (ft (node (cw ws))) (node (cw o))=_; rw [i,j,k]; rfl
 |cst k x i=>show kr (node (cw x)) _=_; rw [i]; rfl
 |col x i=>show l5 (node (wp 10 x (cw x))) _=_; rw [cL,i]; rfl
 |cal f xs i=>show fq _ (ft (node (cw xs))) _ _=_; rw [i]; rfl
 |par x i=>exact i
 |cons x xs i j=>show Fv.list (node (cw x)::ft (node (cw xs)))=_; rw [i,j]; rfl
 |con2 x y xs i j k=>show Fv.list (.tup [node (cw x),node (cw y)]::ft (node (cw xs)))=_; rw [i,j,k]; rfl
 |_=>rfl
theorem yy {n:Nat} {t:T} (d:Dr 0 n t):ile 1 (lv (cl t))=true:=by
 have e:=d.ex
 clear d
 cases t with
 |lf l=>exact Lf.all (p:=fun l=>ile 1 (lv (cl (.lf l)))) (by kernel_rfl) l
 |una o _=>cases o<;>rfl
 |bin o _ _=>exact Bo.all (p:=fun o=>ile 1 o.lev) (by kernel_rfl) o
 |_=>first|rfl|exact Bool.noConfusion e
theorem yz {n:Nat} {t:T} (d:Dr 0 n t):lv (cw t)=lv t:=by
 have e:=d.ex
 clear d
 cases t with
 |una o x=>
  cases o with
  |mi=>show lv (match dq .mi && bJ x with|true=> .una .mi (.par (cw x))|false=> .una .mi (wp 11 x (cw x)))=_; cases dq .mi && bJ x<;>rfl
  |_=>rfl
 |_=>first|rfl|exact Bool.noConfusion e
theorem lv1 {n:Nat} {t:T} (d:Dr 0 n t):ile 1 (lv t)=true:=by
 have e:=d.ex
 clear d
 cases t with
 |lf l=>exact Lf.all (p:=fun l=>ile 1 (lv (.lf l))) (by kernel_rfl) l
 |una o _=>cases o<;>rfl
 |bin o _ _=>exact Bo.all (p:=fun o=>ile 1 o.lev) (by kernel_rfl) o
 |_=>first|rfl|exact Bool.noConfusion e
theorem Bo.l12 (o:Bo):ile o.lev 12=true∧ile (o.lev+1) 12=true:=⟨Bo.all (p:=fun o=>ile o.lev 12) (by kernel_rfl) o,Bo.all (p:=fun o=>ile (o.lev+1) 12) (by kernel_rfl) o⟩
theorem ut {n:Nat} {t:T} (d:Dr 0 n t) (h:oS t=false):d5 (node t):=by
 have e:=d.ex
 clear d
 cases t with
 |lf l=>cases l<;>first|exact Bool.noConfusion h|exact .other (BU _ rfl)|exact .int|exact .str|exact .bytes
 |_=>first|exact Bool.noConfusion e|exact .other (BU _ rfl)
theorem B0 {n:Nat} {t:T} (d:Dr 0 n t):bJ (cw t)=bJ t:=by
 have e:=d.ex
 clear d
 cases t with
 |una o x=>
  cases o with
  |mi=>show bJ (match dq .mi && bJ x with|true=> .una .mi (.par (cw x))|false=> .una .mi (wp 11 x (cw x)))=_; cases dq .mi && bJ x<;>rfl
  |_=>rfl
 |_=>first|rfl|exact Bool.noConfusion e
section
variable {prog:Program} {w:World}
noncomputable abbrev CL (prog:Program) (w:World) (n:Nat) (t:T):Prop:=PX prog w false (2*n) (cl t)
theorem CL.p {n:Nat} {t:T} (h:CL prog w n t) (d:Dr 0 n t):PX prog w false (2*n+1) (.par (cl t)):=ur h (yy d)
theorem MY {n:Nat} {t:T} (h:Dr 0 n t):CL prog w n t:=by
 refine Dr.ind (F:=CL prog w) ?lf ?una ?bin ?btw ?in0 ?in1 ?in2 ?isn ?mat ?mae ?cas ?cst ?col ?cf ?cm ?cc ?cr h
 case lf=>intro n l; exact (yt l).up (by omega)
 case una=>
  intro n o x d i
  cases o with
  |no=>exact zQ (i.p d) rfl (by obtain ⟨D,fs,e,h⟩:=be d; exact ⟨D,fs,(oW x).trans e,h⟩)
  |_=>exact nQ (i.p d) rfl rfl fun _=>rfl
 case bin=>intro n o x y d i d2 j h; exact zS (i.p d) (j.p d2) o.l12.1 o.l12.2 fun q=>by show d5 (node (cl y)); rw [oW]; exact ut d2 (h q)
 case btw=>intro n g x y z d i d2 j d3 k; exact zV (i.p d) (j.p d2) (k.p d3) rfl rfl rfl
 case in0=>intro n g x d i; exact zW (i.p d) rfl
 case in1=>intro n g x y d i d2 j; exact zX (i.p d) (j.p d2) rfl rfl
 case in2=>intro n g x y z d i d2 j d3 k; exact zY (i.p d) (j.p d2) (k.p d3) rfl rfl rfl
 case isn=>intro n g x d i; exact zT (i.p d) rfl
 case mat=>intro n k g x y d i d2 j; exact zZ (i.p d) (j.p d2) rfl rfl
 case mae=>
  intro n k g x y z d i d2 j d3 l
  show PX prog w false _ (.mat k g (.par (cl x)) (.par (cl y)) (pz (cl z)))
  rw [cv (cI d3).1]
  exact z7 (i.p d) (j.p d2) (l.p d3) rfl rfl rfl rfl
 case cst=>intro n k x d i; exact (z9 i (yy d)).up (by omega)
 case col=>intro n x d i; exact zU (i.p d) rfl
 case cf=>intro n x y d i d2 j; exact C8 (i.p d) (j.p d2) rfl rfl
 case cm=>intro n x d i; exact C9 (i.p d) rfl
 case cc=>intro n; exact Da.up (by omega)
 case cr=>intro n; exact Db.up (by omega)
 case cas=>
  intro n b o hb ho x y d i d2 j ws hw
  rcases hb with rfl|⟨db,hb2⟩<;>rcases ho with rfl|⟨do_,ho2⟩<;>rcases hw with rfl|⟨u,v,d3,i2,d4,j2,rfl⟩
  ·show PX prog w false _ (.cas .none (.con2 (.par (cl x)) (.par (cl y)) .nil) .none); exact pt (i.p d) rfl (j.p d2) rfl
  ·show PX prog w false _ (.cas .none (.con2 (.par (cl x)) (.par (cl y)) (.con2 (.par (cl u)) (.par (cl v)) .nil)) .none); exact pv (i.p d) rfl (j.p d2) rfl (i2.p d3) rfl (j2.p d4) rfl
  ·show PX prog w false _ (.cas .none (.con2 (.par (cl x)) (.par (cl y)) .nil) (pz (cl o))); rw [cv (cI do_).1]; exact pu (i.p d) rfl (j.p d2) rfl (ho2.p do_) rfl rfl
  ·show PX prog w false _ (.cas .none (.con2 (.par (cl x)) (.par (cl y)) (.con2 (.par (cl u)) (.par (cl v)) .nil)) (pz (cl o))); rw [cv (cI do_).1]; exact pw (i.p d) rfl (j.p d2) rfl (i2.p d3) rfl (j2.p d4) rfl (ho2.p do_) rfl rfl
  ·show PX prog w false _ (.cas (pz (cl b)) (.con2 (.par (cl x)) (.par (cl y)) .nil) .none); rw [cv (cI db).1]; exact px (hb2.p db) rfl (i.p d) rfl (j.p d2) rfl rfl
  ·show PX prog w false _ (.cas (pz (cl b)) (.con2 (.par (cl x)) (.par (cl y)) (.con2 (.par (cl u)) (.par (cl v)) .nil)) .none); rw [cv (cI db).1]; exact pB (hb2.p db) rfl (i.p d) rfl (j.p d2) rfl (i2.p d3) rfl (j2.p d4) rfl rfl
  ·show PX prog w false _ (.cas (pz (cl b)) (.con2 (.par (cl x)) (.par (cl y)) .nil) (pz (cl o))); rw [cv (cI db).1]; rw [cv (cI do_).1]; exact pA (hb2.p db) rfl (i.p d) rfl (j.p d2) rfl (ho2.p do_) rfl rfl rfl
  ·show PX prog w false _ (.cas (pz (cl b)) (.con2 (.par (cl x)) (.par (cl y)) (.con2 (.par (cl u)) (.par (cl v)) .nil)) (pz (cl o))); rw [cv (cI db).1]; rw [cv (cI do_).1]; exact pC (hb2.p db) rfl (i.p d) rfl (j.p d2) rfl (i2.p d3) rfl (j2.p d4) rfl (ho2.p do_) rfl rfl rfl
noncomputable abbrev CW (prog:Program) (w:World) (n:Nat) (t:T):Prop:=PX prog w true (2*n) (cw t)
theorem CW.p {n:Nat} {t:T} (h:CW prog w n t) (d:Dr 0 n t) {l:Int} (hl:ile l 12=true):PX prog w true (2*n+1) (wp l t (cw t))∧ile l (lv (wp l t (cw t)))=true:=by
 cases hb:ile l (lv t) with
 |true=>rw [yn hb,yz d]; exact ⟨h.up (Nat.le_succ _),hb⟩
 |false=>rw [yo hb]; exact ⟨ur h (by rw [yz d]; exact lv1 d),hl⟩
theorem CW.q {n:Nat} {t:T} (h:CW prog w n t) (d:Dr 0 n t):PX prog w true (2*n+1) (cw t):=h.up (Nat.le_succ _)
theorem cw1 {n:Nat} {t:T} (d:Dr 0 n t):ile 1 (lv (cw t))=true:=by rw [yz d]; exact lv1 d
theorem MZ {n:Nat} {t:T} (h:Dr 0 n t):CW prog w n t:=by
 refine Dr.ind (F:=CW prog w) ?lf ?una ?bin ?btw ?in0 ?in1 ?in2 ?isn ?mat ?mae ?cas ?cst ?col ?cf ?cm ?cc ?cr h
 case lf=>intro n l; exact (yt l).up (by omega)
 case una=>
  intro n o x d i
  have ip:=i.p d (l:=11) rfl
  cases o with
  |no=>exact zQ (i.p d rfl).1 (i.p d rfl).2 (by obtain ⟨D,fs,e,h⟩:=be d; exact ⟨D,fs,(cL _ _ _).trans ((oX x).trans e),h⟩)
  |mi=>
   show PX prog w true _ (match dq .mi && bJ x with|true=> .una .mi (.par (cw x))|false=> .una .mi (wp 11 x (cw x)))
   cases hq:bJ x with
   |true=>exact nQ (ur i (cw1 d)) rfl rfl fun _=>rfl
   |false=>
    refine nQ ip.1 rfl ip.2 fun _=> ?_
    unfold wp
    cases ile 11 (lv x) with
    |true=>exact (B0 d).trans hq
    |false=>rfl
  |_=>exact nQ ip.1 rfl ip.2 fun h=>Bool.noConfusion h
 case bin=>intro n o x y d i d2 j h; exact zS (i.p d o.l12.1).1 (j.p d2 o.l12.2).1 (i.p d o.l12.1).2 (j.p d2 o.l12.2).2 fun q=>by rw [cL,oX]; exact ut d2 (h q)
 case btw=>intro n g x y z d i d2 j d3 k; exact zV (i.p d rfl).1 (j.p d2 rfl).1 (k.p d3 rfl).1 (i.p d rfl).2 (j.p d2 rfl).2 (k.p d3 rfl).2
 case in0=>intro n g x d i; exact zW (i.p d rfl).1 (i.p d rfl).2
 case in1=>intro n g x y d i d2 j; exact zX (i.p d rfl).1 (j.q d2) (i.p d rfl).2 (cw1 d2)
 case in2=>intro n g x y z d i d2 j d3 k; exact zY (i.p d rfl).1 (j.q d2) (k.q d3) (i.p d rfl).2 (cw1 d2) (cw1 d3)
 case isn=>intro n g x d i; exact zT (i.p d rfl).1 (i.p d rfl).2
 case mat=>intro n k g x y d i d2 j; exact zZ (i.p d rfl).1 (j.p d2 rfl).1 (i.p d rfl).2 (j.p d2 rfl).2
 case mae=>
  intro n k g x y z d i d2 j d3 l
  have lp:=l.p d3 (l:=5) rfl
  show PX prog w true _ (.mat k g (wp 4 x (cw x)) (wp 5 y (cw y)) (match a9 z with|true=> .none|false=>wp 5 z (cw z)))
  rw [(cI d3).2]
  refine z7 (i.p d rfl).1 (j.p d2 rfl).1 lp.1 (i.p d rfl).2 (j.p d2 rfl).2 lp.2 ?_
  unfold wp
  cases ile 5 (lv z) with
  |true=>exact bL d3
  |false=>rfl
 case cst=>intro n k x d i; exact (z9 i (cw1 d)).up (by omega)
 case col=>intro n x d i; exact zU (i.p d rfl).1 (i.p d rfl).2
 case cf=>intro n x y d i d2 j; exact C8 (i.q d) (j.q d2) (cw1 d) (cw1 d2)
 case cm=>intro n x d i; exact C9 (i.q d) (cw1 d)
 case cc=>intro n; exact Da.up (by omega)
 case cr=>intro n; exact Db.up (by omega)
 case cas=>
  intro n b o hb ho x y d i d2 j ws hw
  rcases hb with rfl|⟨db,hb2⟩<;>rcases ho with rfl|⟨do_,ho2⟩<;>rcases hw with rfl|⟨u,v,d3,i2,d4,j2,rfl⟩
  ·exact (pt i (cw1 d) j (cw1 d2)).up (by omega)
  ·exact (pv i (cw1 d) j (cw1 d2) i2 (cw1 d3) j2 (cw1 d4)).up (by omega)
  ·exact (pu i (cw1 d) j (cw1 d2) ho2 (cw1 do_) (bL do_)).up (by omega)
  ·exact (pw i (cw1 d) j (cw1 d2) i2 (cw1 d3) j2 (cw1 d4) ho2 (cw1 do_) (bL do_)).up (by omega)
  ·exact (px hb2 (cw1 db) i (cw1 d) j (cw1 d2) (bL db)).up (by omega)
  ·exact (pB hb2 (cw1 db) i (cw1 d) j (cw1 d2) i2 (cw1 d3) j2 (cw1 d4) (bL db)).up (by omega)
  ·exact (pA hb2 (cw1 db) i (cw1 d) j (cw1 d2) ho2 (cw1 do_) (bL db) (bL do_)).up (by omega)
  ·exact (pC hb2 (cw1 db) i (cw1 d) j (cw1 d2) i2 (cw1 d3) j2 (cw1 d4) ho2 (cw1 do_) (bL db) (bL do_)).up (by omega)
end
end
end MineS
namespace MineS
noncomputable section
open PySem PySem.W PySem.Calls PyProof.Rows
noncomputable def Dp (T:List Nat) (b:Nat) (X:List Nat):Prop:=T.drop b=X
section
variable {T X a r:List Nat} {b c:Nat}
theorem Dp.of (h:T=a++X):Dp T a.length X:=by subst h; exact List.drop_left
theorem Dp.ap (h:Dp T b (a++r)):Dp T (b+a.length) r:=by
 unfold Dp at*; rw [←List.drop_drop,h,List.drop_left]
theorem Dp.tl (h:Dp T b (c::r)):Dp T (b+1) r:=h.ap (a:=[c])
theorem Dp.nt (h:Dp T b X) (k:Nat):nth T (b+k)=nth X k:=by
 unfold Dp at h; rw [em,em,←h,List.getElem?_drop]
theorem Dp.hd (h:Dp T b (c::r)):nth T b=some c:=h.nt 0
theorem Dp.sl (h:Dp T b X) (k:Nat) {m:Nat} (hm:m=b+k):(T.take m).drop b=X.take k:=by
 subst hm; rw [List.drop_take,Nat.add_sub_cancel_left,h]
theorem Dp.sa (h:Dp T b (a++r)) {m:Nat} (hm:m=b+a.length):(T.take m).drop b=a:=(h.sl a.length hm).trans List.take_left
theorem Dp.en (h:Dp T b []) (hb:b≤T.length):b=T.length:=Nat.le_antisymm hb (List.drop_eq_nil_iff.mp h)
theorem Dp.le (h:Dp T b (c::r)):b+1≤T.length:=dR h.hd
end
theorem bqc (a b:Nat):Nat.beq a b=Nat.beq b a:=by
 cases h:Nat.beq b a with
 |true=>rw [Nat.eq_of_beq_eq_true h]; exact Nat.beq_refl _
 |false=>
  cases h2:Nat.beq a b with
  |false=>rfl
  |true=>rw [Nat.eq_of_beq_eq_true h2,Nat.beq_refl] at h; cases h
theorem Aa {x:Nat}: ∀{l:List Nat} {i y:Nat},has x l=false→nth l i=some y→y≠x
 |[],_,_,_,h=>by cases h
 |a::r,i,y,h,hy=>by
  unfold has at h
  cases hb:Nat.beq x a with
  |true=>rw [hb] at h; cases h
  |false=>
   rw [hb] at h
   cases i with
   |zero=>
    have e:a=y:=Option.some.inj hy
    subst e; intro e; subst e
    rw [Nat.beq_refl] at hb; cases hb
   |succ i=>exact Aa (l:=r) h hy
theorem uu {s post:List Nat} {c:Nat} {T:List Nat} {b:Nat} (D:Dp T b (s++c::post)) (hs:has c s=false):k8 T [c] (Int.ofNat b)=Int.ofNat (b+s.length):=by
 have h0:nth T (b+s.length)=some c:=D.ap.hd
 have hg: ∀v y,nth T v=some y→(mk T).cps.getD v 0=y:=fun v y h=>StrLaws.getD_of_getElem? (x:=mk T) (by rw [em] at h; exact h)
 have hl:b+s.length<(mk T).length:=dR h0
 have hi:PySem.fromIndex (mk T).length (Int.ofNat b)=b:=by
  unfold PySem.fromIndex
  rw [if_neg (by simp)]
  simp
 have hs2: ∀k,k<s.length→ ∃y,nth T (b+k)=some y∧y≠c:=fun k hk=>by
  have e:nth (s++c::post) k=s[k]? :=by rw [em,List.getElem?_append_left hk]
  refine ⟨s[k],?_,Aa (i:=k) hs ?_⟩
  ·rw [D.nt,e]; exact List.getElem?_eq_getElem hk
  ·rw [em]; exact List.getElem?_eq_getElem hk
 show Txt.find3 (mk T) ⟨#[c]⟩ (Int.ofNat b)=_
 rcases StrLaws.find3_spec (mk T) c (Int.ofNat b) with ⟨_,h2⟩|⟨k,h1,h2,h3,h4,h5⟩
 ·exact absurd (hg _ _ h0) (h2 _ (by rw [hi]; exact Nat.le_add_right _ _) hl)
 ·rw [hi] at h2 h5
  rw [h1]
  have e1: ¬b+s.length<k:=fun h=>h5 _ (Nat.le_add_right _ _) h (hg _ _ h0)
  have e2: ¬k<b+s.length:=fun h=>by
   obtain ⟨i,rfl⟩:=Nat.le.dest h2
   obtain ⟨y,y1,y2⟩:=hs2 i (Nat.lt_of_add_lt_add_left h)
   exact y2 ((hg _ _ y1).symm.trans h4)
  rw [Nat.le_antisymm (Nat.le_of_not_lt e1) (Nat.le_of_not_lt e2)]; rfl
noncomputable def oY (S:List Nat):List Nat→Bool
 |[]=>true
 |x::r=>has x S && oY S r
theorem vC {S:List Nat}: ∀{l:List Nat},oY S l=true→ ∀i,i<l.length→ ∃c,nth l i=some c∧has c S=true
 |[],_,i,h=>absurd h (Nat.not_lt_zero _)
 |x::r,h,i,hi=>by
  have h2:=(Bool.and_eq_true _ _).mp h
  cases i with
  |zero=>exact ⟨x,rfl,h2.1⟩
  |succ i=>exact vC h2.2 i (Nat.lt_of_succ_lt_succ hi)
noncomputable def mkB (c:Nat):Bool:= !has c blk && !has c l6 && !ilt 127 (Int.ofNat c) && !has c fZ && !has c quo
theorem nB {b:Bool} (h:(!b)=true):b=false:=by cases b<;>first|rfl|cases h
theorem bM {a b:Bool} (h:(a && b)=true):a=true∧b=true:=(Bool.and_eq_true _ _).mp h
theorem Dc {c:Nat} (h:mkB c=true):Mk c:=by
 simp only [mkB,Bool.and_eq_true] at h
 exact ⟨nB h.1.1.1.1,nB h.1.1.1.2,nB h.1.1.2,nB h.1.2,nB h.2⟩
noncomputable def B3:List (List Nat×Nat):=[(i5,1),(vW,2),(mn,3),(vZ,4),(wa,5),(wb,6),(i4,7),(wc,8),(we,9),(qn,10),(wf,11),(wg,12),(ml,9223372036854775807),(vV,9223372036854775808)]
noncomputable def l8 (D:List Nat) (i:Nat):List (List Nat×Nat)→Bool
 |[]=>false
 |(a,b)::r=>match az a D && Nat.beq b i with
  |true=>true
  |false=>l8 D i r
noncomputable def nuP (D:List Nat) (i:Nat):Prop:=Nu D (Int.ofNat i)∧oY fZ D=true∧(∃a r,D=a::r∧has a fZ=true∧has a blk=false∧has a l6=false∧ilt 127 (Int.ofNat a)=false)∧ilt 9223372036854775808 (Int.ofNat i)=false
noncomputable def nuB (D:List Nat) (i:Nat):Bool:=az (og D f7) D && (Nat.ble D.length 20 && (oY fZ D && (!ilt 9223372036854775808 (Int.ofNat i) && ((match PySem.intText? (mk D) with
 |some j=>ieq j (Int.ofNat i)
 |none=>false) && (match D with
 |a::_=>has a fZ && (!has a blk && (!has a l6 && !ilt 127 (Int.ofNat a)))
 |[]=>false)))))
theorem IH {D:List Nat} {i:Nat} (h:nuB D i=true):nuP D i:=by
 have h1:=bM h; have h2:=bM h1.2; have h3:=bM h2.2; have h4:=bM h3.2; have h5:=bM h4.2
 have hn:PySem.intText? (mk D)=some (Int.ofNat i):=by
  have:=h5.1
  cases e:PySem.intText? (mk D) with
  |none=>rw [e] at this; cases this
  |some j=>rw [e] at this; exact congrArg some (of_decide_eq_true this)
 have hz:=Nat.le_of_ble_eq_true h2.1
 cases D with
 |nil=>exact Bool.noConfusion h5.2
 |cons a r=>
  have g1:=bM h5.2; have g2:=bM g1.2; have g3:=bM g2.2
  exact ⟨⟨List.cons_ne_nil _ _,_,(bj _ _).mp h1.1,hz,hz,.inr ⟨rfl,hn⟩⟩,h3.1,⟨_,_,rfl,g1.1,nB g2.1,nB g3.1,nB g3.2⟩,nB h4.1⟩
noncomputable def nuA:List (List Nat×Nat)→Bool
 |[]=>true
 |(a,b)::r=>nuB a b && nuA r
theorem uv {D:List Nat} {i:Nat}: ∀{l},nuA l=true→l8 D i l=true→nuP D i
 |[],_,h=>Bool.noConfusion h
 |(a,b)::r,hc,h=>by
  have hc:=bM hc
  unfold l8 at h
  cases hb:az a D && Nat.beq b i with
  |true=>
   have hb:=bM hb
   rw [←(bj _ _).mp hb.1,←Nat.eq_of_beq_eq_true hb.2]; exact IH hc.1
  |false=>rw [hb] at h; exact uv hc.2 h
theorem uw {D:List Nat} {i:Nat} (h:l8 D i ((f7,0)::B3)=true):nuP D i:=by
 unfold l8 at h
 cases hb:az f7 D && Nat.beq 0 i with
 |true=>
  have hb:=bM hb
  rw [←(bj _ _).mp hb.1,←Nat.eq_of_beq_eq_true hb.2]
  exact ⟨⟨List.cons_ne_nil _ _,[],by kernel_rfl,Nat.le_of_ble_eq_true rfl,Nat.le_of_ble_eq_true rfl,.inl ⟨rfl,rfl⟩⟩,rfl,⟨_,_,rfl,rfl,rfl,rfl,rfl⟩,rfl⟩
 |false=>rw [hb] at h; exact uv (by kernel_rfl) h
noncomputable def spl (c:Nat):List Nat→Option (List Nat×List Nat)
 |[]=>none
 |x::r=>match Nat.beq x c with
  |true=>some ([],r)
  |false=>match spl c r with
   |some (a,b)=>some (x::a,b)
   |none=>none
theorem ux {c:Nat}: ∀{s:List Nat},has c s=false→esc c s=s
 |[],_=>rfl
 |x::r,h=>by
  unfold has at h
  unfold esc
  rw [bqc]
  cases hb:Nat.beq c x with
  |true=>rw [hb] at h; cases h
  |false=>rw [hb] at h; exact congrArg (x:: ·) (ux h)
theorem Dd {c x:Nat} {r:List Nat} (hb:Nat.beq x c=false) (h:has c r=false):has c (x::r)=false:=by
 unfold has; rw [bqc,hb]; exact h
theorem uy {c:Nat}: ∀{s:List Nat},spl c s=none→has c s=false
 |[],_=>rfl
 |x::r,h=>by
  unfold spl at h
  cases hb:Nat.beq x c with
  |true=>rw [hb] at h; cases h
  |false=>
   rw [hb] at h
   cases h2:spl c r with
   |some p=>rw [h2] at h; cases h
   |none=>exact Dd hb (uy h2)
theorem l9 {c:Nat}: ∀{s a b:List Nat},spl c s=some (a,b)→has c a=false∧s=a++c::b
 |[],_,_,h=>by cases h
 |x::r,a,b,h=>by
  unfold spl at h
  cases hb:Nat.beq x c with
  |true=>rw [hb] at h; rw [Nat.eq_of_beq_eq_true hb]; cases h; exact ⟨rfl,rfl⟩
  |false=>
   rw [hb] at h
   cases h2:spl c r with
   |none=>rw [h2] at h; cases h
   |some p=>
    rw [h2] at h
    cases h
    exact ⟨Dd hb (l9 h2).1,congrArg (x:: ·) (l9 h2).2⟩
theorem De {c x:Nat} {r:List Nat}:esc c (x::r)=match Nat.beq x c with
  |true=>c::c::esc c r
  |false=>x::esc c r:=rfl
theorem vD {c:Nat} {r:List Nat}: ∀{a:List Nat},has c a=false→esc c (a++c::r)=a++c::c::esc c r
 |[],_=>by
  show esc c (c::r)=_
  rw [De,Nat.beq_refl]; rfl
 |x::a,h=>by
  unfold has at h
  show esc c (x::(a++c::r))=_
  rw [De,bqc]
  cases hb:Nat.beq c x with
  |true=>rw [hb] at h; cases h
  |false=>rw [hb] at h; exact congrArg (x:: ·) (vD h)
noncomputable def vq (c:Nat) (s:List Nat):Bool:=match spl c s with
 |none=>az (fi [] [s]) s
 |some (a,b)=> !has c b && az (fi [] [a++[c],b]) ((a++[c])++b)
noncomputable def s2B (c d:Nat):Bool:=match Nat.beq c 60 with
 |true=>has d [60,61,62]
 |false=>match Nat.beq c 62 with
  |true=>has d [61,62]
  |false=>Nat.beq c 124 && Nat.beq d 124
noncomputable def vp:Pc→Bool
 | .sp=>true
 | .nm [] _=>false
 | .nm (c::r) U=> !has c blk && has c l6 && !has c Cb && oY nmS r && xi (c::r) && az (upL (c::r)) U && Nat.ble (upL (c::r)).length 16777216
 | .q c s=>(Nat.beq c 39||Nat.beq c 34) && vq c s
 | .bl _ _=>true
 | .nu D i=>l8 D i ((f7,0)::B3)
 | .va D i=>l8 D i ((f7,0)::B3) && Nat.ble 1 i && Nat.ble i 999
 | .s1 c=>mkB c && has c so1
 | .s2 c d=>s2B c d
noncomputable def adj:Pc→Option Nat→Bool
 | .nm _ _,some x=> !has x nmS && !ilt 127 (Int.ofNat x)
 | .q c _,some x=> !az [x] [c]
 | .bl _ _,some x=> !az [x] [39]
 | .nu D _,some x=> !has x fZ && !az [x] fO && !has x nmS && !ilt 127 (Int.ofNat x) && !ck ((D++[x]).take 2) [mc,md]
 | .nu D _,none=> !ck (D.take 2) [mc,md]
 | .va _ _,some x=> !has x fZ
 | .s1 c,some x=> !az [c,x] ij && !az [c,x] ik && !ck [c,x] so2
 | .s1 c,none=> !az [c] ij && !az [c] ik && !ck [c] so2
 |_,_=>true
noncomputable def out (n:Nat) (p:Pc):List Fv:=match p.word with
 |none=>[]
 |some x=>[x.w (Int.ofNat n)]
end
end MineS
namespace MineS
noncomputable section
open PySem PySem.W PySem.Calls PyProof.Rows
section
variable {T D post:List Nat} {b n:Nat}
theorem Dp.inn {S:List Nat} {s:Nat} (h:Dp T b (D++post)) (hD:oY S D=true) (hs:s=b+D.length): ∀j,b≤j→j<s→ ∃c,nth T j=some c∧has c S=true:=fun j h1 h2=>by
 subst hs
 obtain ⟨i,rfl⟩:=Nat.le.dest h1
 have hi:=Nat.lt_of_add_lt_add_left h2
 obtain ⟨c,c1,c2⟩:=vC hD i hi
 refine ⟨c,?_,c2⟩
 rw [h.nt,em,List.getElem?_append_left hi,←em]; exact c1
theorem Dp.out {s:Nat} (h:Dp T b (D++post)) (hb:b≤T.length) (hs:s=b+D.length) {P:Nat→Prop} (hp: ∀x,post.head? =some x→P x):s=T.length∨ ∃c,nth T s=some c∧P c:=by
 subst hs
 cases post with
 |nil=>
  have e:T.length-b=D.length:=by rw [List.append_nil] at h; exact List.length_drop.symm.trans (congrArg List.length h)
  exact .inl (by rw [←e]; exact Nat.add_sub_cancel' hb)
 |cons x r=>exact .inr ⟨x,h.ap.hd,hp x rfl⟩
theorem Dp.le0 {c:Nat} {r:List Nat} (h:Dp T b (c::r)):b≤T.length:=Nat.le_of_succ_le h.le
theorem Dp.len {a:List Nat} (h:Dp T b (a++D)):a.length≤T.length:=by
 have e:T.length-b=(a++D).length:=List.length_drop.symm.trans (congrArg List.length h)
 rw [List.length_append] at e
 exact Nat.le_trans (Nat.le_add_right _ _) (e▸Nat.sub_le _ _)
theorem M0 {x:Nat} (hD:D≠[]) (h:post.head? =some x):(D++post).take 2=(D++[x]).take 2:=by
 cases D with
 |nil=>exact absurd rfl hD
 |cons a r=>
  cases post with
  |nil=>cases h
  |cons y q=>
   cases h
   cases r<;>rfl
theorem Df {P:List Nat→Prop} (h0:P []) (h: ∀x,post.head? =some x→P [x]):P (post.take 1):=by
 cases post with
 |nil=>exact h0
 |cons x r=>exact h x rfl
end
section
variable {prog:Program} {w:World} {T post:List Nat} {ws:List Fv} {n:Nat} {g:Int}
theorem Ab {s:List Nat} {c b e:Nat} (h:Dp T b (esc c s++c::post)) (hL:T.length≤1000000) (hq:c=39∨c=34) (hv:vq c s=true) (ha: ∀x,post.head? =some x→az [x] [c]=false) (he:e=b+(esc c s).length):Clo prog w T ws n g c b e s:=by
 have hpr:az ((T.take (e+2)).drop (e+1)) [c]=false:=by
  rw [he,h.ap.tl.sl 1 rfl]
  exact Df (P:=fun l=>az l [c]=false) rfl ha
 unfold vq at hv
 cases h2:spl c s with
 |none=>
  rw [h2] at hv
  have n1:=uy h2
  rw [ux n1] at h he
  have hs:=h.sa he
  subst he
  exact Po hL hq (uu h n1) rfl hpr hs (Nat.le_trans h.len hL) ((bj _ _).mp hv)
 |some p=>
  rw [h2] at hv
  have v:=bM hv
  have n:=l9 h2
  have n2:=nB v.1
  rw [n.2,vD n.1,ux n2] at h he
  have hl0:=h.len
  rw [List.length_append] at hl0 he
  rw [List.append_assoc] at h
  rw [List.append_cons] at n
  have h3:=h.ap
  have h4:Dp T b ((p.1++[c])++(c::(p.2++c::post))):=by rw [List.append_assoc]; exact h
  have h5:=h3.tl.tl
  have e2:e=b+p.1.length+2+p.2.length:=he.trans (by show b+(p.1.length+(p.2.length+1+1))=_; omega)
  subst e2
  have hl:(p.1++[c]).length+p.2.length≤1000000:=by
   rw [List.length_append]
   refine Nat.le_trans ?_ hL
   refine Nat.le_trans ?_ hl0
   show p.1.length+1+p.2.length≤p.1.length+(p.2.length+1+1)
   omega
  have hs:=h5.sa (m:=b+p.1.length+2+p.2.length) rfl
  rw [n.2]
  exact Pp hL hq (uu h n.1) (h3.tl.sl 1 rfl) (h4.sa (by rw [List.length_append]; rfl)) (uu h5 n2) rfl hpr hs hl ((bj _ _).mp v.2)
section
variable {r:List Nat} {c:Nat} {o:Option Nat}
theorem M1 {W U:List Nat} (hv:vp (.nm W U)=true) (ha:adj (.nm W U) post.head? =true) (h:Dp T n (W++post)) (hL:T.length≤1000000) (hW:ws.length≤1000000): ∃c,dM prog w T n g ws c (n+W.length) g (ws++out n (.nm W U)):=by
 cases W with
 |nil=>cases hv
 |cons c r=>
  have v1:=bM hv; have v2:=bM v1.1; have v3:=bM v2.1; have v4:=bM v3.1; have v5:=bM v4.1; have v6:=bM v5.1
  have el:n+(c::r).length=n+1+r.length:=(Nat.add_assoc n 1 _▸congrArg (n+ ·) (Nat.add_comm _ _):n+(r.length+1)=n+1+r.length)
  have h1:Dp T (n+1) (r++post):=h.tl
  refine ⟨c,Ea hL hW h.hd (nB v6.1) v6.2 (nB v5.2) ⟨el▸Nat.le_add_right _ _,h1.inn v4.2 el,h1.out h.le el fun x hx=> ?_⟩ (h.sa rfl) v3.2 ((bj _ _).mp v2.2) v1.2⟩
  rw [hx] at ha
  have a:=bM ha
  exact ⟨nB a.1,nB a.2⟩
theorem PI {s:List Nat} (hv:vp (.q c s)=true) (ha:adj (.q c s) post.head? =true) (h:Dp T n (c::(esc c s++c::post))) (hL:T.length≤1000000) (hW:ws.length≤1000000):dM prog w T n g ws c (n+1+(esc c s).length+1) g (ws++out n (.q c s)):=by
 have v:=bM hv
 have hq:c=39∨c=34:=((Bool.or_eq_true _ _).mp v.1).imp Nat.eq_of_beq_eq_true Nat.eq_of_beq_eq_true
 refine Pq hL hW hq h.hd (Ab h.tl hL hq v.2 (fun x hx=> ?_) rfl)
 rw [hx] at ha
 exact nB ha
theorem PJ (u k:Bool):blX u=120∧blF u k=[]∧blB k= #[]∨blX u=88∧blF u k=[]∧blB k= #[]∨blX u=120∧blF u k=vH∧blB k= #[254,16]∨blX u=88∧blF u k=vI∧blB k= #[254,16]:=by
 cases u<;>cases k
 ·exact .inl ⟨rfl,rfl,rfl⟩
 ·exact .inr (.inr (.inl ⟨rfl,rfl,rfl⟩))
 ·exact .inr (.inl ⟨rfl,rfl,rfl⟩)
 ·exact .inr (.inr (.inr ⟨rfl,rfl,rfl⟩))
theorem B4 (u k:Bool):esc 39 (blF u k)=blF u k∧vq 39 (blF u k)=true:=by cases u<;>cases k<;>exact ⟨rfl,by kernel_rfl⟩
theorem M2 {u k:Bool} (ha:adj (.bl u k) post.head? =true) (h:Dp T n (blX u::39::(blF u k++39::post))) (hL:T.length≤1000000) (hW:ws.length≤1000000):dM prog w T n g ws (blX u) (n+2+(blF u k).length+1) g (ws++out n (.bl u k)):=by
 have h2:Dp T (n+1+1) (esc 39 (blF u k)++39::post):=by rw [(B4 u k).1]; exact h.tl.tl
 refine Eb hL hW (PJ u k) h.hd (h.tl.sl 1 rfl) (Ab h2 hL (.inl rfl) (B4 u k).2 (fun x hx=> ?_) (by rw [(B4 u k).1]))
 rw [hx] at ha
 exact nB ha
theorem II {D:List Nat} {i:Nat} (h0:D≠[]) (ha:adj (.nu D i) post.head? =true):ck ((D++post).take 2) [mc,md]=false∧ ∀x,post.head? =some x→has x fZ=false∧az [x] fO=false∧has x nmS=false∧ilt 127 (Int.ofNat x)=false:=by
 cases post with
 |nil=>exact ⟨by rw [List.append_nil]; exact nB ha,fun x h=>by cases h⟩
 |cons y q=>
  have a1:=bM (ha:(!has y fZ && !az [y] fO && !has y nmS && !ilt 127 (Int.ofNat y) && !ck ((D++[y]).take 2) [mc,md])=true)
  have a2:=bM a1.1; have a3:=bM a2.1; have a4:=bM a3.1
  exact ⟨by rw [M0 h0 rfl]; exact nB a1.2,fun x h=>by cases h; exact ⟨nB a4.1,nB a4.2,nB a3.2,nB a2.2⟩⟩
theorem M3 {D:List Nat} {i:Nat} (hv:vp (.nu D i)=true) (ha:adj (.nu D i) post.head? =true) (h:Dp T n (D++post)) (hL:T.length≤1000000) (hW:ws.length≤1000000): ∃c,dM prog w T n g ws c (n+D.length) g (ws++out n (.nu D i)):=by
 obtain ⟨N,n1,⟨a,r,e1,n2,n3,n4,n5⟩,n6⟩:=uw hv
 have hD:D≠[]:=by rw [e1]; exact List.cons_ne_nil _ _
 have A:=II hD ha
 have h':Dp T n (a::(r++post)):=by rw [e1] at h; exact h
 refine ⟨a,Hx hL hW h'.hd n3 n4 n5 n2 (h.sl 2 rfl) A.1 ⟨Nat.le_add_right _ _,h.inn n1 rfl,h.out h'.le0 rfl fun x hx=>(A.2 x hx).1⟩ (Nat.lt_add_of_pos_right (List.length_pos_iff.mpr hD)) (h.sa rfl) N n6 (h.ap.sl 1 rfl) ?_⟩
 exact Df (P:=fun l=>l=[]∨ ∃x,l=[x]∧az [x] fO=false∧has x nmS=false∧ilt 127 (Int.ofNat x)=false) (.inl rfl) fun x hx=> .inr ⟨x,rfl,(A.2 x hx).2⟩
theorem M4 {D:List Nat} {i:Nat} (hv:vp (.va D i)=true) (ha:adj (.va D i) post.head? =true) (h:Dp T n (63::(D++post))) (hL:T.length≤1000000) (hW:ws.length≤1000000): ∃g',dM prog w T n g ws 63 (n+1+D.length) g' (ws++out n (.va D i)):=by
 have v1:=bM hv; have v2:=bM v1.1
 obtain ⟨N,n1,⟨a,r,e1,n2,n3,n4,n5⟩,n6⟩:=uw v2.1
 have hD:D≠[]:=by rw [e1]; exact List.cons_ne_nil _ _
 have hp:(T.take (n+2)).drop n=[63,a]:=by rw [h.sl 2 rfl,e1]; rfl
 exact Hy hL hW h.hd hp rfl rfl rfl ⟨Nat.le_add_right _ _,h.tl.inn n1 rfl,h.tl.out h.le rfl fun x hx=>by rw [hx] at ha; exact nB ha⟩ (Nat.lt_add_of_pos_right (List.length_pos_iff.mpr hD)) (h.tl.sa rfl) N (jN (Int.ofNat_le.mpr (Nat.le_of_ble_eq_true v2.2))) (jN (Int.ofNat_le.mpr (Nat.le_of_ble_eq_true v1.2)))
theorem IJ (ha:adj (.s1 c) post.head? =true):az ((c::post).take 2) ij=false∧az ((c::post).take 2) ik=false∧ck ((c::post).take 2) so2=false:=by
 have e:(!az ((c::post).take 2) ij && !az ((c::post).take 2) ik && !ck ((c::post).take 2) so2)=true:=by cases post<;>exact ha
 have a1:=bM e; have a2:=bM a1.1
 exact ⟨nB a2.1,nB a2.2,nB a1.2⟩
theorem PK {d:Nat} (hv:s2B c d=true):(c=60∧d=60)∨(c=60∧d=61)∨(c=60∧d=62)∨(c=62∧d=61)∨(c=62∧d=62)∨(c=124∧d=124):=by
 have hm: ∀{l:List Nat},has d l=true→d∈l:=fun {l} h=>by
  induction l with
  |nil=>cases h
  |cons x r ih=>
   unfold has at h
   cases hb:Nat.beq d x with
   |true=>rw [Nat.eq_of_beq_eq_true hb]; exact .head _
   |false=>rw [hb] at h; exact .tail _ (ih h)
 unfold s2B at hv
 cases h1:Nat.beq c 60 with
 |true=>
  rw [h1] at hv
  have e:=Nat.eq_of_beq_eq_true h1
  cases hm hv with
  |head=>exact .inl ⟨e,rfl⟩
  |tail _ h=>cases h with
   |head=>exact .inr (.inl ⟨e,rfl⟩)
   |tail _ h=>cases h with
    |head=>exact .inr (.inr (.inl ⟨e,rfl⟩))
    |tail _ h=>cases h
 |false=>
  rw [h1] at hv
  cases h2:Nat.beq c 62 with
  |true=>
   rw [h2] at hv
   have e:=Nat.eq_of_beq_eq_true h2
   cases hm hv with
   |head=>exact .inr (.inr (.inr (.inl ⟨e,rfl⟩)))
   |tail _ h=>cases h with
    |head=>exact .inr (.inr (.inr (.inr (.inl ⟨e,rfl⟩))))
    |tail _ h=>cases h
  |false=>
   rw [h2] at hv
   have a:=bM hv
   exact .inr (.inr (.inr (.inr (.inr ⟨Nat.eq_of_beq_eq_true a.1,Nat.eq_of_beq_eq_true a.2⟩))))
theorem M5 {d:Nat} (hv:s2B c d=true) (h:Dp T n (c::d::post)) (hL:T.length≤1000000) (hW:ws.length≤1000000):dM prog w T n g ws c (n+2) g (ws++out n (.s2 c d)):=by
 have hp:=h.sl 2 rfl
 have h0:=h.hd
 have M:Mk c∧az [c,d] ij=false∧az [c,d] ik=false∧ck [c,d] so2=true∧(match lkN [c,d] la with|some y=>y|none=>Fv.str [c,d])= .str [c,d]:=by
  rcases PK hv with ⟨rfl,rfl⟩|⟨rfl,rfl⟩|⟨rfl,rfl⟩|⟨rfl,rfl⟩|⟨rfl,rfl⟩|⟨rfl,rfl⟩<;>exact ⟨Dc rfl,rfl,rfl,rfl,by kernel_rfl⟩
 exact MA hL hW h0 M.1 hp M.2.1 M.2.2.1 M.2.2.2.1 M.2.2.2.2
end
theorem EM {p:Pc} (hv:vp p=true) {pre:List Nat} (ha:adj p post.head? =true) (hT:T=pre++(p.text++post)) (hL:T.length≤1000000) (hW:ws.length≤1000000): ∃c g',dM prog w T pre.length g ws c (pre.length+p.text.length) g' (ws++out pre.length p):=by
 have h:=Dp.of hT
 cases p with
 |sp=>exact ⟨32,g,(List.append_nil ws).symm▸BA hL h.hd⟩
 |nm W U=>
  obtain ⟨c,h⟩:=M1 (g:=g) hv ha h hL hW
  exact ⟨c,g,h⟩
 |q c s=>
  have h2:Dp T pre.length (c::(esc c s++c::post)):=by rw [←List.singleton_append (x:=c) (l:=post),←List.append_assoc]; exact h
  have el:pre.length+(Pc.q c s).text.length=pre.length+1+(esc c s).length+1:=by show pre.length+((esc c s++[c]).length+1)=_; rw [List.length_append]; show pre.length+((esc c s).length+1+1)=_; omega
  rw [el]; exact ⟨c,g,PI hv ha h2 hL hW⟩
 |bl u k=>
  have h2:Dp T pre.length (blX u::39::(blF u k++39::post)):=by rw [←List.singleton_append (x:=39) (l:=post),←List.append_assoc]; exact h
  have el:pre.length+(Pc.bl u k).text.length=pre.length+2+(blF u k).length+1:=by show pre.length+((blF u k++[39]).length+1+1)=_; rw [List.length_append]; show pre.length+((blF u k).length+1+1+1)=_; omega
  rw [el]; exact ⟨blX u,g,M2 ha h2 hL hW⟩
 |nu D i=>
  obtain ⟨c,h⟩:=M3 (g:=g) hv ha h hL hW
  exact ⟨c,g,h⟩
 |va D i=>
  have el:pre.length+(Pc.va D i).text.length=pre.length+1+D.length:=by show pre.length+(D.length+1)=_; omega
  rw [el]; exact ⟨63,M4 hv ha h hL hW⟩
 |s1 c=>
  have v:=bM hv
  have A:=IJ ha
  exact ⟨c,g,Mz hL hW h.hd (Dc v.1) (h.sl 2 rfl) A.1 A.2.1 A.2.2 v.2⟩
 |s2 c d=>exact ⟨c,g,M5 hv h hL hW⟩
end
end
end MineS
namespace MineS
noncomputable section
open PySem PySem.W PySem.Calls PyProof.Rows
noncomputable def hd:List Pc→Option Nat→Option Nat
 |[],x=>x
 |p::r,x=>match p.text with
  |[]=>hd r x
  |c::_=>some c
theorem Ac: ∀ps:List Pc,hd ps none=(txt ps).head?
 |[]=>rfl
 |p::r=>by
  show (match p.text with|[]=>hd r none|c::_=>some c)=(p.text++txt r).head?
  cases p.text with
  |nil=>exact Ac r
  |cons=>rfl
noncomputable def chP:List Pc→Option Nat→Bool
 |[],_=>true
 |p::r,x=>vp p && (adj p (hd r x) && chP r x)
theorem Ad: ∀(a b:List Pc) (x:Option Nat),hd (a++b) x=hd a (hd b x)
 |[],_,_=>rfl
 |p::r,b,x=>by
  show (match p.text with|[]=>hd (r++b) x|c::_=>some c)=(match p.text with|[]=>hd r (hd b x)|c::_=>some c)
  rw [Ad r b x]
theorem ae: ∀{a b:List Pc} {x:Option Nat},chP a (hd b x)=true→chP b x=true→chP (a++b) x=true
 |[],_,_,_,h=>h
 |p::r,b,x,h,h2=>by
  obtain ⟨a1,a2⟩:=bM h
  obtain ⟨a3,a4⟩:=bM a2
  show (vp p && (adj p (hd (r++b) x) && chP (r++b) x))=true
  rw [Ad,a1,a3,ae a4 h2]; rfl
noncomputable def iM:List Fv→List Wt→Prop
 |[],[]=>True
 |f::r,x::s=>(∃p,f=x.w p)∧iM r s
 |_,_=>False
theorem iM.len: ∀{W:List Fv} {L:List Wt},iM W L→W.length=L.length
 |[],[],_=>rfl
 |_::_,[],h=>h.elim
 |[],_::_,h=>h.elim
 |_::r,_::s,h=>by rw [List.length_cons,List.length_cons,iM.len h.2]
theorem iM.at {post:List Fv}: ∀{W:List Fv} {L:List Wt} (pre:List Fv) {n:Nat},iM W L→n=pre.length→At (pre++(W++post)) n L
 |[],[],_,_,_,_=>trivial
 |_::_,[],_,_,h,_=>h.elim
 |[],_::_,_,_,h,_=>h.elim
 |f::r,x::s,pre,n,h,e=>by
  obtain ⟨⟨p,hp⟩,h2⟩:=h
  refine ⟨⟨p,?_⟩,?_⟩
  ·subst e; subst hp
   rw [em,List.getElem?_append_right (Nat.le_refl _),Nat.sub_self]; rfl
  ·have:=iM.at (post:=post) (pre++[f]) (n:=n+1) h2 (by subst e; simp)
   rw [List.append_assoc] at this
   exact this
theorem M6 {a r:List Fv} {x:Fv}:nth (a++x::r) a.length=some x:=by rw [em,List.getElem?_append_right (Nat.le_refl _),Nat.sub_self]; rfl
theorem IK {p:Pc} (h:vp p=true):0<p.text.length∧(∀n,(out n p).length≤1):=by
 refine ⟨?_,fun n=> ?_⟩
 ·cases p with
  |nm W U=>
   cases W with
   |nil=>cases h
   |cons=>exact Nat.succ_pos _
  |nu D i=>
   obtain ⟨_,_,⟨a,r,e1,_⟩,_⟩:=uw h
   show 0<D.length; rw [e1]; exact Nat.succ_pos _
  |_=>exact Nat.succ_pos _
 ·unfold out; cases p.word<;>simp
section
variable {prog:Program} {w:World}
theorem Ae: ∀(ps:List Pc) (pre T:List Nat) (ws:List Fv) (g:Int) (o:Option Nat),chP ps none=true→T=pre++txt ps→T.length≤1000000→ws.length≤pre.length→ ∃gf W lf k,kx prog w T gf (ws++W) lf pre.length g ws o k∧iM W (wl ps)∧W.length≤(txt ps).length
 |[],pre,T,ws,g,o,_,hT,hL,hW=>by
  refine ⟨g,[],o,0,?_,trivial,Nat.le_refl _⟩
  have e:pre.length=T.length:=by rw [hT]; show _=(pre++[]).length; rw [List.append_nil]
  rw [List.append_nil,e]; exact .stop
 |p::r,pre,T,ws,g,o,h,hT,hL,hW=>by
  obtain ⟨a1,a2⟩:=bM h
  obtain ⟨a3,a4⟩:=bM a2
  rw [Ac] at a3
  have hT2:T=(pre++p.text)++txt r:=by rw [hT,List.append_assoc]; rfl
  obtain ⟨l1,l2⟩:=IK a1
  have hl:T.length=pre.length+p.text.length+(txt r).length:=by rw [hT2,List.length_append,List.length_append]
  obtain ⟨c,g',hs⟩:=EM (prog:=prog) (w:=w) (g:=g) a1 a3 hT hL (ws:=ws) (by omega)
  have hlo:=l2 pre.length
  obtain ⟨gf,W,lf,k,i1,i2,i3⟩:=Ae r (pre++p.text) T (ws++out pre.length p) g' (some c) a4 hT2 hL (by rw [List.length_append,List.length_append]; omega)
  refine ⟨gf,out pre.length p++W,lf,k+1,.step (by omega) hs ?_,?_,?_⟩
  ·rw [List.length_append] at i1; rw [←List.append_assoc]; exact i1
  ·unfold out
   show iM _ (match p.word with|some x=>x::wl r|none=>wl r)
   cases p.word with
   |none=>exact i2
   |some x=>exact ⟨⟨_,rfl⟩,i2⟩
  ·show _≤(p.text++txt r).length
   rw [List.length_append,List.length_append]; omega
theorem B5 {ps:List Pc} {T:List Nat} (h:chP ps none=true) (hT:T=txt ps) (hL:T.length≤900000): ∃ws p,aU prog w (KW w) 50 (.ref ((ey w.params)).a) [.f (.str T)] [] (.f (.list ws)) []∧ws.length≤1000000∧At ws 0 (wl ps)∧nth ws (wl ps).length=some (wd kq1 [] .none p):=by
 obtain ⟨gf,W,lf,k,i1,i2,i3⟩:=Ae (prog:=prog) (w:=w) ps [] T [] 0 none h (by rw [hT]; rfl) (by omega) (Nat.le_refl _)
 have hl:W.length≤900000:=by rw [←hT] at i3; omega
 refine ⟨W++[wd kq1 [] .none (Int.ofNat T.length)],Int.ofNat T.length,BB (by omega) (by omega) i1,by rw [List.length_append]; show W.length+1≤_; omega,iM.at [] i2 rfl,?_⟩
 rw [←i2.len]; exact M6
end
end
end MineS
namespace MineS
noncomputable section
open PySem PySem.W PySem.Calls PyProof.Rows
noncomputable def fc:Option Nat→Bool
 |none=>true
 |some c=>has c [32,41,44]
theorem yA {x:Option Nat} (h:fc x=true):x=none∨x=some 32∨x=some 41∨x=some 44:=by
 cases x with
 |none=>exact .inl rfl
 |some c=>
  have h:has c [32,41,44]=true:=h
  simp [k6] at h
  rcases h with h|h|h
  ·exact .inr (.inl (by rw [h]))
  ·exact .inr (.inr (.inl (by rw [h])))
  ·exact .inr (.inr (.inr (by rw [h])))
noncomputable def LX (m:Bool) (c:T):Prop:= ∀x,fc x=true→chP (pcs m c) x=true
section
variable {m:Bool}
theorem Dg (l:Lf):LX m (.lf l):=by
 intro x h
 rcases yA h with rfl|rfl|rfl|rfl<;>cases m<;>exact Lf.all (p:=fun l=>chP (pcs _ (.lf l)) _) (by kernel_rfl) l
theorem k_o (x:Option Nat):chP [.s1 40] x=true:=by cases x<;>kernel_rfl
theorem k_c (x:Option Nat):chP [.s1 41] x=true:=by cases x<;>kernel_rfl
theorem aN {c:T} (h:LX m c):LX m (.par c):=fun x _=>ae (ae (k_o _) (h _ rfl)) (k_c _)
theorem PM (o:Bo) (x:Option Nat):chP ([.sp]++o.pc m++[.sp]) x=true:=by cases m<;>exact Bo.all (p:=fun o=>chP ([.sp]++o.pc _++[.sp]) x) (by kernel_rfl) o
theorem Af {o:Bo} {x y:T} (h:LX m x) (h2:LX m y):LX m (.bin o x y):=fun z hz=>ae (ae (h _ rfl) (PM o _)) (h2 z hz)
theorem M7 (x:Option Nat):chP [ky m bT ei,.sp] x=true:=by cases m<;>kernel_rfl
theorem Ag {x:T} (h:LX m x):LX m (.una .no x):=fun z hz=>ae (M7 _) (h z hz)
theorem IL {o:Uo} (ho:du o=false) (x:Option Nat):chP [.s1 o.c,.sp] x=true:=by cases o<;>first|exact Bool.noConfusion ho|kernel_rfl
theorem nU {o:Uo} {x:T} (ho:du o=false) (h:LX m x) (hh:m=true→dq o=true→hm x=false→ ∀z,∃c,hd (pcs true x) z=some c∧az [c] bF=false):LX m (.una o x):=by
 intro z hz
 show chP (match du o with|true=>_|false=>(.s1 o.c::(match m with|true=>(match hm x with|true=>[.sp]|false=>[])|false=>[.sp]))++pcs m x) z=true
 rw [ho]
 cases m with
 |false=>exact ae (IL ho _) (h z hz)
 |true=>
  cases hx:hm x with
  |true=>
   exact ae (IL ho _) (h z hz)
  |false=>
   refine ae (a:=[.s1 o.c]) ?_ (h z hz)
   cases o with
   |no=>exact Bool.noConfusion ho
   |mi=>
    obtain ⟨c,e,n⟩:=hh rfl rfl hx z
    rw [e]
    show (vp (.s1 45) && ((!az [c] bF && true && true) && true))=true
    rw [n]; kernel_rfl
   |pl=>generalize hd (pcs true x) z=q; cases q<;>kernel_rfl
   |ti=>generalize hd (pcs true x) z=q; cases q<;>kernel_rfl
theorem M8 (g:Bool) (x:Option Nat):chP (ngP g++[kw kq8,.sp]) x=true:=by cases g<;>kernel_rfl
theorem M9 (x:Option Nat):chP [.sp,kw kq3,.sp] x=true:=by kernel_rfl
theorem oZ (g:Bool) (r:List Pc) (z:Option Nat):fc (hd (ngP g++r) z)=true:=by cases g<;>rfl
theorem Ah {g:Bool} {x y z:T} (h:LX m x) (h2:LX m y) (h3:LX m z):LX m (.btw g x y z):=fun q hq=>ae (ae (ae (ae (h _ (oZ g _ _)) (M8 g _)) (h2 _ rfl)) (M9 _)) (h3 q hq)
theorem B6 (g:Bool) (x:Option Nat):chP (ngP g++[kw kq5,.sp,.s1 40]) x=true:=by cases g<;>cases x<;>kernel_rfl
theorem IM (x:Option Nat):chP [.s1 44,.sp] x=true:=by kernel_rfl
theorem Ai {g:Bool} {x:T} (h:LX m x):LX m (.inl g x .nil):=fun q _=>ae (ae (ae (h _ (oZ g _ _)) (B6 g _)) rfl) (k_c q)
theorem Aj {g:Bool} {x y:T} (h:LX m x) (h2:LX m y):LX m (.inl g x (.cons y .nil)):=fun q _=>ae (ae (ae (h _ (oZ g _ _)) (B6 g _)) (ae (h2 _ rfl) rfl)) (k_c q)
theorem Ak {g:Bool} {x y z:T} (h:LX m x) (h2:LX m y) (h3:LX m z):LX m (.inl g x (.cons y (.cons z .nil))):=fun q _=>ae (ae (ae (h _ (oZ g _ _)) (B6 g _)) (ae (h2 _ rfl) (ae (IM _) (ae (h3 _ rfl) rfl)))) (k_c q)
theorem Na (g:Bool) {x:Option Nat} (h:fc x=true):chP ([.sp,kw kq4]++ngP g++[kw cU]) x=true:=by rcases yA h with rfl|rfl|rfl|rfl<;>cases g<;>kernel_rfl
theorem Al {g:Bool} {x:T} (h:LX m x):LX m (.isn g x):=fun q hq=>ae (h _ rfl) (Na g hq)
theorem IN (k g:Bool) (x:Option Nat):chP (ngP g++[f5 m k,.sp]) x=true:=by cases g<;>cases m<;>cases k<;>kernel_rfl
theorem Am {k g:Bool} {x y:T} (h:LX m x) (h2:LX m y):LX m (.mat k g x y .none):=fun q hq=>ae (ae (ae (h _ (oZ g _ _)) (IN k g _)) (h2 _ hq)) rfl
theorem Nb (x:Option Nat):chP [.sp,kw bE,.sp] x=true:=by kernel_rfl
theorem An {k g:Bool} {x y z:T} (h:LX m x) (h2:LX m y) (h3:LX m z) (nz:a9 z=false):LX m (.mat k g x y z):=by
 intro q hq
 show chP (pcs m x++(ngP g++[f5 m k,.sp])++pcs m y++(match a9 z with|true=>[]|false=>[.sp,kw bE,.sp]++pcs m z)) q=true
 rw [nz]
 exact ae (ae (ae (h _ (oZ g _ _)) (IN k g _)) (h2 _ rfl)) (ae (Nb _) (h3 q hq))
theorem PN (x:Option Nat):chP (match m with|true=>[kw fM,.s1 40]|false=>[kw fM,.sp,.s1 40]) x=true:=by cases m<;>cases x<;>kernel_rfl
theorem PO (x:Option Nat):chP [.sp,kw gz,.sp] x=true:=by kernel_rfl
theorem PS (k:Bool) (x:Option Nat):chP (tyP m k) (hd [.s1 41] x)=true:=by cases m<;>cases k<;>kernel_rfl
theorem Ao {k:Bool} {x:T} (h:LX m x):LX m (.cst k x):=fun q _=>ae (ae (ae (ae (PN _) (h _ rfl)) (PO _)) (PS k _)) (k_c q)
theorem Nc {x:Option Nat} (h:fc x=true):chP [.sp,kw kq9,.sp,.nm d9 kP] x=true:=by rcases yA h with rfl|rfl|rfl|rfl<;>kernel_rfl
theorem Ap {x:T} (h:LX m x):LX m (.col x):=fun q hq=>ae (h _ rfl) (Nc hq)
theorem IO (f:Fo) (x:Option Nat):chP [f.pc m,.s1 40] x=true:=by cases f<;>cases m<;>cases x<;>kernel_rfl
theorem PT (x:Option Nat):chP [kw gC,.sp] x=true:=by kernel_rfl
theorem Dh {x y:T} (h:LX m x) (h2:LX m y):LX m (.cal .f (.cons x (.cons y .nil))):=fun q _=>ae (ae (ae (IO .f _) rfl) (ae (h _ rfl) (ae (IM _) (ae (h2 _ rfl) rfl)))) (k_c q)
theorem Di {x:T} (h:LX m x):LX m (.cal .max (.cons x .nil)):=fun q _=>ae (ae (ae (IO .max _) (PT _)) (ae (h _ rfl) rfl)) (k_c q)
theorem Dj:LX m (.cal .count .nil):=fun q _=>by cases m<;>cases q<;>kernel_rfl
theorem Dk:LX m (.cal .replace .nil):=fun q _=>by cases m<;>cases q<;>kernel_rfl
theorem lm (x:Option Nat) (h:x=some 32):chP (match m with|true=>[kw aj]|false=>[kw aj,.sp]++[]) x=true:=by subst h; cases m<;>kernel_rfl
theorem lq (x:Option Nat):chP [kw aj,.sp] x=true:=by kernel_rfl
theorem gK (x:Option Nat):chP [.sp,kw aQ,.sp] x=true:=by kernel_rfl
theorem gL (x:Option Nat):chP [.sp,kw aZ,.sp] x=true:=by kernel_rfl
theorem yB (x:Option Nat):chP [.sp,kw bK,.sp] x=true:=by kernel_rfl
theorem kB {x:Option Nat} (h:fc x=true):chP [.sp,kw bm] x=true:=by rcases yA h with rfl|rfl|rfl|rfl<;>kernel_rfl
theorem pD {x y:T} (hx:LX m x) (hy:LX m y):LX m (.cas .none (.con2 x y .nil) .none):=by
 intro q hq
 show chP ((match m with|true=>[kw aj]|false=>[kw aj,.sp]++[])++([.sp,kw aQ,.sp]++pcs m x++[.sp,kw aZ,.sp]++pcs m y++[])++[]++[.sp,kw bm]) q=true
 exact ae (ae (ae (lm _ rfl) (ae (ae (ae (ae (gK _) (hx _ rfl)) (gL _)) (hy _ rfl)) rfl)) rfl) (kB hq)
theorem pF {x y o:T} (hx:LX m x) (hy:LX m y) (ho:LX m o) (no:a9 o=false):LX m (.cas .none (.con2 x y .nil) o):=by
 intro q hq
 show chP ((match m with|true=>[kw aj]|false=>[kw aj,.sp]++[])++([.sp,kw aQ,.sp]++pcs m x++[.sp,kw aZ,.sp]++pcs m y++[])++(match a9 o with|true=>[]|false=>[.sp,kw bK,.sp]++pcs m o)++[.sp,kw bm]) q=true
 rw [no]
 exact ae (ae (ae (lm _ rfl) (ae (ae (ae (ae (gK _) (hx _ rfl)) (gL _)) (hy _ rfl)) rfl)) (ae (yB _) (ho _ rfl))) (kB hq)
theorem pG {x y u v:T} (hx:LX m x) (hy:LX m y) (hu:LX m u) (hv:LX m v):LX m (.cas .none (.con2 x y (.con2 u v .nil)) .none):=by
 intro q hq
 show chP ((match m with|true=>[kw aj]|false=>[kw aj,.sp]++[])++([.sp,kw aQ,.sp]++pcs m x++[.sp,kw aZ,.sp]++pcs m y++([.sp,kw aQ,.sp]++pcs m u++[.sp,kw aZ,.sp]++pcs m v++[]))++[]++[.sp,kw bm]) q=true
 exact ae (ae (ae (lm _ rfl) (ae (ae (ae (ae (gK _) (hx _ rfl)) (gL _)) (hy _ rfl)) (ae (ae (ae (ae (gK _) (hu _ rfl)) (gL _)) (hv _ rfl)) rfl))) rfl) (kB hq)
theorem pH {x y u v o:T} (hx:LX m x) (hy:LX m y) (hu:LX m u) (hv:LX m v) (ho:LX m o) (no:a9 o=false):LX m (.cas .none (.con2 x y (.con2 u v .nil)) o):=by
 intro q hq
 show chP ((match m with|true=>[kw aj]|false=>[kw aj,.sp]++[])++([.sp,kw aQ,.sp]++pcs m x++[.sp,kw aZ,.sp]++pcs m y++([.sp,kw aQ,.sp]++pcs m u++[.sp,kw aZ,.sp]++pcs m v++[]))++(match a9 o with|true=>[]|false=>[.sp,kw bK,.sp]++pcs m o)++[.sp,kw bm]) q=true
 rw [no]
 exact ae (ae (ae (lm _ rfl) (ae (ae (ae (ae (gK _) (hx _ rfl)) (gL _)) (hy _ rfl)) (ae (ae (ae (ae (gK _) (hu _ rfl)) (gL _)) (hv _ rfl)) rfl))) (ae (yB _) (ho _ rfl))) (kB hq)
theorem pI {b x y:T} (hb:LX m b) (hx:LX m x) (hy:LX m y) (nb:a9 b=false):LX m (.cas b (.con2 x y .nil) .none):=by
 intro q hq
 show chP ((match m with|true=>(match a9 b with|true=>[kw aj]|false=>[kw aj,.sp]++pcs m b)|false=>[kw aj,.sp]++pcs m b)++([.sp,kw aQ,.sp]++pcs m x++[.sp,kw aZ,.sp]++pcs m y++[])++[]++[.sp,kw bm]) q=true
 rw [nb]
 exact ae (ae (ae (by cases m<;>exact ae (lq _) (hb _ rfl)) (ae (ae (ae (ae (gK _) (hx _ rfl)) (gL _)) (hy _ rfl)) rfl)) rfl) (kB hq)
theorem pJ {b x y o:T} (hb:LX m b) (hx:LX m x) (hy:LX m y) (ho:LX m o) (nb:a9 b=false) (no:a9 o=false):LX m (.cas b (.con2 x y .nil) o):=by
 intro q hq
 show chP ((match m with|true=>(match a9 b with|true=>[kw aj]|false=>[kw aj,.sp]++pcs m b)|false=>[kw aj,.sp]++pcs m b)++([.sp,kw aQ,.sp]++pcs m x++[.sp,kw aZ,.sp]++pcs m y++[])++(match a9 o with|true=>[]|false=>[.sp,kw bK,.sp]++pcs m o)++[.sp,kw bm]) q=true
 rw [nb]
 rw [no]
 exact ae (ae (ae (by cases m<;>exact ae (lq _) (hb _ rfl)) (ae (ae (ae (ae (gK _) (hx _ rfl)) (gL _)) (hy _ rfl)) rfl)) (ae (yB _) (ho _ rfl))) (kB hq)
theorem pK {b x y u v:T} (hb:LX m b) (hx:LX m x) (hy:LX m y) (hu:LX m u) (hv:LX m v) (nb:a9 b=false):LX m (.cas b (.con2 x y (.con2 u v .nil)) .none):=by
 intro q hq
 show chP ((match m with|true=>(match a9 b with|true=>[kw aj]|false=>[kw aj,.sp]++pcs m b)|false=>[kw aj,.sp]++pcs m b)++([.sp,kw aQ,.sp]++pcs m x++[.sp,kw aZ,.sp]++pcs m y++([.sp,kw aQ,.sp]++pcs m u++[.sp,kw aZ,.sp]++pcs m v++[]))++[]++[.sp,kw bm]) q=true
 rw [nb]
 exact ae (ae (ae (by cases m<;>exact ae (lq _) (hb _ rfl)) (ae (ae (ae (ae (gK _) (hx _ rfl)) (gL _)) (hy _ rfl)) (ae (ae (ae (ae (gK _) (hu _ rfl)) (gL _)) (hv _ rfl)) rfl))) rfl) (kB hq)
theorem pL {b x y u v o:T} (hb:LX m b) (hx:LX m x) (hy:LX m y) (hu:LX m u) (hv:LX m v) (ho:LX m o) (nb:a9 b=false) (no:a9 o=false):LX m (.cas b (.con2 x y (.con2 u v .nil)) o):=by
 intro q hq
 show chP ((match m with|true=>(match a9 b with|true=>[kw aj]|false=>[kw aj,.sp]++pcs m b)|false=>[kw aj,.sp]++pcs m b)++([.sp,kw aQ,.sp]++pcs m x++[.sp,kw aZ,.sp]++pcs m y++([.sp,kw aQ,.sp]++pcs m u++[.sp,kw aZ,.sp]++pcs m v++[]))++(match a9 o with|true=>[]|false=>[.sp,kw bK,.sp]++pcs m o)++[.sp,kw bm]) q=true
 rw [nb]
 rw [no]
 exact ae (ae (ae (by cases m<;>exact ae (lq _) (hb _ rfl)) (ae (ae (ae (ae (gK _) (hx _ rfl)) (gL _)) (hy _ rfl)) (ae (ae (ae (ae (gK _) (hu _ rfl)) (gL _)) (hv _ rfl)) rfl))) (ae (yB _) (ho _ rfl))) (kB hq)
end
theorem Nd {n:Nat} {t:T} (h:Dr 0 n t):LX false (cl t):=by
 refine Dr.ind (F:=fun _ t=>LX false (cl t)) ?lf ?una ?bin ?btw ?in0 ?in1 ?in2 ?isn ?mat ?mae ?cas ?cst ?col ?cf ?cm ?cc ?cr h
 case lf=>intro n l; exact Dg l
 case una=>
  intro n o x d i
  cases o with
  |no=>exact Ag (aN i)
  |_=>exact nU rfl (aN i) fun h=>Bool.noConfusion h
 case bin=>intro n o x y d i d2 j _; exact Af (aN i) (aN j)
 case btw=>intro n g x y z d i d2 j d3 k; exact Ah (aN i) (aN j) (aN k)
 case in0=>intro n g x d i; exact Ai (aN i)
 case in1=>intro n g x y d i d2 j; exact Aj (aN i) (aN j)
 case in2=>intro n g x y z d i d2 j d3 k; exact Ak (aN i) (aN j) (aN k)
 case isn=>intro n g x d i; exact Al (aN i)
 case mat=>intro n k g x y d i d2 j; exact Am (aN i) (aN j)
 case mae=>
  intro n k g x y z d i d2 j d3 l
  show LX false (.mat k g (.par (cl x)) (.par (cl y)) (pz (cl z)))
  rw [cv (cI d3).1]
  exact An (aN i) (aN j) (aN l) rfl
 case cst=>intro n k x d i; exact Ao i
 case col=>intro n x d i; exact Ap (aN i)
 case cf=>intro n x y d i d2 j; exact Dh (aN i) (aN j)
 case cm=>intro n x d i; exact Di (aN i)
 case cc=>intro n; exact Dj
 case cr=>intro n; exact Dk
 case cas=>
  intro n b o hb ho x y d i d2 j ws hw
  rcases hb with rfl|⟨db,hb2⟩<;>rcases ho with rfl|⟨do_,ho2⟩<;>rcases hw with rfl|⟨u,v,d3,i2,d4,j2,rfl⟩
  ·show LX false (.cas .none (.con2 (.par (cl x)) (.par (cl y)) .nil) .none); exact pD (aN i) (aN j)
  ·show LX false (.cas .none (.con2 (.par (cl x)) (.par (cl y)) (.con2 (.par (cl u)) (.par (cl v)) .nil)) .none); exact pG (aN i) (aN j) (aN i2) (aN j2)
  ·show LX false (.cas .none (.con2 (.par (cl x)) (.par (cl y)) .nil) (pz (cl o))); rw [cv (cI do_).1]; exact pF (aN i) (aN j) (aN ho2) rfl
  ·show LX false (.cas .none (.con2 (.par (cl x)) (.par (cl y)) (.con2 (.par (cl u)) (.par (cl v)) .nil)) (pz (cl o))); rw [cv (cI do_).1]; exact pH (aN i) (aN j) (aN i2) (aN j2) (aN ho2) rfl
  ·show LX false (.cas (pz (cl b)) (.con2 (.par (cl x)) (.par (cl y)) .nil) .none); rw [cv (cI db).1]; exact pI (aN hb2) (aN i) (aN j) rfl
  ·show LX false (.cas (pz (cl b)) (.con2 (.par (cl x)) (.par (cl y)) (.con2 (.par (cl u)) (.par (cl v)) .nil)) .none); rw [cv (cI db).1]; exact pK (aN hb2) (aN i) (aN j) (aN i2) (aN j2) rfl
  ·show LX false (.cas (pz (cl b)) (.con2 (.par (cl x)) (.par (cl y)) .nil) (pz (cl o))); rw [cv (cI db).1]; rw [cv (cI do_).1]; exact pJ (aN hb2) (aN i) (aN j) (aN ho2) rfl rfl
  ·show LX false (.cas (pz (cl b)) (.con2 (.par (cl x)) (.par (cl y)) (.con2 (.par (cl u)) (.par (cl v)) .nil)) (pz (cl o))); rw [cv (cI db).1]; rw [cv (cI do_).1]; exact pL (aN hb2) (aN i) (aN j) (aN i2) (aN j2) (aN ho2) rfl rfl
theorem dw {l:Int} {x c:T} (h:LX true c):LX true (wp l x c):=by
 unfold wp; cases ile l (lv x)
 ·exact aN h
 ·exact h
theorem IP (b ws o:T) (z:Option Nat):hd (pcs true (.cas b ws o)) z=some 67:=by
 show hd ((match a9 b with|true=>[kw aj]|false=>[kw aj,.sp]++pcs true b)++_++_++_) z=_
 cases a9 b<;>rfl
noncomputable def hdB (o:Option Nat):Bool:=Option.rec false (fun c=> !az [c] bF) o
theorem IQ {o:Option Nat} (h:hdB o=true): ∃c,o=some c∧az [c] bF=false:=by
 cases o with
 |none=>exact Bool.noConfusion h
 |some c=>exact ⟨c,rfl,(Bool.not_eq_true' _).mp h⟩
theorem Nf (l:Lf) (z:Option Nat) (hn:hm (cw (.lf l))=false):hdB (hd (pcs true (cw (.lf l))) z)=true:=by
 have h:=Lf.all (p:=fun l=>hm (cw (.lf l))||hdB (hd (pcs true (cw (.lf l))) z)) (by kernel_rfl) l
 rw [hn] at h; exact h
theorem Ng {n:Nat} {x:T} (d:Dr 0 n x) (hl:ile 11 (lv x)=true) (hn:hm (cw x)=false) (z:Option Nat): ∃c,hd (pcs true (cw x)) z=some c∧az [c] bF=false:=by
 refine IQ ?_
 have e:=d.ex
 clear d
 cases x with
 |lf l=>exact Nf l z hn
 |una o x=>
  cases o with
  |no=>exact Bool.noConfusion hl
  |mi=>
   exfalso
   have e:hm (match dq .mi && bJ x with|true=> .una .mi (.par (cw x))|false=> .una .mi (wp 11 x (cw x)))=false:=hn
   cases hq:dq .mi && bJ x<;>(rw [hq] at e; exact Bool.noConfusion e)
  |_=>rfl
 |bin o _ _=>exact Bool.noConfusion ((C5 o).symm.trans hl)
 |cas b ws o=>rw [show hd (pcs true (cw (.cas b ws o))) z=some 67 from IP _ _ _ _]; rfl
 |cst=>rfl
 |cal f xs=>cases f<;>rfl
 |_=>first|exact Bool.noConfusion hl|exact Bool.noConfusion e
theorem Nh {n:Nat} {t:T} (h:Dr 0 n t):LX true (cw t):=by
 refine Dr.ind (F:=fun _ t=>LX true (cw t)) ?lf ?una ?bin ?btw ?in0 ?in1 ?in2 ?isn ?mat ?mae ?cas ?cst ?col ?cf ?cm ?cc ?cr h
 case lf=>intro n l; exact Dg l
 case una=>
  intro n o x d i
  have hh:hm (wp 11 x (cw x))=false→ ∀z,∃c,hd (pcs true (wp 11 x (cw x))) z=some c∧az [c] bF=false:=by
   unfold wp
   cases hl:ile 11 (lv x) with
   |false=>exact fun _ z=>⟨40,rfl,rfl⟩
   |true=>exact fun hn z=>Ng d hl hn z
  cases o with
  |no=>exact Ag (dw i)
  |mi=>
   show LX true (match dq .mi && bJ x with|true=> .una .mi (.par (cw x))|false=> .una .mi (wp 11 x (cw x)))
   cases dq .mi && bJ x with
   |true=>exact nU rfl (aN i) fun _ _ _ z=>⟨40,rfl,rfl⟩
   |false=>exact nU rfl (dw i) fun _ _ h=>hh h
  |_=>exact nU rfl (dw i) fun _ _ h=>hh h
 case bin=>intro n o x y d i d2 j _; exact Af (dw i) (dw j)
 case btw=>intro n g x y z d i d2 j d3 k; exact Ah (dw i) (dw j) (dw k)
 case in0=>intro n g x d i; exact Ai (dw i)
 case in1=>intro n g x y d i d2 j; exact Aj (dw i) j
 case in2=>intro n g x y z d i d2 j d3 k; exact Ak (dw i) j k
 case isn=>intro n g x d i; exact Al (dw i)
 case mat=>intro n k g x y d i d2 j; exact Am (dw i) (dw j)
 case mae=>
  intro n k g x y z d i d2 j d3 l
  show LX true (.mat k g (wp 4 x (cw x)) (wp 5 y (cw y)) (match a9 z with|true=> .none|false=>wp 5 z (cw z)))
  rw [(cI d3).2]
  refine An (dw i) (dw j) (dw l) ?_
  unfold wp
  cases ile 5 (lv z) with
  |true=>exact bL d3
  |false=>rfl
 case cst=>intro n k x d i; exact Ao i
 case col=>intro n x d i; exact Ap (dw i)
 case cf=>intro n x y d i d2 j; exact Dh i j
 case cm=>intro n x d i; exact Di i
 case cc=>intro n; exact Dj
 case cr=>intro n; exact Dk
 case cas=>
  intro n b o hb ho x y d i d2 j ws hw
  rcases hb with rfl|⟨db,hb2⟩<;>rcases ho with rfl|⟨do_,ho2⟩<;>rcases hw with rfl|⟨u,v,d3,i2,d4,j2,rfl⟩
  ·exact pD i j
  ·exact pG i j i2 j2
  ·exact pF i j ho2 (bL do_)
  ·exact pH i j i2 j2 ho2 (bL do_)
  ·exact pI hb2 i j (bL db)
  ·exact pK hb2 i j i2 j2 (bL db)
  ·exact pJ hb2 i j ho2 (bL db) (bL do_)
  ·exact pL hb2 i j i2 j2 ho2 (bL db) (bL do_)
end
end MineS
namespace MineS
noncomputable section
open PySem PySem.W PySem.Calls PyProof.Rows
section
variable {prog:Program} {w:World}
theorem Aq {m:Bool} {n:Nat} {c:T} {tx:List Nat} (hn:n≤2) (hx:PX prog w m (2*n) c) (h1:ile 1 (lv c)=true) (hk:LX m c) (hT:tx=txt (pcs m c)) (hL:tx.length≤900000):aU prog w (KW w) 540 (.ref ((dd w.params)).a) [.f (.str tx)] [] (.f (node c)) []:=by
 obtain ⟨ws,p,r1,L,ha,he⟩:=B5 (prog:=prog) (w:=w) (hk none rfl) hT hL
 have F:=EJ (prog:=prog) (w:=w) L he
 have e0:0+wn m c=(wl (pcs m c)).length:=Nat.zero_add _
 have hr:=hx.x1 (e:=430) (tx:=tx) (dp:=0) L ha (by omega) (by omega) (e0▸F) rfl h1
 rw [e0] at hr
 exact (Ed (e:=470) L r1 hr he)
theorem BL2 {n:Nat} (h:n≤2):BL n≤900000:=by
 match n,h with
 |0,_=>decide
 |1,_=>decide
 |2,_=>decide
theorem EN {n:Nat} {t:T} (hn:n≤2) (h:Dr 0 n t):aU prog w (KW w) 540 (.ref ((dd w.params)).a) [.f (.str (lt t))] [] (.f (node t)) []:=by
 have:=Aq (prog:=prog) (w:=w) hn (MY h) (yy h) (Nd h) (tx:=lt t) rfl (Nat.le_trans (lt_ok (prog:=prog) (w:=w) h hn).1 (BL2 hn))
 rw [oW] at this; exact this
theorem EO (L:LSO prog w) {n:Nat} {t:T} (hn:n≤2) (h:Dr 0 n t):aU prog w (KW w) 540 (.ref ((dd w.params)).a) [.f (.str (wt t))] [] (.f (node t)) []:=by
 have:=Aq (prog:=prog) (w:=w) hn (MZ h) (cw1 h) (Nh h) (tx:=wt t) rfl (Nat.le_trans (C3 L h hn).1 (BL2 hn))
 rw [oX] at this; exact this
end
end
end MineS
namespace MineS
noncomputable section
open PySem PySem.W PySem.Calls PyProof.Rows
noncomputable def lr (F:Fz) (env:Env) (x:Str) (f:Fv):Prop:= ∃a o u,env.cells.lookup x=some a∧F a=some o∧o.data= .cell (some u)∧aG F f u
theorem lr.mono {F F':Fz} {env:Env} {x:Str} {f:Fv} (h:lr F env x f) (le:FLe F F'):lr F' env x f:=
 let ⟨a,o,u,h1,h2,h3,h4⟩:=h; ⟨a,o,u,h1,le _ _ h2,h3,h4.mono le⟩
section
variable {prog:Program} {w:World} {K:Frag} {G:Gl} {c:Cx} {S:St}
noncomputable def eH (prog:Program) (w:World) (K:Frag) (x:Str) (f:Fv) (c:Cx) (e:PySem.Expr) (S:St) (P:V→St→Prop):Prop:=jG prog w K (fun env F=>lr F env x f) c e S P
theorem eH.meth (g:GOK prog w K G) {y x:Str} {f0:Fv} {p0 apos pos:Pos} {args:List PySem.Expr} {P:V→St→Prop} (hb:d0 (.Name y p0)=true) (hs:bk args=true) (hl:Nat.blt args.length 30=true) (hp:Nat.beq apos.endLine pos.line=true)
  (hd:sq y dbg=false) (hk:kind? c y=some .cell) {C f:Addr} (hc:kZ S (.f f0) x=some C) (hm:fG G C x=some f) (Y:bB prog w K c args S fun vs S2=>OpK prog w K (fun vs=>PySem.call (.ref f) vs) c.d (.f f0::vs) S2 P):
  eH prog w K y f0 c (.Call (.Attribute (.Name y p0) x apos) args [] pos) S P:=fun A s F ρ env he hC hr hi Q E q=>by
 obtain ⟨pl,e⟩:=eR (env:=env) (x:=x) hb hs hl hp
 rw [e]
 obtain ⟨ca,co,cu,hc1,hc2,hc3,hc4⟩:=hC
 refine wpAny_bind (wpAny_Name (wpAny_loadName_cell he.kind ((he.kindOf y).trans hk) hc1 ⟨co,hi.H.fh _ _ hc2,hc3⟩ ?_) (fu hd))
 have r1:bg F ρ (.f f0) cu:= .f hc4
 obtain ⟨a,dx,od,rfl,I1,sh⟩:=lN hi.i r1 hc
 obtain ⟨l,hl⟩: ∃l,bx C G.mth=some l:=by
  unfold fG at hm; split at hm
  ·exact ⟨_,by assumption⟩
  ·cases hm
 obtain ⟨k1,k2⟩:=g.gm C l hl
 obtain ⟨j1,j2,j3⟩:=g.mth C x f hm
 refine wpAny_bind (wpAny_standAt (wpAny_bind (wpAny_holding (method_fn hi.H.kin I1 k1 k2 j1 j2 sh ?_))))
 refine fg hi.H.kin j3 hs (Y A s F ρ env he hr hi pos _ _ fun vs S2 us s2 F2 ρ2 z st2 r2=>⟨st2.I.H.kin,?_⟩)
 exact z A s2 F2 ρ2 env.locals (_::us) hr st2.I (.cons (r1.mono st2.k.ff st2.r) r2) Q E fun v S' u' s' F' ρ' p st3 r3=>q v S' u' s' F' ρ' p (st2.trans st3) r3
theorem eH.methB {y:Str} {f0:Fv} {x:Str} {id:String} {k:Const} {kn:Nat} {kp apos pos:Pos} {arg:PySem.Expr} {fk:Fv} {P:V→St→Prop} (hb:d0 (.Constant k kn kp)=true) (hs:bV arg=false) (hp:Nat.beq apos.endLine pos.line=true) (ek:cst k=some fk)
  (hm:cK prog w K S (.f fk) x id) (X:eH prog w K y f0 c arg S fun v S1=>OpK prog w K (fun us=>PySem.call (.builtin id) us) c.d [.f fk,v] S1 P):
  eH prog w K y f0 c (.Call (.Attribute (.Constant k kn kp) x apos) [arg] [] pos) S P:=fun A s F ρ env he hC hr hi Q E q=>by
 have hs2:bk [arg]=true:=by unfold bk; rw [hs]; rfl
 obtain ⟨pl,e⟩:=eR (env:=env) (x:=x) (args:=[arg]) hb hs2 rfl hp
 rw [e]
 have K0:af prog w K c (.Constant k kn kp) S fun v S1=>v= .f fk∧S1=S:=af.const ek ⟨rfl,rfl⟩
 refine wpAny_bind (K0 A s F ρ env he hr hi _ _ fun v S1 u s1 F1 ρ1 ⟨e1,e2⟩ st1 r1=> ?_)
 subst e1; subst e2
 refine wpAny_bind (wpAny_standAt (wpAny_bind (wpAny_holding (hm A s1 F1 ρ1 env.locals u st1.I r1 pl _ _ ?_))))
 refine gO hs2 ?_
 rw [bY hs,da]
 refine spliced_cons (X A s1 F1 ρ1 env he (hC.mono st1.k.ff) hr st1.I _ _ fun v S2 u2 s2 F2 ρ2 z st2 r2=>spliced_nil ?_)
 exact z A s2 F2 ρ2 env.locals [u,u2] hr st2.I (.cons (r1.mono st2.k.ff st2.r) (.cons r2 .nil)) Q E fun v S' u' s' F' ρ' p st3 r3=>q v S' u' s' F' ρ' p ((st1.trans st2).trans st3) r3
theorem eH.comp {x:Str} {f0:Fv} {elt target iter:PySem.Expr} {scope:Scope} {pos:Pos} {tp:Bool} {nm:List (Str×NameKind)} {P:V→St→Prop} (hs:iO iter=true) (ht:tp=true∨lU target=true)
  (hclos: ∀(env:Env) (a:Addr),env.cells.lookup x=some a→closureFor scope env=pure [(x,a)]) (hrel: ∀env:Env,cj c env→(relabel scope env).names=nm) (hcell: ∀x∈scope.names,x.2≠ .cell) (hkind:scope.kind= .function) (hnames: ∀x∈scope.names,x.2= .local→scope.names.lookup x.1=some .local)
  (X:af prog w K c iter S fun v S1=> ∃(items:List Fv) (S2:St) (Inv:List Fv→List Fv→St→Prop),fw tp S1 v=some (items,S2)∧Inv items [] ⟨[],S2.σ++[.list []]⟩∧
   (∀f rem done S,done.length+rem.length<items.length→Inv (f::rem) done S→ ∃S',Tgt ⟨nm,c.e,c.k⟩ target tp f S S'∧eH prog w K x f0 ⟨nm,c.e,c.k⟩ elt S' fun v S3=> ∃g,v= .f g∧S3.σ[S2.σ.length]? =some (.list done)∧Inv rem (done++[g]) ⟨S3.loc,S3.σ.set S2.σ.length (.list (done++[g]))⟩)∧
   (∀done S,Inv [] done S→P (.r S2.σ.length) ⟨S2.loc,S.σ⟩)∧items.length≤1000000):
  eH prog w K x f0 c (.ListComp elt [⟨target,iter,[],0⟩] scope pos) S P:=
 jG.comp (Z:=fun env F=>lr F env x f0) (fun _ _ _ h le=>h.mono le) hs ht (fun env F h=>let ⟨a,o,u,h1,h2,h3,h4⟩:=h; ⟨[(x,a)],hclos env a h1,fun e2 F' e le=>⟨a,o,u,by rw [e]; exact List.lookup_cons_self,le _ _ h2,h3,h4.mono le⟩⟩) hrel hcell hkind hnames X
end
end
end MineS
set_option backward.match.sparseCases false
namespace MineS
noncomputable section
open PySem PySem.W PySem.Calls PyProof.Rows
noncomputable def rE:Stmt→PySem.Expr
 | .Return (some e) _=>e
 |_=> .Constant .none 0 default
noncomputable def rP:Stmt→Pos
 | .Return _ p=>p
 |_=>default
noncomputable def cF:PySem.Expr→PySem.Expr
 | .Call f _ _ _=>f
 |e=>e
noncomputable def cA:PySem.Expr→PySem.Expr
 | .Call _ (a::_) _ _=>a
 |e=>e
noncomputable def eP:PySem.Expr→Pos
 | .Call _ _ _ p=>p
 | .Attribute _ _ p=>p
 | .Constant _ _ p=>p
 | .Name _ p=>p
 | .ListComp _ _ _ p=>p
 |_=>default
noncomputable def aO:PySem.Expr→PySem.Expr
 | .Attribute o _ _=>o
 |e=>e
noncomputable def lE:PySem.Expr→PySem.Expr
 | .ListComp e _ _ _=>e
 |e=>e
noncomputable def lG:PySem.Expr→PySem.Expr
 | .ListComp _ (g::_) _ _=>g.target
 |e=>e
noncomputable def lI:PySem.Expr→PySem.Expr
 | .ListComp _ (g::_) _ _=>g.iter
 |e=>e
noncomputable def lS:PySem.Expr→Scope
 | .ListComp _ _ s _=>s
 |_=>Mine.fS (Mine.mt 70 2)
noncomputable def liB:List Stmt:=Mine.fB (Mine.mt 70 2)
noncomputable def liR:Stmt:=stA liB 0
noncomputable def liC:PySem.Expr:=rE liR
noncomputable def liL:PySem.Expr:=cA liC
noncomputable def liM:PySem.Expr:=lE liL
theorem B7:liB=[.Return (some (.Call (.Attribute (.Constant (.str CH) 0 (eP (aO (cF liC)))) CI (eP (cF liC))) [.ListComp (.Call (.Attribute (.Name au (eP (aO (cF liM)))) te (eP (cF liM))) [.Name dF (eP (cA liM))] [] (eP liM)) [⟨.Name dF (eP (lG liL)),.Name cN (eP (lI liL)),[],0⟩] (lS liL) (eP liL)] [] (eP liC))) (rP liR)]:=by kernel_rfl
theorem ma:(Mine.fS (Mine.mt 70 2)).names=[(au,.cell),(cN,.local)]:=by kernel_rfl
theorem jQ:(lS liL).names=[(w7,.local),(dF,.local),(au,.free)]:=by kernel_rfl
theorem EP:(lS liL).kind= .function:=by kernel_rfl
theorem EQ {env:Env} {a:Addr} (h:env.cells.lookup au=some a):closureFor (lS liL) env=pure [(au,a)]:=by
 unfold closureFor
 rw [jQ]
 simp only [List.forIn_cons,List.forIn_nil,cellOf,h]
 rfl
theorem IR {env:Env} {e k:Nat} (he:cj ⟨(Mine.fS (Mine.mt 70 2)).names,e,k⟩ env):(relabel (lS liL) env).names=[(w7,.local),(dF,.local),(au,.cell)]:=by
 have h1:env.scope.names=[(au,.cell),(cN,.local)]:=he.names.trans ma
 have h2:env.kindOf au=some .cell:=by unfold Env.kindOf; rw [h1]; rfl
 unfold relabel
 simp only [jQ,List.map_cons,List.map_nil,he.kind,h2]
 rfl
section
variable {prog:Program} {w:World} {e:Nat}
inductive WRs (prog:Program) (w:World) (e:Nat):List Fv→List (List Nat)→Prop
 |nil:WRs prog w e [] []
 |cons {x:Fv} {t:List Nat} {xs:List Fv} {ts:List (List Nat)}:WR1 prog w e x t→WRs prog w e xs ts→WRs prog w e (x::xs) (t::ts)
theorem pM: ∀ts:List (List Nat),cX (ts.map Fv.str)=some ts
 |[]=>rfl
 |t::r=>by
  show (match cX (r.map Fv.str) with|some l=>some (t::l)|none=>none)=_
  rw [pM r]
theorem ER {xs:List Fv} {ts:List (List Nat)} (h:WRs prog w e xs ts) (hl:xs.length≤1000000) {vs:List (Str×V)} (hv:look cN vs=some (.f (.list xs))) {P:V→St→Prop} (p:P (.r 0) ⟨vs,[.list (ts.map Fv.str)]⟩):
  eH prog w (KW w) au wr ⟨(Mine.fS (Mine.mt 70 2)).names,e,0⟩ (.ListComp (.Call (.Attribute (.Name au (eP (aO (cF liM)))) te (eP (cF liM))) [.Name dF (eP (cA liM))] [] (eP liM)) [⟨.Name dF (eP (lG liL)),.Name cN (eP (lI liL)),[],0⟩] (lS liL) (eP liL)) ⟨vs,[]⟩ P:=by
 refine eH.comp (tp:=false) (nm:=[(w7,.local),(dF,.local),(au,.cell)]) rfl (.inr rfl) (fun env a h=>EQ h) (fun env he=>IR he) (by rw [jQ]; simp) EP (by rw [jQ]; intro x hx hk; simp at hx; rcases hx with rfl|rfl|rfl<;>first|rfl|cases hk) ?_
 refine af.local (by rfl) (by unfold kind?; rw [ma]; rfl) hv ?_
 refine ⟨xs,⟨vs,[]⟩,fun rem done S=> ∃ts2,WRs prog w e rem ts2∧ ∃ts1,ts=ts1++ts2∧done=ts1.map Fv.str∧S.σ=[.list done],rfl,⟨ts,h,[],rfl,rfl,rfl⟩,?_,?_,hl⟩
 ·rintro f rem done S _ ⟨ts2,hw,ts1,rfl,rfl,hσ⟩
  cases hw with
  | @cons _ t _ ts2 hw hr=>
   refine ⟨_,.name (by rfl),?_⟩
   refine eH.meth (gok prog w) (C:=961) (f:=925) rfl rfl rfl (by kernel_rfl) rfl rfl (by kernel_rfl) (by kernel_rfl) ?_
   refine bB.cons rfl (af.local (v:= .f f) (by rfl) (by rfl) (by rw [lJ,if_pos rfl]) (bB.nil ?_))
   refine OpK.runs (n:=0) (σ':=[]) (v:= .f (.str t)) hw (Nat.le_refl _) rfl rfl (.inl ⟨rfl,Nat.zero_le _⟩) ?_
   refine ⟨.str t,rfl,?_,ts2,hr,ts1++[t],by simp,by simp,?_⟩
   ·show (([]:List MO)++S.σ.drop 0)[0]? =_; rw [hσ]; rfl
   ·show (([]:List MO)++S.σ.drop 0).set 0 _=_; rw [hσ]; rfl
 ·rintro done S ⟨ts2,hw,ts1,e1,e2,hσ⟩
  cases hw
  rw [List.append_nil] at e1
  subst e1; subst e2
  show P (.r 0) ⟨vs,S.σ⟩
  rw [hσ]; exact p
end
end
end MineS
set_option backward.match.sparseCases true
namespace MineS
noncomputable section
open PySem PySem.W PySem.Calls PyProof.Rows
theorem leave0 {K:Frag} {h h1 h':Heap} {F F1 F':Fz} {ρ ρ':Rho} {L:Addr} {S:St} {loc:List (Str×V)} (I:InH K [] h F ρ) (g: ∀a o,h.get? a=some o→h1.get? a=some o) (n:h.get? L=none) (lf:FLe F F1) (nf: ∀a o,F1 a=some o→F a≠none∨h.get? a=none) (x:dO K L ⟨loc,[]⟩ h1 F1 ρ S h' F' ρ'):Stp K [] h F ρ [] h' F' []:=by
 have e0:ρ=[]:=List.length_eq_zero_iff.mp I.len
 subst e0
 have no: ∀(ρ:Rho) a,¬bC [] ρ a:=by rintro ρ a ⟨i,m,p,h1,_⟩; simp at h1
 have nL: ∀a,lvS L ⟨loc,[]⟩ ([]:Rho) a→a=L:=fun a l=>l.resolve_right (no _ a)
 refine ⟨⟨x.I.H.kf,x.I.H.fh,rfl,fun i j m p m' p' a _ h1=>by simp at h1,fun a l=>absurd l (no _ a),fun i m p h1=>by simp at h1⟩,⟨lf.trans x.k.ff,fun a o q _=>x.k.hh a o (g a o q) fun l=>(by rw [nL a l,n] at q; cases q),fun a o q=> ?_,fun a l=>absurd l (no _ a)⟩,.refl _⟩
 rcases x.k.nf a o q with y|y|y
 ·cases z:F1 a with
  |none=>exact absurd z y
  |some o'=>
   rcases nf a o' z with z|z
   ·exact .inl z
   ·exact .inr (.inr z)
 ·rw [nL a y]; exact .inr (.inr n)
 ·cases z:h.get? a with
  |none=>exact .inr (.inr rfl)
  |some o'=>rw [g a o' z] at y; cases y
noncomputable def liO:Obj:=Mine.fn (Mine.mt 70 2) LQ .none (.ref 929) (.str kX 1606)
theorem kC:(d6 liO).scope.names=[(au,.cell),(cN,.local)]:=by kernel_rfl
section
variable {prog:Program} {w:World} {e:Nat}
theorem IS {xs:List Fv} {ts:List (List Nat)} (h:WRs prog w e xs ts) (hl:xs.length≤1000000) (hz:cJ 2 ts≤16777216) {vs:List (Str×V)} (hv:look cN vs=some (.f (.list xs))):
  eH prog w (KW w) au wr ⟨(Mine.fS (Mine.mt 70 2)).names,e,0⟩ (.Call (.Attribute (.Constant (.str CH) 0 (eP (aO (cF liC)))) CI (eP (cF liC))) [.ListComp (.Call (.Attribute (.Name au (eP (aO (cF liM)))) te (eP (cF liM))) [.Name dF (eP (cA liM))] [] (eP liM)) [⟨.Name dF (eP (lG liL)),.Name cN (eP (lI liL)),[],0⟩] (lS liL) (eP liL)] [] (eP liC)) ⟨vs,[]⟩ fun v _=>v= .f (.str (fi bW ts)):=
 eH.methB (fk:= .str bW) rfl rfl (by kernel_rfl) (by kernel_rfl) (cK.strs (id:="str.join") (by kernel_rfl)) (ER h hl hv (OpK.join (l:=ts.map Fv.str) rfl (pM ts) hz rfl))
theorem yC {xs:List Fv} {ts:List (List Nat)} (h:WRs prog w e xs ts) (hl:xs.length≤1000000) (hz:cJ 2 ts≤16777216):LS prog w (e+20) xs (fi bW ts):=by
 intro A s F ρ vals hr ht hi ra R q
 obtain ⟨u,v,rfl,r1,r2⟩:=ra.inv2
 have kin:=hi.kin
 refine codeAny_call_function (o:=liO) (fd:=d6 liO) (body:=liB) (by have:=hr.depth; omega) (hi.fh _ _ (hi.kf _ _ (by kernel_rfl))) (by kernel_rfl) (by kernel_rfl) (by kernel_rfl) (by kernel_rfl) (tW (K:=KW w) (by kernel_rfl) _ kin) ?_
 have hb:bindArgs (d6 liO) ⟨[u,v],[]⟩=pure [(au,u),(cN,v)]:=by kernel_rfl
 have hc0:(d6 liO).closure=[]:=by kernel_rfl
 rw [hb,hc0]
 refine wpAny_pure (wpAny_with_toks (n:=1) ht (wpAny_newFunctionEnv_cells (by kernel_rfl) (fun x hx=> ?_) fun env he s1 x ht1=> ?_))
 ·rw [kC]
  simp only [List.mem_cons,List.not_mem_nil,or_false] at hx
  rcases hx with rfl|rfl
  ·exact .inr ⟨rfl,rfl⟩
  ·exact .inl rfl
 ·subst he
  generalize hE:newEnv (d6 liO).scope s.heap.objs.size (d6 liO).globals (cellsFrom (s.heap.objs.size+1) (d6 liO).scope.names []) ((d6 liO).qualname++".<locals>.") (some 930) (d6 liO).code none (d6 liO).builtins=env at x ⊢
  generalize hL:s.heap.objs.size=L at hE
  have hsc:env.scope=(d6 liO).scope:=by rw [←hE]; rfl
  have hn:env.scope.names=[(au,.cell),(cN,.local)]:=by rw [hsc]; exact kC
  have hlo:env.locals=L:=by rw [←hE]; rfl
  have hce:env.cells=[(au,L+1)]:=by
   rw [←hE]; show cellsFrom (L+1) (d6 liO).scope.names []=_
   rw [kC]; rfl
  have k1:env.kindOf au=some .cell:=by unfold Env.kindOf; rw [hn]; rfl
  have k2:env.kindOf cN=some .local:=by unfold Env.kindOf; rw [hn]; rfl
  have hg3:env.globals=3:=by rw [←hE]; kernel_rfl
  have hb0:env.builtins=0:=by rw [←hE]; kernel_rfl
  have n1:bindL env.kindOf [(au,u),(cN,v)] (fun _=>none)=fun y=>look y [(cN,v)]:=by
   unfold bindL; rw [if_neg (by rw [k1]; decide)]
   unfold bindL; rw [if_pos k2]
   unfold bindL; funext y; unfold look look
   by_cases hy:y=cN
   ·rw [if_pos hy,(bU _ _).mpr hy]
   ·rw [if_neg hy]
    cases q:sq y cN with
    |false=>rfl
    |true=>exact absurd ((bU _ _).mp q) hy
  have n2:bindC env.kindOf [(au,u),(cN,v)] (fun _=>none) au=some u:=by
   unfold bindC; rw [if_neg (by rw [k1]; decide)]
   unfold bindC; rw [if_pos k2]
   unfold bindC; exact if_pos rfl
  clear hE
  have xc:s1.heap.IsCell (L+1) (some u):=n2▸x.cell au (L+1) (by rw [hce]; simp [List.lookup_cons])
  obtain ⟨o,ho,hod⟩:=xc
  have xn:s1.heap.Ns L (fun y=>look y [(cN,v)]):=by have:=x.toInCall.ns; rw [n1,hlo] at this; exact this
  have g:=x.toInCall.keep
  have rs1:Rst s s1:=by obtain ⟨h9,t9,e9⟩:=x.toInCall.same; rw [e9]; exact ⟨rfl,rfl⟩
  have nL:s.heap.get? L=none:=by rw [←hL]; exact ci _
  have nC:s.heap.get? (L+1)=none:=by
   cases q:s.heap.get? (L+1) with
   |none=>rfl
   |some o=>exact absurd (Heap.lt_size q) (by rw [hL]; exact Nat.not_lt.mpr (Nat.le_succ _))
  have st0:=Stp.frozen hi nC ho g
  have lf:FLe F (upd F (L+1) o):=gq (hi.fresh nC).1
  have I1:InS (KW w) L ⟨[(cN,.f (.list xs))],[]⟩ s1.heap (upd F (L+1) o) ρ:=
   ⟨st0.I,by unfold upd; rw [if_neg (Nat.ne_of_lt (Nat.lt_succ_self L))]; exact (hi.fresh nL).1,(by rintro ⟨i,m,p,h1,_⟩; simp at h1),[(cN,v)],xn,.cons (r2.mono lf (.refl _)) .nil⟩
  refine ⟨lim w.params _ st0.I.kin,codeAny_func ?_⟩
  rw [B7]
  have cf:lr (upd F (L+1) o) env au wr:=⟨L+1,o,u,by rw [hce]; simp [List.lookup_cons],fQ _ _ _,hod,by cases r1 with|f r1=>exact r1.mono lf⟩
  refine wpAny_execs_cons (wpAny_Return_some (IS h hl hz (vs:=[(cN,.f (.list xs))]) (by kernel_rfl) (A.deeper env) s1 _ ρ env ⟨by rw [hsc]; kernel_rfl,by rw [hn]; exact ma.symm,hg3,hb0⟩ cf ⟨by have:=hr.depth; simp only [Around.deeper,Cx.d]; omega,by have:=hr.units; simp only [Around.deeper,Cx.d]; omega,hr.handled⟩ ⟨ht1,by rw [hlo]; exact I1⟩ _ _ fun v' S' u' s' F' ρ' p st r=> ?_))
  subst p
  rw [hlo] at st
  have st':=leave0 hi g nL lf (fun a o' q=>by
   unfold upd at q
   by_cases ha:a=L+1
   ·subst ha; exact .inr nC
   ·rw [if_neg ha] at q; exact .inl (by rw [q]; simp)) st.x
  exact q u' s' F' [] st' (by cases r with|f r=>exact .f r) (rs1.trans st.rs)
end
end
end MineS
namespace MineS
noncomputable section
open PySem PySem.W PySem.Calls PyProof.Rows
section
variable {K:Frag} {h h':Heap} {F F':Fz} {ρ':Rho} {p0 p1:Addr×Addr} {l m m':List Fv}
theorem nV {a:Addr}:bC [.list m] [p1] a↔a=p1.1:=by
 constructor
 ·rintro ⟨i,n,p,h1,h2,h3⟩
  cases i with
  |zero=>cases h1; cases h2; simpa [bd] using h3
  |succ i=>cases h1
 ·rintro rfl; exact ⟨0,_,_,rfl,rfl,by simp [bd]⟩
theorem iC {a:Addr}:bC [.list l,.list m] [p0,p1] a↔a=p0.1∨a=p1.1:=by
 constructor
 ·rintro ⟨i,n,p,h1,h2,h3⟩
  match i with
  |0=>cases h1; cases h2; exact .inl (by simpa [bd] using h3)
  |1=>cases h1; cases h2; exact .inr (by simpa [bd] using h3)
  |i+2=>cases h1
 ·rintro (rfl|rfl)
  ·exact ⟨0,_,_,rfl,rfl,by simp [bd]⟩
  ·exact ⟨1,_,_,rfl,rfl,by simp [bd]⟩
theorem cQ.anyR {ρ ρ':Rho} {p:Addr×Addr} (r:cQ h F ρ (.list l) p):cQ h F ρ' (.list l) p:=by
 cases r with|list h1 h2=>exact .list h1 h2
theorem InH.second (I:InH K [.list l,.list m] h F [p0,p1]):InH K [.list m] h F [p1] where
 kf:=I.kf
 fh:=I.fh
 len:=rfl
 dj:=fun i j n p n' p' a hij h1 h2 h3 h4=>I.dj (i+1) (j+1) n p n' p' a (by omega) h1 h2 h3 h4
 off:=fun a z=>I.off a (iC.mpr (.inr (nV.mp z)))
 ob:=fun i n p h1 h2=>by
  have:=I.ob (i+1) n p h1 h2
  cases i with
  |zero=>cases h1; exact this.anyR
  |succ i=>cases h1
theorem Stp.second (I:InH K [.list l,.list m] h F [p0,p1]) (x:Stp K [.list m] h F [p1] [.list m'] h' F' ρ'):Stp K [.list l,.list m] h F [p0,p1] [.list l,.list m'] h' F' [p0,p1]:=by
 have e:ρ'=[p1]:=by
  have h1:=x.I.len
  have h2:=x.r 0 p1 rfl
  match ρ',h1,h2 with
  |[q],_,h2=>cases h2; rfl
 subst e
 have ne:p0.1≠p1.1:=fun e=>I.dj 0 1 _ _ _ _ p0.1 (by decide) rfl rfl rfl rfl (by simp [bd]) (by simp [bd,e])
 obtain ⟨o0,ho0⟩:=I.live (iC.mpr (.inl rfl))
 have n0: ¬bC [.list m] [p1] p0.1:=fun z=>ne (nV.mp z)
 have off0:F' p0.1=none:=by
  cases q:F' p0.1 with
  |none=>rfl
  |some o=>
   rcases x.k.nf _ _ q with z|z|z
   ·exact absurd (I.off _ (iC.mpr (.inl rfl))) z
   ·exact absurd z n0
   ·rw [ho0] at z; cases z
 refine ⟨⟨x.I.kf,x.I.fh,rfl,?_,fun a z=> ?_,?_⟩,⟨x.k.ff,fun a o q n=>x.k.hh a o q fun z=>n (iC.mpr (.inr (nV.mp z))),fun a o q=> ?_,fun a z=> .inl (iC.mpr (iC.mp z))⟩,.refl _⟩
 ·intro i j n p n' p' a hij h1 h2 h3 h4 h5 h6
  match i,j with
  |0,0=>exact hij rfl
  |1,1=>exact hij rfl
  |0,1=>cases h1; cases h2; cases h3; cases h4; simp [bd] at h5 h6; exact ne (h5.symm.trans h6)
  |1,0=>cases h1; cases h2; cases h3; cases h4; simp [bd] at h5 h6; exact ne (h6.symm.trans h5)
  |i+2,_=>cases h1
  |_,j+2=>cases h3
 ·rcases iC.mp z with rfl|rfl
  ·exact off0
  ·exact x.I.off _ (nV.mpr rfl)
 ·intro i n p h1 h2
  match i with
  |0=>
   cases h1; cases h2
   exact (I.ob 0 _ _ rfl rfl).mono x.k.ff (.refl _) fun a ha o q=>x.k.hh a o q (by simp [bd] at ha; subst ha; exact n0)
  |1=>cases h1; cases h2; exact (x.I.ob 0 _ _ rfl rfl).anyR
  |i+2=>cases h1
 ·rcases x.k.nf _ _ q with z|z|z
  ·exact .inl z
  ·exact .inr (.inl (iC.mpr (.inr (nV.mp z))))
  ·exact .inr (.inr z)
theorem bc.anyR {ρ ρ':Rho}: ∀{args:List Fv} {us:List Value},bc F ρ (args.map V.f) us→bc F ρ' (args.map V.f) us
 |[],_,.nil=> .nil
 |_::_,_,.cons (.f h) r=> .cons (.f h) r.anyR
theorem aU.second {prog:Program} {w:World} {d:Nat} {f:Value} {args:List Fv} {v:Fv} (x:aU prog w K d f (.r 0::args.map V.f) [.list m] (.f v) [.list m']) (l:List Fv):aU prog w K d f (.r 1::args.map V.f) [.list l,.list m] (.f v) [.list l,.list m']:=by
 intro A s F ρ vals hr ht hi ra R q
 have hl:=hi.len
 match ρ,hl with
 |[p0,p1],_=>
  cases ra with
  |cons h1 h2=>
   cases h1 with
   |r e1=>
    refine x A s F [p1] _ hr ht hi.second (.cons (.r e1) h2.anyR) R fun u s' F' ρ' st r rs=>q u s' F' _ (Stp.second hi st) ?_ rs
    cases r with|f r=>exact .f r
end
noncomputable def RF (f:Nat) (a:Fv):Prop:=feq f a a=some true
theorem Ar {f:Nat} {l:List Fv} (h: ∀x∈l,RF f x):RF (f+1) (.tup l):=by
 show dk (feq f) l l=some true
 induction l with
 |nil=>rfl
 |cons a l ih=>
  show ((feq f a a).bind fun p=>(dk (feq f) l l).bind fun q=>some (p && q))=some true
  rw [h a (by simp),ih fun x hx=>h x (by simp [hx])]; rfl
theorem fL {f:Nat} {s:List Nat}:RF (f+1) (.str s):=by
 show some (az s s)=_; rw [(bj s s).mpr rfl]
theorem cM {f:Nat} {b:Bool}:RF (f+1) (.bool b):=by cases b<;>rfl
theorem pd {f:Nat}:RF (f+1) .none:=rfl
theorem Ni {f:Nat} (l:Lf):RF (f+2) l.row:=ug (Lf.all (p:=fun l=>yb true (feq (f+2) l.row l.row)) (by kernel_rfl) l)
noncomputable def RFs (f:Nat) (l:List Fv):Prop:= ∀x∈l,RF f x
theorem bf {f:Nat}:RFs f []:=fun x h=>by cases h
theorem aq {f:Nat} {a:Fv} {l:List Fv} (h:RF f a) (r:RFs f l):RFs f (a::l):=fun x hx=>by
 rcases List.mem_cons.mp hx with rfl|hx
 ·exact h
 ·exact r x hx
theorem dS {f:Nat} {l:List Fv} (h:RFs f l):RF (f+1) (.tup l):=Ar h
theorem cy {f:Nat} {s:List Nat} {l:List Fv} (h:RFs (f+1) l):RF (f+2) (tup s l):=Ar (aq fL h)
theorem IT {n:Nat} {t:T} (h:Dr 0 n t): ∀f,4*n≤f→RF (f+2) (row t):=by
 refine Dr.ind (F:=fun n t=> ∀f,4*n≤f→RF (f+2) (row t)) ?lf ?una ?bin ?btw ?in0 ?in1 ?in2 ?isn ?mat ?mae ?cas ?cst ?col ?cf ?cm ?cc ?cr h
 case lf=>intro n l f _; exact Ni l
 case una=>intro n o x d i f hf; exact cy (aq fL (aq (by obtain ⟨g,rfl⟩: ∃g,f=g+4:=⟨f-4,by omega⟩; exact i (g+3) (by omega)) bf))
 case bin=>intro n o x y d i d2 j _ f hf; obtain ⟨g,rfl⟩: ∃g,f=g+4:=⟨f-4,by omega⟩; exact cy (aq fL (aq (i (g+3) (by omega)) (aq (j (g+3) (by omega)) bf)))
 case btw=>intro n b x y z d i d2 j d3 k f hf; obtain ⟨g,rfl⟩: ∃g,f=g+4:=⟨f-4,by omega⟩; exact cy (aq (i (g+3) (by omega)) (aq (j (g+3) (by omega)) (aq (k (g+3) (by omega)) (aq cM bf))))
 case in0=>intro n b x d i f hf; obtain ⟨g,rfl⟩: ∃g,f=g+4:=⟨f-4,by omega⟩; exact cy (aq (i (g+3) (by omega)) (aq (dS bf) (aq cM bf)))
 case in1=>intro n b x y d i d2 j f hf; obtain ⟨g,rfl⟩: ∃g,f=g+4:=⟨f-4,by omega⟩; exact cy (aq (i (g+3) (by omega)) (aq (dS (aq (j (g+2) (by omega)) bf)) (aq cM bf)))
 case in2=>intro n b x y z d i d2 j d3 k f hf; obtain ⟨g,rfl⟩: ∃g,f=g+4:=⟨f-4,by omega⟩; exact cy (aq (i (g+3) (by omega)) (aq (dS (aq (j (g+2) (by omega)) (aq (k (g+2) (by omega)) bf))) (aq cM bf)))
 case isn=>intro n b x d i f hf; obtain ⟨g,rfl⟩: ∃g,f=g+4:=⟨f-4,by omega⟩; exact cy (aq (i (g+3) (by omega)) (aq cM bf))
 case mat=>intro n m b x y d i d2 j f hf; obtain ⟨g,rfl⟩: ∃g,f=g+4:=⟨f-4,by omega⟩; exact cy (aq (cy (f:=g+3) (aq (i (g+2) (by omega)) (aq (j (g+2) (by omega)) bf))) (aq pd (aq cM bf)))
 case mae=>intro n m b x y z d i d2 j d3 k f hf; obtain ⟨g,rfl⟩: ∃g,f=g+4:=⟨f-4,by omega⟩; exact cy (aq (cy (f:=g+3) (aq (i (g+2) (by omega)) (aq (j (g+2) (by omega)) bf))) (aq (k (g+3) (by omega)) (aq cM bf)))
 case cas=>
  intro n b o hb ho x y d i d2 j ws hw f hf
  obtain ⟨g,rfl⟩: ∃g,f=g+4:=⟨f-4,by omega⟩
  have h1:RF (g+3+2) (row b):=by
   rcases hb with rfl|⟨_,hb⟩
   ·exact pd
   ·exact hb (g+3) (by omega)
  have h2:RF (g+3+2) (row o):=by
   rcases ho with rfl|⟨_,ho⟩
   ·exact pd
   ·exact ho (g+3) (by omega)
  have h3:RFs (g+4) [.tup [row x,row y]]:=aq (dS (aq (i (g+1) (by omega)) (aq (j (g+1) (by omega)) bf))) bf
  rcases hw with rfl|⟨u,v,_,p,_,q,rfl⟩
  ·exact cy (aq h1 (aq (dS h3) (aq h2 bf)))
  ·exact cy (aq h1 (aq (dS (aq (h3 _ (by simp)) (aq (dS (aq (p (g+1) (by omega)) (aq (q (g+1) (by omega)) bf))) bf))) (aq h2 bf)))
 case cst=>intro n k x d i f hf; obtain ⟨g,rfl⟩: ∃g,f=g+4:=⟨f-4,by omega⟩; exact cy (aq (i (g+3) (by omega)) (aq fL bf))
 case col=>intro n x d i f hf; obtain ⟨g,rfl⟩: ∃g,f=g+4:=⟨f-4,by omega⟩; exact cy (aq (i (g+3) (by omega)) (aq fL bf))
 case cf=>intro n x y d i d2 j f hf; obtain ⟨g,rfl⟩: ∃g,f=g+4:=⟨f-4,by omega⟩; exact cy (aq fL (aq (dS (aq (i (g+2) (by omega)) (aq (j (g+2) (by omega)) bf))) (aq cM (aq cM bf))))
 case cm=>intro n x d i f hf; obtain ⟨g,rfl⟩: ∃g,f=g+4:=⟨f-4,by omega⟩; exact cy (aq fL (aq (dS (aq (i (g+2) (by omega)) bf)) (aq cM (aq cM bf))))
 case cc=>intro n f hf; exact cy (aq fL (aq (dS bf) (aq cM (aq cM bf))))
 case cr=>intro n f hf; exact cy (aq fL (aq (dS bf) (aq cM (aq cM bf))))
theorem B8 {n:Nat} {t:T} (hn:n≤2) (h:Dr 0 n t) {rl:List Fv} (e:row t= .tup rl):dk (feq 100) rl rl=some true:=by
 have:=IT h 99 (by omega)
 rw [e] at this; exact this
end
end MineS
namespace MineS
noncomputable section
open PySem PySem.W PySem.Calls PyProof.Rows
section
variable {prog:Program} {w:World}
theorem lso:LSO prog w where
 l0:=fun {e}=>yC (e:=e) .nil (Nat.zero_le _) (Nat.zero_le _)
 l1:=fun {e x t} h z=>by
  have:=yC (.cons h .nil) (Nat.le_of_ble_eq_true rfl) (by unfold Sm at z; simp only [cJ]; omega)
  rwa [ue] at this
 l2:=fun {e x y t u} h k z z2=>by
  have:=yC (.cons h (.cons k .nil)) (Nat.le_of_ble_eq_true rfl) (by unfold Sm at z z2; simp only [cJ]; omega)
  rwa [uf,List.append_assoc] at this
structure Trn (prog:Program) (w:World) (n:Nat) (a b a' b':Int) (t:T) (D:Addr) (fs:List (Str×Fv)) (rl:List Fv):Prop where
 h1:EX prog w 120 n (.tup rl) a b a' b'
 h2:LT prog w 100 (.tup rl) (lt t)
 h3:aU prog w (KW w) 540 (.ref ((dd w.params)).a) [.f (.str (lt t))] [] (.f (.obj D fs)) []
 h4:aK prog w 90 (.obj D fs) (.tup rl)
 h5:WR1 prog w 250 (.obj D fs) (wt t)
 h6:aU prog w (KW w) 540 (.ref ((dd w.params)).a) [.f (.str (wt t))] [] (.f (.obj D fs)) []
 h7:dk (feq 100) rl rl=some true
 h8:(!az (wt t) (wt t))=false
 h9:D∈oO
theorem kD {n:Nat} (hn:n≤2) {a b:Int} (s:Src a b): ∃a' b' t D fs rl,Trn prog w n a b a' b' t D fs rl:=by
 obtain ⟨t,a',b',d,s',x⟩:=Pw (prog:=prog) (w:=w) n (by omega) s
 obtain ⟨D,fs,e1,hD⟩:=be d
 obtain ⟨rl,e2⟩:=d.row
 have lx:=(lt_ok (prog:=prog) (w:=w) d hn).2
 have r1:=EN (prog:=prog) (w:=w) hn d
 have r2:=EO (prog:=prog) (w:=w) lso hn d
 have ro:=(row_ok (prog:=prog) (w:=w) d).r
 obtain ⟨_,f,l,h1,_⟩:=C3 (prog:=prog) (w:=w) lso d hn
 have wx:=uh f l h1
 rw [e1] at r1 r2 ro wx
 rw [e2] at x lx ro
 exact ⟨a',b',t,D,fs,rl,x.le (by omega),lx.le (by omega),r1,ro.le (by omega),wx.le (by omega),r2,B8 hn d e2,by rw [(bj _ _).mpr rfl]; rfl,hD⟩
end
end
end MineS
namespace MineS
noncomputable section
open PySem PySem.W PySem.Calls PyProof.Rows
section
variable {prog:Program} {w:World}
theorem ES:aU prog w (KW w) 699 (.ref ((gl w.params)).a) [.f (.list [])] [] (.f (.bool true)) []:=by
 obtain ⟨a,b,s,p⟩:=lh (prog:=prog) (w:=w) (xs:=[]) (by simp) (k:=0) (.inl rfl) [] (.inl rfl) (.inl rfl)
 cases hg:ilt 0 a with
 |false=>
  obtain ⟨a',b',t,D,fs,rl,T⟩:=kD (prog:=prog) (w:=w) (n:=1) (by omega) s
  obtain ⟨f,m,h4⟩:=T.h4
  exact rOf 90 608 gl [.call p,.br 867057 hg,.call T.h1,.call T.h2,.call T.h3,.mcall m h4,.teq T.h7,.call T.h5,.call T.h6,.mcall m h4,.teq T.h7,.call T.h5,.br 873049 T.h8] (by kernel_rfl)
 |true=>
  obtain ⟨a',b',t,D,fs,rl,T⟩:=kD (prog:=prog) (w:=w) (n:=2) (by omega) s
  obtain ⟨f,m,h4⟩:=T.h4
  exact rOf 90 608 gl [.call p,.br 867057 hg,.call T.h1,.call T.h2,.call T.h3,.mcall m h4,.teq T.h7,.call T.h5,.call T.h6,.mcall m h4,.teq T.h7,.call T.h5,.br 873049 T.h8] (by kernel_rfl)
theorem ET (c:Int):aU prog w (KW w) 699 (.ref ((gl w.params)).a) [.f (.list [.int c])] [] (.f (.bool true)) []:=by
 obtain ⟨a,b,s,p⟩:=lh (prog:=prog) (w:=w) (xs:=[.int c]) (by simp) (k:=0) (.inl rfl) [] (.inl rfl) (.inr ⟨rfl,c,rfl⟩)
 cases hg:ilt 0 a with
 |false=>
  obtain ⟨a',b',t,D,fs,rl,T⟩:=kD (prog:=prog) (w:=w) (n:=1) (by omega) s
  obtain ⟨f,m,h4⟩:=T.h4
  exact rOf 90 608 gl [.call p,.br 867057 hg,.call T.h1,.call T.h2,.call T.h3,.mcall m h4,.teq T.h7,.call T.h5,.call T.h6,.mcall m h4,.teq T.h7,.call T.h5,.br 873049 T.h8] (by kernel_rfl)
 |true=>
  obtain ⟨a',b',t,D,fs,rl,T⟩:=kD (prog:=prog) (w:=w) (n:=2) (by omega) s
  obtain ⟨f,m,h4⟩:=T.h4
  exact rOf 90 608 gl [.call p,.br 867057 hg,.call T.h1,.call T.h2,.call T.h3,.mcall m h4,.teq T.h7,.call T.h5,.call T.h6,.mcall m h4,.teq T.h7,.call T.h5,.br 873049 T.h8] (by kernel_rfl)
theorem EU (c d:Int) (r:List Fv) (hz:r.length≤61):aU prog w (KW w) 699 (.ref ((gl w.params)).a) [.f (.list (.int c:: .int d::r))] [] (.f (.bool true)) []:=by
 have hx:(Fv.int c:: .int d::r).length≤1000000:=by simp only [List.length_cons]; omega
 obtain ⟨a,b,s,p⟩:=lh (prog:=prog) (w:=w) (xs:= .int c:: .int d::r) hx (k:=0) (.inl rfl) [] (.inl rfl) (.inr ⟨by unfold ilt; exact decide_eq_true (by simp<;>omega),c,rfl⟩)
 obtain ⟨a',b',t,D,fs,rl,T⟩:=kD (prog:=prog) (w:=w) (n:=2) (by omega) s
 obtain ⟨f,m,h4⟩:=T.h4
 obtain ⟨a2,b2,s2,p2⟩:=lh (prog:=prog) (w:=w) (xs:= .int c:: .int d::r) hx (k:=1) (.inr rfl) (sr a' b') (.inr ⟨_,rfl⟩) (.inr ⟨by unfold ilt; exact decide_eq_true (by simp<;>omega),d,rfl⟩)
 obtain ⟨a3,b3,t2,D2,fs2,rl2,T2⟩:=kD (prog:=prog) (w:=w) (n:=2) (by omega) s2
 obtain ⟨f2,m2,h42⟩:=T2.h4
 have x2:=aU.second (args:=[.int 2]) (T2.h1) [.int a',.int b']
 have z0:Nat.blt (r.length+1+1) (2 ^ 63)=true:=Nat.blt_eq.mpr (by omega)
 have h1:ilt 1 (Int.ofNat (r.length+1+1))=true:=by unfold ilt; exact decide_eq_true (by simp<;>omega)
 have hm:(if (2:Int)<Int.ofNat (r.length+1+1) then 2 else Int.ofNat (r.length+1+1))=2:=by
  split
  ·rfl
  ·rename_i q; simp at q ⊢; omega
 exact rOf 90 608 gl [.br 865030 z0,.val 865026 (congrArg Fv.int hm),.call p,.br 867038 z0,.br 867038 h1,.call T.h1,.call T.h2,.call T.h3,.mcall m h4,.teq T.h7,.call T.h5,.call T.h6,.mcall m h4,.teq T.h7,.call T.h5,.br 873049 T.h8,.call p2,.br 867038 z0,.br 867038 h1,.call x2,.call T2.h2,.call T2.h3,.mcall m2 h42,.teq T2.h7,.call T2.h5,.call T2.h6,.mcall m2 h42,.teq T2.h7,.call T2.h5,.br 873049 T2.h8] (by kernel_rfl)
end
end
end MineS
namespace MineS
noncomputable section
open PySem PySem.W PySem.Calls PyProof.Rows PySem.W.X
theorem EV {prog:Program} {w:World}: ∀ns:List Int,ns.length≤63→aU prog w (KW w) 699 (.ref ((gl w.params)).a) [.f (.list (ns.map Fv.int))] [] (.f (.bool true)) []
 |[],_=>ES
 |[c],_=>ET c
 |c::d::r,h=>EU c d (r.map Fv.int) (by simp only [List.length_cons,List.length_map] at h ⊢; omega)
theorem B9 {F:Fz} {vs:List Value} {ns:List Int} (h:IntsAre vs ns):aJ F (ns.map Fv.int) vs:=by
 induction h with
 |nil=>exact .nil
 |cons _ _ _ ih=>exact .cons (.int _ _) ih
noncomputable abbrev Wlk:Prop:=WalkX Mine.qv Mine.loo (fun _ _=>True) Mine.Yf Mine.Ya PySem.Challenge.rw_nt0142_01.row.toRowW Mine.lawD [] (fun f vs=>PySem.call f vs)
noncomputable abbrev Ro:RowW:=PySem.Challenge.rw_nt0142_01.row.toRowW
theorem EW {w:World} {s₀ s₁:Shared} {args:List WData} {vals:List Value} {as:List Addr} (L:Laid Ro.records w s₀ s₁ args vals as) (hpre:Ro.claim.pre args=true) (hlay:WData.layableAll args=true) (hrd:ReadsAllW Ro.records (classAt s₀.heap) s₁.heap vals args as) (hwl:WellAll w.params s₁.heap vals args) (hlo: ∀a∈as,(a==sysModules)=false)
  {C:List WData→List Value→Prop} (k: ∀(ns:List Int) (vs:List Value) (sa:Addr) (as:List Addr),ns.length≤63→s₁.heap.IsList sa vs.toArray→IntsAre vs ns→Laid Ro.records w s₀ s₁ [ofPy (.list (ns.map .int))] [.ref sa] as→C [ofPy (.list (ns.map .int))] [.ref sa]):C args vals:=by
 wrow_args hpre hlay hrd hwl hlo
 rename_i ns _ _ _ _ _ _ _ sa vs _ hL _ _ _ hI _ hc _
 exact k ns vs sa _ (by omega) hL hI L
theorem Nj {w:World} {h:Heap} {mg:Str→Option Value} {fa:Addr} (kin:(KW w).In h) (g:h.Ns 3 mg) (hmg:mg Mine.lawD.name=some (.ref fa)):1171=fa:=by
 obtain ⟨o1,es1,n1,a1,a2,_,a4⟩:=g
 obtain ⟨o2,es2,n2,b1,b2,_,b4⟩:=nq (Hh w.params).n3 h kin
 have e1:o1=o2:=Option.some.inj (a1.symm.trans b1)
 subst e1
 rw [a2] at b2
 injection b2 with e2 e3
 subst e2
 have h1:=(a4 Mine.lawD.name).trans hmg
 have h2:=b4 Mine.lawD.name
 rw [h1] at h2
 have h3:some (Value.ref fa)=some (.ref 1171):=h2.trans (by kernel_rfl)
 injection h3 with h3
 injection h3 with h3
 exact h3.symm
noncomputable def Ca (w:World) (sa:Addr) (ol:Obj):Fz:=fun b=>if b=sa then some ol else (KW w).lookup b
theorem EY {w:World} {h:Heap} {sa:Addr} {ol:Obj} (kin:(KW w).In h) (hol:h.get? sa=some ol):InH (KW w) [] h (Ca w sa ol) []:=by
 refine ⟨fun a o e=> ?_,fun a o e=> ?_,rfl,fun i j m p m' p' a _ h1=>by simp at h1,fun a l=> ?_,fun i m p h1=>by simp at h1⟩
 ·unfold Ca; split
  ·rename_i h; subst h; have:=kin _ _ e; rw [hol] at this; exact this
  ·exact e
 ·unfold Ca at e; split at e
  ·rename_i h; subst h; cases e; exact hol
  ·exact kin _ _ e
 ·obtain ⟨i,m,p,h1,_⟩:=l; simp at h1
theorem EZ {w:World} {h:Heap} {sa:Addr} {vs:List Value} {ns:List Int} (kin:(KW w).In h) (hL:h.IsList sa vs.toArray) (hI:IntsAre vs ns) {G:Prop} (k: ∀F,InH (KW w) [] h F []→bc F [] [.f (.list (ns.map Fv.int))] [.ref sa]→G):G:=by
 obtain ⟨ol,hol,hcl,n,hdl⟩:=hL
 exact k _ (EY kin hol) (.cons (.f (.list (if_pos rfl) hcl hdl (B9 hI))) .nil)
theorem tru {F:Fz} {ρ:Rho} {u:Value} (r:bg F ρ (.f (.bool true)) u): .bool true=u:=by cases r with|f r=>cases r; rfl
theorem walk:Wlk:=by
 intro w s₀ s₁ mg mb G Y fa o pm cd doc dV kV ho hd hcd hD hmg hg args vals as L hpre hlay hrd hwl hlo
 have T:=G.T
 clear G ho hd hcd hD
 refine EW L hpre hlay hrd hwl hlo (C:=fun args vals=>wpAny (model Ro.prog w) callerA (PySem.call (.ref fa) vals) (fun v s'=>GoodWG Ro.claim (classAt s₀.heap) (ExcName.means s₀.heap) args s₁ (.ok (.ret v)) s') (fun e s'=>GoodWG Ro.claim (classAt s₀.heap) (ExcName.means s₀.heap) args s₁ (.error e) s') s₁) fun ns vs sa as hlen hL hI L=> ?_
 have Y1:s₀.heap=Mine.hZ w.params:=congrArg Prod.fst Y
 have Y2:s₀.toks=1972:=congrArg Prod.snd Y
 have ht:0<s₁.toks:=Nat.lt_of_lt_of_le (by decide) (script_toks L Y2)
 have kin:(KW w).In s₁.heap:=fun a o e=>L.keeps a o (by rw [Y1]; exact Mw w.params a o e)
 refine Nj kin T.g hmg▸EZ kin hL hI fun F I R=> ?_
 refine wpAny_call (EV ns hlen callerA s₁ _ [] [.ref sa] ⟨by decide,by decide,rfl⟩ ht I R _ fun u s' F' ρ' st r rs=> ?_)
 refine tru r▸⟨.inl ⟨_,.bool true,[],rfl,fun cls=> ?_,.bool _,?_,fun _=>⟨.nil,fun a h=>by cases h⟩⟩,.of_keep fun b o e=>st.k.hh b o e (by rintro ⟨i,m,p,h1,_⟩; simp at h1),rs.o,.of_eq (rs.g.trans hg)⟩
 ·rfl
 ·wrow_post
end
end MineS
end
open PySem PySem.W PyProof.Rows
theorem PySem.Challenge.cw_nt0142_01_holds : PySem.Challenge.rw_nt0142_01.Holds :=
 Mine.holds MineS.walk
