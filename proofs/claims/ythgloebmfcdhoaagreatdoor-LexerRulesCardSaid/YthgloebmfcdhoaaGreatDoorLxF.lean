import Derived.Test.YthgloebmfcdhoaaGreatDoorLxC0
import Derived.Test.YthgloebmfcdhoaaGreatDoorLxC1
set_option maxRecDepth 100000
set_option linter.unusedVariables false
namespace Go.AM
open Go
noncomputable section
def Lx.tr : Tr RFunc := (.nd none (.nd none (.nd (some Lx.c3) (.nd (some Lx.c7) (.nd (some Lx.c15) (.nd (some Lx.c31) (.nd (some Lx.c63) (.nd (some Lx.c127) .lf .lf) .lf) (.nd (some Lx.c95) .lf .lf)) (.nd (some Lx.c47) (.nd (some Lx.c79) .lf .lf) .lf)) (.nd (some Lx.c23) (.nd (some Lx.c39) (.nd (some Lx.c71) .lf .lf) (.nd (some Lx.c103) .lf .lf)) (.nd (some Lx.c55) (.nd (some Lx.c87) .lf .lf) (.nd (some Lx.c119) .lf .lf)))) (.nd (some Lx.c11) (.nd (some Lx.c19) (.nd (some Lx.c35) (.nd (some Lx.c67) .lf .lf) (.nd (some Lx.c99) .lf .lf)) (.nd (some Lx.c51) (.nd (some Lx.c83) .lf .lf) .lf)) (.nd (some Lx.c27) (.nd (some Lx.c43) (.nd (some Lx.c75) .lf .lf) (.nd (some Lx.c107) .lf .lf)) (.nd (some Lx.c59) .lf .lf)))) (.nd (some Lx.c5) (.nd (some Lx.c9) (.nd (some Lx.c17) (.nd (some Lx.c33) (.nd (some Lx.c65) .lf .lf) .lf) (.nd (some Lx.c49) (.nd (some Lx.c81) .lf .lf) .lf)) (.nd (some Lx.c25) (.nd (some Lx.c41) (.nd (some Lx.c73) .lf .lf) (.nd (some Lx.c105) .lf .lf)) (.nd (some Lx.c57) (.nd (some Lx.c89) .lf .lf) .lf))) (.nd (some Lx.c13) (.nd (some Lx.c21) (.nd (some Lx.c37) (.nd (some Lx.c69) .lf .lf) (.nd (some Lx.c101) .lf .lf)) (.nd (some Lx.c53) (.nd (some Lx.c85) .lf .lf) .lf)) (.nd (some Lx.c29) (.nd (some Lx.c45) (.nd (some Lx.c77) .lf .lf) (.nd (some Lx.c109) .lf .lf)) (.nd (some Lx.c61) .lf (.nd (some Lx.c125) .lf .lf)))))) (.nd none (.nd (some Lx.c4) (.nd (some Lx.c8) (.nd (some Lx.c16) (.nd (some Lx.c32) (.nd (some Lx.c64) .lf .lf) .lf) (.nd (some Lx.c48) (.nd (some Lx.c80) .lf .lf) (.nd (some Lx.c112) .lf .lf))) (.nd (some Lx.c24) (.nd (some Lx.c40) (.nd (some Lx.c72) .lf .lf) (.nd (some Lx.c104) .lf .lf)) (.nd (some Lx.c56) (.nd (some Lx.c88) .lf .lf) (.nd (some Lx.c120) .lf .lf)))) (.nd (some Lx.c12) (.nd (some Lx.c20) (.nd (some Lx.c36) (.nd (some Lx.c68) .lf .lf) (.nd (some Lx.c100) .lf .lf)) (.nd (some Lx.c52) (.nd (some Lx.c84) .lf .lf) .lf)) (.nd (some Lx.c28) (.nd (some Lx.c44) (.nd (some Lx.c76) .lf .lf) (.nd (some Lx.c108) .lf .lf)) (.nd (some Lx.c60) .lf .lf)))) (.nd (some Lx.c6) (.nd (some Lx.c10) (.nd (some Lx.c18) (.nd (some Lx.c34) (.nd (some Lx.c66) .lf .lf) .lf) (.nd (some Lx.c50) (.nd (some Lx.c82) .lf .lf) .lf)) (.nd (some Lx.c26) (.nd (some Lx.c42) (.nd (some Lx.c74) .lf .lf) (.nd (some Lx.c106) .lf .lf)) (.nd (some Lx.c58) .lf .lf))) (.nd (some Lx.c14) (.nd (some Lx.c22) (.nd (some Lx.c38) (.nd (some Lx.c70) .lf .lf) (.nd (some Lx.c102) .lf .lf)) (.nd (some Lx.c54) (.nd (some Lx.c86) .lf .lf) (.nd (some Lx.c118) .lf .lf))) (.nd (some Lx.c30) (.nd (some Lx.c46) (.nd (some Lx.c78) .lf .lf) (.nd (some Lx.c110) .lf .lf)) (.nd (some Lx.c62) .lf .lf))))))
def Lx.F : FuncId → Option RFunc := fun f => Lx.tr.get f
end
end Go.AM
namespace Go.AM
open Go
/-- No package variable is read. -/
def noG : Glob := fun _ => none
end Go.AM
