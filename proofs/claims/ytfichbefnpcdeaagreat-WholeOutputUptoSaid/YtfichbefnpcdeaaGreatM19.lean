/-
  Parts of the proof, merged: WhoN.
-/
import Derived.Test.YtfichbefnpcdeaaGreatM18
set_option linter.unusedVariables false
set_option linter.unusedSimpArgs false
set_option linter.unnecessarySimpa false
section
namespace Go.Abs.Wp
noncomputable section
def NN:Nums:=⟨N0.fr,N0.clones,N0.wide,N0.four,N0.pair,N0.rk,[qA,qB]⟩
def LW:=lvE tb (baseN NN) 40
def isT:Option AV->Bool
 | some (.one (.lit (.bool b)))=>b
 | _=>false
end
theorem mainT:isT (LW.dat 7 [])=true:=by kernel_rfl
end Go.Abs.Wp
end
