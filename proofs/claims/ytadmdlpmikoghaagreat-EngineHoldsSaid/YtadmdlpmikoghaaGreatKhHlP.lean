/- A part of a proof. -/
import Derived.Test.YtadmdlpmikoghaaGreatKhHlK
import Derived.Test.YtadmdlpmikoghaaGreatProg
namespace Go.HL
noncomputable abbrev PG:Program:=Go.Proofs.Tryz.prog
@[reducible] def s0 (o:SOp):SI:={ d:=none,o:=o }
@[reducible] def s1 (d:Nat) (o:SOp):SI:={ d:=some d,o:=o }
@[reducible] def i0 (o:SOp):TI:=.one (s0 o)
@[reducible] def i1 (d:Nat) (o:SOp):TI:=.one (s1 d o)
def kpW (xs:List AV) (S S':Store) (Y:Prop):Prop:=(∀ v∈xs,∀ b,blk v=some b→sget S' b=sget S b)∧Y
end Go.HL
