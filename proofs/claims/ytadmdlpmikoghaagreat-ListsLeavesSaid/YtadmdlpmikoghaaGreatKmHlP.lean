/- A part of a proof. -/
import Derived.Test.YtadmdlpmikoghaaGreatKmHlK
import Derived.Test.YtadmdlpmikoghaaGreatProg
namespace Go.HL
noncomputable abbrev PG:Program:=Go.Proofs.Tryz.prog
@[reducible] def s0 (o:SOp):SI:={ d:=none,o:=o }
@[reducible] def s1 (d:Nat) (o:SOp):SI:={ d:=some d,o:=o }
@[reducible] def i0 (o:SOp):TI:=.one (s0 o)
@[reducible] def i1 (d:Nat) (o:SOp):TI:=.one (s1 d o)
@[reducible] def im (d t : Nat) : TI := i1 d (.mov (.t t))
@[reducible] def il (d n t : Nat) : TI := i1 d (.load n false (.t t))
@[reducible] def iL (d n t : Nat) : TI := i1 d (.load n true (.t t))
@[reducible] def ia (d n t : Nat) : TI := i1 d (.faddr n (.t t))
def kpW (xs:List AV) (S S':q00) (Y:Prop):Prop:=(∀ v∈xs,∀ b,blk v=some b→sget S' b=sget S b)∧Y
end Go.HL
