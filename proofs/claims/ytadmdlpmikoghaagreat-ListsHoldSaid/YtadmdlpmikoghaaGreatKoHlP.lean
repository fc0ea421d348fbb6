/- A part of a proof. -/
import Derived.Test.YtadmdlpmikoghaaGreatKoHlK
import Derived.Test.YtadmdlpmikoghaaGreatProg
namespace Go.HL
noncomputable abbrev PG:Program:=Go.Proofs.Tryz.prog
@[reducible] def s0 (o:SOp):SI:={ d:=none,o:=o }
@[reducible] def s1 (d:Nat) (o:SOp):SI:={ d:=some d,o:=o }
@[reducible] def i0 (o:SOp):TI:=.one (s0 o)
@[reducible] def i1 (d:Nat) (o:SOp):TI:=.one (s1 d o)
@[reducible] def im (d t : Nat) : TI := i1 d (.mov (.t t))
@[reducible] def il (d n t : Nat) : TI := i1 d (.load n false (.t t))
@[reducible] def iL (d n t : Nat) : TI := i1 d (.load n true (.t t))
@[reducible] def ia (d n t : Nat) : TI := i1 d (.faddr n (.t t))
def kpW (xs:List AV) (S S':q00) (Y:Prop):Prop:=(∀ v∈xs,∀ b,blk v=some b->y01 S' b=y01 S b)/\Y
@[reducible] def ja (d n a b : Nat) : TI := i1 d (.iaddr n (.t a) (.t b))
@[reducible] def jc (d : Nat) (k : IntKind) (n : Int) : TI := i1 d (.mov (.c (.int k n)))
@[reducible] def jb (d : Nat) (o : BinOp) (a : Nat) (k : IntKind) (n : Int) : TI := i1 d (.bin o (.t a) (.c (.int k n)))
@[reducible] def jt (d : Nat) (o : BinOp) (a b : Nat) : TI := i1 d (.bin o (.t a) (.t b))
@[reducible] def jl (d n a : Nat) : TI := i1 d (.len n (.t a))
@[reducible] def jx (d a b c : Nat) : TI := i1 d (.boxr a b (.t c))
@[reducible] def jo (d : Nat) (v : Bool) : TI := i1 d (.mov (.c (.bool v)))
@[reducible] def je (d a n : Nat) : TI := i1 d (.extr (.t a) n)
@[reducible] def jp (d a b : Nat) : TI := i1 d (.pick (.t a) (.t b) (.c (.bool false)))
@[reducible] def jq (d a b : Nat) : TI := i1 d (.pick (.t a) (.c (.bool true)) (.t b))
@[reducible] def jn (d a : Nat) : TI := i1 d (.nilck (.t a))
@[reducible] def jk (d a : Nat) : TI := i1 d (.not (.t a))
@[reducible] def jf (d f : Nat) (l : List SX) : TI := i1 d (.call (.f f) l)
@[reducible] def jr (l : List TI) (k : List Nat) : q51 := .reg l k []
@[reducible] def js (a b : q51) : q51 := .seq a b
@[reducible] def jd (n : Nat) (a b : q51) : q51 := .cond (.t n) a b
@[reducible] def jE (n : Nat) : q51 := .exit n
@[reducible] def jB (n : Nat) (a : q51) : q51 := .block n a
@[reducible] def jS (n a b : Nat) : TI := i0 (.store n (.t a) (.t b))
abbrev jz : q51 := .skip
abbrev jR : q51 := .ret
end Go.HL
