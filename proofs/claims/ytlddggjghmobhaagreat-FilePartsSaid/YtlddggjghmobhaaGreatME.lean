/- Part of the proof: Sd. Conditions: as each statement tells. -/
import Derived.Test.YtlddggjghmobhaaGreatMD
noncomputable section
set_option linter.unusedSimpArgs false
set_option linter.unusedVariables false
namespace Go.Ab
abbrev PgT:Ty:=.pair (.int .i64) (.pair .bool (.pair .bool (.pair .bool (.pair (.list false (.int .u8)) .unit))))
abbrev Pg:Type:=Int×(Bool×(Bool×(Bool×(List Int×Unit))))
def a3e:List Pg→Bool
 | []=>true
 |p::l=>decide (0≤p.1)&&decide (p.1<4611686018427387904)&&l.all (fun q=>!decide (q.1=p.1))&&a3e l
def a1R(p:Pg):List Pg→List Pg
 | []=>[p]
 |q::l=>bif decide (p.1≤q.1)then p::q::l else q::a1R p l
def a0H:List Pg→List Pg
 | []=>[]
 |p::l=>a1R p (a0H l)
end Go.Ab
