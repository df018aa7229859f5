/- x -/
import Derived.Test.YtmgckbgmmpemgaaGreatSVao
import Derived.Test.YtmgckbgmmpemgaaGreatSWT
open Option renaming some→VU,none→VV
open Bool renaming true→VW,false→VX
namespace Go.Wk
open Go Go.Proofs Go.Ab
set_option maxRecDepth 100000
set_option maxHeartbeats 4000000
end Go.Wk
